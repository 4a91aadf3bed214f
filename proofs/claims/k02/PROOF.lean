import PyProof.Rows.All
import Wide.All
import OpenK.AllK
import Wide.FinOn
import HandS.ForMost
import HandS.ForExc
import HandS.ExcInit
import HandS.ExcSuper
import KE.KExcSuper
import PyProof.ListStr
import PyProof.StrOps2
import HandS.Evl
import HandS.IsInst
import HandS.RaiseMore
import KE.KExcIs
import HandS.ExcIs
import HandS.Walk
import HandS.TupAny
import KE.GoesEnum
import KE.KDictZip
import HandS.Deep
import HandS.Property
import PyProof.InstNe
import PyProof.Rows.PlainNe
import HandS.ClsMeth
import PyProof.CallStr
import PyProof.Rows.Range3
import OpenK.KOps
import HandS.CallLocal
import HandS.CallSlots
import HandS.Head0
import HandS.Head1
import HandS.Head2
import HandS.HeadHook1
import HandS.HeadHook2
import HandS.HeadHook3
import HandS.HeadEnd
import HandS.ExcCtx
import HandS.HotCalls
import HandS.ExcInitHot
import HandS.StrMore
import HandS.SortInts
import HandS.Style
import HandS.WideBits
import HandS.Zip
import HandS.Conv
import HandS.Text
import KE.KIndexOf
import KE.GoesMore
import HandS.TupSets
import HandS.Strs
import HandS.DictComp
import HandS.Defaults
import HandS.Dict
import HandS.SortRule
import KE.KItemsList
import HandS.DictTup
import HandS.ExcField
import PyProof.ReprRoads
import HandS.FStr
import PySem.Challenge.RW_openposts_k02_exceptions_apart
set_option Elab.async false
set_option linter.all false
set_option maxRecDepth 100000
set_option maxHeartbeats 4000000
namespace OP
open PySem PySem.Spec PyProof.Rows L2
/-- what the written part says of the base class D of all errors, its __init__ at f -/
structure OpenB (P : Program) (K : PySem.W.Frag) (D cc cda : Addr) : Prop where
  cell : ∃ cl cld csl, K.lookup cc = some ⟨cl, cld, .cell (some (.ref D)), csl⟩
  code : ∃ ccl cdd vs ccs file tf, K.lookup cda = some ⟨ccl, cdd, .fields vs, ccs⟩ ∧ vs[2]? = some (.str file tf) ∧ ((P.main.file : Str) == file) = true
  cls : ∃ cdD, PySem.W.clsIn K D = some cdD
  top : (P.main.scope.names.lookup ("super" : Str)).isSome = false
  opq : PySem.W.nsIn K cStatics "thirdparty.any" = some none
/-- .. and of a class C of errors -/
structure OpenC (K : PySem.W.Frag) (D C : Addr) : Prop where
  ox : OexC K C
  sub : PySem.W.mroIn K C (.ref D) = some true
  ini : PySem.W.ks_superIn K C D "__init__" = some (some (.builtin "ValueError.__init__"))
  ve : PySem.W.subIn K (.ref C) (.type "ValueError") = some true
  nov : PySem.W.findIn K (.ref C) "value" = some none
def spInit (K : PySem.W.Frag) (D : Addr) : Sp := fun vs H Q _ => ∃ a C v, vs = [.ref a, v] ∧ OpenC K D C ∧ H a = some (exo a C none) ∧
  ∀ dx, H dx = none → dx ≠ a → Q .non (upd (upd H dx (exd dx [("value", v)])) a (exo a C (some dx)))
theorem fn_init {CX : CXT} {P : Program} {w : World} {K : PySem.W.Frag} {mg : Str → Option Value} {base : Heap} {k : Nat} {f D cc cda : Addr} {qual msg : Str} {params : Arguments} {scope : Scope} {dV kV doc pm ct oc : Value} {an od : Option Addr}
    {osl : Array (Option Value)} {j : Nat} {p0 p1 p2 p3 p4 p5 p6 p7 p8 p9 : Pos} {ar : Arg} {body : List Stmt}
    (hbd : body = [.Expr (.Call (.Attribute (.Call (.Name "super" p0) [] [] p1) "__init__" p2) [.Constant (.str msg) j p3] [] p4) p5, .Assign [.Attribute (.Name "self" p6) "value" p7] (.Name "value" p8) p9])
    (lk : K.lookup f = some ⟨oc, od, .func (PySem.W.ksFn "__init__" qual params body scope dV kV doc pm an (.ref cda) ct cc), osl⟩) (hcd : PySem.W.codeIn K (.ref cda) qual = true)
    (hpa : (params.posonlyargs ++ params.args).head? = some ar) (har : ar.arg = "self")
    (hcell : ∀ x ∈ scope.names, x.2 ≠ .cell) (hself : scope.names.lookup ("self" : Str) = some .local) (hval : scope.names.lookup ("value" : Str) = some .local)
    (hsup : scope.names.lookup ("super" : Str) = some .globalImplicit) (hcl : scope.names.lookup ("__class__" : Str) = some .free)
    (hk : scope.kind = .function) (hco : scope.isCoroutine = false) (hgen : scope.isGenerator = false)
    {pl : Sem Bool} (he : ∀ L, eval (.Call (.Attribute (.Call (.Name "super" p0) [] [] p1) "__init__" p2) [.Constant (.str msg) j p3] [] p4) (callEnv (PySem.W.ksFn "__init__" qual params body scope dV kV doc pm an (.ref cda) ct cc) L f) = (do
      let ov ← attributeBase (.Call (.Name "super" p0) [] [] p1) "__init__" (callEnv (PySem.W.ksFn "__init__" qual params body scope dV kV doc pm an (.ref cda) ct cc) L f) (eval (.Call (.Name "super" p0) [] [] p1) (callEnv (PySem.W.ksFn "__init__" qual params body scope dV kV doc pm an (.ref cda) ct cc) L f))
      standAt p2.atName
      let (g, first) ← holding [ov] (getMethod ov "__init__" pl)
      callWith p4 g first (backTo p4 (starEach [.Constant (.str msg) j p3] (callEnv (PySem.W.ksFn "__init__" qual params body scope dV kV doc pm an (.ref cda) ct cc) L f))) []))
    (hi : ∀ L, interactive (callEnv (PySem.W.ksFn "__init__" qual params body scope dV kV doc pm an (.ref cda) ct cc) L f) = false)
    (hs1 : ∀ L, swapsWith (.Call (.Attribute (.Call (.Name "super" p0) [] [] p1) "__init__" p2) [.Constant (.str msg) j p3] [] p4) none p5.line (callEnv (PySem.W.ksFn "__init__" qual params body scope dV kV doc pm an (.ref cda) ct cc) L f) = pure false)
    (hs2 : ∀ L, swapsWith (.Name "value" p8) (some (.Attribute (.Name "self" p6) "value" p7)) p9.line (callEnv (PySem.W.ksFn "__init__" qual params body scope dV kV doc pm an (.ref cda) ct cc) L f) = pure false)
    (hst : ∀ L, starEach [.Constant (.str msg) j p3] (callEnv (PySem.W.ksFn "__init__" qual params body scope dV kV doc pm an (.ref cda) ct cc) L f) = (false, eval (.Constant (.str msg) j p3) (callEnv (PySem.W.ksFn "__init__" qual params body scope dV kV doc pm an (.ref cda) ct cc) L f)) :: starEach [] (callEnv (PySem.W.ksFn "__init__" qual params body scope dV kV doc pm an (.ref cda) ct cc) L f))
    (B : OpenB P K D cc cda) (ms : mg "super" = none) :
    FnOk P w K mg base CX (k + 1) f (PySem.W.ksFn "__init__" qual params body scope dV kV doc pm an (.ref cda) ct cc) ["self", "value"] (spInit K D) := by
  refine ⟨fun vs H Q E h => ?_, fun A outer s H args us vs Q E hr e0 hb r hsp => ?_⟩
  · obtain ⟨a, C, v, rfl, _⟩ := h
    rfl
  · obtain ⟨a, C, v, rfl, T, ea, hq⟩ := hsp
    obtain ⟨u1, u2, rfl, r1, r2⟩ := vals2 r
    obtain rfl : u1 = Value.ref a := r1
    have KX : K.In s.heap := e0.mod.kin.keeps fun b o e => (e0.bs b o e).1
    have lim : s.heap.NoLimit := e0.mod.nolimit.keeps fun b o e => (e0.bs b o e).1
    obtain ⟨t1, hea⟩ := exo_at e0.hok ea
    refine ks_codeAny_call_defAt (fd := PySem.W.ksFn "__init__" qual params body scope dV kV doc pm an (.ref cda) ct cc) (body := body) (binds := [("self", .ref a), ("value", u2)]) hr.depth (KX _ _ lk) rfl lim (PySem.W.codeRec_of KX hcd) rfl hb hcell (fun x hx => ?_) (fun h0 hns hk0 => ?_) hco hgen hk
    · rcases List.mem_cons.mp hx with rfl | hx
      · exact hself
      · rcases List.mem_cons.mp hx with rfl | hx
        · exact hval
        · cases hx
    · have K0 : K.In h0 := fun b o e => hk0 _ _ (KX b o e)
      have hns' : h0.Ns s.heap.objs.size (fun x => if x = "value" then some u2 else if x = "self" then some (.ref a) else none) := by
        have hfe : (fun x => ([("self", Value.ref a), ("value", u2)] : List (Str × Value)).reverse.lookup x) = (fun x => if x = ("value" : Str) then some u2 else if x = ("self" : Str) then some (.ref a) else none) := ?_
        · rw [← hfe]
          exact hns
        funext x
        by_cases h1 : x = "value"
        · subst h1; rfl
        · by_cases h2 : x = "self"
          · subst h2; rfl
          · rw [if_neg h1, if_neg h2]
            have e1 : (x == ("value" : Str)) = false := by simpa using h1
            have e2 : (x == ("self" : Str)) = false := by simpa using h2
            simp [List.lookup, e1, e2]
      obtain ⟨nm, qn, N, bs, bm, sn, sub, ab, col, dd, k0, k1, k2, k3, k5, hC, hbm⟩ := T.ox.cls
      obtain ⟨cl, cld, csl, hcc⟩ := B.cell
      obtain ⟨ccl, cdd, cvs, ccs, file, tf, hcda, hvs, hfile⟩ := B.code
      obtain ⟨cdD, hD⟩ := B.cls
      obtain ⟨oD, hD1, hD2⟩ : ∃ oD, h0.get? D = some oD ∧ oD.data = .cls cdD := by
        unfold PySem.W.clsIn at hD
        split at hD
        · rename_i c d cd' sl ho
          cases hD
          exact ⟨_, K0 _ _ ho, rfl⟩
        · cases hD
      have a0 := hk0 _ _ hea
      have E0 : ∀ L, (callEnv (PySem.W.ksFn "__init__" qual params body scope dV kV doc pm an (.ref cda) ct cc) L f) = PySem.W.ksEnv qual scope L f (.ref cda) cc := fun L => rfl
      generalize hfd : PySem.W.ksFn "__init__" qual params body scope dV kV doc pm an (.ref cda) ct cc = fd at *
      rw [hbd]
      refine ks_wpAt_execs_cons (ks_wpAt_Expr_any (ks_wpAt_MethodCall (pl := pl) ?_ (he _)) (hi _) (hs1 _))
      have C0 : (K.In h0) := K0
      obtain ⟨mB, hmB, hmBx⟩ := e0.mod.blt
      rw [E0]
      have G0 : h0.Ns mainGlobals mg := e0.mod.glob.keeps fun b o e => hk0 _ _ (e0.bs b o e).1
      have B0 : h0.Ns builtinsNs mB := hmB.keeps fun b o e => hk0 _ _ (e0.bs b o e).1
      refine ks_wpAt_super_base (env := PySem.W.ksEnv qual scope s.heap.objs.size f (.ref cda) cc) hsup hcl rfl rfl (hk0 _ _ (KX _ _ lk)) rfl (by rw [← hfd]; exact hpa) rfl (K0 _ _ hcda) rfl hvs hfile B.top ?_
      refine PySem.W.ks_loadName_global hk hsup (PySem.Calls.loadGlobal_builtin (env := PySem.W.ksEnv qual scope s.heap.objs.size f (.ref cda) cc) G0 ms B0 ((hmBx "super" (by decide)).trans (by kernel_rfl)) ⟨rfl, ?_⟩)
      refine wpAny_loadName_free hk hcl rfl ⟨_, K0 _ _ hcc, rfl⟩ ?_
      refine wpAny_loadName_local hk (by rw [har]; exact hself) hns' (by rw [har]; rfl) ?_
      refine ks_wpAny_isType_cls hD1 hD2 ⟨rfl, ?_⟩
      have I0 : PySem.W.InstAt h0 a { cls := .ref C, data := .fields #[.ref t1, .none, .none, .none, .bool false, .none] } C none := ⟨a0, rfl, rfl, trivial⟩
      have hCl : ∃ cd, PySem.W.clsIn K C = some cd := by unfold PySem.W.clsIn; rw [hC]; exact ⟨_, rfl⟩
      obtain ⟨cdC, hcC⟩ := hCl
      refine ks_wpAny_call_super hD1 hD2 a0 rfl (fun c e => by cases e) (PySem.W.looks_mroIn K0 T.sub) (fun h1 hso hk1 => ?_)
      have K1 : K.In h1 := fun b o e => hk1 _ _ (K0 b o e)
      have a1 := hk1 _ _ a0
      have I1 : PySem.W.InstAt h1 a { cls := .ref C, data := .fields #[.ref t1, .none, .none, .none, .bool false, .none] } C none := ⟨a1, rfl, rfl, trivial⟩
      have hI : PySem.W.Looks (model P w) h1 (isInstance (.ref a) (.type "ValueError")) true := I1.type.andThen (PySem.W.looks_subIn K1 T.ve)
      have hm := T.ini
      unfold PySem.W.ks_superIn at hm
      rw [hcC] at hm
      refine PySem.W.kxs_getMethod PySem.W.kxs_ValueError hso (PySem.W.looks_opaque K1 B.opq) (l₀ := cdC.mro) (fun A Q E s k q => wpAny_bind ((PySem.W.looks_clsIn K1 hcC) A _ E s k (wpAny_pure q))) rfl K1 hm hI (PySem.W.ks_ne K1 I1 hcC) rfl ?_
      dsimp only
      rw [← E0, hst, E0]
      refine PySem.W.kxs_callWith (i := "ValueError.__init__") (x := a) rfl (PySem.Calls.evalArgs_plain ?_)
      refine PySem.Calls.spliced_cons (PySem.Calls.Constant_str (k := j) (pos := p3) (PySem.Calls.spliced_nil ⟨?_, ?_⟩))
      · exact Heap.get?_push_at rfl rfl
      have hg2 : ∀ {b : Addr} {o : Obj}, h1.get? b = some o → (h1.push (PySem.W.kxs_mw "ValueError.__init__" a)).get? b = some o := fun {b o} e => Heap.get?_push_of_some _ e
      have hw2 : (h1.push (PySem.W.kxs_mw "ValueError.__init__" a)).get? h1.objs.size = some (PySem.W.kxs_mw "ValueError.__init__" a) := Heap.get?_push_at rfl rfl
      generalize h1.push (PySem.W.kxs_mw "ValueError.__init__" a) = h2 at *
      have a2 := hg2 a1
      refine wpAny_call (codeAny_of_tree ?_)
      show wpAny _ (A.deeper _).in1 (callAny (.ref h1.objs.size) ⟨[.str msg _], []⟩) _ _ _
      simp only [callAny]
      refine wpAny_bind (wpAny_load hw2 ?_)
      simp only [PySem.W.kxs_mw, show (Value.type "method-wrapper" == Value.type "method" || Value.type "method-wrapper" == Value.type "builtin_function_or_method" || Value.type "method-wrapper" == Value.type "method-wrapper") = true by decide, if_true]
      refine PySem.W.KFB.if_so (by decide) ?_
      refine wpAny_bind (PySem.W.check_bound_init F.excBase_ValueError.toExcCallFacts (hg2 (K1 _ _ hC)) a2 rfl ?_)
      refine wpAny_bind (wpAny_pure (wpAny_pure ?_))
      refine ⟨plainId_quiet F.excBase_ValueError.init.plain _, codeAny_builtin F.excBase_ValueError.initEntry ?_⟩
      refine PySem.W.exc_init_tree (cls := .ref C) (t0 := t1) (dv := none) (c2 := .none) (c3 := .none) (b4 := .bool false) a2 (by show 1 ≤ sizeLine; decide) (fun h3 hk3 a3 htup => ?_)
      show PySem.wpAt (model P w) (A.deeper (PySem.W.ksEnv qual scope s.heap.objs.size f (Value.ref cda) cc)) _ (execs [Stmt.Assign [(Expr.Name (Str.ofString "self") p6).Attribute (Str.ofString "value") p7] (Expr.Name (Str.ofString "value") p8) p9] (PySem.W.ksEnv qual scope s.heap.objs.size f (Value.ref cda) cc)) _ _ _
      have neL : s.heap.objs.size ≠ a := Ne.symm (Nat.ne_of_lt (Heap.lt_size hea))
      have k03 : ∀ b o, b ≠ a → h0.get? b = some o → h3.get? b = some o := fun b o hb e => hk3 b o hb (hg2 (hk1 b o e))
      have n3 : h3.Ns s.heap.objs.size (fun x => if x = ("value" : Str) then some u2 else if x = ("self" : Str) then some (.ref a) else none) := by
        obtain ⟨oL, es, ep, hL, rr⟩ := hns'
        exact ⟨oL, es, ep, k03 _ _ neL hL, rr⟩
      have naC : ∀ b o, K.lookup b = some o → b ≠ a := fun b o e z => by
        have e1 := (e0.bs b o (e0.mod.kin b o e)).2
        rw [z, ea] at e1
        cases e1
      have K3 : K.In h3 := fun b o e => k03 _ _ (naC b o e) (K0 b o e)
      have hs2' := hs2 s.heap.objs.size
      rw [E0] at hs2'
      refine ks_wpAt_execs_cons (ks_wpAt_Assign_Attr (wpAt_of_wpAny (PySem.ESX.ldL n3 (by rfl) (PySem.ESX.ldL n3 (by rfl) ?_ hk hself) hk hval)) hs2')
      have hcl3 : PySem.W.clsIn K C = some { name := nm, bases := bs, mro := .ref C :: bm, ns := N, qualname := qn, hasDict := true, slotNames := sn, subclasses := sub, abstract := ab, collection := col, hasDel := false } := by unfold PySem.W.clsIn; rw [hC] <;> rfl
      refine PySem.W.set_plain (s := { heap := h3, gens := s.gens, drawn := s.drawn, toks := s.toks + 2 + 1 + 1, os := s.os }) K3 (ox := { cls := .ref C, dict := none, data := .fields #[.ref h2.objs.size, .none, .none, .none, .bool false, .none] }) (od := none) ⟨a3, rfl, rfl, trivial⟩ T.ox.sa ?_
      refine PySem.HandSPX.exc_osa K3 a3 hcl3 (show PySem.HandSPX.refsVE (.ref C :: bm) = true from hbm) rfl T.nov (fun h4 tk4 dx k4 dn dne hx4 hn4 => ?_)
      show PySem.wpAt _ _ _ (execs [] _) _ _ _
      refine wpAt_of_wpAny (wpAny_execs_nil ?_)
      show CE outer P w H s Q Value.none _
      have kk : ∀ b o, b ≠ a → s.heap.get? b = some o → h4.get? b = some o := fun b o hb e => k4 b o hb (k03 b o hb (hk0 b o e))
      have size3 : s.heap.objs.size ≤ dx := by
        have q1 : s.heap.objs.size < h3.objs.size := by
          obtain ⟨oL, _, _, hL, _⟩ := n3
          exact Heap.lt_size hL
        exact Nat.le_trans (Nat.le_of_lt q1) dn
      have hnd : H dx = none := e0.hok.fresh size3
      have nd : ∀ {b : Addr} {o : Obj}, s.heap.get? b = some o → b ≠ dx := fun {b o} q => Nat.ne_of_lt (Nat.lt_of_lt_of_le (Heap.lt_size q) size3)
      have na : ∀ {b : Addr}, H b = none → b ≠ a := fun {b} n z => by
        rw [z, ea] at n
        cases n
      have Un1 : Un (frs outer) [] H (upd (upd H dx (exd dx [("value", v)])) a (exo a C (some dx))) s.heap h4 := {
        keep := fun b o q n _ _ => kk b o (na n) q
        slot := fun b o q n _ _ => ⟨o.slots, kk b o (na n) q⟩
        free := fun b o q n _ => by rw [upd_ne (na n), upd_ne (nd q)]; exact n
        there := fun b o q _ => by
          by_cases hb : b = a
          · exact ⟨_, by rw [hb]; exact hx4⟩
          · exact ⟨o, kk b o hb q⟩
        tups := fun b xs q => by rw [upd_ne (at_ne ea q exo_tup), upd_ne (ne_of_none q hnd)]; exact q
        frzs := fun b o v q => by rw [upd_ne (at_ne ea q exo_frz), upd_ne (ne_of_none q hnd)]; exact q
        tbls := fun b ps q => ⟨#[], by rw [upd_ne (at_ne ea q exo_tbl), upd_ne (ne_of_none q hnd), q]; simp⟩ }
      refine ⟨.non, _, rfl, e0.bare, Un1, fun b o q => ?_, rfl, hq dx hnd dne⟩
      by_cases hb : b = a
      · subst hb
        rw [upd_same] at q
        cases q
        exact exo_ok hx4
      · rw [upd_ne hb] at q
        by_cases hd : b = dx
        · subst hd
          rw [upd_same] at q
          cases q
          exact exd_ok hn4 (relO_put (fs := []) r2 fun g => True.intro)
        · rw [upd_ne hd] at q
          exact (e0.hok b o q).stay (fun c v hc z => kk c v (by
              rcases hc with hc | hc
              · rw [hc]
                exact hb
              · exact at_ne ea hc exo_own) z)
            (fun c hc => by rw [upd_ne (at_ne ea hc exo_own), upd_ne (ne_of_none hc hnd)]; exact hc) (fun c xs hc => by rw [upd_ne (at_ne ea hc exo_tup), upd_ne (ne_of_none hc hnd)]; exact hc)
end OP
namespace OP
open PySem PySem.Spec PyProof.Rows L2
section
variable {X : Cx}
/-- a text n times -/
def repS (z : Str) (n : Nat) : Str := ⟨(List.replicate n z.cps.toList).flatten.toArray⟩
theorem repS_fold (z : Str) (n : Nat) : (⟨(List.replicate n z.cps).foldl (· ++ ·) #[]⟩ : Str) = repS z n := by
  have key : ∀ (n : Nat) (a : Array Nat), (List.replicate n z.cps).foldl (· ++ ·) a = a ++ (List.replicate n z.cps.toList).flatten.toArray := by
    intro n
    induction n with
    | zero => intro a; simp
    | succ n ih =>
      intro a
      rw [List.replicate_succ, List.foldl_cons, ih, List.replicate_succ, List.flatten_cons]
      apply Array.ext'
      simp
  unfold repS
  rw [key n #[]]
  simp
theorem repS_length (z : Str) (n : Nat) : (repS z n).length = z.length * n := by
  show (List.replicate n z.cps.toList).flatten.toArray.size = z.cps.size * n
  rw [List.size_toArray, List.length_flatten, List.map_replicate, Array.length_toList]
  induction n with
  | zero => rfl
  | succ n ih =>
    rw [List.replicate_succ, List.sum_cons, ih, Nat.mul_succ, Nat.add_comm]
theorem op_mul_str : OpR X (binaryOp .Mult) (fun x y H Q => ∃ (z : Str) (n : Int), x = .str z ∧ y = .int n ∧ 0 ≤ n ∧ n ≤ 10000 ∧ z.length ≤ 1000 ∧ Q (.str (repS z n.toNat)) H) := by
  intro pins s σ H x y u v Q I rx ry h
  obtain ⟨z, n, rfl, rfl, h0, h1, hz, q⟩ := h
  obtain ⟨t, rfl⟩ := rx
  obtain ⟨t2, rfl⟩ := ry
  have hr : (decide (n < -(2 ^ 63 : Int)) || decide (n ≥ 2 ^ 63)) = false := by
    rw [decide_eq_false (by omega), decide_eq_false (by omega)]
    rfl
  refine PySem.P.mul_str hr (fun hn _ => ?_) (fun hn _ => ?_) ?_
  · have e : (1000 : Int) ≤ (2 ^ 63 - 1) / n := by
      rw [Int.le_ediv_iff_mul_le (by omega)]
      omega
    omega
  · have : z.length * n.toNat ≤ 1000 * 10000 := Nat.mul_le_mul hz (by omega)
    unfold Builtin.Str.tooLong
    have e : ¬ (z.length * n.toNat > sizeLine) := by rw [sizeLine_eq]; omega
    simpa using Nat.le_of_not_gt e
  · by_cases hn : n < 1
    · rw [if_pos hn]
      have e : n.toNat = 0 := by omega
      rw [e] at q
      exact ⟨by decide, .str _, H, I.tok _, ⟨_, rfl⟩, q⟩
    · rw [if_neg hn]
      by_cases h2 : (n == 1 || z.length == 0) = true
      · rw [if_pos h2]
        have e : repS z n.toNat = z := by
          rcases Bool.or_eq_true_iff.mp h2 with e | e
          · have : n = 1 := by simpa using e
            subst this
            show repS z 1 = z
            unfold repS
            simp
          · have e0 : z.cps = #[] := by
              have : z.length = 0 := by simpa using e
              exact Array.eq_empty_of_size_eq_zero this
            obtain ⟨cps⟩ := z
            dsimp only at e0
            subst e0
            unfold repS
            simp
        rw [e] at q
        exact ⟨.str z, H, I, ⟨_, rfl⟩, q⟩
      · rw [if_neg h2]
        refine ⟨?_, .str (repS z n.toNat), H, I.tok _, ⟨s.toks, ?_⟩, q⟩
        · have e := repS_length z n.toNat
          rw [← repS_fold] at e
          have : z.length * n.toNat ≤ 1000 * 10000 := Nat.mul_le_mul hz (by omega)
          rw [e, sizeLine_eq]
          omega
        · rw [← repS_fold]
end
end OP
namespace OP
open PySem PySem.Spec PyProof.Rows L2
theorem upd_over {H : Hp} {a b : Addr} {o1 o2 o3 : HO} : upd (upd (upd H a o1) b o2) a o3 = upd (upd H b o2) a o3 := by
  funext c
  by_cases h : c = a
  · subst h
    rw [upd_same, upd_same]
  · rw [upd_ne h, upd_ne h]
    by_cases h2 : c = b
    · subst h2
      rw [upd_same, upd_same]
    · rw [upd_ne h2, upd_ne h2, upd_ne h]
section
variable {X : Cx} {e : Expr} {te : TE} {p pos : Pos}
/-- C(e), an error as a value -/
theorem pe_excV {CX : CXT} {x : Str} {C D fI : Addr} {k : Nat} {fd : FuncData} (T : OpenC X.K D C) (iC : PySem.W.findIn X.K (.ref C) "__init__" = some (some (.ref fI))) (tI : PySem.W.typeIn X.K (.ref fI) = some (.type "function"))
    (F1 : FnOk X.prog X.w X.K X.mg X.base CX k fI fd ["self", "value"] (spInit X.K D)) (hr : Room (k + 1) X.A) (hb : Binds X.K fd ["self", "value"] []) (hx : Passes CX X (fun _ _ _ => False)) (hg : Gl X x) (hm : X.mg x = some (.ref C)) (he : PE X e te)
    (hdb : (x == ("__debug__" : Str)) = false := by decide) (hst : starEach [e] X.env = (false, eval e X.env) :: starEach [] X.env := by rfl) :
    PE X (.Call (.Name x p) [e] [] pos) (fun σ H Q => te σ H fun v H1 => ∀ a d, H1 a = none → H1 d = none → d ≠ a → Q (.ref a) (upd (upd H1 d (exd d [("value", v)])) a (exo a C (some d)))) := by
  refine ⟨fun pins s σ H Q I h => ?_⟩
  obtain ⟨nm, q, N, bs, bm, sn, sub, ab, col, dd, k0, k1, k2, k3, k5, hC, hbm⟩ := T.ox.cls
  refine wpAny_Call_Name_kw (ld_glob I hg hm ?_ hdb)
  refine PySem.W.callWith_K (h₀ := X.base) I.ok.mod.kin T.ox.kC ?_ hst (by rfl)
  rw [hst]
  show wpAny _ _ (spliced ((false, eval e X.env) :: backTo pos (starEach [] X.env))) _ _ s
  refine Calls.spliced_cons (thn (he.run pins s σ H _ I h) fun u s1 ⟨v, H1, I1, r1, q1⟩ => ?_)
  refine Calls.spliced_nil ⟨I1.kIn, ?_⟩
  show wpAny _ _ (call (.ref C) [u]) _ _ _
  obtain ⟨hp, g, dr, tk, os⟩ := s1
  have hsz : hp.objs.size ≤ hp.objs.size + 1 := Nat.le_succ _
  have hn : H1 (hp.objs.size + 1) = none := I1.hok.fresh hsz
  have kk : ∀ b o, hp.get? b = some o → ((hp.push (PySem.W.kdv_tup [u])).push (PySem.HandSPX.excO C hp.objs.size)).get? b = some o := fun b o e => Heap.get?_push_of_some _ (Heap.get?_push_of_some _ e)
  have hget : ((hp.push (PySem.W.kdv_tup [u])).push (PySem.HandSPX.excO C hp.objs.size)).get? (hp.objs.size + 1) = some (PySem.HandSPX.excO C hp.objs.size) := by heap_get
  have I2 : Inv X pins σ (upd H1 (hp.objs.size + 1) (exo (hp.objs.size + 1) C none)) ⟨(hp.push (PySem.W.kdv_tup [u])).push (PySem.HandSPX.excO C hp.objs.size), g, dr, tk, os⟩ :=
    I1.laid (t' := tk) (a := hp.objs.size + 1) (o := exo (hp.objs.size + 1) C none) (h' := (hp.push (PySem.W.kdv_tup [u])).push (PySem.HandSPX.excO C hp.objs.size)) kk hsz (exo_ok hget)
  have r2 : Vals [V.ref (hp.objs.size + 1), v] [Value.ref (hp.objs.size + 1), u] := .cons rfl (.cons r1 .nil)
  have hq : spInit X.K D [V.ref (hp.objs.size + 1), v] (upd H1 (hp.objs.size + 1) (exo (hp.objs.size + 1) C none)) (fun w2 H2 => w2 = .non ∧ Q (.ref (hp.objs.size + 1)) H2) (fun _ _ _ => False) := by
    refine ⟨_, C, v, rfl, T, upd_same, fun dx hd hne => ⟨rfl, ?_⟩⟩
    rw [upd_over]
    rw [upd_ne hne] at hd
    exact q1 _ dx hn hd hne
  refine wpAny_call (PySem.HandSPX.call_own F.excBase_ValueError (fun Y => PySem.HandSPX.refsVE_contains Y bm hbm) (I1.kIn _ _ hC) (PySem.W.looks_findIn I1.kIn iC) (fun self => PySem.W.bind_fn I1.kIn self tI) (by show 1 ≤ sizeLine; decide)
    (codeAny_mono (F1.run _ X.stack _ _ ⟨Value.ref (hp.objs.size + 1) :: [u], []⟩ [Value.ref (hp.objs.size + 1), u] _ _ (fun _ _ _ => False) (hr.make C [u] []) (I2.env0.make C [u] []) (hb _ [Value.ref (hp.objs.size + 1), u] I2.kIn rfl) r2 hq) fun r s' hq' => ?_))
  cases r with
  | error er => exact hx pins σ _ _ er s' I2 hq'
  | ok fl =>
    cases fl with
    | ret w2 =>
      obtain ⟨w3, H2, os2, bare2, un2, hok2, rv, ev, q2⟩ := hq'
      subst ev
      have un : Un (frs X.stack) [] H1 H2 hp s'.heap := Un.trans (Un.laid kk hsz hn) un2
      exact ⟨rv, .ref (hp.objs.size + 1), H2, I1.call' (ch := []) os2 un hok2 bare2 (fun b z => absurd z (by simp)), rfl, q2⟩
    | next => exact False.elim hq'
    | brk => exact False.elim hq'
    | cont => exact False.elim hq'
end
/-- a value's type, errors of the package too -/
inductive TyZ (K : PySem.W.Frag) (H : Hp) : V → Value → Prop where
  | x {v : V} {t : Value} (h : TyX K H v t) : TyZ K H v t
  | exc {a C d : Addr} {fs : List (Str × V)} (T : ExcC K C) (e : H a = some (exo a C (some d))) (ed : H d = some (exd d fs)) : TyZ K H (.ref a) (.ref C)
theorem TyZ.mono {K : PySem.W.Frag} {H H' : Hp} {v : V} {t : Value} (e : Evl.Ex H H') (h : TyZ K H v t) : TyZ K H' v t := by
  cases h with
  | exc T h1 h2 => exact .exc T (e _ _ h1) (e _ _ h2)
  | x h =>
    refine .x ?_
    cases h with
    | byt b => exact .byt b
    | set h => exact .set (e _ _ h)
    | kList h c => exact .kList h c
    | kTuple h c => exact .kTuple h c
    | kDict h c => exact .kDict h c
    | fTuple h => exact .fTuple (e _ _ h)
    | fDict h => exact .fDict (e _ _ h)
    | base h =>
      refine .base ?_
      cases h with
      | non => exact .non
      | bl b => exact .bl b
      | int b => exact .int b
      | str b => exact .str b
      | flt b => exact .flt b
      | lst h => exact .lst (e _ _ h)
      | frz h => exact .frz (e _ _ h)
      | tup h => exact .tup (e _ _ h)
      | dK h => exact .dK (e _ _ h)
      | dT h => exact .dT (e _ _ h)
      | ins h a b c d f => exact .ins (e _ _ h) a b c d f
def rIsZ (K : PySem.W.Frag) : List V → Hp → VK → Prop := fun xs H Q => ∃ (x c : V) (t u : Value) (b : Bool), xs = [x, c] ∧ ClsV c u ∧ TyZ K H x t ∧ PySem.W.kitOne K t u = some b ∧ Q (.bl b) H
theorem call_isZ {X : Cx} : CallR X (.builtin "isinstance") (rIsZ X.K) := by
  intro pins s σ H xs us Q I r h
  obtain ⟨x, c, t, u, b, rfl, k, ty, e, q⟩ := h
  cases ty with
  | x ty => exact call_isi pins s σ H _ us Q I r ⟨x, c, t, u, b, rfl, k, ty, e, q⟩
  | @exc a C d fs T ea ed =>
    obtain ⟨u1, u2, rfl, r1, r2⟩ := vals2 r
    obtain rfl : u1 = Value.ref a := r1
    obtain rfl := k.eq r2
    obtain ⟨t1, hx⟩ := exo_at I.hok ea
    obtain ⟨mA, ⟨od, es, ep, hd, _⟩, _⟩ := exd_at I.hok ed
    have hcl : (PySem.W.clsIn X.K C).isSome = true := by
      obtain ⟨cd, hc, _⟩ := PySem.W.any_some T.hd
      rw [hc]
      rfl
    have J : PySem.W.InstAt s.heap a { cls := .ref C, dict := some d, data := .fields #[.ref t1, .none, .none, .none, .bool false, .none] } C (some od) := ⟨hx, rfl, rfl, hd⟩
    exact PySem.W.kia_one (PySem.W.kitx_exc hcl T.hg T.hk T.hs T.ha T.hn T.ht T.hm) I.kIn J e (fun z => nomatch z) fun tk => ⟨.bl b, H, I.tok tk, rfl, q⟩
end OP
namespace OP
open PySem PySem.Spec PyProof.Rows L2
def Box (n : Nat) (o : HO) : Prop := ∃ x y c : Int, o = .lst [.int x, .int y, .int c] ∧ 0 ≤ x ∧ 0 ≤ y ∧ y < 2147483648 ∧ 0 ≤ c ∧ c ≤ n
def BoxAt (H : Hp) (b : Addr) (n : Nat) : Prop := ∃ o, H b = some o ∧ Box n o
/-- all but b stands as it stood -/
def Eb (b : Addr) (H H' : Hp) : Prop := ∀ a o, a ≠ b → H a = some o → H' a = some o
theorem Eb.refl (b : Addr) (H : Hp) : Eb b H H := fun _ _ _ h => h
theorem Eb.trans {b : Addr} {H H1 H2 : Hp} (x : Eb b H H1) (y : Eb b H1 H2) : Eb b H H2 := fun a o n h => y a o n (x a o n h)
theorem Eb.of {b : Addr} {H H' : Hp} (x : Evl.Ex H H') : Eb b H H' := fun a o _ h => x a o h
theorem BoxAt.mono {H : Hp} {b : Addr} {n m : Nat} (h : BoxAt H b n) (l : n ≤ m) : BoxAt H b m := by
  obtain ⟨o, e, x, y, c, h1, h2, h3, h4, h5, h6⟩ := h
  exact ⟨o, e, x, y, c, h1, h2, h3, h4, h5, by omega⟩
theorem BoxAt.ex {H H' : Hp} {b : Addr} {n : Nat} (h : BoxAt H b n) (e : Evl.Ex H H') : BoxAt H' b n := by
  obtain ⟨o, q, r⟩ := h
  exact ⟨o, e _ _ q, r⟩
end OP
namespace OP
open PySem PySem.Spec PyProof.Rows L2 Evl
theorem str_ext {a b : Str} (h : a.cps.toList = b.cps.toList) : a = b := by
  obtain ⟨⟨a⟩⟩ := a
  obtain ⟨⟨b⟩⟩ := b
  dsimp only at h
  rw [h]
theorem join_fold (g : Str) : ∀ (ts : List Str) (a : Array Nat), (ts.foldl (fun acc p => acc ++ g.cps ++ p.cps) a).toList = a.toList ++ (ts.map fun p => g.cps.toList ++ p.cps.toList).flatten
  | [], a => by simp
  | t :: r, a => by
    rw [List.foldl_cons, join_fold g r, List.map_cons, List.flatten_cons]
    simp
theorem join_cons (g t : Str) (r : List Str) : (Txt.join g (t :: r)).cps.toList = t.cps.toList ++ (r.map fun p => g.cps.toList ++ p.cps.toList).flatten := join_fold g r t.cps
theorem flat_signs : ∀ cs : List Nat, (cs.map fun c => ([] : List Nat) ++ [c]).flatten = cs
  | [] => rfl
  | c :: r => by
    rw [List.map_cons, List.flatten_cons, flat_signs r]
    rfl
theorem join_signs : ∀ cs : List Nat, Txt.join "" (cs.map fun c => (⟨#[c]⟩ : Str)) = ⟨cs.toArray⟩
  | [] => rfl
  | c :: r => by
    apply str_ext
    rw [List.map_cons, join_cons, List.map_map]
    have e := flat_signs r
    show [c] ++ (r.map fun c => ([] : List Nat) ++ [c]).flatten = c :: r
    rw [e]
    rfl
end OP
namespace OP
open PySem PySem.Spec PyProof.Rows L2 Evl
section
variable {X : Cx} (K : PySem.W.Frag)
variable {tg o e : Expr} {es : List Expr} {to tl : TE} {t : TA} {name : Str} {apos cpos pos : Pos} {T id : String} {r : V → List V → Hp → VK → Prop}
theorem pe_bmK (pa : PlainAttrs T) (slot : Slot T name id) (hty : typeOf (.builtin id) = pure (.type "method_descriptor")) (hm : MtR X id r) (ho : PE X o to) (ha : PA X (e :: es) t)
    (hbase : attributeBase o name X.env (eval o X.env) = eval o X.env := by rfl)
    (hfew : ((backTo cpos (starEach (e :: es) X.env)).all (fun x => !x.1) && (backToKw cpos (keywordEach [] X.env)).all (fun x => x.1.isSome)
      && decide ((e :: es).length + ([] : List Keyword).length + (if ([] : List Keyword).isEmpty then 0 else 1) < 30)) = true := by rfl)
    (hline : (apos.endLine == cpos.line) = true := by rfl) (hs : starEach (e :: es) X.env = (false, eval e X.env) :: starEach es X.env := by rfl) (hplain : (backTo cpos (starEach es X.env)).any (·.1) = false := by rfl) (hK : X.K = K := by rfl) :
    PE X (.Call (.Attribute o name apos) (e :: es) [] cpos) (tBM K T r to t) := hK ▸ pe_bm pa slot hty hm ho ha hbase hfew hline hs hplain
end
end OP
namespace OP
open PySem PySem.Spec PyProof.Rows L2
/-- a zip over two iterators, whatever it knows of the tuple that it gave out -/
abbrev IsZipR (h : Heap) (z TI TO : Addr) (f0 : Value) (f1 : Bool) : Prop :=
  h.get? z = some { cls := .type "zip", dict := none, data := .fields #[f0, .bool f1, .bool false, .ref TI, .ref TO], slots := #[] }
def RawOr (f0 : Value) : Prop := f0 = .none ∨ ∃ T : Nat, f0 = rawInt T
section
variable {prog : Program} {w : World} {A : Around} {E : Value → Shared → Prop} {s : Shared}
variable {z TI TO i1 i2 : Addr} {fp1 fp2 : List Addr} {n i : Nat} {P1 P2 : Nat → Value → Prop} {St1 St2 : Nat → Heap → Prop} {a1 a2 f0 : Value} {f1 : Bool}
/-- what the zip's own cells say ahead of turn i -/
structure ZipSt (z TI TO i1 i2 : Addr) (St1 St2 : Nat → Heap → Prop) (i : Nat) (h : Heap) : Prop where
  zip : ∃ f0 f1, IsZipR h z TI TO f0 f1 ∧ RawOr f0
  ti : IsTupOf2 h TI (.ref i1) (.ref i2)
  to_ : ∃ a b, IsTupOf2 h TO a b
  s1 : St1 i h
  s2 : St2 i h
theorem ZipSt.frame {h h' : Heap} (D1 : Draws prog w A i1 fp1 n P1 St1) (D2 : Draws prog w A i2 fp2 n P2 St2) (Z : ZipSt z TI TO i1 i2 St1 St2 i h) (k : ∀ b ∈ z :: TI :: TO :: (fp1 ++ fp2), ∀ o, h.get? b = some o → h'.get? b = some o) : ZipSt z TI TO i1 i2 St1 St2 i h' := by
  obtain ⟨⟨f0, f1, hz, hf⟩, hTI, ⟨a1, a2, hTO⟩, st1, st2⟩ := Z
  exact ⟨⟨f0, f1, k z (by simp) _ hz, hf⟩, k TI (by simp) _ hTI, ⟨a1, a2, k TO (by simp) _ hTO⟩, D1.frame _ _ _ st1 fun b hb o e => k b (by simp [hb]) o e, D2.frame _ _ _ st2 fun b hb o e => k b (by simp [hb]) o e⟩
end
end OP
namespace OP
open PySem PySem.Spec PyProof.Rows L2
end OP
namespace OP
open PySem PySem.Spec PyProof.Rows L2 Evl
structure Pr where
  on : Hp → V → Prop
  up : ∀ {H H' : Hp} {v : V}, Ex H H' → on H v → on H' v
def Al (H : Hp) : List Pr → List V → Prop
  | [], [] => True
  | p :: ps, x :: xs => p.on H x ∧ Al H ps xs
  | _, _ => False
theorem Al.up {H H' : Hp} (e : Ex H H') : ∀ {ps : List Pr} {xs : List V}, Al H ps xs → Al H' ps xs
  | [], [], _ => trivial
  | [], _ :: _, h => h.elim
  | _ :: _, [], h => h.elim
  | p :: _, _ :: _, h => ⟨p.up e h.1, Al.up e h.2⟩
theorem Al.len {H : Hp} : ∀ {ps : List Pr} {xs : List V}, Al H ps xs → xs.length = ps.length
  | [], [], _ => rfl
  | [], _ :: _, h => h.elim
  | _ :: _, [], h => h.elim
  | _ :: _, _ :: _, h => by rw [List.length_cons, List.length_cons, Al.len h.2]
theorem Al.get {H : Hp} : ∀ {ps : List Pr} {xs : List V} {i : Nat} {x : V}, Al H ps xs → xs[i]? = some x → ∃ p, ps[i]? = some p ∧ p.on H x
  | [], [], _, _, _, e => by simp at e
  | [], _ :: _, _, _, h, _ => h.elim
  | _ :: _, [], _, _, h, _ => h.elim
  | p :: _, y :: _, 0, x, h, e => by
    simp at e
    subst e
    exact ⟨p, rfl, h.1⟩
  | p :: ps, y :: ys, i + 1, x, h, e => by
    obtain ⟨q, h1, h2⟩ := Al.get (i := i) (x := x) h.2 (by simpa using e)
    exact ⟨q, by simpa using h1, h2⟩
theorem Al.app {H : Hp} : ∀ {ps qs : List Pr} {xs ys : List V}, Al H ps xs → Al H qs ys → Al H (ps ++ qs) (xs ++ ys)
  | [], _, [], _, _, h => h
  | [], _, _ :: _, _, h, _ => h.elim
  | _ :: _, _, [], _, h, _ => h.elim
  | _ :: _, _, _ :: _, _, h, g => ⟨h.1, Al.app h.2 g⟩
def pV (v : V) : Pr := ⟨fun _ x => x = v, fun _ h => h⟩
/-- (the part K is named so that it is found) -/
def lstAt (K : PySem.W.Frag) (H : Hp) (a : Addr) (xs : List V) : Prop := H a = some (.lst xs)
def pLst (K : PySem.W.Frag) (ps : List Pr) : Pr := ⟨fun H v => ∃ a xs, v = .ref a ∧ lstAt K H a xs ∧ Al H ps xs, fun e h => by
  obtain ⟨a, xs, h1, h2, h3⟩ := h
  exact ⟨a, xs, h1, e _ _ h2, h3.up e⟩⟩
def pTup (K : PySem.W.Frag) (ps : List Pr) : Pr := ⟨fun H v => ∃ a xs, v = .ref a ∧ SqT K H a xs ∧ Al H ps xs, fun e h => by
  obtain ⟨a, xs, h1, h2, h3⟩ := h
  exact ⟨a, xs, h1, ex_t e h2, h3.up e⟩⟩
structure Tu (α : Type) where
  l : List α
  deriving DecidableEq
class Enc (K : PySem.W.Frag) (α : Type) where
  rp : α → Pr
  enc : α → PyData
  toD : ∀ {H : Hp} {v : V} {a : α}, (rp a).on H v → Dp K H v (enc a)
  lay : α → Prop
  dep : Nat
  dle : ∀ a : α, (enc a).depth ≤ dep
  can : ∀ a : α, lay a → (enc a).canLay0 = true
  inj : ∀ a b : α, PyData.eqv (enc a) (enc b) = true ↔ a = b
variable {K : PySem.W.Frag}
def en (K : PySem.W.Frag) {α : Type} [Enc K α] (a : α) : Pr := Enc.rp (K := K) a
instance : Enc K Int := ⟨fun i => pV (.int i), .int, fun h => by cases h; exact .int _, fun _ => True, 0, fun _ => Nat.le_refl _, fun _ _ => rfl, fun a b => by simp [PyData.eqv]⟩
instance : Enc K Nat := ⟨fun i => pV (.int i), fun i => .int i, fun h => by cases h; exact .int _, fun _ => True, 0, fun _ => Nat.le_refl _, fun _ _ => rfl, fun a b => by simp [PyData.eqv]; omega⟩
instance : Enc K Bool := ⟨fun i => pV (.bl i), .bool, fun h => by cases h; exact .bl _, fun _ => True, 0, fun _ => Nat.le_refl _, fun _ _ => rfl, fun a b => by cases a <;> cases b <;> simp [PyData.eqv]⟩
instance : Enc K Str := ⟨fun i => pV (.str i), .str, fun h => by cases h; exact .str _, fun s => PyData.strOk s = true, 0, fun _ => Nat.le_refl _, fun _ h => h, fun a b => by simp [PyData.eqv]⟩
instance : Enc K Unit := ⟨fun _ => pV .non, fun _ => .none, fun h => by cases h; exact .non, fun _ => True, 0, fun _ => Nat.le_refl _, fun _ _ => rfl, fun a b => by simp [PyData.eqv]⟩
section
variable {α β γ : Type}
theorem al_toD [E : Enc K α] {H : Hp} : ∀ {l : List α} {xs : List V}, Al H (l.map E.rp) xs → DpAll K H xs (l.map E.enc)
  | [], [], _ => .nil
  | [], _ :: _, h => h.elim
  | _ :: _, [], h => h.elim
  | a :: l, x :: xs, h => .cons (E.toD h.1) (al_toD h.2)
theorem dle_all [E : Enc K α] : ∀ l : List α, PyData.depthAll (l.map E.enc) ≤ E.dep
  | [] => Nat.zero_le _
  | a :: l => by
    show max (PyData.depth (E.enc a)) (PyData.depthAll (l.map E.enc)) ≤ _
    have h1 := E.dle a
    have h2 := dle_all (E := E) l
    omega
theorem can_all [E : Enc K α] : ∀ l : List α, (∀ a ∈ l, E.lay a) → PyData.canLayAll0 (l.map E.enc) = true
  | [], _ => rfl
  | a :: l, h => by
    show (PyData.canLay0 (E.enc a) && PyData.canLayAll0 (l.map E.enc)) = true
    rw [E.can a (h a (List.mem_cons_self ..)), can_all l fun x hx => h x (List.mem_cons_of_mem _ hx)]
    rfl
theorem inj_all [E : Enc K α] : ∀ l m : List α, PyData.eqvAll (l.map E.enc) (m.map E.enc) = true ↔ l = m
  | [], [] => ⟨fun _ => rfl, fun _ => rfl⟩
  | [], _ :: _ => ⟨(fun h => nomatch h), (fun h => nomatch h)⟩
  | _ :: _, [] => ⟨(fun h => nomatch h), (fun h => nomatch h)⟩
  | a :: l, b :: m => by
    show (PyData.eqv (E.enc a) (E.enc b) && PyData.eqvAll (l.map E.enc) (m.map E.enc)) = true ↔ _
    rw [Bool.and_eq_true, E.inj, inj_all l m, List.cons.injEq]
instance [E : Enc K α] : Enc K (List α) := ⟨fun l => pLst K (l.map E.rp), fun l => .list (l.map E.enc), fun h => by
    obtain ⟨a, xs, rfl, h1, h2⟩ := h
    exact .lst (sq_of h1) (al_toD h2), fun l => ∀ a ∈ l, E.lay a, E.dep + 1, fun l => by
    show PyData.depthAll (l.map E.enc) + 1 ≤ _
    have := dle_all (E := E) l
    omega, fun l h => can_all l h, fun l m => inj_all l m⟩
instance [E : Enc K α] : Enc K (Tu α) := ⟨fun l => pTup K (l.l.map E.rp), fun l => .tuple (l.l.map E.enc), fun h => by
    obtain ⟨a, xs, rfl, h1, h2⟩ := h
    exact .tup h1 (al_toD h2), fun l => ∀ a ∈ l.l, E.lay a, E.dep + 1, fun l => by
    show PyData.depthAll (l.l.map E.enc) + 1 ≤ _
    have := dle_all (E := E) l.l
    omega, fun l h => can_all l.l h, fun l m => by
    obtain ⟨l⟩ := l
    obtain ⟨m⟩ := m
    rw [Tu.mk.injEq]
    exact inj_all l m⟩
instance [E : Enc K α] [F : Enc K β] : Enc K (α × β) := ⟨fun x => pTup K [E.rp x.1, F.rp x.2], fun x => .tuple [E.enc x.1, F.enc x.2], fun h => by
    obtain ⟨a, xs, rfl, h1, h2⟩ := h
    match xs, h2 with
    | [_, _], h2 => exact .tup h1 (.cons (E.toD h2.1) (.cons (F.toD h2.2.1) .nil)), fun x => E.lay x.1 ∧ F.lay x.2, max E.dep F.dep + 1, fun x => by
    show max (PyData.depth (E.enc x.1)) (max (PyData.depth (F.enc x.2)) 0) + 1 ≤ _
    have h1 := E.dle x.1
    have h2 := F.dle x.2
    omega, fun x h => by
    show (PyData.canLay0 (E.enc x.1) && (PyData.canLay0 (F.enc x.2) && true)) = true
    rw [E.can _ h.1, F.can _ h.2]
    rfl, fun x y => by
    show (PyData.eqv (E.enc x.1) (E.enc y.1) && (PyData.eqv (F.enc x.2) (F.enc y.2) && true)) = true ↔ _
    rw [Bool.and_true, Bool.and_eq_true, E.inj, F.inj]
    exact ⟨fun h => Prod.ext h.1 h.2, fun h => by rw [h]; exact ⟨rfl, rfl⟩⟩⟩
end
structure Fr (G H G2 H2 : Hp) : Prop where
  g : Ex G G2
  h : Ex H H2
  k : Ex G2 H2
  n : ∀ a, G a = none → H a ≠ none → G2 a = none
theorem Fr.refl {G H : Hp} (e : Ex G H) : Fr G H G H := ⟨Ex.refl G, Ex.refl H, e, fun _ h _ => h⟩
theorem ne_up {H H' : Hp} {a : Addr} (e : Ex H H') (h : H a ≠ none) : H' a ≠ none := by
  cases q : H a with
  | none => exact absurd q h
  | some o => rw [e a o q]; exact fun h => nomatch h
theorem Fr.trans {G H G2 H2 G3 H3 : Hp} (a : Fr G H G2 H2) (b : Fr G2 H2 G3 H3) : Fr G H G3 H3 :=
  ⟨a.g.trans b.g, a.h.trans b.h, b.k, fun x h1 h2 => b.n x (a.n x h1 h2) (ne_up a.h h2)⟩
theorem Fr.same {G H H2 : Hp} (e : Ex G H) (e2 : Ex H H2) : Fr G H G H2 := ⟨Ex.refl G, e2, e.trans e2, fun _ h _ => h⟩
theorem ex_upd {G H : Hp} (e : Ex G H) {p : Addr} {o : HO} : Ex (upd G p o) (upd H p o) := fun a u h => by
  by_cases q : a = p
  · subst q
    rw [upd_same] at h ⊢
    exact h
  · rw [upd_ne q] at h ⊢
    exact e a u h
theorem Fr.new {G H : Hp} (e : Ex G H) {p : Addr} {o : HO} (hp : H p = none) : Fr G H (upd G p o) (upd H p o) :=
  ⟨Ex.new (fresh_back e hp), Ex.new hp, ex_upd e, fun a h1 h2 => by
    have : a ≠ p := fun q => by subst q; exact h2 hp
    rw [upd_ne this]
    exact h1⟩
/-- what H holds at p becomes known -/
theorem Fr.freeze {G H : Hp} {p : Addr} {o : HO} (e : Ex G H) (hG : G p = none) (h : H p = some o) : Ex G (upd G p o) ∧ Ex (upd G p o) H := ⟨Ex.new hG, fun a u q => by
  by_cases c : a = p
  · subst c
    rw [upd_same] at q
    cases q
    exact h
  · rw [upd_ne c] at q
    exact e a u q⟩
/-- a reading from less known, beside more known -/
def beside (G' G2 : Hp) : Hp := fun a => match G' a with | some o => some o | none => G2 a
theorem Fr.beside {G G' H G2 H2 : Hp} (f : Fr G H G2 H2) (e : Ex G G') (e1 : Ex G' H) : Fr G' H (beside G' G2) H2 ∧ Ex G2 (beside G' G2) := by
  refine ⟨⟨fun a o h => by simp only [OP.beside, h], f.h, fun a o h => ?_, fun a h1 h2 => ?_⟩, fun a o h => ?_⟩
  · simp only [OP.beside] at h
    cases q : G' a with
    | some u =>
      rw [q] at h
      cases h
      exact f.h a _ (e1 a _ q)
    | none =>
      rw [q] at h
      exact f.k a o h
  · simp only [OP.beside, h1]
    exact f.n a (fresh_back e h1) h2
  · simp only [OP.beside]
    cases q : G' a with
    | some u =>
      have h1 := f.h a _ (e1 a _ q)
      have h2 := f.k a o h
      rw [h1] at h2
      exact h2
    | none => exact h
def EvP (te : TE) (σ : L2.St) (G : Hp) (p : Pr) : Prop := ∀ H1, Ex G H1 → ∀ Q : VK, (∀ v H2 G2, Fr G H1 G2 H2 → p.on G2 v → Q v H2) → te σ H1 Q
def EvPs (ta : TA) (σ : L2.St) (G : Hp) (ps : List Pr) : Prop := ∀ H1, Ex G H1 → ∀ Q : List V → Hp → Prop, (∀ vs H2 G2, Fr G H1 G2 H2 → Al G2 ps vs → Q vs H2) → ta σ H1 Q
section
variable {σ : L2.St} {G G' H H' : Hp} {ta tb te tx ts : TE} {t u : TT} {x y z v : V} {p q : Pr} {ps qs : List Pr}
theorem EvP.mono (e : Ex G G') (h : EvP te σ G p) : EvP te σ G' p := fun H1 a Q k => h H1 (e.trans a) Q fun v H2 G2 f hv =>
  k v H2 _ (f.beside e a).1 (p.up (f.beside e a).2 hv)
theorem EvPs.mono {ta : TA} (e : Ex G G') (h : EvPs ta σ G ps) : EvPs ta σ G' ps := fun H1 a Q k => h H1 (e.trans a) Q fun v H2 G2 f hv =>
  k v H2 _ (f.beside e a).1 (hv.up (f.beside e a).2)
theorem EvP.imp (h : EvP te σ G p) (e : ∀ G v, p.on G v → q.on G v) : EvP te σ G q := fun H1 a Q k => h H1 a Q fun v H2 G2 f hv => k v H2 G2 f (e G2 v hv)
end
end OP
namespace OP
open PySem PySem.Spec PyProof.Rows L2 Evl
variable {K : PySem.W.Frag}
section
variable {σ : L2.St} {G G' H H' : Hp} {ta tb te tx ts tl : TE} {t u : TT} {x y z v : V} {p q : Pr} {ps qs : List Pr} {j : Nat} {vs : List Nat}
/-- the list that grows: not known, made of what is known -/
def Cp (G H : Hp) (D : Addr) (ps : List Pr) (H' : Hp) : Prop := ∃ G' xs, Fr G H G' H' ∧ H D = none ∧ G' D = none ∧ H' D = some (.lst xs) ∧ Al G' ps xs
theorem Cp.ini {D : Addr} (e : Ex G H) (hD : H D = none) : Cp G H D [] (upd H D (.lst [])) := ⟨G, [], Fr.same e (Ex.new hD), hD, fresh_back e hD, upd_same, trivial⟩
theorem Cp.done {D : Addr} (h : Cp G H D ps H') {Q : VK} (k : ∀ p xs H2 G2, Fr G H G2 H2 → H p = none → G2 p = none → H2 p = some (.lst xs) → Al G2 ps xs → Q (.ref p) H2) : Q (.ref D) H' := by
  obtain ⟨G', xs, f, h1, h2, h3, h4⟩ := h
  exact k D xs H' G' f h1 h2 h3 h4
theorem Al.nil : ∀ {xs : List V}, Al G [] xs → xs = []
  | [], _ => rfl
  | _ :: _, h => h.elim
theorem Al.uncons : ∀ {xs : List V}, Al G (p :: ps) xs → ∃ x r, xs = x :: r ∧ p.on G x ∧ Al G ps r
  | [], h => h.elim
  | x :: r, h => ⟨x, r, rfl, h.1, h.2⟩
theorem Al.one {xs : List V} (h : Al G [p] xs) : ∃ x, xs = [x] ∧ p.on G x := by
  obtain ⟨x, r, rfl, h1, h2⟩ := h.uncons
  obtain rfl := Al.nil h2
  exact ⟨x, rfl, h1⟩
theorem Al.two {xs : List V} (h : Al G [p, q] xs) : ∃ x y, xs = [x, y] ∧ p.on G x ∧ q.on G y := by
  obtain ⟨x, r, rfl, h1, h2⟩ := h.uncons
  obtain ⟨y, rfl, h3⟩ := h2.one
  exact ⟨x, y, rfl, h1, h3⟩
end
end OP
namespace OP
open PySem PySem.Spec PyProof.Rows L2 Evl
variable {K : PySem.W.Frag}
section
variable {σ : L2.St} {G G' H H' : Hp} {ta tb te tx ts tl : TE} {t u : TT} {x y z v : V} {p q : Pr} {ps qs : List Pr} {i j : Nat} {vs : List Nat} {D : Ends} {tu tz : TS} {E : XK}
/-- a list of our own, made since (G, H), that may still grow -/
structure Cq (G H : Hp) (a : Addr) (ps : List Pr) (G' H' : Hp) : Prop where
  f : Fr G H G' H'
  new : H a = none
  out : G' a = none
  at_ : ∃ xs, H' a = some (.lst xs) ∧ Al G' ps xs
theorem Cq.of {a : Addr} {xs : List V} (f : Fr G H G' H') (h1 : H a = none) (h2 : G' a = none) (h3 : H' a = some (.lst xs)) (h4 : Al G' ps xs) : Cq G H a ps G' H' := ⟨f, h1, h2, xs, h3, h4⟩
theorem Cq.go {a : Addr} {G2 H2 : Hp} (c : Cq G H a ps G' H') (f : Fr G' H' G2 H2) : Cq G H a ps G2 H2 := by
  obtain ⟨f1, h1, h2, xs, h3, h4⟩ := c
  exact ⟨f1.trans f, h1, f.n a h2 (by rw [h3]; exact fun c => nomatch c), xs, f.h a _ h3, h4.up f.g⟩
theorem Cq.k {a : Addr} (c : Cq G H a ps G' H') : Ex G' H' := c.f.k
/-- behind a turn: what is known has grown, the invariant holds -/
def Nx (Gb : Hp) (Pv : L2.St → Hp → Hp → Prop) : L2.St → Hp → Prop := fun σ H => ∃ G, Ex Gb G ∧ Ex G H ∧ Pv σ G H
end
end OP
namespace OP
open PySem PySem.Spec PyProof.Rows L2 Evl
/-- instances of the class at C: what isinstance asks -/
structure InsT (K : PySem.W.Frag) (C : Addr) : Prop where
  ha : PySem.W.findIn K (.ref C) "__class__" = some (some (.builtin "object.__class__"))
  hn : PySem.W.specialIn K (.builtin "object.__class__") "__get__" = some (some (.builtin "getset_descriptor.__get__"))
  htk : PySem.W.takesIn K (.builtin "object.__class__") = some true
  hm : PySem.W.mroIn K C (.type "object") = some true
section
variable {K : PySem.W.Frag} {σ : L2.St} {G G' H H' : Hp} {ta tb te tx ts tl : TE} {t u : TT} {x y z v : V} {p q : Pr} {ps qs : List Pr} {i j : Nat} {vs : List Nat} {D : Ends} {tu tz : TS} {E : XK}
theorem TyX.up {v : V} {t : Value} (e : Ex G G') (h : TyX K G v t) : TyX K G' v t := by
  have h1 := TyZ.mono e (.x h)
  cases h1 with
  | x h => exact h
  | exc T e1 e2 =>
    cases h with
    | base b => cases b with
      | ins e3 => 
        have := e _ _ e3
        rw [e1] at this
        cases this
end
end OP
namespace OP
open PySem PySem.Spec PyProof.Rows L2 Evl
end OP
namespace OP
open PySem PySem.Spec PyProof.Rows L2 Evl
end OP
namespace OP
open PySem PySem.Spec PyProof.Rows L2 Evl
/-- all is known as G, the box stands at b with k draws left -/
structure Wb (b : Addr) (G H : Hp) (k : Nat) : Prop where
  e : Ex G H
  o : G b = none
  bx : ∃ n, BoxAt H b n ∧ n + k ≤ 1000000000
structure Fb (b : Addr) (G H G2 H2 : Hp) : Prop where
  g : Ex G G2
  h : Eb b H H2
  k : Ex G2 H2
  n : ∀ a, G a = none → H a ≠ none → G2 a = none
theorem ne_upb {b : Addr} {H H' : Hp} {a : Addr} (e : Eb b H H') (hb : H' b ≠ none) (h : H a ≠ none) : H' a ≠ none := by
  by_cases c : a = b
  · rw [c]
    exact hb
  · cases q : H a with
    | none => exact absurd q h
    | some o => rw [e a o c q]; exact fun h => nomatch h
theorem BoxAt.ne {H : Hp} {b : Addr} {n : Nat} (h : BoxAt H b n) : H b ≠ none := by
  obtain ⟨o, h, _⟩ := h
  rw [h]
  exact fun c => nomatch c
theorem Wb.ne {b : Addr} {G H : Hp} {k : Nat} (w : Wb b G H k) : H b ≠ none := by
  obtain ⟨n, h, _⟩ := w.bx
  exact h.ne
theorem Fb.trans {b : Addr} {G H G2 H2 G3 H3 : Hp} (a : Fb b G H G2 H2) (c : Fb b G2 H2 G3 H3) (hb : H2 b ≠ none) : Fb b G H G3 H3 :=
  ⟨a.g.trans c.g, a.h.trans c.h, c.k, fun x h1 h2 => c.n x (a.n x h1 h2) (ne_upb a.h hb h2)⟩
theorem Wb.go {b : Addr} {G H G2 H2 : Hp} {k : Nat} (w : Wb b G H k) (f : Fr G H G2 H2) : Wb b G2 H2 k := by
  obtain ⟨n, h, hk⟩ := w.bx
  exact ⟨f.k, f.n b w.o h.ne, n, h.ex f.h, hk⟩
section
variable {K : PySem.W.Frag} {σ : L2.St} {G G' H H' : Hp} {ta tb te tx ts tl : TE} {t u : TT} {x y z v : V} {p q : Pr} {ps qs : List Pr} {i j k : Nat} {vs : List Nat} {D : Ends} {tu tz : TS} {E : XK} {b : Addr}
/-- one by one -/
def F2 {α β : Type} (R : α → β → Prop) (l : List α) (ys : List β) : Prop := ys.length = l.length ∧ ∀ (i : Nat) (a : α) (y : β), l[i]? = some a → ys[i]? = some y → R a y
theorem F2.mem {α β : Type} {R : α → β → Prop} {l : List α} {ys : List β} (h : F2 R l ys) {y : β} (hy : y ∈ ys) : ∃ a ∈ l, R a y := by
  obtain ⟨i, hi⟩ := List.mem_iff_getElem?.mp hy
  have hl := (List.getElem?_eq_some_iff.mp hi).1
  have h2 : i < l.length := by rw [← h.1]; exact hl
  exact ⟨l[i], List.getElem_mem _, h.2 i _ y (List.getElem?_eq_getElem h2) hi⟩
end
end OP
namespace OP
open PySem PySem.Spec PyProof.Rows L2 Evl
end OP
namespace OP
open PySem PySem.Spec PyProof.Rows L2 Evl
end OP
namespace OP
open PySem PySem.Spec PyProof.Rows L2 Evl
end OP
namespace DN
open PySem PySem.Spec PyProof.Rows L2 OP
/-- room, and, if b, no repr is under way -/
structure RoomG (b : Bool) (k : Nat) (A : Around) : Prop extends Room k A where
  gd : b = true → A.guards = some []
section
variable {b : Bool} {j k : Nat} {A : Around}
theorem RoomG.mono (r : RoomG b k A) (h : j ≤ k) : RoomG b j A := ⟨r.toRoom.mono h, r.gd⟩
theorem RoomG.deeper (r : RoomG b (k + 1) A) (env : PySem.Env) : RoomG b k (A.deeper env) := ⟨r.toRoom.deeper env, r.gd⟩
theorem RoomG.in1 (r : RoomG b (k + 1) A) : RoomG b k A.in1 := ⟨r.toRoom.in1, r.gd⟩
theorem RoomG.make (r : RoomG b (k + 1) A) (C : Addr) (us : List Value) (kw : List (Str × Value)) : RoomG b k (A.under (.builtin "type.__call__" ⟨.ref C :: us, kw⟩)) :=
  ⟨r.toRoom.make C us kw, by
    have e : (A.under (.builtin "type.__call__" ⟨.ref C :: us, kw⟩)).guards = A.guards := by
      first
      | rfl
      | (cases q : A.guards <;> simp [Around.under, Code.guards, Code.isGuard, guardIds, pushGuards, q])
    rw [e]
    exact r.gd⟩
end
/-- what a def promises where no repr is under way -/
structure FnG (b : Bool) (P : Program) (w : World) (K : PySem.W.Frag) (mg : Str → Option Value) (base : Heap) (CX : CXT) (k : Nat) (f : Addr) (fd : FuncData) (ps : List Str) (sp : Sp) : Prop where
  len : ∀ vs H Q E, sp vs H Q E → vs.length = ps.length
  run : ∀ (A : Around) (outer : List PySem.Env) (s : Shared) (H : Hp) (args : Args) (us : List Value) (vs : List V) (Q : VK) (E : XK), RoomG b k A → Env0 P w K mg base A outer s H → BindsTo s fd args (ps.zip us) → Vals vs us → sp vs H Q E →
    codeAny (model P w) A (.call (.ref f) args) (CR CX outer P w H s Q E) s
section
variable {b : Bool} {P : Program} {w : World} {K : PySem.W.Frag} {mg : Str → Option Value} {base : Heap} {CX : CXT} {j k : Nat} {f : Addr} {fd : FuncData} {ps : List Str} {sp sp' : Sp}
theorem FnG.mono (F : FnG b P w K mg base CX j f fd ps sp) (h : j ≤ k) : FnG b P w K mg base CX k f fd ps sp := ⟨F.len, fun A o s H args us vs Q E r => F.run A o s H args us vs Q E (r.mono h)⟩
theorem FnG.imp (F : FnG b P w K mg base CX k f fd ps sp) (h : ∀ vs H Q E, sp' vs H Q E → sp vs H Q E) : FnG b P w K mg base CX k f fd ps sp' :=
  ⟨fun vs H Q E q => F.len vs H Q E (h _ _ _ _ q), fun A o s H args us vs Q E r e b v q => F.run A o s H args us vs Q E r e b v (h _ _ _ _ q)⟩
theorem _root_.L2.FnOk.g (F : FnOk P w K mg base CX k f fd ps sp) : FnG b P w K mg base CX k f fd ps sp := ⟨F.len, fun A o s H args us vs Q E r => F.run A o s H args us vs Q E r.toRoom⟩
theorem FnG.ok (F : FnG false P w K mg base CX k f fd ps sp) : FnOk P w K mg base CX k f fd ps sp := ⟨F.len, fun A o s H args us vs Q E r => F.run A o s H args us vs Q E ⟨r, fun h => nomatch h⟩⟩
/-- a def by its body -/
theorem fn_ofG {name qual : Str} {params : Arguments} {body : List Stmt} {scope : Scope} {dV kV doc pm cdv ct oc : Value} {an od : Option Addr} {osl : Array (Option Value)} {N : List Str}
    (lk : K.lookup f = some ⟨oc, od, .func (PySem.W.fnOf name qual params body scope dV kV doc pm an cdv ct), osl⟩) (hcd : PySem.W.codeIn K cdv qual = true) (S : FnScope N ps scope) (len : ∀ vs H Q E, sp vs H Q E → vs.length = ps.length)
    (hbody : ∀ (A : Around) (outer : List PySem.Env) (s : Shared) (H : Hp) (vs : List V) (Q : VK) (E : XK), RoomG b k (A.deeper (envOfC qual scope s.heap.objs.size f cdv)) → sp vs H Q E →
      ∃ t, PSs (cxOf CX P w K mg base N qual scope f cdv A outer s H E) body t ∧ t { nx := fun _ H' => Q .non H', rt := Q } (L2.start N vs) H) :
    FnG b P w K mg base CX (k + 1) f (PySem.W.fnOf name qual params body scope dV kV doc pm an cdv ct) ps sp := by
  constructor
  · exact len
  intro A outer s H args us vs Q E hr env0 hb rv hsp
  have n1 := len _ _ _ _ hsp
  have keep : ∀ b o, base.get? b = some o → s.heap.get? b = some o := fun b o e => (env0.bs b o e).1
  have kx : K.In s.heap := env0.mod.kin.keeps keep
  have nl : s.heap.NoLimit := env0.mod.nolimit.keeps keep
  have kinds : ∀ y ∈ ps.zip us, scope.names.lookup y.1 = some .local ∨ (scope.names.lookup y.1 = some .cell ∧ ((cellsFrom (s.heap.objs.size + 1) scope.names []).lookup y.1).isSome = true) := by
    intro ⟨n, v⟩ hy
    cases S.par n (List.of_mem_zip hy).1 with
    | inl q => exact .inl q
    | inr q => exact .inr ⟨q, PySem.W.cellsFrom_some _ _ _ (.inl q)⟩
  have hcr := PySem.W.codeRec_of kx hcd
  refine codeAny_call_function hr.toRoom.depth (kx _ _ lk) rfl S.co S.gen rfl hcr (hb _ _ _ _ (wpAny_newFunctionEnv_cells S.kind kinds ?_))
  intro env he s1 x
  subst he
  constructor
  · exact nl.keeps x.toInCall.keep
  apply codeAny_func
  obtain ⟨t, ht, hq⟩ := hbody A outer s H vs Q E (hr.deeper _) hsp
  have inv : Inv (cxOf CX P w K mg base N qual scope f cdv A outer s H E) [] (L2.start N vs) H s1 := inv_start S hr.toRoom.hd env0 n1 rv x
  have done : ∀ {σ2 : L2.St} {H2 : Hp} {v : V} {u : Value} {s2 : Shared}, Inv (cxOf CX P w K mg base N qual scope f cdv A outer s H E) [] σ2 H2 s2 → RelV v u → Q v H2 → CE outer P w H s Q u s2 := by
    intro σ2 H2 v u s2 J r1 q1
    exact ⟨v, H2, J.os, J.bare, J.base, J.hok, r1, q1⟩
  apply wpAny_mono (ht.run [] s1 (L2.start N vs) H _ inv hq)
  · intro fl s2 hs
    cases fl with
    | next =>
      obtain ⟨_, _, J, q1⟩ := hs
      exact done (v := V.non) (u := Value.none) J rfl q1
    | ret u =>
      obtain ⟨_, _, _, J, r1, q1⟩ := hs
      exact done J r1 q1
    | brk => obtain ⟨_, _, _, q1⟩ := hs; exact q1.elim
    | cont => obtain ⟨_, _, _, q1⟩ := hs; exact q1.elim
  · exact fun _ _ h => h
end
section
variable {b : Bool} {X : Cx} {CX : CXT} {k n : Nat} {f C : Addr} {fd : FuncData} {ps : List Str} {sp : Sp} {dvs : List V} {ds : List Value} {E : XK} {pins : List (Addr × Obj)} {σ : L2.St} {H : Hp} {s : Shared} {Q : VK} {us : List Value} {vs : List V} {A' : Around}
/-- the callee runs, under A' -/
theorem code_at (F : FnG b X.prog X.w X.K X.mg X.base CX k f fd ps sp) (hr : RoomG b k A') (e0 : Env0 X.prog X.w X.K X.mg X.base A' X.stack s H) (hb : Binds X.K fd ps ds) (hd : Vals dvs ds) (hx : PassesAt CX X σ E) (I : Inv X pins σ H s) (r : Vals vs us) (h : sp (vs ++ dvs) H Q E) :
    codeAny (model X.prog X.w) A' (.call (.ref f) ⟨us, []⟩) (fun r s' => match r with
      | .ok (.ret u) => EP X pins σ Q u s'
      | .ok _ => False
      | .error e => X.xe e s') s := by
  have rr : Vals (vs ++ dvs) (us ++ ds) := r.append hd
  have n1 : (us ++ ds).length = ps.length := (rr.length).symm.trans (F.len _ _ _ _ h)
  apply codeAny_mono (F.run A' X.stack s H ⟨us, []⟩ (us ++ ds) (vs ++ dvs) Q E hr e0 (hb s us I.kIn n1) rr h)
  intro r s2 hq
  cases r with
  | error e => exact hx pins H s e s2 I hq
  | ok fl =>
    cases fl with
    | ret u => exact I.after hq
    | next => exact hq.elim
    | brk => exact hq.elim
    | cont => exact hq.elim
theorem run_at (F : FnG b X.prog X.w X.K X.mg X.base CX k f fd ps sp) (hr : RoomG b k A') (e0 : Env0 X.prog X.w X.K X.mg X.base A' X.stack s H) (hb : Binds X.K fd ps ds) (hd : Vals dvs ds) (hx : PassesAt CX X σ E) (I : Inv X pins σ H s) (r : Vals vs us) (h : sp (vs ++ dvs) H Q E) :
    wpAny (model X.prog X.w) A' (call (.ref f) us) (EP X pins σ Q) X.xe s := by
  apply wpAny_call
  apply codeAny_mono (code_at F hr e0 hb hd hx I r h)
  intro r s2 hq
  cases r with
  | error e => exact hq
  | ok fl => cases fl <;> exact hq
theorem passesAt {X : Cx} {CX : CXT} {E : XK} (h : Passes CX X E) (σ : L2.St) : PassesAt CX X σ E := fun pins H s e s' I c => h pins σ H s e s' I c
theorem run_fnG (F : FnG b X.prog X.w X.K X.mg X.base CX k f fd ps sp) (hr : RoomG b k X.A) (hb : Binds X.K fd ps ds) (hd : Vals dvs ds) (hx : PassesAt CX X σ E) (I : Inv X pins σ H s) (r : Vals vs us) (h : sp (vs ++ dvs) H Q E) :
    wpAny (model X.prog X.w) X.A (call (.ref f) us) (EP X pins σ Q) X.xe s := run_at F hr I.env0 hb hd hx I r h
/-- f(..) -/
theorem pe_callG {x : Str} {p pos : Pos} {e : Expr} {es : List Expr} {t : TA} {E : L2.St → XK} (F : FnG b X.prog X.w X.K X.mg X.base CX k f fd ps sp) (hr : RoomG b k X.A) (hg : Gl X x) (hm : X.mg x = some (.ref f)) (hk : PySem.W.keepIn X.K (.ref f) = true) (hb : Binds X.K fd ps ds) (hd : Vals dvs ds) (hx : ∀ σ, PassesAt CX X σ (E σ))
    (ha : PA X (e :: es) t) (hdb : (x == ("__debug__" : Str)) = false := by decide) (he : starEach (e :: es) X.env = (false, eval e X.env) :: starEach es X.env := by rfl) (hpl : (backTo pos (starEach es X.env)).any (·.1) = false := by rfl) :
    PE X (.Call (.Name x p) (e :: es) [] pos) (tCallSD sp dvs E t) := by
  constructor
  intro pins s σ H Q I h
  apply wpAny_Call_Name_kw (ld_glob I hg hm _ hdb)
  apply PySem.W.callWith_K (h₀ := X.base) I.ok.mod.kin hk _ he hpl
  exact thn (ha.run pos pins s σ H _ I h) fun us s1 ⟨vs, H1, I1, r, q⟩ => ⟨I1.kIn, run_fnG F hr hb hd (hx σ) I1 r q⟩
end
section
variable {P : Program} {w : World} {K : PySem.W.Frag} {mg mb : Str → Option Value} {CX : CXT} {k : Nat} {fa a : Addr} {fd : FuncData} {x : Str} {sp : Sp} {s₁ : Shared} {vs : List Value} {ns : List Int}
abbrev LawEnd (s₁ : Shared) (r : Result) (s' : Shared) : Prop := r = .ok (.ret (.bool true)) ∧ OldK s₁.heap s'.heap ∧ s'.os = s₁.os ∧ AllBare s'.gens
theorem lawG_core (KX : K.In s₁.heap) (hns : s₁.heap.Ns mainGlobals mg) (hb : s₁.heap.Ns builtinsNs mb) (hbb : ∀ x : Str, x ≠ "__name__" → mb x = bootBuiltins x) (hlim : s₁.heap.NoLimit) (hg : s₁.gens = #[])
    (ha : s₁.heap.get? a = some { cls := .type "list", data := .seq vs.toArray }) (hr : RoomG true k callerA)
    (F : ∀ base : Heap, K.In base → base.Ns mainGlobals mg → (∀ (a : Addr) (m : Str → Option Value), s₁.heap.Ns a m → base.Ns a m) → FnG true P w K mg base CX k fa fd [x] sp) (hbind : ∀ (s : Shared) (u : Value), BindsTo s fd ⟨[u], []⟩ [(x, u)])
    (hCX : ∀ H e s', CX [] H s₁ (fun _ _ _ => False) e s' → False) (H : Hp) (only : Only H) (hsp : sp [.ref a] H (fun v _ => v = .bl true) fun _ _ _ => False) (hok : HOk P w H s₁.heap) (hA : ∀ b, H b ≠ none → b = a) (hK : H a ≠ none → K.lookup a = none) :
    codeAny (model P w) callerA (.call (.ref fa) ⟨[.ref a], []⟩) (LawEnd s₁) s₁ := by
  have is_a : ∀ {b : Addr} {u : HO}, H b = some u → b = a := fun {b u} q => hA b (by rw [q]; exact fun z => nomatch z)
  have none_at : ∀ {b : Addr} {o : Obj} {es : Array DictEntry} {ep : Nat}, s₁.heap.get? b = some o → o.data = .dict es ep → H b = none := by
    intro b o es ep e d
    cases q : H b with
    | none => rfl
    | some u =>
      have e1 := is_a q
      rw [e1, ha] at e
      rw [← Option.some.inj e] at d
      cases d
  have ns_hid : ∀ {b : Addr} {m : Str → Option Value}, s₁.heap.Ns b m → (hidT s₁.heap H).Ns b m := by
    intro b m z
    obtain ⟨o, es, ep, e, d, rest⟩ := z
    exact ⟨o, es, ep, hidT_get e (none_at e d), d, rest⟩
  have k_hid : K.In (hidT s₁.heap H) := by
    intro b o e
    apply hidT_get (KX b o e)
    cases q : H b with
    | none => rfl
    | some u =>
      have e1 := is_a q
      rw [e1] at e q
      rw [hK (by rw [q]; exact fun z => nomatch z)] at e
      cases e
  have lim : (hidT s₁.heap H).NoLimit := by
    obtain ⟨mc, z1, z2⟩ := hlim
    exact ⟨mc, ns_hid z1, z2⟩
  have start : Env0 P w K mg (hidT s₁.heap H) callerA [] s₁ H := {
    frames := rfl
    mod := ⟨k_hid, ns_hid hns, ⟨mb, ns_hid hb, hbb⟩, lim⟩
    bs := fun b o e => of_hidT e
    bsz := Nat.le_of_eq (hidT_size _ _)
    funs := trivial
    frf := fun b z => absurd (show b ∈ ([] : List Addr) from z) (by simp)
    hok := hok
    bare := .of_eq hg }
  apply codeAny_mono ((F _ k_hid (ns_hid hns) fun a m z => ns_hid z).run callerA [] s₁ H ⟨[.ref a], []⟩ [.ref a] [.ref a] _ _ hr start (hbind s₁ (.ref a)) (.cons rfl .nil) hsp)
  intro r s2 h
  cases r with
  | error e => exact (hCX H e s2 h).elim
  | ok fl =>
    cases fl with
    | next => exact h.elim
    | brk => exact h.elim
    | cont => exact h.elim
    | ret u =>
      obtain ⟨v, H2, os, bare, un, hok2, rv, q⟩ := h
      obtain rfl : v = .bl true := q
      obtain rfl : u = Value.bool true := rv
      refine ⟨rfl, OldK.of_keep ?_, os, bare⟩
      intro b o e
      cases q : H b with
      | none => exact un.keep b o e q (fun z => absurd (show b ∈ ([] : List Addr) from z) (by simp)) (by simp)
      | some u =>
        cases only b with
        | inl z => rw [q] at z; cases z
        | inr z =>
          obtain ⟨ob, xs, z⟩ := z
          obtain ⟨e1, _⟩ := hok b _ z
          obtain ⟨e2, _⟩ := hok2 b _ (un.frzs b ob _ z)
          have e3 := e1.symm.trans e
          rw [← Option.some.inj e3]
          exact e2
theorem lawG_call (KX : K.In s₁.heap) (hns : s₁.heap.Ns mainGlobals mg) (hb : s₁.heap.Ns builtinsNs mb) (hbb : ∀ x : Str, x ≠ "__name__" → mb x = bootBuiltins x) (hlim : s₁.heap.NoLimit) (hg : s₁.gens = #[])
    (ha : s₁.heap.get? a = some { cls := .type "list", data := .seq vs.toArray }) (hi : IntsAre vs ns) (hl : ns.length ≤ sizeLine) (hr : RoomG true k callerA)
    (F : ∀ base : Heap, K.In base → base.Ns mainGlobals mg → (∀ (a : Addr) (m : Str → Option Value), s₁.heap.Ns a m → base.Ns a m) → FnG true P w K mg base CX k fa fd [x] sp) (hbind : ∀ (s : Shared) (u : Value), BindsTo s fd ⟨[u], []⟩ [(x, u)])
    (hsp : ∀ H : Hp, Only H → SqL K H a (ns.map V.int) → sp [.ref a] H (fun v _ => v = .bl true) fun _ _ _ => False) (hCX : ∀ H e s', CX [] H s₁ (fun _ _ _ => False) e s' → False) :
    codeAny (model P w) callerA (.call (.ref fa) ⟨[.ref a], []⟩) (LawEnd s₁) s₁ := by
  have rv := vals_ints hi
  have core := lawG_core KX hns hb hbb hlim hg ha hr F hbind hCX
  cases hk : K.lookup a with
  | some o =>
    have e := KX a o hk
    rw [ha] at e
    have eo := Option.some.inj e
    rw [← eo] at hk
    have on0 : Only fun _ => none := fun _ => .inl rfl
    have sq : SqL K (fun _ => none) a (ns.map V.int) := .inr ⟨_, vs.toArray, _, hk, rfl, rfl, rfl, by rw [List.size_toArray, hi.length]; exact hl, by simpa using rv⟩
    exact core _ on0 (hsp _ on0 sq) (fun b u z => nomatch (show (none : Option HO) = some u from z)) (fun b z => absurd rfl z) fun z => absurd rfl z
  | none =>
    let H1 : Hp := fun b => if b = a then some (.frz { cls := .type "list", data := .seq vs.toArray } (.lst (ns.map V.int))) else none
    have at_a : H1 a = some (.frz { cls := .type "list", data := .seq vs.toArray } (.lst (ns.map V.int))) := if_pos rfl
    have at_o : ∀ b, b ≠ a → H1 b = none := fun b h => if_neg h
    have on1 : Only H1 := fun b => by
      by_cases h : b = a
      · exact .inr ⟨_, _, by rw [h]; exact at_a⟩
      · exact .inl (at_o b h)
    have ok1 : HOk P w H1 s₁.heap := fun b u z => by
      by_cases h : b = a
      · rw [h, at_a] at z
        rw [h, ← Option.some.inj z]
        exact ⟨ha, by rw [List.length_map]; exact hl, vs, _, rv, ha⟩
      · rw [at_o b h] at z
        cases z
    exact core H1 on1 (hsp H1 on1 (.inl (.inr ⟨{ cls := .type "list", data := .seq vs.toArray }, at_a⟩))) ok1 (fun b z => Classical.byContradiction fun h => z (at_o b h)) fun _ => hk
end
theorem walk_ofG {l : PySem.W.OpenLaw} {n k : Nat} {q : Program} {loose : List Str} {XP : (Str → Option Value) → Heap → Prop} {YP : World → Heap → Prop} {d : DefRec} {CX : World → CXT} {x : Str} (hn : l.most = some n) (hn2 : n ≤ sizeLine) (hdf : d.params.defaults = []) (hr : RoomG true k callerA)
    (F : ∀ (w : World) (mg : Str → Option Value) (fa : Addr) (h : Heap), YP w h → h.Ns mainGlobals mg → mg d.name = some (.ref fa) → ∃ (K : PySem.W.Frag) (fd : FuncData) (sp : Sp), K.In h ∧ (∀ (s : Shared) (u : Value), BindsTo s fd ⟨[u], []⟩ [(x, u)]) ∧
      (∀ (H : Hp) (a : Addr) (ns : List Int), ns.length ≤ n → Only H → SqL K H a (ns.map V.int) → sp [.ref a] H (fun v _ => v = .bl true) fun _ _ _ => False) ∧ ∀ base : Heap, K.In base → base.Ns mainGlobals mg → FnG true l.prog w K mg base (CX w) k fa fd [x] sp)
    (hCX : ∀ (w : World) (H : Hp) (s : Shared) (e : Value) (s' : Shared), CX w [] H s (fun _ _ _ => False) e s' → False) : PySem.W.WalkO q loose XP YP l.row.toRowW d [] (fun f vs => PySem.call f vs) := by
  refine Att.attach_call hn hdf fun w s₀ s₁ mg mb fa o pm cd doc a vs ns G Y _ _ _ hmg hobj hints hlen hgens => ?_
  obtain ⟨K, fd, sp, KX, hb, hsp, hF⟩ := F w mg fa _ Y G.T.g hmg
  exact lawG_call KX G.T.g G.T.b G.T.builtins G.T.nolimit hgens hobj hints (Nat.le_trans hlen hn2) hr (fun base h1 h2 _ => hF base h1 h2) hb (fun H hO hS => hsp H a ns hlen hO hS) fun H e s' => hCX w H s₁ e s'
end DN
namespace DN
open PySem PySem.Spec PyProof.Rows L2
abbrev FnV : Type := Option (Str × Str × Arguments × FuncBody × Scope × Addr × List Str × Addr)
/-- a def: where it is found, what it is; clo: it has the cell of its class -/
structure FnX where
  at_ : PySem.W.Frag → Addr
  name : Str
  qual : Str
  params : Arguments
  body : List Stmt
  scope : Scope
  clo : List Str := []
def fnV (K : PySem.W.Frag) (a : Addr) : FnV := match K.lookup a with
  | some ⟨_, _, .func fd, _⟩ => some (fd.name, fd.qualname, fd.params, fd.body, fd.scope, fd.globals, fd.closure.map (·.1), fd.builtins)
  | _ => none
abbrev FnIs (K : PySem.W.Frag) (a : Addr) (name qual : Str) (params : Arguments) (body : List Stmt) (scope : Scope) (clo : List Str) : Prop := fnV K a = some (name, qual, params, .stmts body, scope, mainGlobals, clo, builtinsNs)
def FnX.val (d : FnX) : FnV := some (d.name, d.qual, d.params, .stmts d.body, d.scope, mainGlobals, d.clo, builtinsNs)
/-- what stands at a is a function whose parts satisfy p -/
def fnB (K : PySem.W.Frag) (a : Addr) (p : Value → FuncData → Bool) : Bool := match K.lookup a with
  | some ⟨c, _, .func fd, _⟩ => p c fd
  | _ => false
theorem fnB_ok {K : PySem.W.Frag} {a : Addr} {p : Value → FuncData → Bool} (h : fnB K a p = true) : ∃ c od fd sl, K.lookup a = some ⟨c, od, .func fd, sl⟩ ∧ p c fd = true := by
  unfold fnB at h
  cases q : K.lookup a with
  | none => rw [q] at h; cases h
  | some o =>
    obtain ⟨c, od, dt, sl⟩ := o
    rw [q] at h
    cases dt with
    | func fd => exact ⟨c, od, fd, sl, rfl, h⟩
    | _ => cases h
theorem fnX_ok {K : PySem.W.Frag} {a : Addr} {name qual : Str} {params : Arguments} {body : List Stmt} {scope : Scope} {clo : List Str} {p : Value → FuncData → Bool} (e : fnV K a = some (name, qual, params, .stmts body, scope, mainGlobals, clo, builtinsNs)) (h : fnB K a p = true) :
    ∃ (oc : Value) (od : Option Addr) (sl : Array (Option Value)) (cl : List (Str × Addr)) (dV kV dc pm : Value) (an : Option Addr) (cd ct : Value), cl.map (·.1) = clo ∧ K.lookup a = some ⟨oc, od, .func (PySem.W.fnX name qual params body scope cl dV kV dc pm an cd ct), sl⟩ ∧
      p oc (PySem.W.fnX name qual params body scope cl dV kV dc pm an cd ct) = true := by
  obtain ⟨c, od, fd, sl, q, hp⟩ := fnB_ok h
  unfold fnV at e
  rw [q] at e
  obtain ⟨n1, n2, n3, n4, n5, n6, n7, n8, n9, n10, n11, n12, n13, n14, n15⟩ := fd
  have e2 : (some (n1, n2, n3, n4, n5, n6, n7.map (·.1), n15) : FnV) = some (name, qual, params, .stmts body, scope, mainGlobals, clo, builtinsNs) := e
  simp only [Option.some.injEq, Prod.mk.injEq] at e2
  obtain ⟨h1, h2, h3, h4, h5, h6, h7, h8⟩ := e2
  subst h1 h2 h3 h4 h5 h6 h8
  exact ⟨c, od, sl, n7, n8, n9, n10, n11, n12, n13, n14, h7, q, hp⟩
/-- a def without defaults -/
def fn0B (K : PySem.W.Frag) (q : Str) (c : Value) (fd : FuncData) : Bool := PySem.W.codeIn K fd.code q && (decide (fd.defaults = .none) && decide (c = .type "function"))
theorem fn0_ok {K : PySem.W.Frag} {a : Addr} {name qual : Str} {params : Arguments} {body : List Stmt} {scope : Scope} (e : fnV K a = some (name, qual, params, .stmts body, scope, mainGlobals, [], builtinsNs)) (h : fnB K a (fn0B K qual) = true) :
    ∃ (oc : Value) (od : Option Addr) (sl : Array (Option Value)) (kV dc pm : Value) (an : Option Addr) (cd ct : Value), K.lookup a = some ⟨oc, od, .func (PySem.W.fnOf name qual params body scope .none kV dc pm an cd ct), sl⟩ ∧
      PySem.W.codeIn K cd qual = true ∧ oc = .type "function" := by
  obtain ⟨oc, od, sl, cl, dV, kV, dc, pm, an, cd, ct, hc, hl, hp⟩ := fnX_ok e h
  obtain rfl : cl = [] := List.map_eq_nil_iff.mp hc
  obtain ⟨h1, h2⟩ := He.ba hp
  obtain ⟨h2, h3⟩ := He.ba h2
  obtain rfl : dV = .none := of_decide_eq_true h2
  exact ⟨oc, od, sl, kV, dc, pm, an, cd, ct, hl, h1, of_decide_eq_true h3⟩
/-- a class: its namespace, what is above it, its __new__, whether its instances have a dict -/
def clsHd (K : PySem.W.Frag) (C : Addr) : Option (Addr × List Value × String × Bool) := match K.lookup C with
  | some ⟨.type t, _, .cls cd, sl⟩ => (match cd.mro, sl.toList with
    | .ref C' :: bm, [_, _, _, _, some (.builtin n), _] => (match decide (t = "type") && (decide (C' = C) && !cd.hasDel) with
      | true => some (cd.ns, bm, n, cd.hasDict)
      | false => none)
    | _, _ => none)
  | _ => none
theorem clsHd_ok {K : PySem.W.Frag} {C N : Addr} {bm : List Value} {n : String} {hd : Bool} (h : clsHd K C = some (N, bm, n, hd)) :
    ∃ nm q bs sn sub ab col dd k0 k1 k2 k3 k5, K.lookup C = some (excClassObj nm q C N bs bm hd sn sub ab col dd k0 k1 k2 k3 k5 n) := by
  unfold clsHd at h
  cases q : K.lookup C with
  | none => simp only [q] at h; cases h
  | some o =>
    obtain ⟨c, d, dt, sl⟩ := o
    simp only [q] at h
    cases c with
    | type t =>
      cases dt with
      | cls cd =>
        obtain ⟨nm, bs, mro, ns, qn, hdct, sn, sub, ab, col, del⟩ := cd
        obtain ⟨l⟩ := sl
        simp only at h
        match mro, l, h with
        | .ref C' :: bm', [k0, k1, k2, k3, some (.builtin n'), k5], h =>
          have h' : (match decide (t = "type") && (decide (C' = C) && !del) with
            | true => some (ns, bm', n', hdct)
            | false => none) = some (N, bm, n, hd) := h
          cases z : decide (t = "type") && (decide (C' = C) && !del) with
          | false => rw [z] at h'; cases h'
          | true =>
            rw [z] at h'
            cases h'
            obtain ⟨z1, z2⟩ := He.ba z
            obtain ⟨z2, z3⟩ := He.ba z2
            obtain rfl := of_decide_eq_true z1
            obtain rfl := of_decide_eq_true z2
            cases del with
            | true => cases z3
            | false => exact ⟨nm, qn, bs, sn, sub, ab, col, d, k0, k1, k2, k3, k5, rfl⟩
      | _ => cases h
    | _ => cases dt <;> cases h
abbrev AlZ : Type := (Bool × List FnV) × List (Option (List (Option (Str × Int))))
def obsZ (exs : PySem.W.Frag → List Bool) (fns : List FnX) (ts : List He.Tab) (K : PySem.W.Frag) : AlZ := (((exs K).all id, fns.map fun d => fnV K (d.at_ K)), ts.map fun t => He.dicW K (t.1 K))
def valZ (fns : List FnX) (ts : List He.Tab) (w : World) : AlZ := ((true, fns.map FnX.val), ts.map fun t => some (He.keysIn w.params t.2))
def SaysZ (exs : PySem.W.Frag → List Bool) (fns : List FnX) (ts : List He.Tab) (w : World) (K : PySem.W.Frag) : Prop := obsZ exs fns ts K = valZ fns ts w
def hd_refA (v : Value) : Addr := match v with
  | .ref a => a
  | _ => 0
def hd_isKey (x : Str) (e : DictEntry) : Bool := match e.key with
  | .str n _ => n == x
  | _ => false
def hd_gA (g : Addr → Option Obj) (x : Str) : Addr := match g mainGlobals with
  | some ⟨_, _, .dict es _, _⟩ => (match es.toList.find? (hd_isKey x) with
    | some e => hd_refA e.val
    | none => 0)
  | _ => 0
def hd_nsA (g : Addr → Option Obj) (C : Addr) : Addr := match g C with
  | some ⟨_, _, .cls cd, _⟩ => cd.ns
  | _ => 0
def hd_seqA (g : Addr → Option Obj) (T : Addr) : List Addr := T :: match g T with
  | some ⟨_, _, .seq its _, _⟩ => its.toList.flatMap He.refV
  | _ => []
/-- a function, its code, its defaults, its cells -/
def hd_fnA (g : Addr → Option Obj) (f : Addr) : List Addr := f :: match g f with
  | some ⟨_, _, .func fd, _⟩ => He.refV fd.code ++ ((He.refV fd.defaults).flatMap (hd_seqA g) ++ fd.closure.map (·.2))
  | _ => []
def hd_fnA2 (g : Addr → Option Obj) (f : Addr) : List Addr := match g f with
  | some ⟨_, _, .fields vs, _⟩ => f :: (vs.toList.flatMap He.refV).flatMap (hd_fnA g)
  | _ => hd_fnA g f
def hd_valsA (g : Addr → Option Obj) (N : Addr) : List Addr := match g N with
  | some ⟨_, _, .dict es _, _⟩ => es.toList.flatMap fun e => He.refV e.val
  | _ => []
/-- the globals, the classes cs, the methods of the classes ms, the functions fs, the things ks -/
def asZ (cs ms fs ks : List Str) (g : Addr → Option Obj) : List Addr :=
  mainGlobals :: cStatics :: sysModules :: ((cs.flatMap fun c => [hd_gA g c, hd_nsA g (hd_gA g c)]) ++ ((fs.flatMap fun x => hd_fnA g (hd_gA g x)) ++ ((ms.flatMap fun c => (hd_valsA g (hd_nsA g (hd_gA g c))).flatMap (hd_fnA2 g)) ++ ks.map (hd_gA g))))
def obsZG (A : (Addr → Option Obj) → List Addr) (exs : PySem.W.Frag → List Bool) (fns : List FnX) (ts : List He.Tab) (g : Addr → Option Obj) : AlZ := obsZ exs fns ts (He.frG g (A g))
def hookZ (A : (Addr → Option Obj) → List Addr) (exs : PySem.W.Frag → List Bool) (fns : List FnX) (ts : List He.Tab) : PySem.W.Hook where
  α := AlZ
  obs := fun s => obsZG A exs fns ts s.heap.get?
  val := fun w => valZ fns ts w
  says := fun w h => ∃ K : PySem.W.Frag, K.In h ∧ SaysZ exs fns ts w K
  of := fun _ _ e => ⟨_, He.frG_in, e⟩
  keeps := fun _ _ _ ⟨K, hK, c⟩ k => ⟨K, PySem.W.Frag.In.keeps hK k, c⟩
theorem obsZG_eq {A : (Addr → Option Obj) → List Addr} {exs : PySem.W.Frag → List Bool} {fns : List FnX} {ts : List He.Tab} {g : Addr → Option Obj} {s : Shared} (h : ∀ a, g a = s.heap.get? a) : obsZG A exs fns ts g = (hookZ A exs fns ts).obs s := by
  have e : g = s.heap.get? := funext h
  rw [e] <;> rfl
section
variable {exs : PySem.W.Frag → List Bool} {fns : List FnX} {ts : List He.Tab} {w : World} {K : PySem.W.Frag}
theorem SaysZ.all (c : SaysZ exs fns ts w K) : (exs K).all id = true := congrArg (fun z : AlZ => z.1.1) c
theorem SaysZ.b (c : SaysZ exs fns ts w K) (i : Nat) {b : Bool} (h : (exs K)[i]? = some b) : b = true := List.all_eq_true.mp c.all b (List.mem_of_getElem? h)
theorem SaysZ.fn (c : SaysZ exs fns ts w K) (i : Nat) {d : FnX} (h : fns[i]? = some d) : fnV K (d.at_ K) = d.val := by
  have e : fns.map (fun d => fnV K (d.at_ K)) = fns.map FnX.val := congrArg (fun z : AlZ => z.1.2) c
  have e2 : (fns.map fun d => fnV K (d.at_ K))[i]? = (fns.map FnX.val)[i]? := by rw [e]
  rw [List.getElem?_map, List.getElem?_map, h] at e2
  exact Option.some.inj e2
theorem SaysZ.tab (c : SaysZ exs fns ts w K) (i : Nat) {t : He.Tab} (h : ts[i]? = some t) : ∃ es n, K.lookup (t.1 K) = some ⟨.type "dict", none, .dict es n, #[]⟩ ∧ PySem.W.KeysLit w.params es.toList := by
  have e : ts.map (fun t => He.dicW K (t.1 K)) = ts.map fun t => some (He.keysIn w.params t.2) := congrArg (fun z : AlZ => z.2) c
  have e2 : (ts.map fun t => He.dicW K (t.1 K))[i]? = (ts.map fun t => some (He.keysIn w.params t.2))[i]? := by rw [e]
  rw [List.getElem?_map, List.getElem?_map, h] at e2
  obtain ⟨es, n, k1, k2, k3⟩ := He.dicW_ok (Option.some.inj e2)
  exact ⟨es, n, k1, k2⟩
end
def excB (K : PySem.W.Frag) (C : Addr) : Bool := match clsHd K C with
  | some (_, bm, n, hd) => decide (n = "ValueError.__new__") && (hd && PySem.HandSPX.refsVE bm)
  | none => false
theorem excB_ok {K : PySem.W.Frag} {C : Addr} (h : excB K C = true) : ∃ (nm q : Str) (N : Addr) (bs bm : List Value) (sn : List Str) (sub : List Value) (ab : Bool) (col : Option Bool) (dd : Option Addr) (k0 k1 k2 k3 k5 : Option Value),
    K.lookup C = some (excClassObj nm q C N bs bm true sn sub ab col dd k0 k1 k2 k3 k5 "ValueError.__new__") ∧ PySem.HandSPX.refsVE bm = true := by
  unfold excB at h
  cases q : clsHd K C with
  | none => rw [q] at h; cases h
  | some r =>
    obtain ⟨N, bm, n, hd⟩ := r
    rw [q] at h
    obtain ⟨h1, h2⟩ := He.ba h
    obtain ⟨h2, h3⟩ := He.ba h2
    obtain rfl : hd = true := h2
    obtain rfl := of_decide_eq_true h1
    obtain ⟨nm, qn, bs, sn, sub, ab, col, dd, k0, k1, k2, k3, k5, hl⟩ := clsHd_ok q
    exact ⟨nm, qn, N, bs, bm, sn, sub, ab, col, dd, k0, k1, k2, k3, k5, hl, h3⟩
def cellB (K : PySem.W.Frag) (D0 : Addr) (cl : List (Str × Addr)) : Bool := match cl with
  | [(_, cc)] => (match K.lookup cc with
    | some ⟨_, _, .cell (some (.ref d)), _⟩ => decide (d = D0)
    | _ => false)
  | _ => false
def fileB (P : Program) (K : PySem.W.Frag) (v : Value) : Bool := match v with
  | .ref c => (match K.lookup c with
    | some ⟨_, _, .fields vs, _⟩ => (match (vs[2]? : Option Value) with
      | some (Value.str f _) => (P.main.file : Str) == f
      | _ => false)
    | _ => false)
  | _ => false
def initB (P : Program) (K : PySem.W.Frag) (D0 : Addr) (_ : Value) (fd : FuncData) : Bool :=
  PySem.W.codeIn K fd.code "OpenpostsError.__init__" && (decide (fd.defaults = .none) && (cellB K D0 fd.closure && fileB P K fd.code))
theorem cellB_ok {K : PySem.W.Frag} {D0 : Addr} {cl : List (Str × Addr)} (h : cellB K D0 cl = true) : ∃ n cc c d sl, cl = [(n, cc)] ∧ K.lookup cc = some ⟨c, d, .cell (some (.ref D0)), sl⟩ := by
  cases cl with
  | nil => cases h
  | cons p r =>
    obtain ⟨n, cc⟩ := p
    cases r with
    | cons _ _ => cases h
    | nil =>
      unfold cellB at h
      cases q : K.lookup cc with
      | none => simp only [q] at h; cases h
      | some o =>
        obtain ⟨c, d, dt, sl⟩ := o
        simp only [q] at h
        cases dt with
        | cell v =>
          cases v with
          | none => cases h
          | some v =>
            cases v with
            | ref x =>
              have e : x = D0 := of_decide_eq_true h
              exact ⟨n, cc, c, d, sl, rfl, by rw [q, e]⟩
            | _ => cases h
        | _ => cases h
theorem fileB_ok {P : Program} {K : PySem.W.Frag} {v : Value} (h : fileB P K v = true) : ∃ c c1 d1 vs sl f t, v = .ref c ∧ K.lookup c = some ⟨c1, d1, .fields vs, sl⟩ ∧ vs[2]? = some (.str f t) ∧ ((P.main.file : Str) == f) = true := by
  cases v with
  | ref c =>
    unfold fileB at h
    cases q : K.lookup c with
    | none => simp only [q] at h; cases h
    | some o =>
      obtain ⟨c1, d, dt, sl⟩ := o
      simp only [q] at h
      cases dt with
      | fields vs =>
        simp only at h
        cases q2 : (vs[2]? : Option Value) with
        | none => rw [q2] at h; cases h
        | some x =>
          rw [q2] at h
          cases x with
          | str f t => exact ⟨c, c1, d, vs, sl, f, t, rfl, q, q2, h⟩
          | _ => cases h
      | _ => cases h
  | _ => cases h
theorem init_ok {P : Program} {K : PySem.W.Frag} {a D0 : Addr} {params : Arguments} {body : List Stmt} {scope : Scope} (e : fnV K a = (some (("__init__" : Str), ("OpenpostsError.__init__" : Str), params, FuncBody.stmts body, scope, mainGlobals, [("__class__" : Str)], builtinsNs) : FnV)) (h : fnB K a (initB P K D0) = true) :
    ∃ (cc cda : Addr) (ocI : Value) (odI : Option Addr) (slI : Array (Option Value)) (kVI dcI pmI : Value) (anI : Option Addr) (ctI cl0 : Value) (cld0 : Option Addr) (csl0 : Array (Option Value)) (ccl0 : Value) (cdd0 : Option Addr) (cvs0 : Array Value) (ccs0 : Array (Option Value)) (file0 : Str) (tf0 : Tok),
      K.lookup a = some ⟨ocI, odI, .func (PySem.W.ksFn "__init__" "OpenpostsError.__init__" params body scope .none kVI dcI pmI anI (.ref cda) ctI cc), slI⟩ ∧ PySem.W.codeIn K (.ref cda) "OpenpostsError.__init__" = true ∧
      K.lookup cc = some ⟨cl0, cld0, .cell (some (.ref D0)), csl0⟩ ∧ K.lookup cda = some ⟨ccl0, cdd0, .fields cvs0, ccs0⟩ ∧ cvs0[2]? = some (.str file0 tf0) ∧ ((P.main.file : Str) == file0) = true := by
  obtain ⟨oc, od, sl, cl, dV, kV, dc, pm, an, cd, ct, hc, hl, hp⟩ := fnX_ok e h
  obtain ⟨h1, h2⟩ := He.ba hp
  obtain ⟨h2, h3⟩ := He.ba h2
  obtain ⟨h3, h4⟩ := He.ba h3
  obtain rfl : dV = .none := of_decide_eq_true h2
  obtain ⟨n, cc, c, d, s2, rfl, k1⟩ := cellB_ok h3
  obtain ⟨cda, c1, d1, vs, s3, f, t, rfl, k2, k3, k4⟩ := fileB_ok h4
  have hn : [n] = [("__class__" : Str)] := hc
  cases hn
  exact ⟨cc, cda, oc, od, sl, kV, dc, pm, an, ct, c, d, s2, c1, d1, vs, s3, f, t, hl, h1, k1, k2, k3, k4⟩
theorem an2 {p : Prop} [Decidable p] {b : Bool} (h : (decide p && b) = true) : p ∧ b = true := by
  obtain ⟨h1, h2⟩ := He.ba h
  exact ⟨of_decide_eq_true h1, h2⟩
end DN
namespace DN
open PySem PySem.Spec PyProof.Rows L2 OP
abbrev Takes (X : Cx) (W : WX) : Prop := L2N.Takes X W
section
variable {X : Cx} {W : WX} {E : XK}
theorem passAt (tk : Takes X W) (σ : L2.St) : PassesAt (L2N.CX X.prog X.w) X σ (WE W σ) := L2N.passAt tk σ
theorem takes_of (h1 : X.stack = X.env :: X.outer) (h2 : X.env.frame = some X.env.locals) (h3 : X.ex = []) {E₁ : Value → Shared → Prop}
    (h4 : X.xe = fun e s' => wpAny (model X.prog X.w) X.A (leaving X.env e) (fun _ t => L2N.CX X.prog X.w X.outer X.H_0 X.s_0 E e t) E₁ s') : Takes X (fun cls d _ H => E cls d H) := L2N.takes_of h1 h2 h3 h4
theorem passes_call (tk : Takes X W) (h : ∀ cls d σ H, E cls d H → W cls d σ H) : Passes (L2N.CX X.prog X.w) X E := L2N.passes_call tk h
end
section
variable {X : Cx} {pins : List (Addr × Obj)} {σ : L2.St} {H1 H2 : Hp} {Q : XK} {a C d : Addr} {fs : List (Str × V)} {e : Expr} {es : List Expr} {ta : TA} {p pos : Pos}
/-- an error with an own __init__ is made: its context is None -/
theorem pmk_oexN {CX : CXT} {x : Str} {fI : Addr} {k : Nat} {fd : FuncData} {ps : List Str} {sp : Sp} {ds : List Value} {dvs : List V} (T : OexC X.K C)
    (iC : PySem.W.findIn X.K (.ref C) "__init__" = some (some (.ref fI)))
    (tI : PySem.W.typeIn X.K (.ref fI) = some (.type "function"))
    (F1 : FnOk X.prog X.w X.K X.mg X.base CX k fI fd ps sp) (hr : Room (k + 1) X.A) (hb : Binds X.K fd ps ds) (hd : Vals dvs ds)
    (hx : Passes CX X (fun _ _ _ => False)) (hg : Gl X x) (hm : X.mg x = some (.ref C)) (ha : PA X (e :: es) ta)
    (hdb : (x == ("__debug__" : Str)) = false := by decide)
    (he : starEach (e :: es) X.env = (false, eval e X.env) :: starEach es X.env := by rfl)
    (hpl : (backTo pos (starEach es X.env)).any (·.1) = false := by rfl) :
    L2N.PMk X (.Call (.Name x p) (e :: es) [] pos) (tMkO C sp dvs ta) := by
  intro pins s σ H Q I h
  obtain ⟨_, _, _, _, bm, _, _, _, _, _, _, _, _, _, _, clsAt, bmAt⟩ := T.cls
  apply wpAny_Call_Name_kw (ld_glob I hg hm _ hdb)
  apply PySem.W.callWith_K (h₀ := X.base) I.ok.mod.kin T.kC _ he hpl
  apply thn (ha.run pos pins s σ H _ I h)
  rintro us ⟨hp, g, dr, tk, os⟩ ⟨vs, H1, J1, rv, hz, q1⟩
  refine ⟨J1.kIn, ?_⟩
  show wpAny _ _ (call (.ref C) us) _ _ _
  have up1 : hp.objs.size ≤ hp.objs.size + 1 := Nat.le_succ _
  have new1 : H1 (hp.objs.size + 1) = none := J1.hok.fresh up1
  have want := q1 (hp.objs.size + 1) new1
  have stays : ∀ b o, hp.get? b = some o → ((hp.push (PySem.W.kdv_tup us)).push (PySem.HandSPX.excO C hp.objs.size)).get? b = some o :=
    fun b o z => Heap.get?_push_of_some _ (Heap.get?_push_of_some _ z)
  have there : ((hp.push (PySem.W.kdv_tup us)).push (PySem.HandSPX.excO C hp.objs.size)).get? (hp.objs.size + 1) = some (PySem.HandSPX.excO C hp.objs.size) := by
    heap_get
  have J2 : Inv X pins σ (upd H1 (hp.objs.size + 1) (exo (hp.objs.size + 1) C none)) ⟨(hp.push (PySem.W.kdv_tup us)).push (PySem.HandSPX.excO C hp.objs.size), g, dr, tk, os⟩ :=
    J1.laid (t' := tk) (a := hp.objs.size + 1) (o := exo (hp.objs.size + 1) C none)
      (h' := (hp.push (PySem.W.kdv_tup us)).push (PySem.HandSPX.excO C hp.objs.size)) stays up1 (exo_ok there)
  have rs : Vals (V.ref (hp.objs.size + 1) :: (vs ++ dvs)) (Value.ref (hp.objs.size + 1) :: (us ++ ds)) := .cons rfl (rv.append hd)
  have many : (Value.ref (hp.objs.size + 1) :: us ++ ds).length = ps.length := by
    have z := rs.length
    rw [F1.len _ _ _ _ want] at z
    exact z.symm
  have few : us.length ≤ sizeLine := by
    rw [← Paired.length rv, sizeLine_eq]
    omega
  apply wpAny_call
  apply PySem.HandSPX.call_own F.excBase_ValueError (fun Y => PySem.HandSPX.refsVE_contains Y bm bmAt) (J1.kIn _ _ clsAt)
    (PySem.W.looks_findIn J1.kIn iC) (fun self => PySem.W.bind_fn J1.kIn self tI) few
  apply codeAny_mono (F1.run _ X.stack _ _ ⟨Value.ref (hp.objs.size + 1) :: us, []⟩ (Value.ref (hp.objs.size + 1) :: (us ++ ds)) _ _
    (fun _ _ _ => False) (hr.make C us []) (J2.env0.make C us []) (hb _ (Value.ref (hp.objs.size + 1) :: us) J2.kIn many) rs want)
  intro r s' hq
  match r with
  | .error er => exact hx pins σ _ _ er s' J2 hq
  | .ok (.ret u) =>
    obtain ⟨v, H2, o2, bare2, un2, hok2, ru, ev, d, fs, ea, ed, hd1, q2⟩ := hq
    subst ev
    obtain ⟨h2, g2, d2, t2, os'⟩ := s'
    obtain ⟨t0, G, J, kG, ge, hoe, na⟩ := mk_end0 (d2 := d2) (t2 := t2) J1 up1 stays un2 hok2 o2 bare2 ea ed hd1
    refine ⟨ru, hp.objs.size + 1, _, _, ⟨G, g2, d2, t2, os'⟩, _, .ref C, some d, rfl, J, kG, ge, hoe, ⟨rfl, rfl, ?_⟩, rfl, rfl, na, rfl, bare2, raises_own T.exC T.tyC, q2⟩
    intro vs e
    cases e
    rfl
  | .ok .next => exact False.elim hq
  | .ok .brk => exact False.elim hq
  | .ok .cont => exact False.elim hq
end
end DN
namespace DN
open PySem PySem.Spec PyProof.Rows L2 Evl
/-- a value that does not change: a tree -/
inductive Dv where
  | non | bl (b : Bool) | int (i : Int) | str (s : Str) | ty (n : String) | cls (c : String)
  | lst (l : List Dv) | tup (l : List Dv) | obj (c : String) (l : List Dv) | dic (t : Bool) (ks vs : List Dv) | scr (l : List Int) | ktp (l : List Dv)
instance : Inhabited Dv := ⟨.non⟩
/-- what a name may hold: a value, a cell -/
inductive Vr where
  | d (v : Dv) | r (n : Nat)
/-- a list whose items may change: rows that stand in the cells ahead of it, or values and other cells -/
inductive Tb where
  | rows (l : List (List Dv)) | vl (l : List Vr) | vt (l : List Vr) | xv (c : String) (v : Vr)
/-- a thing that may change; it is made of values that do not -/
inductive Cell where
  | lst (l : List Dv) | ob (c : String) (l : List Dv) | dc (t : Bool) (ks vs : List Dv) | dead | tab (t : Tb)
abbrev Sto := List Cell
/-- a tuple of cells may be known, though it is one -/
def stf : Cell → Cell
  | .tab (.vt _) => .dead
  | c => c
/-- what is fixed: the written part, the classes' addresses, their fields -/
structure Zt where
  K : PySem.W.Frag
  cm : String → Addr
/-- the fields of the package's classes, in the order in which they are set -/
def flds (c : String) : List Str :=
  if c = "Web" then ["houses", "ties", "known", "beside"]
  else if c = "Addresses" then ["kept"]
  else if c = "Tree" then ["spans", "web", "root", "parents", "lists", "ranks"]
  else if c = "LongWeb" then ["web", "spans", "rows"]
  else if c = "LongTree" then ["long", "row", "parents", "houses", "lists"]
  else if c = "Stand" then ["own_names", "ties"]
  else if c = "Post" then ["past"]
  else []
def key? : Dv → Option Key
  | .int i => some (.inl i)
  | .str s => some (.inr s)
  | _ => none
def tkey? : Dv → Option (List Key)
  | .tup l => l.mapM key?
  | _ => none
def DicAt (t : Bool) (o : Option HO) (ks : List Dv) (ws : List V) : Prop := match t with
  | false => ∃ kk : List Key, ks.map key? = kk.map some ∧ o = some (.dK (kk.zip ws))
  | true => ∃ kk : List (List Key), ks.map tkey? = kk.map some ∧ o = some (.dT (kk.zip ws))
/-- a tuple whose object is known: of the base, or laid so that it is -/
def KT (K : PySem.W.Frag) (G : Hp) (a : Addr) (xs : List V) : Prop :=
  (SqT K (fun _ => none) a xs ∧ ∃ o, K.lookup a = some o ∧ o.cls = .type "tuple" ∧ o.dict = none) ∨ ∃ o : Obj, o.cls = .type "tuple" ∧ o.dict = none ∧ G a = some (.frz o (.tup xs))
mutual
/-- v stands for d, by the known part G -/
def On (Z : Zt) (G : Hp) : Dv → V → Prop
  | .non, v => v = .non
  | .bl b, v => v = .bl b
  | .int i, v => v = .int i
  | .str s, v => v = .str s
  | .ty s, v => v = .ty s
  | .cls c, v => v = .ref (Z.cm c)
  | .scr l, v => ∃ a, v = .ref a ∧ SqL Z.K G a (l.map V.int)
  | .ktp l, v => ∃ a xs, v = .ref a ∧ KT Z.K G a xs ∧ OnL Z G l xs
  | .lst l, v => ∃ a xs, v = .ref a ∧ G a = some (.lst xs) ∧ OnL Z G l xs
  | .tup l, v => ∃ a xs, v = .ref a ∧ G a = some (.tup xs) ∧ OnL Z G l xs
  | .obj c l, v => ∃ a dx xs, v = .ref a ∧ G a = some (.ins (Z.cm c) dx ((flds c).zip xs)) ∧ l.length ≤ (flds c).length ∧ OnL Z G l xs
  | .dic t ks vs, v => ∃ a ws, v = .ref a ∧ DicAt t (G a) ks ws ∧ ks.length = ws.length ∧ OnL Z G vs ws
def OnL (Z : Zt) (G : Hp) : List Dv → List V → Prop
  | [], xs => xs = []
  | d :: l, xs => ∃ y ys, xs = y :: ys ∧ On Z G d y ∧ OnL Z G l ys
end
theorem KT.up {K : PySem.W.Frag} {G H : Hp} (e : Ex G H) {a : Addr} {xs : List V} (h : KT K G a xs) : KT K H a xs := by
  rcases h with h | ⟨o, h1, h2, h3⟩
  · exact .inl h
  · exact .inr ⟨o, h1, h2, e _ _ h3⟩
theorem KT.sq {K : PySem.W.Frag} {G H : Hp} (e : Ex G H) {a : Addr} {xs : List V} (h : KT K G a xs) : SqT K H a xs := by
  rcases h with ⟨(h | ⟨o, h⟩) | h, _⟩ | ⟨o, _, _, h⟩
  · cases h
  · cases h
  · exact .inr h
  · exact .inl (.inr ⟨o, e _ _ h⟩)
theorem DicAt.up {G H : Hp} (e : Ex G H) {t : Bool} {a : Addr} {ks : List Dv} {ws : List V} (h : DicAt t (G a) ks ws) : DicAt t (H a) ks ws := by
  cases t with
  | false => obtain ⟨kk, h1, h2⟩ := h; exact ⟨kk, h1, e _ _ h2⟩
  | true => obtain ⟨kk, h1, h2⟩ := h; exact ⟨kk, h1, e _ _ h2⟩
def Px (α β : List Addr) : Prop := ∃ γ, β = α ++ γ
theorem Px.refl (α : List Addr) : Px α α := ⟨[], by simp⟩
theorem Px.trans {α β γ : List Addr} (a : Px α β) (b : Px β γ) : Px α γ := by
  obtain ⟨x, rfl⟩ := a
  obtain ⟨y, rfl⟩ := b
  exact ⟨x ++ y, by rw [List.append_assoc]⟩
theorem Px.get {α β : List Addr} (a : Px α β) {n : Nat} {x : Addr} (h : α[n]? = some x) : β[n]? = some x := by
  obtain ⟨y, rfl⟩ := a
  rw [List.getElem?_append_left (List.getElem?_eq_some_iff.mp h).1]
  exact h
theorem Px.mem {α β : List Addr} (a : Px α β) {x : Addr} (h : x ∈ α) : x ∈ β := by
  obtain ⟨y, rfl⟩ := a
  exact List.mem_append_left _ h
section
variable {Z : Zt} {G G' H H' : Hp} {α β : List Addr}
mutual
theorem On.up (e : Ex G G') : ∀ {d : Dv} {v : V}, On Z G d v → On Z G' d v
  | .non, _, h => by unfold On at h ⊢; exact h
  | .bl _, _, h => by unfold On at h ⊢; exact h
  | .int _, _, h => by unfold On at h ⊢; exact h
  | .str _, _, h => by unfold On at h ⊢; exact h
  | .ty _, _, h => by unfold On at h ⊢; exact h
  | .cls _, _, h => by unfold On at h ⊢; exact h
  | .scr l, v, h => by
    unfold On at h ⊢
    obtain ⟨a, h1, h2⟩ := h
    exact ⟨a, h1, ex_l e h2⟩
  | .lst l, v, h => by
    unfold On at h ⊢
    obtain ⟨a, xs, h1, h2, h3⟩ := h
    exact ⟨a, xs, h1, e _ _ h2, OnL.up e h3⟩
  | .ktp l, v, h => by
    unfold On at h ⊢
    obtain ⟨a, xs, h1, h2, h3⟩ := h
    exact ⟨a, xs, h1, h2.up e, OnL.up e h3⟩
  | .tup l, v, h => by
    unfold On at h ⊢
    obtain ⟨a, xs, h1, h2, h3⟩ := h
    exact ⟨a, xs, h1, e _ _ h2, OnL.up e h3⟩
  | .obj c l, v, h => by
    unfold On at h ⊢
    obtain ⟨a, dx, xs, h1, h2, h4, h3⟩ := h
    exact ⟨a, dx, xs, h1, e _ _ h2, h4, OnL.up e h3⟩
  | .dic t ks l, v, h => by
    unfold On at h ⊢
    obtain ⟨a, xs, h1, h2, h4, h3⟩ := h
    exact ⟨a, xs, h1, h2.up e, h4, OnL.up e h3⟩
theorem OnL.up (e : Ex G G') : ∀ {l : List Dv} {xs : List V}, OnL Z G l xs → OnL Z G' l xs
  | [], _, h => by unfold OnL at h ⊢; exact h
  | d :: l, xs, h => by
    unfold OnL at h ⊢
    obtain ⟨y, ys, h1, h2, h3⟩ := h
    exact ⟨y, ys, h1, On.up e h2, OnL.up e h3⟩
end
theorem OnL.nil {xs : List V} : OnL Z G [] xs ↔ xs = [] := by unfold OnL; exact Iff.rfl
theorem OnL.cons {d : Dv} {l : List Dv} {xs : List V} : OnL Z G (d :: l) xs ↔ ∃ y ys, xs = y :: ys ∧ On Z G d y ∧ OnL Z G l ys := by
  constructor
  · intro h; unfold OnL at h; exact h
  · intro h; unfold OnL; exact h
theorem OnL.cons' {d : Dv} {l : List Dv} {y : V} {ys : List V} (h : On Z G d y) (t : OnL Z G l ys) : OnL Z G (d :: l) (y :: ys) := OnL.cons.mpr ⟨y, ys, rfl, h, t⟩
theorem OnL.nil' : OnL Z G [] [] := OnL.nil.mpr rfl
theorem OnL.one {d : Dv} {xs : List V} (h : OnL Z G [d] xs) : ∃ y, xs = [y] ∧ On Z G d y := by
  obtain ⟨y, ys, rfl, h2, h3⟩ := OnL.cons.mp h
  rw [OnL.nil.mp h3]
  exact ⟨y, rfl, h2⟩
theorem OnL.two {d e : Dv} {xs : List V} (h : OnL Z G [d, e] xs) : ∃ y z, xs = [y, z] ∧ On Z G d y ∧ On Z G e z := by
  obtain ⟨y, ys, rfl, h2, h3⟩ := OnL.cons.mp h
  obtain ⟨z, rfl, h4⟩ := h3.one
  exact ⟨y, z, rfl, h2, h4⟩
theorem OnL.len : ∀ {l : List Dv} {xs : List V}, OnL Z G l xs → xs.length = l.length
  | [], _, h => by rw [OnL.nil.mp h]; rfl
  | d :: l, xs, h => by
    obtain ⟨y, ys, rfl, _, h3⟩ := OnL.cons.mp h
    rw [List.length_cons, List.length_cons, OnL.len h3]
theorem OnL.app : ∀ {l m : List Dv} {xs ys : List V}, OnL Z G l xs → OnL Z G m ys → OnL Z G (l ++ m) (xs ++ ys)
  | [], _, _, _, h, g => by rw [OnL.nil.mp h]; exact g
  | d :: l, m, xs, ys, h, g => by
    obtain ⟨y, zs, rfl, h2, h3⟩ := OnL.cons.mp h
    exact OnL.cons' h2 (OnL.app h3 g)
theorem OnL.get : ∀ {l : List Dv} {xs : List V} {i : Nat} {d : Dv}, OnL Z G l xs → l[i]? = some d → ∃ x, xs[i]? = some x ∧ On Z G d x
  | [], _, _, _, _, e => by simp at e
  | c :: l, xs, 0, d, h, e => by
    obtain ⟨y, ys, rfl, h2, h3⟩ := OnL.cons.mp h
    simp at e
    subst e
    exact ⟨y, rfl, h2⟩
  | c :: l, xs, i + 1, d, h, e => by
    obtain ⟨y, ys, rfl, h2, h3⟩ := OnL.cons.mp h
    obtain ⟨x, h4, h5⟩ := OnL.get (i := i) h3 (by simpa using e)
    exact ⟨x, by simpa using h4, h5⟩
theorem OnL.set : ∀ {l : List Dv} {xs : List V} {i : Nat} {d : Dv} {x : V}, OnL Z G l xs → On Z G d x → OnL Z G (l.set i d) (xs.set i x)
  | [], xs, i, d, x, h, e => by rw [OnL.nil.mp h]; exact OnL.nil'
  | c :: l, xs, 0, d, x, h, e => by
    obtain ⟨y, ys, rfl, h2, h3⟩ := OnL.cons.mp h
    exact OnL.cons' e h3
  | c :: l, xs, i + 1, d, x, h, e => by
    obtain ⟨y, ys, rfl, h2, h3⟩ := OnL.cons.mp h
    exact OnL.cons' h2 (OnL.set h3 e)
theorem OnL.take : ∀ {l : List Dv} {xs : List V} (n : Nat), OnL Z G l xs → OnL Z G (l.take n) (xs.take n)
  | _, _, 0, _ => by rw [List.take_zero, List.take_zero]; exact OnL.nil'
  | [], _, n + 1, h => by rw [OnL.nil.mp h]; exact OnL.nil'
  | d :: l, _, n + 1, h => by
    obtain ⟨y, ys, rfl, h2, h3⟩ := OnL.cons.mp h
    exact OnL.cons' h2 (OnL.take n h3)
theorem OnL.drop : ∀ {l : List Dv} {xs : List V} (n : Nat), OnL Z G l xs → OnL Z G (l.drop n) (xs.drop n)
  | _, _, 0, h => h
  | [], _, n + 1, h => by rw [OnL.nil.mp h]; exact OnL.nil'
  | d :: l, _, n + 1, h => by
    obtain ⟨y, ys, rfl, h2, h3⟩ := OnL.cons.mp h
    exact OnL.drop n h3
/-- what v is at its top, in the heap as it stands; its parts are known -/
def OnH (Z : Zt) (G H : Hp) : Dv → V → Prop
  | .non, v => v = .non
  | .bl b, v => v = .bl b
  | .int i, v => v = .int i
  | .str s, v => v = .str s
  | .ty s, v => v = .ty s
  | .cls c, v => v = .ref (Z.cm c)
  | .scr l, v => ∃ a, v = .ref a ∧ SqL Z.K G a (l.map V.int)
  | .lst l, v => ∃ a xs, v = .ref a ∧ H a = some (.lst xs) ∧ OnL Z G l xs
  | .ktp l, v => ∃ a xs, v = .ref a ∧ KT Z.K G a xs ∧ OnL Z G l xs
  | .tup l, v => ∃ a xs, v = .ref a ∧ G a = some (.tup xs) ∧ OnL Z G l xs
  | .obj c l, v => ∃ a dx xs, v = .ref a ∧ H a = some (.ins (Z.cm c) dx ((flds c).zip xs)) ∧ l.length ≤ (flds c).length ∧ OnL Z G l xs
  | .dic t ks vs, v => ∃ a ws, v = .ref a ∧ DicAt t (H a) ks ws ∧ ks.length = ws.length ∧ OnL Z G vs ws
theorem On.h (e : Ex G H) {d : Dv} {v : V} (h : On Z G d v) : OnH Z G H d v := by
  cases d with
  | scr l => unfold On at h; exact h
  | lst l => unfold On at h; obtain ⟨a, xs, h1, h2, h3⟩ := h; exact ⟨a, xs, h1, e _ _ h2, h3⟩
  | ktp l => unfold On at h; exact h
  | tup l => unfold On at h; exact h
  | obj c l => unfold On at h; obtain ⟨a, dx, xs, h1, h2, h4, h3⟩ := h; exact ⟨a, dx, xs, h1, e _ _ h2, h4, h3⟩
  | dic t ks l => unfold On at h; obtain ⟨a, xs, h1, h2, h4, h3⟩ := h; exact ⟨a, xs, h1, h2.up e, h4, h3⟩
  | _ => unfold On at h; exact h
theorem OnH.on (e : Ex G H) {d : Dv} {v : V} (h : OnH Z G H d v) : On Z H d v := by
  cases d with
  | lst l => obtain ⟨a, xs, h1, h2, h3⟩ := h; unfold On; exact ⟨a, xs, h1, h2, h3.up e⟩
  | scr l => obtain ⟨a, h1, h2⟩ := h; unfold On; exact ⟨a, h1, ex_l e h2⟩
  | ktp l => obtain ⟨a, xs, h1, h2, h3⟩ := h; unfold On; exact ⟨a, xs, h1, h2.up e, h3.up e⟩
  | tup l => obtain ⟨a, xs, h1, h2, h3⟩ := h; unfold On; exact ⟨a, xs, h1, e _ _ h2, h3.up e⟩
  | obj c l => obtain ⟨a, dx, xs, h1, h2, h4, h3⟩ := h; unfold On; exact ⟨a, dx, xs, h1, h2, h4, h3.up e⟩
  | dic t ks l => obtain ⟨a, xs, h1, h2, h4, h3⟩ := h; unfold On; exact ⟨a, xs, h1, h2, h4, h3.up e⟩
  | _ => unfold On; exact h
def CellAt (Z : Zt) (G : Hp) : Cell → Option HO → Prop
  | .lst l, o => ∃ xs, o = some (.lst xs) ∧ OnL Z G l xs
  | .ob c l, o => ∃ dx xs, o = some (.ins (Z.cm c) dx ((flds c).zip xs)) ∧ l.length ≤ (flds c).length ∧ OnL Z G l xs
  | .dc t ks vs, o => ∃ ws, DicAt t o ks ws ∧ ks.length = ws.length ∧ OnL Z G vs ws
  | .dead, o => o ≠ none
  | .tab _, _ => False
theorem CellAt.up {c : Cell} {o : Option HO} (e : Ex G G') (h : CellAt Z G c o) : CellAt Z G' c o := by
  cases c with
  | lst l => obtain ⟨xs, h1, h2⟩ := h; exact ⟨xs, h1, h2.up e⟩
  | ob c l => obtain ⟨dx, xs, h1, h3, h2⟩ := h; exact ⟨dx, xs, h1, h3, h2.up e⟩
  | dc t ks vs => obtain ⟨xs, h1, h3, h2⟩ := h; exact ⟨xs, h1, h3, h2.up e⟩
  | dead => exact h
  | tab rows => exact h.elim
theorem DicAt.ne {t : Bool} {o : Option HO} {ks : List Dv} {ws : List V} (h : DicAt t o ks ws) : o ≠ none := by
  cases t with
  | false => obtain ⟨kk, h1, h2⟩ := h; rw [h2]; exact fun h => nomatch h
  | true => obtain ⟨kk, h1, h2⟩ := h; rw [h2]; exact fun h => nomatch h
theorem CellAt.ne {c : Cell} {o : Option HO} (h : CellAt Z G c o) : o ≠ none := by
  cases c with
  | lst l => obtain ⟨xs, h1, h2⟩ := h; rw [h1]; exact fun h => nomatch h
  | ob c l => obtain ⟨dx, xs, h1, h3, h2⟩ := h; rw [h1]; exact fun h => nomatch h
  | dc t ks vs => obtain ⟨xs, h1, h3, h2⟩ := h; exact h1.ne
  | dead => exact h
  | tab rows => exact h.elim
def OnR (Z : Zt) (G : Hp) (α : List Addr) : Vr → V → Prop
  | .d d, v => On Z G d v
  | .r n, v => ∃ a, v = .ref a ∧ α[n]? = some a
theorem OnR.up {r : Vr} {v : V} (e : Ex G G') (p : Px α β) (h : OnR Z G α r v) : OnR Z G' β r v := by
  cases r with
  | d d => exact On.up e h
  | r n => obtain ⟨a, h1, h2⟩ := h; exact ⟨a, h1, p.get h2⟩
def OnA (Z : Zt) (G : Hp) (α : List Addr) : List Vr → List V → Prop
  | [], xs => xs = []
  | d :: l, xs => ∃ y ys, xs = y :: ys ∧ OnR Z G α d y ∧ OnA Z G α l ys
theorem OnA.up (e : Ex G G') (p : Px α β) : ∀ {l : List Vr} {xs : List V}, OnA Z G α l xs → OnA Z G' β l xs
  | [], _, h => h
  | d :: l, xs, h => by
    obtain ⟨y, ys, h1, h2, h3⟩ := h
    exact ⟨y, ys, h1, h2.up e p, OnA.up e p h3⟩
theorem OnA.len : ∀ {l : List Vr} {xs : List V}, OnA Z G α l xs → xs.length = l.length
  | [], _, h => by rw [show _ = [] from h]; rfl
  | d :: l, xs, h => by
    obtain ⟨y, ys, rfl, _, h3⟩ := h
    rw [List.length_cons, List.length_cons, OnA.len h3]
/-- a list of lists, all of which may change: the rows stand in the cells ahead of it, which are dead for themselves -/
def TabIn (Z : Zt) (G : Hp) (H : Hp) (α : List Addr) (S : Sto) (n : Nat) (a : Addr) (rows : List (List Dv)) : Prop :=
  rows.length ≤ n ∧ ∃ xs, H a = some (.lst xs) ∧ xs.length = rows.length ∧ ∀ i row, rows[i]? = some row → ∃ b ys, α[n - rows.length + i]? = some b ∧ S[n - rows.length + i]? = some .dead ∧ xs[i]? = some (.ref b) ∧ G b = none ∧ H b = some (.lst ys) ∧ OnL Z G row ys
/-- the cells that the items name are such, wherever α is kept -/
theorem OnA.mv (e : Ex G G') : ∀ {l : List Vr} {xs : List V}, (∀ (m : Nat), Vr.r m ∈ l → ∀ b : Addr, α[m]? = some b → β[m]? = some b) → OnA Z G α l xs → OnA Z G' β l xs
  | [], _, _, h => h
  | d :: l, xs, k, h => by
    obtain ⟨y, ys, h1, h2, h3⟩ := h
    refine ⟨y, ys, h1, ?_, OnA.mv e (fun m hm => k m (List.mem_cons_of_mem _ hm)) h3⟩
    cases d with
    | d d => exact On.up e h2
    | r n => obtain ⟨c, q1, q2⟩ := h2; exact ⟨c, q1, k n List.mem_cons_self c q2⟩
/-- a list of values and of cells that stand ahead of it -/
def VlIn (Z : Zt) (G : Hp) (H : Hp) (α : List Addr) (n : Nat) (a : Addr) (l : List Vr) : Prop :=
  (∀ m, Vr.r m ∈ l → m < n) ∧ ∃ xs, H a = some (.lst xs) ∧ OnA Z G α l xs
/-- a tuple of values and of cells that stand ahead of it -/
def VtIn (Z : Zt) (G : Hp) (H : Hp) (α : List Addr) (n : Nat) (a : Addr) (l : List Vr) : Prop :=
  (∀ m, Vr.r m ∈ l → m < n) ∧ ∃ xs, H a = some (.tup xs) ∧ OnA Z G α l xs
/-- an own exception as a value -/
def XvIn (Z : Zt) (G : Hp) (H : Hp) (α : List Addr) (n : Nat) (a : Addr) (c : String) (v : Vr) : Prop :=
  (∀ m, v = Vr.r m → m < n) ∧ ∃ d w, H a = some (exo a (Z.cm c) (some d)) ∧ G d = some (exd d [("value", w)]) ∧ OnR Z G α v w
theorem OnR.mv (e : Ex G G') {v : Vr} {w : V} (k : ∀ (m : Nat), v = Vr.r m → ∀ b : Addr, α[m]? = some b → β[m]? = some b) (h : OnR Z G α v w) : OnR Z G' β v w := by
  cases v with
  | d d => exact On.up e h
  | r n => obtain ⟨c, q1, q2⟩ := h; exact ⟨c, q1, k n rfl c q2⟩
/-- what a cell says of the heap -/
def CellIn (Z : Zt) (G : Hp) (H : Hp) (α : List Addr) (S : Sto) (n : Nat) (a : Addr) : Cell → Prop
  | .tab (.rows rows) => TabIn Z G H α S n a rows
  | .tab (.vl l) => VlIn Z G H α n a l
  | .tab (.vt l) => VtIn Z G H α n a l
  | .tab (.xv c v) => XvIn Z G H α n a c v
  | c => CellAt Z G c (H a)
theorem CellIn.of {n : Nat} {a : Addr} {c : Cell} {S : Sto} (h : CellAt Z G c (H a)) : CellIn Z G H α S n a c := by
  cases c <;> first | exact h | exact h.elim
theorem CellIn.at {n : Nat} {a : Addr} {c : Cell} {S : Sto} (h : CellIn Z G H α S n a c) (ht : ∀ r, c ≠ .tab r) : CellAt Z G c (H a) := by
  cases c with
  | tab rows => exact absurd rfl (ht rows)
  | lst l => exact h
  | ob c l => exact h
  | dc t k l => exact h
  | dead => exact h
theorem CellIn.ne {n : Nat} {a : Addr} {c : Cell} {S : Sto} (h : CellIn Z G H α S n a c) : H a ≠ none := by
  cases c with
  | tab t =>
    cases t with
    | rows rows => obtain ⟨_, xs, h1, _⟩ := h; rw [h1]; exact fun h => nomatch h
    | vl l => obtain ⟨_, xs, h1, _⟩ := h; rw [h1]; exact fun h => nomatch h
    | vt l => obtain ⟨_, xs, h1, _⟩ := h; rw [h1]; exact fun h => nomatch h
    | xv c v => obtain ⟨_, d, w, h1, _⟩ := h; rw [h1]; exact fun h => nomatch h
  | lst l => exact CellAt.ne (show CellAt Z G (.lst l) (H a) from h)
  | ob c l => exact CellAt.ne (show CellAt Z G (.ob c l) (H a) from h)
  | dc t k l => exact CellAt.ne (show CellAt Z G (.dc t k l) (H a) from h)
  | dead => exact CellAt.ne (show CellAt Z G .dead (H a) from h)
/-- all that a cell speaks of stays -/
theorem CellIn.move {n : Nat} {a : Addr} {c : Cell} {S S' : Sto} {G' H' : Hp} {β : List Addr} (h : CellIn Z G H α S n a c) (eG : Ex G G') (ha : H' a = H a) (hα : ∀ (m : Nat) (b : Addr), m < n → α[m]? = some b → β[m]? = some b)
    (hr : ∀ (m : Nat) (b : Addr), m < n → α[m]? = some b → S[m]? = some .dead → G b = none → β[m]? = some b ∧ S'[m]? = some .dead ∧ G' b = none ∧ ∀ o, H b = some o → H' b = some o) : CellIn Z G' H' β S' n a c := by
  cases c with
  | tab t =>
    cases t with
    | rows rows =>
      obtain ⟨h1, xs, h2, h3, h4⟩ := h
      refine ⟨h1, xs, by rw [ha]; exact h2, h3, fun i row hi => ?_⟩
      obtain ⟨b, ys, q1, q2, q3, q4, q5, q6⟩ := h4 i row hi
      have hl := (List.getElem?_eq_some_iff.mp hi).1
      obtain ⟨r1, r2, r3, r4⟩ := hr _ b (by omega) q1 q2 q4
      exact ⟨b, ys, r1, r2, q3, r3, r4 _ q5, q6.up eG⟩
    | vl l =>
      obtain ⟨h1, xs, h2, h3⟩ := h
      exact ⟨h1, xs, by rw [ha]; exact h2, h3.mv eG fun m hm b hb => hα m b (h1 m hm) hb⟩
    | vt l =>
      obtain ⟨h1, xs, h2, h3⟩ := h
      exact ⟨h1, xs, by rw [ha]; exact h2, h3.mv eG fun m hm b hb => hα m b (h1 m hm) hb⟩
    | xv c v =>
      obtain ⟨h1, d, w, h2, h3, h4⟩ := h
      exact ⟨h1, d, w, by rw [ha]; exact h2, eG _ _ h3, h4.mv eG fun m hm b hb => hα m b (h1 m hm) hb⟩
  | lst l => show CellAt Z G' (.lst l) (H' a); rw [ha]; exact CellAt.up eG (show CellAt Z G (.lst l) (H a) from h)
  | ob c l => show CellAt Z G' (.ob c l) (H' a); rw [ha]; exact CellAt.up eG (show CellAt Z G (.ob c l) (H a) from h)
  | dc t k l => show CellAt Z G' (.dc t k l) (H' a); rw [ha]; exact CellAt.up eG (show CellAt Z G (.dc t k l) (H a) from h)
  | dead => show CellAt Z G' .dead (H' a); rw [ha]; exact CellAt.up eG (show CellAt Z G .dead (H a) from h)
/-- the cells S stand at α, beside what is known -/
structure Hd (Z : Zt) (G : Hp) (α : List Addr) (S : Sto) (H : Hp) : Prop where
  ex : Ex G H
  len : α.length = S.length
  nd : α.Nodup
  at_ : ∀ (n : Nat) (a : Addr) (c : Cell), α[n]? = some a → S[n]? = some c → (stf c ≠ .dead → G a = none) ∧ CellIn Z G H α S n a c
structure Fr (G : Hp) (α : List Addr) (H : Hp) (G2 : Hp) (α2 : List Addr) (H2 : Hp) : Prop where
  g : Ex G G2
  a : Px α α2
  h : ∀ b o, H b = some o → b ∉ α → H2 b = some o
  n : ∀ b o, G b = none → H b = some o → (∀ xs, o ≠ HO.tup xs) → b ∉ α → G2 b = none
  m : ∀ b, b ∈ α2 → b ∈ α ∨ H b = none
  s : ∀ b, H b ≠ none → H2 b ≠ none
theorem Fr.refl (G : Hp) (α : List Addr) (H : Hp) : Fr G α H G α H := ⟨Ex.refl G, Px.refl α, fun _ _ h _ => h, fun _ _ h _ _ _ => h, fun _ h => .inl h, fun _ h => h⟩
theorem Fr.trans {G H G2 H2 G3 H3 : Hp} {α α2 α3 : List Addr} (x : Fr G α H G2 α2 H2) (y : Fr G2 α2 H2 G3 α3 H3) : Fr G α H G3 α3 H3 := by
  have k : ∀ b, H b ≠ none → b ∉ α → b ∉ α2 := fun b h1 h2 h3 => by
    rcases x.m b h3 with h | h
    · exact h2 h
    · exact h1 h
  refine ⟨x.g.trans y.g, x.a.trans y.a, fun b o h1 h2 => y.h b o (x.h b o h1 h2) (k b (by rw [h1]; exact fun h => nomatch h) h2), fun b o h1 h2 ht h3 => y.n b o (x.n b o h1 h2 ht h3) (x.h b o h2 h3) ht (k b (by rw [h2]; exact fun h => nomatch h) h3), fun b hb => ?_, fun b h => y.s b (x.s b h)⟩
  rcases y.m b hb with h | h
  · exact x.m b h
  · right
    cases q : H b with
    | none => rfl
    | some o => exact absurd h (x.s b (by rw [q]; exact fun h => nomatch h))
theorem Ex.ne {G H : Hp} (e : Ex G H) {a : Addr} (h : G a ≠ none) : H a ≠ none := by
  cases q : G a with
  | none => exact absurd q h
  | some o => rw [e a o q]; exact fun h => nomatch h
variable {S : Sto} {G2 H2 : Hp} {α2 : List Addr}
theorem Fr.back {a : Addr} (f : Fr G α H G2 α2 H2) (h : H2 a = none) : H a = none := by
  cases q : H a with
  | none => rfl
  | some o => exact absurd h (f.s a (by rw [q]; exact fun h => nomatch h))
theorem Hd.live (h : Hd Z G α S H) {a : Addr} (ha : a ∈ α) : H a ≠ none := by
  obtain ⟨n, hn, rfl⟩ := List.mem_iff_getElem.mp ha
  have h1 : α[n]? = some α[n] := List.getElem?_eq_getElem hn
  have h2 : n < S.length := by rw [← h.len]; exact hn
  exact (h.at_ n _ _ h1 (List.getElem?_eq_getElem h2)).2.ne
theorem Hd.cell (h : Hd Z G α S H) {n : Nat} {c : Cell} (hc : S[n]? = some c) : ∃ a, α[n]? = some a ∧ (stf c ≠ .dead → G a = none) ∧ CellIn Z G H α S n a c := by
  have h1 := (List.getElem?_eq_some_iff.mp hc).1
  have h2 : n < α.length := by rw [h.len]; exact h1
  exact ⟨α[n], List.getElem?_eq_getElem h2, h.at_ n _ c (List.getElem?_eq_getElem h2) hc⟩
theorem Hd.cell2 (h : Hd Z G α S H) {n : Nat} {a : Addr} (ha : α[n]? = some a) : ∃ c, S[n]? = some c ∧ (stf c ≠ .dead → G a = none) ∧ CellIn Z G H α S n a c := by
  have h1 := (List.getElem?_eq_some_iff.mp ha).1
  have h2 : n < S.length := by rw [← h.len]; exact h1
  exact ⟨S[n], List.getElem?_eq_getElem h2, h.at_ n a _ ha (List.getElem?_eq_getElem h2)⟩
/-- the heap grows beside -/
theorem Hd.grow {H2 : Hp} (h : Hd Z G α S H) (e : Ex H H2) : Hd Z G α S H2 := ⟨h.ex.trans e, h.len, h.nd, fun n a c h1 h2 => by
  obtain ⟨h3, h4⟩ := h.at_ n a c h1 h2
  refine ⟨h3, h4.move (Ex.refl G) ?_ (fun _ _ _ q => q) fun m b _ q1 q2 q3 => ⟨q1, q2, q3, fun o ho => e b o ho⟩⟩
  cases q : H a with
  | none => exact absurd q h4.ne
  | some o => exact e a o q⟩
theorem Fr.grow {H2 : Hp} (h : Hd Z G α S H) (e : Ex H H2) : Fr G α H G α H2 := ⟨Ex.refl G, Px.refl α, fun b o h1 _ => e b o h1, fun _ _ h _ _ _ => h, fun _ h => .inl h, fun b h => Ex.ne e h⟩
/-- a new thing is known -/
theorem Hd.know {p : Addr} {o : HO} (h : Hd Z G α S H) (hp : H p = none) : Hd Z (upd G p o) α S (upd H p o) ∧ Fr G α H (upd G p o) α (upd H p o) := by
  have hG : G p = none := fresh_back h.ex hp
  have hpa : ∀ a ∈ α, a ≠ p := fun a ha c => h.live ha (c ▸ hp)
  refine ⟨⟨OP.ex_upd h.ex, h.len, h.nd, fun n a c h1 h2 => ?_⟩, ⟨Ex.new hG, Px.refl α, fun b o' h1 _ => Ex.new hp b o' h1, fun b o' h1 h2 _ _ => ?_, fun _ h => .inl h, fun b h => Ex.ne (Ex.new hp) h⟩⟩
  · obtain ⟨h3, h4⟩ := h.at_ n a c h1 h2
    have ne := hpa a (List.mem_of_getElem? h1)
    refine ⟨fun hc => by rw [upd_ne ne]; exact h3 hc, h4.move (Ex.new hG) (upd_ne ne) (fun _ _ _ q => q) fun m b _ q1 q2 q3 => ?_⟩
    have nb := hpa b (List.mem_of_getElem? q1)
    exact ⟨q1, q2, by rw [upd_ne nb]; exact q3, fun o' ho => by rw [upd_ne nb]; exact ho⟩
  · have : b ≠ p := fun c => by subst c; rw [hp] at h2; cases h2
    rw [upd_ne this]
    exact h1
/-- what stands unknown at p, beside the cells, becomes known -/
theorem Hd.freeze {p : Addr} {o : HO} (h : Hd Z G α S H) (hG : G p = none) (ho : H p = some o) (hn : p ∉ α) : Hd Z (upd G p o) α S H := by
  obtain ⟨e1, e2⟩ := OP.Fr.freeze h.ex hG ho
  refine ⟨e2, h.len, h.nd, fun n a c h1 h2 => ?_⟩
  obtain ⟨h3, h4⟩ := h.at_ n a c h1 h2
  have ne : a ≠ p := fun c => hn (c ▸ List.mem_of_getElem? h1)
  refine ⟨fun hc => by rw [upd_ne ne]; exact h3 hc, h4.move e1 rfl (fun _ _ _ q => q) fun m b _ q1 q2 q3 => ?_⟩
  have nb : b ≠ p := fun c => hn (c ▸ List.mem_of_getElem? q1)
  exact ⟨q1, q2, by rw [upd_ne nb]; exact q3, fun o' ho => ho⟩
/-- it becomes a cell -/
theorem Hd.push {p : Addr} {c : Cell} (h : Hd Z G α S H) (hG : G p = none) (hn : p ∉ α) (hc : CellAt Z G c (H p)) : Hd Z G (α ++ [p]) (S ++ [c]) H := by
  refine ⟨h.ex, by rw [List.length_append, List.length_append, h.len]; rfl, ?_, fun n a d h1 h2 => ?_⟩
  · rw [List.nodup_append]
    exact ⟨h.nd, by simp, fun a ha b hb => by rw [List.mem_singleton.mp hb]; exact fun c => hn (c ▸ ha)⟩
  · by_cases hl : n < α.length
    · rw [List.getElem?_append_left hl] at h1
      rw [List.getElem?_append_left (by rw [← h.len]; exact hl)] at h2
      obtain ⟨h3, h4⟩ := h.at_ n a d h1 h2
      refine ⟨h3, h4.move (Ex.refl G) rfl (fun m b hm q => by rw [List.getElem?_append_left (by omega)]; exact q) fun m b hm q1 q2 q3 => ⟨?_, ?_, q3, fun o ho => ho⟩⟩
      · rw [List.getElem?_append_left (by omega)]; exact q1
      · rw [List.getElem?_append_left (by rw [← h.len]; omega)]; exact q2
    · rw [List.getElem?_append_right (by omega)] at h1
      rw [List.getElem?_append_right (by rw [← h.len]; omega)] at h2
      have hn0 : n - α.length = 0 := by
        cases q : n - α.length with
        | zero => rfl
        | succ m => rw [q] at h1; simp at h1
      rw [← h.len] at h2
      rw [hn0] at h1 h2
      simp at h1 h2
      subst h1 h2
      exact ⟨fun _ => hG, CellIn.of hc⟩
theorem Fr.push {p : Addr} (f : Fr G α H G2 α2 H2) (hp : H p = none) : Fr G α H G2 (α2 ++ [p]) H2 :=
  ⟨f.g, f.a.trans ⟨[p], rfl⟩, f.h, f.n, fun b hb => by
    rcases List.mem_append.mp hb with h | h
    · exact f.m b h
    · rw [List.mem_singleton.mp h]; exact .inr hp, f.s⟩
/-- a cell is changed -/
theorem Hd.put {n : Nat} {a : Addr} {c c2 : Cell} {o : HO} (h : Hd Z G α S H) (ha : α[n]? = some a) (hs : S[n]? = some c) (hc : stf c ≠ .dead) (h2 : CellAt Z G c2 (some o)) : Hd Z G α (S.set n c2) (upd H a o) ∧ Fr G α H G α (upd H a o) := by
  obtain ⟨h3, h4⟩ := h.at_ n a c ha hs
  have hG := h3 hc
  have hm := List.mem_of_getElem? ha
  refine ⟨⟨fun b u hb => ?_, by rw [List.length_set]; exact h.len, h.nd, fun m b d h5 h6 => ?_⟩, ⟨Ex.refl G, Px.refl α, fun b u h5 h6 => ?_, fun _ _ h _ _ _ => h, fun _ h => .inl h, fun b hb => ?_⟩⟩
  · have : b ≠ a := fun c => by subst c; rw [hG] at hb; cases hb
    rw [upd_ne this]
    exact h.ex b u hb
  · by_cases q : b = a
    · subst q
      have e : m = n := (List.getElem?_inj (List.getElem?_eq_some_iff.mp h5).1 h.nd).mp (h5.trans ha.symm)
      subst e
      rw [List.getElem?_set_self (List.getElem?_eq_some_iff.mp hs).1] at h6
      cases h6
      exact ⟨fun _ => hG, CellIn.of (by rw [upd_same]; exact h2)⟩
    · have e : n ≠ m := fun c => by subst c; rw [ha] at h5; exact q (Option.some.inj h5).symm
      rw [List.getElem?_set_ne e] at h6
      obtain ⟨h7, h8⟩ := h.at_ m b d h5 h6
      refine ⟨h7, h8.move (Ex.refl G) (upd_ne q) (fun _ _ _ q => q) fun k x _ q1 q2 q3 => ?_⟩
      have nk : n ≠ k := fun z => by subst z; rw [hs] at q2; exact hc (congrArg stf (Option.some.inj q2))
      have nx : x ≠ a := fun z => by
        subst z
        exact nk ((List.getElem?_inj (List.getElem?_eq_some_iff.mp ha).1 h.nd).mp (ha.trans q1.symm))
      exact ⟨q1, by rw [List.getElem?_set_ne nk]; exact q2, q3, fun o' ho => by rw [upd_ne nx]; exact ho⟩
  · have : b ≠ a := fun c => h6 (c ▸ hm)
    rw [upd_ne this]
    exact h5
  · by_cases q : b = a
    · subst q; rw [upd_same]; exact fun h => nomatch h
    · rw [upd_ne q]; exact hb
/-- the cells behind k are forgotten -/
theorem Hd.cut (h : Hd Z G α S H) (k : Nat) : Hd Z G (α.take k) (S.take k) H := by
  refine ⟨h.ex, by rw [List.length_take, List.length_take, h.len], h.nd.sublist (List.take_sublist _ _), fun n a c h1 h2 => ?_⟩
  have hk : n < k := by
    have := (List.getElem?_eq_some_iff.mp h1).1
    rw [List.length_take] at this
    omega
  rw [List.getElem?_take_of_lt hk] at h1 h2
  obtain ⟨h3, h4⟩ := h.at_ n a c h1 h2
  refine ⟨h3, h4.move (Ex.refl G) rfl (fun m b hm q => by rw [List.getElem?_take_of_lt (by omega)]; exact q) fun m b hm q1 q2 q3 => ⟨?_, ?_, q3, fun o ho => ho⟩⟩
  · rw [List.getElem?_take_of_lt (by omega)]; exact q1
  · rw [List.getElem?_take_of_lt (by omega)]; exact q2
theorem Fr.cut (f : Fr G α H G2 α2 H2) : Fr G α H G2 α H2 := ⟨f.g, Px.refl α, f.h, f.n, fun b hb => .inl hb, f.s⟩
theorem Px.cut {α α2 : List Addr} (p : Px α α2) : α2.take α.length = α := by
  obtain ⟨γ, rfl⟩ := p
  rw [List.take_left']
  rfl
/-- what a name's thing is just now -/
def snap (S : Sto) : Vr → Option Dv
  | .d d => some d
  | .r n => match S[n]? with
    | some (.lst l) => some (.lst l)
    | some (.ob c l) => some (.obj c l)
    | some (.dc t ks vs) => some (.dic t ks vs)
    | _ => none
theorem snap_on {r : Vr} {v : V} {d : Dv} (h : Hd Z G α S H) (hr : OnR Z G α r v) (e : snap S r = some d) : OnH Z G H d v := by
  cases r with
  | d x => cases e; exact On.h h.ex hr
  | r n =>
    obtain ⟨a, rfl, ha⟩ := hr
    obtain ⟨c, h1, h2, h3⟩ := h.cell2 ha
    unfold snap at e
    simp only [h1] at e
    cases c with
    | lst l => cases e; obtain ⟨xs, h4, h5⟩ := h3; exact ⟨a, xs, rfl, h4, h5⟩
    | ob c l => cases e; obtain ⟨dx, xs, h4, h6, h5⟩ := h3; exact ⟨a, dx, xs, rfl, h4, h6, h5⟩
    | dc t ks vs => cases e; obtain ⟨ws, h4, h6, h5⟩ := h3; exact ⟨a, ws, rfl, h4, h6, h5⟩
    | dead => cases e
    | tab rows => cases e
end
end DN
namespace DN
open PySem PySem.Spec PyProof.Rows L2 Evl
/-- .. and what is caught: the exception's object, its class, its dict -/
structure Zx extends Zt where
  xc : Option (Addr × Value × Option Addr) := none
instance : Coe Zx Zt := ⟨Zx.toZt⟩
inductive Xn where
  | own (c : String) (v : Vr) | blt (n : String)
inductive Rt where
  | val (v : Vr) | new (c : Cell)
inductive R (β : Type) where
  | ok (S : Sto) (b : β) | ex (S : Sto) (x : Xn) | no
def frzC : Cell → Option Dv
  | .lst l => some (.lst l)
  | .ob c l => some (.obj c l)
  | .dc t ks vs => some (.dic t ks vs)
  | .dead => none
  | .tab _ => none
def R.bind {β γ : Type} (r : R β) (f : Sto → β → R γ) : R γ := match r with
  | .ok S b => f S b
  | .ex S x => .ex S x
  | .no => .no
/-- a value is wanted: a new thing is known from now on -/
def R.bindV {γ : Type} (r : R Rt) (f : Sto → Vr → R γ) : R γ := match r with
  | .ok S (.val v) => f S v
  | .ok S (.new (.lst l)) => f S (.d (.lst l))
  | .ok S (.new (.ob c l)) => f S (.d (.obj c l))
  | .ok S (.new (.dc t ks vs)) => f S (.d (.dic t ks vs))
  | .ok _ (.new .dead) => .no
  | .ok _ (.new (.tab _)) => .no
  | .ex S x => .ex S x
  | .no => .no
def R.of {β : Type} (S : Sto) : Option β → R β
  | some r => .ok S r
  | none => .no
inductive Sl where
  | u | v (r : Vr) | x (c : String) (r : Vr)
abbrev Env := List Sl
abbrev FE := Env → Sto → R Rt
abbrev FT := Env → Sto → R Bool
abbrev FA := Env → Sto → R (List Vr)
structure OnE (Z : Zx) (G : Hp) (α : List Addr) (env : Env) (σ : L2.St) : Prop where
  len : env.length = σ.length
  at_ : ∀ (i : Nat) (d : Vr), env[i]? = some (.v d) → ∃ v, σ[i]? = some (some v) ∧ OnR Z G α d v
  xs : ∀ (i : Nat) (c : String) (r : Vr), env[i]? = some (.x c r) → ∃ a dd w, Z.xc = some (a, .ref (Z.cm c), some dd) ∧ σ[i]? = some (some (.ref a)) ∧ G dd = some (.xd [(("value" : Str), w)]) ∧ OnR Z G α r w
def OnX (Z : Zx) (G : Hp) (α : List Addr) : Xn → Value → Option Addr → Prop
  | .own c v, cls, d => cls = .ref (Z.cm c) ∧ ∃ dd w, d = some dd ∧ G dd = some (.xd [(("value" : Str), w)]) ∧ OnR Z G α v w
  | .blt n, cls, d => cls = .type n ∧ d = none
section
variable {Z : Zx} {G G2 H H2 : Hp} {α α2 : List Addr} {S : Sto}
theorem OnE.up {G' : Hp} {β : List Addr} {env : Env} {σ : L2.St} (e : Ex G G') (p : Px α β) (h : OnE Z G α env σ) : OnE Z G' β env σ := ⟨h.len, fun i d hd => by
  obtain ⟨v, h1, h2⟩ := h.at_ i d hd
  exact ⟨v, h1, h2.up e p⟩, fun i c r hd => by
  obtain ⟨a, dd, w, h1, h2, h3, h4⟩ := h.xs i c r hd
  exact ⟨a, dd, w, h1, h2, e _ _ h3, h4.up e p⟩⟩
theorem OnE.set {env : Env} {σ : L2.St} {d : Vr} {v : V} (i : Nat) (h : OnE Z G α env σ) (hv : OnR Z G α d v) : OnE Z G α (env.set i (.v d)) (σ.set i (some v)) := by
  refine ⟨by rw [List.length_set, List.length_set]; exact h.len, fun j e he => ?_, fun j c r he => ?_⟩
  · by_cases q : i = j
    · subst q
      by_cases hl : i < env.length
      · rw [List.getElem?_set_self hl] at he
        cases he
        exact ⟨v, List.getElem?_set_self (by rw [← h.len]; exact hl), hv⟩
      · rw [List.getElem?_eq_none (by rw [List.length_set]; omega)] at he
        cases he
    · rw [List.getElem?_set_ne q] at he ⊢
      exact h.at_ j e he
  · by_cases q : i = j
    · subst q
      by_cases hl : i < env.length
      · rw [List.getElem?_set_self hl] at he
        cases he
      · rw [List.getElem?_eq_none (by rw [List.length_set]; omega)] at he
        cases he
    · rw [List.getElem?_set_ne q] at he ⊢
      exact h.xs j c r he
/-- a slot of which nothing is known any more -/
theorem OnE.forget {env : Env} {σ : L2.St} {o : Option V} (i : Nat) (h : OnE Z G α env σ) : OnE Z G α (env.set i .u) (σ.set i o) := by
  refine ⟨by rw [List.length_set, List.length_set]; exact h.len, fun j e he => ?_, fun j c r he => ?_⟩
  · by_cases q : i = j
    · subst q
      by_cases hl : i < env.length
      · rw [List.getElem?_set_self hl] at he
        cases he
      · rw [List.getElem?_eq_none (by rw [List.length_set]; omega)] at he
        cases he
    · rw [List.getElem?_set_ne q] at he ⊢
      exact h.at_ j e he
  · by_cases q : i = j
    · subst q
      by_cases hl : i < env.length
      · rw [List.getElem?_set_self hl] at he
        cases he
      · rw [List.getElem?_eq_none (by rw [List.length_set]; omega)] at he
        cases he
    · rw [List.getElem?_set_ne q] at he ⊢
      exact h.xs j c r he
def Xp (Z : Zx) (S : Sto) (x : Xn) (G : Hp) (α : List Addr) (H : Hp) (E : XK) : Prop :=
  ∀ cls d H2 G2 α2, Fr G α H G2 α2 H2 → Hd Z G2 α2 S H2 → OnX Z G2 α2 x cls d → E cls d H2
/-- a wish: of the result b, the heap ahead, what is known, the cells and the heap behind -/
structure Pst (β : Type) where
  p : β → Hp → Hp → List Addr → Hp → Prop
  mono : ∀ {b : β} {H H' G2 : Hp} {α2 : List Addr} {H2 : Hp}, (∀ a, H' a = none → H a = none) → p b H G2 α2 H2 → p b H' G2 α2 H2
def Wk {β : Type} (Z : Zx) (r : R β) (G : Hp) (α : List Addr) (H : Hp) (P : Pst β) (E : XK) : Prop := match r with
  | .ok S b => ∀ H2 G2 α2, Fr G α H G2 α2 H2 → Hd Z G2 α2 S H2 → P.p b H G2 α2 H2
  | .ex S x => Xp Z S x G α H E
  | .no => False
/-- p is a new thing c, not known yet -/
structure Nw (Z : Zx) (H G2 : Hp) (α2 : List Addr) (H2 : Hp) (c : Cell) (p : Addr) : Prop where
  h : H p = none
  g : G2 p = none
  a : p ∉ α2
  c : CellAt Z G2 c (H2 p)
def pRt (Z : Zx) (Q : VK) : Pst Rt := ⟨fun b H G2 α2 H2 => match b with
  | .val v => ∀ w, OnR Z G2 α2 v w → Q w H2
  | .new c => ∀ p, Nw Z H G2 α2 H2 c p → Q (.ref p) H2, fun {b H H' G2 α2 H2} h q => by
  cases b with
  | val v => exact q
  | new c => exact fun p n => q p ⟨h p n.h, n.g, n.a, n.c⟩⟩
def pB (Q : Bool → Hp → Prop) : Pst Bool := ⟨fun b _ _ _ H2 => Q b H2, fun _ q => q⟩
def pA (Z : Zx) (Q : List V → Hp → Prop) : Pst (List Vr) := ⟨fun l _ G2 α2 H2 => ∀ vs, OnA Z G2 α2 l vs → Q vs H2, fun _ q => q⟩
variable {E : XK}
theorem Xp.later {x : Xn} (h : Xp Z S x G α H E) (f : Fr G α H G2 α2 H2) : Xp Z S x G2 α2 H2 E := fun cls d H3 G3 α3 f3 => h cls d H3 G3 α3 (f.trans f3)
theorem Wk.later {β : Type} {r : R β} {P : Pst β} (h : Wk Z r G α H P E) (f : Fr G α H G2 α2 H2) : Wk Z r G2 α2 H2 P E := by
  match r, h with
  | .ok S b, h => exact fun H3 G3 α3 f3 hd => P.mono (fun a ha => f.back ha) (h H3 G3 α3 (f.trans f3) hd)
  | .ex S x, h => exact Xp.later h f
theorem Wk.here {β : Type} {b : β} {P : Pst β} (h : Wk Z (.ok S b) G α H P E) (hd : Hd Z G α S H) : P.p b H G α H := h H G α (Fr.refl G α H) hd
theorem Wk.any {β : Type} {r : Option β} {P : Pst β} {E' : XK} (w : Wk Z (R.of S r) G α H P E) : Wk Z (R.of S r) G α H P E' := by
  cases r with
  | some b => exact w
  | none => exact w
/-- a new cell, known from now on -/
theorem On.frz {c : Cell} {p : Addr} {o : HO} {d : Dv} (ho : CellAt Z G c (some o)) (hd : frzC c = some d) (hp : G p = none) : On Z (upd G p o) d (.ref p) := by
  have ex : Ex G (upd G p o) := Ex.new hp
  cases c with
  | lst l =>
    obtain ⟨xs, h1, h2⟩ := ho
    cases h1
    cases hd
    unfold On
    exact ⟨p, xs, rfl, upd_same, h2.up ex⟩
  | ob c l =>
    obtain ⟨dx, xs, h1, h3, h2⟩ := ho
    cases h1
    cases hd
    unfold On
    exact ⟨p, dx, xs, rfl, upd_same, h3, h2.up ex⟩
  | dc t ks vs =>
    obtain ⟨ws, h1, h3, h2⟩ := ho
    cases hd
    unfold On
    exact ⟨p, ws, rfl, by rw [upd_same]; exact h1, h3, h2.up ex⟩
  | dead => cases hd
  | tab rows => cases hd
theorem Fr.freeze {p : Addr} {o : HO} (f : Fr G α H G2 α2 H2) (hp : H p = none) (hG : G2 p = none) : Fr G α H (upd G2 p o) α2 H2 :=
  ⟨f.g.trans (Ex.new hG), f.a, f.h, fun b o' h1 h2 ht h3 => by
    have : b ≠ p := fun c => by subst c; rw [hp] at h2; cases h2
    rw [upd_ne this]
    exact f.n b o' h1 h2 ht h3, f.m, f.s⟩
theorem bindV_new {γ : Type} {S : Sto} {c : Cell} {d : Dv} {f : Sto → Vr → R γ} (h : frzC c = some d) : R.bindV (.ok S (.new c)) f = f S (.d d) := by
  cases c <;> cases h <;> rfl
theorem bindV_dead {γ : Type} {S : Sto} {c : Cell} {f : Sto → Vr → R γ} (h : frzC c = none) : R.bindV (.ok S (.new c)) f = .no := by
  cases c <;> first | rfl | cases h
/-- r gives d -/
inductive Got : R Rt → Sto → Vr → Prop where
  | val (S : Sto) (v : Vr) : Got (.ok S (.val v)) S v
  | new (S : Sto) (c : Cell) (d : Dv) (h : frzC c = some d) : Got (.ok S (.new c)) S (.d d)
theorem Got.bind {γ : Type} {r : R Rt} {S : Sto} {d : Vr} {f : Sto → Vr → R γ} (h : Got r S d) : r.bindV f = f S d := by
  cases h with
  | val => rfl
  | new S c d h => exact bindV_new h
/-- the first part of a row of parts: its value, then the rest -/
theorem Wk.bindV {γ : Type} {r : R Rt} {f : Sto → Vr → R γ} {P : Pst γ} {Q' : VK} (w : Wk Z (r.bindV f) G α H P E)
    (k : ∀ S2 d v H2 G2 α2, Fr G α H G2 α2 H2 → Hd Z G2 α2 S2 H2 → OnR Z G2 α2 d v → Wk Z (f S2 d) G2 α2 H2 P E → Q' v H2) : Wk Z r G α H (pRt Z Q') E := by
  match r, w with
  | .ok S (.val v), w => exact fun H2 G2 α2 f2 hd2 x ox => k S v x H2 G2 α2 f2 hd2 ox (w.later f2)
  | .ok S (.new c), w =>
    intro H2 G2 α2 f2 hd2 p n
    cases e : frzC c with
    | none => rw [bindV_dead e] at w; exact w.elim
    | some d =>
      rw [bindV_new e] at w
      cases q : H2 p with
      | none => exact absurd q n.c.ne
      | some o =>
        have hc := n.c
        rw [q] at hc
        have f3 := f2.freeze (o := o) n.h n.g
        exact k S (.d d) _ H2 _ α2 f3 (hd2.freeze n.g q n.a) (On.frz hc e n.g) (w.later f3)
  | .ex S x, w => exact w
theorem Wk.bind {β γ : Type} {r : R β} {f : Sto → β → R γ} {P : Pst γ} {P' : Pst β} (w : Wk Z (r.bind f) G α H P E)
    (k : ∀ S2 b H2 G2 α2, Fr G α H G2 α2 H2 → Hd Z G2 α2 S2 H2 → Wk Z (f S2 b) G2 α2 H2 P E → P'.p b H G2 α2 H2) : Wk Z r G α H P' E := by
  match r, w with
  | .ok S b, w => exact fun H2 G2 α2 f2 hd2 => k S b H2 G2 α2 f2 hd2 (w.later f2)
  | .ex S x, w => exact w
end
def SE (Z : Zx) (Ew : L2.St → XK) (te : TE) (f : FE) : Prop :=
  ∀ env σ G α S H Q, Hd Z G α S H → OnE Z G α env σ → Wk Z (f env S) G α H (pRt Z Q) (Ew σ) → te σ H Q
def ST (Z : Zx) (Ew : L2.St → XK) (tt : TT) (f : FT) : Prop :=
  ∀ env σ G α S H Q, Hd Z G α S H → OnE Z G α env σ → Wk Z (f env S) G α H (pB Q) (Ew σ) → tt σ H Q
def SA (Z : Zx) (Ew : L2.St → XK) (ta : TA) (f : FA) : Prop :=
  ∀ env σ G α S H Q, Hd Z G α S H → OnE Z G α env σ → Wk Z (f env S) G α H (pA Z Q) (Ew σ) → ta σ H Q
structure PF (Z : Zx) (Ew : L2.St → XK) (X : Cx) (e : Expr) (f : FE) : Prop where
  ex : ∃ te, PE X e te ∧ SE Z Ew te f
structure PTF (Z : Zx) (Ew : L2.St → XK) (X : Cx) (e : Expr) (f : FT) : Prop where
  ex : ∃ te, PT X e te ∧ ST Z Ew te f
structure PWF (Z : Zx) (Ew : L2.St → XK) (X : Cx) (e : Expr) (f : FT) : Prop where
  ex : ∃ te, PW X e te ∧ ST Z Ew te f
structure PAF (Z : Zx) (Ew : L2.St → XK) (X : Cx) (es : List Expr) (f : FA) : Prop where
  ex : ∃ te, PA X es te ∧ SA Z Ew te f
def fVar (i : Nat) : FE := fun env S => match env[i]? with
  | some (.v d) => .ok S (.val d)
  | _ => .no
def fC (d : Dv) : FE := fun _ S => .ok S (.val (.d d))
def g2 (S : Sto) (a b : Vr) (g : Dv → Dv → Option Rt) : R Rt := match snap S a, snap S b with
  | some x, some y => R.of S (g x y)
  | _, _ => .no
def fOp (g : Dv → Dv → Option Rt) (fa fb : FE) : FE := fun env S => (fa env S).bindV fun S1 a => (fb env S1).bindV fun S2 b => g2 S2 a b g
def g1 (S : Sto) (a : Vr) (g : Dv → Option Rt) : R Rt := match snap S a with
  | some x => R.of S (g x)
  | none => .no
def fUn (g : Dv → Option Rt) (fa : FE) : FE := fun env S => (fa env S).bindV fun S1 a => g1 S1 a g
def fNil : FA := fun _ S => .ok S []
def fCons (fa : FE) (fr : FA) : FA := fun env S => (fa env S).bindV fun S1 a => (fr env S1).bind fun S2 l => .ok S2 (a :: l)
def allD : List Vr → Option (List Dv)
  | [] => some []
  | .d x :: l => match allD l with
    | some r => some (x :: r)
    | none => none
  | .r _ :: _ => none
def gTupD (l : List Vr) : Option Rt := match allD l with
  | some r => if r.length ≤ 100000 then some (.val (.d (.tup r))) else none
  | none => none
def gLstD (l : List Vr) : Option Rt := match allD l with
  | some r => if r.length ≤ 100000 then some (.new (.lst r)) else none
  | none => none
def fTup (fa : FA) : FE := fun env S => (fa env S).bind fun S1 l => R.of S1 (gTupD l)
def fLst (fa : FA) : FE := fun env S => (fa env S).bind fun S1 l => R.of S1 (gLstD l)
def onB {β : Type} (S : Sto) (a : Vr) (f : Bool → R β) : R β := match a with
  | .d (.bl b) => f b
  | _ => .no
def fAnd (fa fb : FE) : FE := fun env S => (fa env S).bindV fun S1 a => onB S1 a fun b => if b then fb env S1 else .ok S1 (.val (.d (.bl false)))
def fOr (fa fb : FE) : FE := fun env S => (fa env S).bindV fun S1 a => onB S1 a fun b => if b then .ok S1 (.val (.d (.bl true))) else fb env S1
def fNot (fa : FE) : FE := fun env S => (fa env S).bindV fun S1 a => onB S1 a fun b => .ok S1 (.val (.d (.bl (!b))))
def fIf (ft : FT) (fa fb : FE) : FE := fun env S => (ft env S).bind fun S1 b => if b then fa env S1 else fb env S1
/-- tests -/
def kVal (fa : FE) : FT := fun env S => (fa env S).bindV fun S1 a => onB S1 a fun b => .ok S1 b
def kAnd (ta tb : FT) : FT := fun env S => (ta env S).bind fun S1 b => if b then tb env S1 else .ok S1 false
def kOr (ta tb : FT) : FT := fun env S => (ta env S).bind fun S1 b => if b then .ok S1 true else tb env S1
def kNot (ta : FT) : FT := fun env S => (ta env S).bind fun S1 b => .ok S1 (!b)
section
variable {Z : Zx} {Ew : L2.St → XK} {ta tb te : TE} {fa fb : FE} {G H : Hp} {α : List Addr} {S : Sto} {env : Env} {σ : L2.St}
theorem SE.bind {γ : Type} {f : Sto → Vr → R γ} {P : Pst γ} {Q' : VK} (h : SE Z Ew ta fa) (hd : Hd Z G α S H) (oe : OnE Z G α env σ) (w : Wk Z ((fa env S).bindV f) G α H P (Ew σ))
    (k : ∀ S2 d v H2 G2 α2, Fr G α H G2 α2 H2 → Hd Z G2 α2 S2 H2 → OnE Z G2 α2 env σ → OnR Z G2 α2 d v → Wk Z (f S2 d) G2 α2 H2 P (Ew σ) → Q' v H2) : ta σ H Q' :=
  h env σ G α S H Q' hd oe (w.bindV fun S2 d v H2 G2 α2 f2 hd2 ov w2 => k S2 d v H2 G2 α2 f2 hd2 (oe.up f2.g f2.a) ov w2)
theorem SA.bind {ta : TA} {fa : FA} {γ : Type} {f : Sto → List Vr → R γ} {P : Pst γ} {Q' : List V → Hp → Prop} (h : SA Z Ew ta fa) (hd : Hd Z G α S H) (oe : OnE Z G α env σ) (w : Wk Z ((fa env S).bind f) G α H P (Ew σ))
    (k : ∀ S2 l vs H2 G2 α2, Fr G α H G2 α2 H2 → Hd Z G2 α2 S2 H2 → OnE Z G2 α2 env σ → OnA Z G2 α2 l vs → Wk Z (f S2 l) G2 α2 H2 P (Ew σ) → Q' vs H2) : ta σ H Q' :=
  h env σ G α S H Q' hd oe (w.bind (P' := pA Z Q') fun S2 l H2 G2 α2 f2 hd2 w2 vs ov => k S2 l vs H2 G2 α2 f2 hd2 (oe.up f2.g f2.a) ov w2)
theorem ST.bind {tt : TT} {ft : FT} {γ : Type} {f : Sto → Bool → R γ} {P : Pst γ} {Q' : Bool → Hp → Prop} (h : ST Z Ew tt ft) (hd : Hd Z G α S H) (oe : OnE Z G α env σ) (w : Wk Z ((ft env S).bind f) G α H P (Ew σ))
    (k : ∀ S2 b H2 G2 α2, Fr G α H G2 α2 H2 → Hd Z G2 α2 S2 H2 → OnE Z G2 α2 env σ → Wk Z (f S2 b) G2 α2 H2 P (Ew σ) → Q' b H2) : tt σ H Q' :=
  h env σ G α S H Q' hd oe (w.bind (P' := pB Q') fun S2 b H2 G2 α2 f2 hd2 w2 => k S2 b H2 G2 α2 f2 hd2 (oe.up f2.g f2.a) w2)
theorem Wk.dat {v : Vr} {w : V} {Q : VK} {E : XK} (h : Wk Z (.ok S (.val v)) G α H (pRt Z Q) E) (hd : Hd Z G α S H) (o : OnR Z G α v w) : Q w H := h.here hd w o
theorem Wk.bool {b : Bool} {Q : Bool → Hp → Prop} {E : XK} (h : Wk Z (.ok S b) G α H (pB Q) E) (hd : Hd Z G α S H) : Q b H := h.here hd
theorem on_non : On Z G .non .non := by unfold On; rfl
theorem on_bl {b : Bool} : On Z G (.bl b) (.bl b) := by unfold On; rfl
theorem on_int {b : Int} : On Z G (.int b) (.int b) := by unfold On; rfl
theorem on_str {b : Str} : On Z G (.str b) (.str b) := by unfold On; rfl
theorem on_cls {c : String} : On Z G (.cls c) (.ref (Z.cm c)) := by unfold On; rfl
theorem on_ty {a : String} : On Z G (.ty a) (.ty a) := by unfold On; rfl
theorem or_bl (Z : Zx) (G : Hp) (α : List Addr) (b : Bool) : OnR Z G α (.d (.bl b)) (.bl b) := on_bl (Z := Z) (G := G)
theorem or_int (Z : Zx) (G : Hp) (α : List Addr) (b : Int) : OnR Z G α (.d (.int b)) (.int b) := on_int (Z := Z) (G := G)
theorem or_str (Z : Zx) (G : Hp) (α : List Addr) (b : Str) : OnR Z G α (.d (.str b)) (.str b) := on_str (Z := Z) (G := G)
theorem or_non (Z : Zx) (G : Hp) (α : List Addr) : OnR Z G α (.d .non) .non := on_non (Z := Z) (G := G)
theorem se_var {i : Nat} : SE Z Ew (tVar i) (fVar i) := fun env σ G α S H Q hd oe w => by
  unfold fVar at w
  cases e : env[i]? with
  | none => rw [e] at w; exact w.elim
  | some s =>
    rw [e] at w
    cases s with
    | u => exact w.elim
    | x => exact w.elim
    | v d =>
      obtain ⟨v, h1, h2⟩ := oe.at_ i d e
      exact ⟨v, h1, w.dat hd h2⟩
theorem se_c {d : Dv} {v : V} (h : ∀ G, On Z G d v) : SE Z Ew (tC v) (fC d) := fun env σ G α S H Q hd oe w => w.dat hd (h G)
/-- an operation on two values as they stand -/
def rD (Z : Zx) (g : Dv → Dv → Option Rt) : R2 := fun x y H Q => ∃ G α S a b, Hd Z G α S H ∧ OnH Z G H a x ∧ OnH Z G H b y ∧ Wk Z (R.of S (g a b)) G α H (pRt Z Q) E0
theorem g2_ok {G2 H2 : Hp} {α2 : List Addr} {S2 : Sto} {a b : Vr} {x y : V} {g : Dv → Dv → Option Rt} {Q : VK} {E : XK} (hd : Hd Z G2 α2 S2 H2) (ox : OnR Z G2 α2 a x) (oy : OnR Z G2 α2 b y) (w : Wk Z (g2 S2 a b g) G2 α2 H2 (pRt Z Q) E) : rD Z g x y H2 Q := by
  unfold g2 at w
  cases e1 : snap S2 a with
  | none => rw [e1] at w; exact w.elim
  | some u =>
    cases e2 : snap S2 b with
    | none => rw [e1, e2] at w; exact w.elim
    | some v =>
      rw [e1, e2] at w
      exact ⟨G2, α2, S2, u, v, hd, snap_on hd ox e1, snap_on hd oy e2, w.any⟩
theorem se_op {g : Dv → Dv → Option Rt} (ha : SE Z Ew ta fa) (hb : SE Z Ew tb fb) : SE Z Ew (tOp (rD Z g) ta tb) (fOp g fa fb) := fun env σ G α S H Q hd oe w =>
  ha.bind hd oe w fun S2 a x H2 G2 α2 f2 hd2 oe2 ox w2 => hb.bind hd2 oe2 w2 fun S3 b y H3 G3 α3 f3 hd3 oe3 oy w3 => g2_ok hd3 (ox.up f3.g f3.a) oy w3
theorem sa_nil : SA Z Ew tNil fNil := fun env σ G α S H Q hd oe w => w.here hd [] rfl
theorem sa_cons {tr : TA} {fr : FA} (ha : SE Z Ew ta fa) (hr : SA Z Ew tr fr) : SA Z Ew (tCons ta tr) (fCons fa fr) := fun env σ G α S H Q hd oe w =>
  ha.bind hd oe w fun S2 a x H2 G2 α2 f2 hd2 oe2 ox w2 => hr.bind hd2 oe2 w2 fun S3 l vs H3 G3 α3 f3 hd3 oe3 ol w3 => w3.here hd3 _ ⟨_, _, rfl, ox.up f3.g f3.a, ol⟩
theorem sz_of {n : Nat} (h : n ≤ 100000) : n ≤ sizeLine := Nat.le_trans h (by decide)
theorem allD_on : ∀ {l : List Vr} {r : List Dv} {vs : List V}, allD l = some r → OnA Z G α l vs → OnL Z G r vs
  | [], r, vs, e, h => by
    cases e
    exact OnL.nil.mpr h
  | .d x :: l, r, vs, e, h => by
    obtain ⟨y, ys, rfl, h2, h3⟩ := h
    unfold allD at e
    cases q : allD l with
    | none => rw [q] at e; cases e
    | some m =>
      rw [q] at e
      cases e
      exact OnL.cons' h2 (allD_on q h3)
  | .r _ :: l, r, vs, e, h => by cases e
/-- a new object that nobody knows -/
theorem Wk.fresh {S : Sto} {c : Cell} {p : Addr} {o : HO} {Q : VK} {E : XK} (w : Wk Z (.ok S (.new c)) G α H (pRt Z Q) E) (hd : Hd Z G α S H) (hp : H p = none) (hc : CellAt Z G c (some o)) : Q (.ref p) (upd H p o) := by
  have e := Ex.new (o := o) hp
  exact w _ G α (Fr.grow hd e) (hd.grow e) p ⟨hp, fresh_back hd.ex hp, fun h => hd.live h hp, by rw [upd_same]; exact hc⟩
theorem se_lst {ta : TA} {fa : FA} (ha : SA Z Ew ta fa) : SE Z Ew (tLst ta) (fLst fa) := fun env σ G α S H Q hd oe w =>
  ha.bind hd oe w fun S2 l vs H2 G2 α2 f2 hd2 oe2 ol w2 => by
    unfold gLstD at w2
    cases e : allD l with
    | none => rw [e] at w2; exact w2.elim
    | some r =>
      rw [e] at w2
      have or := allD_on e ol
      by_cases hl : r.length ≤ 100000
      · simp only [if_pos hl] at w2
        exact ⟨sz_of (by rw [or.len]; exact hl), fun p hp => w2.fresh hd2 hp ⟨vs, rfl, or⟩⟩
      · simp only [if_neg hl] at w2
        exact w2.elim
theorem onB_ok {β : Type} {a : Vr} {f : Bool → R β} {P : Pst β} {E : XK} {x : V} (w : Wk Z (onB S a f) G α H P E) (ox : OnR Z G α a x) : ∃ b, x = .bl b ∧ Wk Z (f b) G α H P E := by
  match a, w, ox with
  | .d (.bl b), w, ox =>
    have e : On Z G (.bl b) x := ox
    unfold On at e
    exact ⟨b, e, w⟩
theorem se_and (ha : SE Z Ew ta fa) (hb : SE Z Ew tb fb) : SE Z Ew (tAndV ta tb) (fAnd fa fb) := fun env σ G α S H Q hd oe w =>
  ha.bind hd oe w fun S2 a x H2 G2 α2 f2 hd2 oe2 ox w2 => by
    obtain ⟨b, e, w3⟩ := onB_ok w2 ox
    refine ⟨b, e, ?_⟩
    cases b with
    | true => rw [if_pos rfl]; exact hb env σ G2 α2 S2 H2 Q hd2 oe2 w3
    | false => rw [if_neg Bool.false_ne_true]; exact Wk.dat w3 hd2 (or_bl Z G2 α2 _)
theorem se_if {tt : TT} {ft : FT} (ht : ST Z Ew tt ft) (ha : SE Z Ew ta fa) (hb : SE Z Ew tb fb) : SE Z Ew (tIf tt ta tb) (fIf ft fa fb) := fun env σ G α S H Q hd oe w =>
  ht.bind hd oe w fun S2 b H2 G2 α2 f2 hd2 oe2 w2 => by
    cases b with
    | true => rw [if_pos rfl]; exact ha env σ G2 α2 S2 H2 Q hd2 oe2 w2
    | false => rw [if_neg Bool.false_ne_true]; exact hb env σ G2 α2 S2 H2 Q hd2 oe2 w2
theorem st_val (ha : SE Z Ew ta fa) : ST Z Ew (tB ta) (kVal fa) := fun env σ G α S H Q hd oe w =>
  ha.bind hd oe w fun S2 a x H2 G2 α2 f2 hd2 oe2 ox w2 => by
    obtain ⟨b, e, w3⟩ := onB_ok w2 ox
    exact ⟨b, e, w3.bool hd2⟩
theorem st_or {tt tu : TT} {ft fu : FT} (ha : ST Z Ew tt ft) (hb : ST Z Ew tu fu) : ST Z Ew (tOr tt tu) (kOr ft fu) := fun env σ G α S H Q hd oe w =>
  ha.bind hd oe w fun S2 b H2 G2 α2 f2 hd2 oe2 w2 => by
    cases b with
    | true => rw [if_pos rfl]; exact Wk.bool w2 hd2
    | false => rw [if_neg Bool.false_ne_true]; exact hb env σ G2 α2 S2 H2 Q hd2 oe2 w2
theorem st_not {tt : TT} {ft : FT} (ha : ST Z Ew tt ft) : ST Z Ew (tNot tt) (kNot ft) := fun env σ G α S H Q hd oe w =>
  ha.bind hd oe w fun S2 b H2 G2 α2 f2 hd2 oe2 w2 => Wk.bool w2 hd2
end
section
variable {Z : Zx} {Ew : L2.St → XK} {X : Cx} {a b c : Expr} {fa fb fc : FE} {pos : Pos}
theorem pf_var (i : Nat) {x : Str} (hN : X.N[i]? = some x := by rfl) (hv : Vis X.env.scope x := by first | exact Or.inl rfl | exact Or.inr (Or.inl rfl) | exact Or.inr (Or.inr rfl)) (hd : (x == ("__debug__" : Str)) = false := by decide)
    (hcd : (x == ("__classdict__" : Str)) = false := by decide) : PF Z Ew X (.Name x pos) (fVar i) := ⟨_, pe_var hN hv hd hcd, se_var⟩
theorem pf_int {i : Int} {j pos} : PF Z Ew X (.Constant (.int i) j pos) (fC (.int i)) := ⟨_, pe_int, se_c fun G => on_int (Z := Z) (G := G)⟩
theorem pf_bl {i : Bool} {j pos} : PF Z Ew X (.Constant (.bool i) j pos) (fC (.bl i)) := ⟨_, pe_bl, se_c fun G => on_bl (Z := Z) (G := G)⟩
theorem pf_str {i : Str} {j pos} : PF Z Ew X (.Constant (.str i) j pos) (fC (.str i)) := ⟨_, pe_str, se_c fun G => on_str (Z := Z) (G := G)⟩
theorem pf_non {j pos} : PF Z Ew X (.Constant .none j pos) (fC .non) := ⟨_, pe_non, se_c fun G => on_non (Z := Z) (G := G)⟩
theorem pf_glob {x : Str} {u : Value} {d : Dv} {v : V} (hg : Gl X x) (hm : X.mg x = some u) (r : RelV v u) (h : ∀ G, On Z G d v) (hd : (x == ("__debug__" : Str)) = false := by decide) : PF Z Ew X (.Name x pos) (fC d) := ⟨_, pe_glob hg hm r hd, se_c h⟩
theorem pf_bltn {x : Str} {v : V} {u : Value} {d : Dv} (hg : Gl X x) (hm : X.mg x = none) (hv : bootBuiltins x = some u) (r : RelV v u) (h : ∀ G, On Z G d v) (hn : x ≠ "__name__" := by decide) (hd : (x == ("__debug__" : Str)) = false := by decide) : PF Z Ew X (.Name x pos) (fC d) :=
  ⟨_, pe_bltn hg hm hv r hn hd, se_c h⟩
theorem pf_op {op : Operator} {g : Dv → Dv → Option Rt} (h : OpR X (binaryOp op) (rD Z g)) (ha : PF Z Ew X a fa) (hb : PF Z Ew X b fb) : PF Z Ew X (.BinOp a op b pos) (fOp g fa fb) := by
  obtain ⟨ta, h1, h2⟩ := ha.ex
  obtain ⟨tb, h3, h4⟩ := hb.ex
  exact ⟨_, pe_op h h1 h3, se_op h2 h4⟩
theorem pf_cmp {op : CmpOp} {g : Dv → Dv → Option Rt} (h : OpR X (compareOp op) (rD Z g)) (ha : PF Z Ew X a fa) (hb : PF Z Ew X b fb) (hm : behindInMarks op b = false) : PF Z Ew X (.Compare a [op] [b] pos) (fOp g fa fb) := by
  obtain ⟨ta, h1, h2⟩ := ha.ex
  obtain ⟨tb, h3, h4⟩ := hb.ex
  exact ⟨_, pe_cmpR h h1 h3 hm, se_op h2 h4⟩
theorem ptf_cmp {op : CmpOp} {g : Dv → Dv → Option Rt} (h : OpR X (compareOp op) (rD Z g)) (ha : PF Z Ew X a fa) (hb : PF Z Ew X b fb) (hm : behindInMarks op b = false) : PTF Z Ew X (.Compare a [op] [b] pos) (kVal (fOp g fa fb)) := by
  obtain ⟨ta, h1, h2⟩ := ha.ex
  obtain ⟨tb, h3, h4⟩ := hb.ex
  exact ⟨_, pt_cmpR h h1 h3 hm, st_val (se_op h2 h4)⟩
theorem pf_and {rest : List Expr} (ha : PF Z Ew X a fa) (hb : PF Z Ew X (.BoolOp .And (b :: rest) pos) fb) : PF Z Ew X (.BoolOp .And (a :: b :: rest) pos) (fAnd fa fb) := by
  obtain ⟨ta, h1, h2⟩ := ha.ex
  obtain ⟨tb, h3, h4⟩ := hb.ex
  exact ⟨_, pe_and h1 h3, se_and h2 h4⟩
theorem pf_one {op} (ha : PF Z Ew X a fa) : PF Z Ew X (.BoolOp op [a] pos) fa := by
  obtain ⟨ta, h1, h2⟩ := ha.ex
  exact ⟨_, pe_one h1, h2⟩
theorem pf_if {ft : FT} (hc : PTF Z Ew X c ft) (ha : PF Z Ew X a fa) (hb : PF Z Ew X b fb) : PF Z Ew X (.IfExp c a b pos) (fIf ft fa fb) := by
  obtain ⟨tt, h5, h6⟩ := hc.ex
  obtain ⟨ta, h1, h2⟩ := ha.ex
  obtain ⟨tb, h3, h4⟩ := hb.ex
  exact ⟨_, pe_ifExp h5 h1 h3, se_if h6 h2 h4⟩
theorem paf_nil : PAF Z Ew X [] fNil := ⟨_, pa_nil, sa_nil⟩
theorem paf_cons {es : List Expr} {fr : FA} (ha : PF Z Ew X a fa) (hr : PAF Z Ew X es fr) (he : starEach (a :: es) X.env = (false, eval a X.env) :: starEach es X.env := by rfl) : PAF Z Ew X (a :: es) (fCons fa fr) := by
  obtain ⟨ta, h1, h2⟩ := ha.ex
  obtain ⟨tb, h3, h4⟩ := hr.ex
  exact ⟨_, pa_cons h1 h3 he, sa_cons h2 h4⟩
theorem pf_lst {es : List Expr} {fr : FA} (h : PAF Z Ew X es fr) : PF Z Ew X (.List es pos) (fLst fr) := by
  obtain ⟨ta, h1, h2⟩ := h.ex
  exact ⟨_, pe_lst h1, se_lst h2⟩
theorem ptf_val {e : Expr} {f : FE} (h : PF Z Ew X e f) (he : ∀ whole, isTrue e X.env whole = (do let v ← whole; standAt e.pos; holding [v] (truthy v)) := by intro _; rfl) : PTF Z Ew X e (kVal f) := by
  obtain ⟨ta, h1, h2⟩ := h.ex
  exact ⟨_, pt_val h1 he, st_val h2⟩
theorem pwf_one {op} {ft : FT} (h : PTF Z Ew X a ft) (ho : op = .And ∨ op = .Or := by first | exact .inl rfl | exact .inr rfl) : PWF Z Ew X (.BoolOp op [a] pos) ft := by
  obtain ⟨ta, h1, h2⟩ := h.ex
  rcases ho with rfl | rfl
  · exact ⟨_, pw_and1 h1, h2⟩
  · exact ⟨_, pw_or1 h1, h2⟩
theorem pwf_or {rest : List Expr} {ft fu : FT} (h : PTF Z Ew X a ft) (hb : PWF Z Ew X (.BoolOp .Or (b :: rest) pos) fu) : PWF Z Ew X (.BoolOp .Or (a :: b :: rest) pos) (kOr ft fu) := by
  obtain ⟨ta, h1, h2⟩ := h.ex
  obtain ⟨tb, h3, h4⟩ := hb.ex
  exact ⟨_, pw_or h1 h3, st_or h2 h4⟩
theorem ptf_w {ft : FT} (h : PWF Z Ew X a ft) : PTF Z Ew X a ft := by
  obtain ⟨ta, h1, h2⟩ := h.ex
  exact ⟨_, h1.pt, h2⟩
theorem ptf_not {ft : FT} (h : PTF Z Ew X a ft) : PTF Z Ew X (.UnaryOp .Not a pos) (kNot ft) := by
  obtain ⟨ta, h1, h2⟩ := h.ex
  exact ⟨_, pt_not h1, st_not h2⟩
end
end DN
namespace DN
open PySem PySem.Spec PyProof.Rows L2 Evl
def vI (i : Int) : Option Rt := some (.val (.d (.int i)))
def vB (b : Bool) : Option Rt := some (.val (.d (.bl b)))
def vS (s : Str) : Option Rt := some (.val (.d (.str s)))
def vT (l : List Dv) : Option Rt := some (.val (.d (.tup l)))
def nL (l : List Dv) : Option Rt := some (.new (.lst l))
def onlyIf (b : Bool) (r : Option Rt) : Option Rt := if b then r else none
def gAdd : Dv → Dv → Option Rt
  | .int i, .int j => vI (i + j)
  | .str a, .str b => onlyIf (decide (a.length + b.length ≤ 100000)) (vS (a ++ b))
  | .lst a, .lst b => onlyIf (decide (a.length + b.length ≤ 100000)) (nL (a ++ b))
  | .tup a, .tup b => onlyIf (decide (a.length + b.length ≤ 100000)) (vT (a ++ b))
  | _, _ => none
def gSub : Dv → Dv → Option Rt
  | .int i, .int j => vI (i - j)
  | _, _ => none
def small64 (i : Int) : Bool := decide (-(2 ^ 64) < i) && decide (i < 2 ^ 64)
def gMul : Dv → Dv → Option Rt
  | .int i, .int j => onlyIf (small64 i || small64 j) (vI (i * j))
  | .str a, .int n => onlyIf (decide (0 ≤ n) && decide (n ≤ 10000) && decide (a.length ≤ 1000)) (vS (OP.repS a n.toNat))
  | .lst a, .int n => onlyIf (decide (-100000 ≤ n) && decide (n ≤ 100000) && decide (a.length * n.toNat ≤ 100000)) (nL (List.replicate n.toNat a).flatten)
  | _, _ => none
def gDiv : Dv → Dv → Option Rt
  | .int i, .int j => onlyIf (decide (j ≠ 0) && decide (j.natAbs < 1073741824)) (vI (i.fdiv j))
  | _, _ => none
def gMod : Dv → Dv → Option Rt
  | .int i, .int j => onlyIf (decide (j ≠ 0)) (vI (i.fmod j))
  | _, _ => none
def gPow : Dv → Dv → Option Rt
  | .int i, .int j => onlyIf (decide (0 ≤ j) && decide (j ≤ 1000000) && decide (i.natAbs < 2 ^ 64)) (vI (i ^ j.toNat))
  | _, _ => none
def gLt : Dv → Dv → Option Rt
  | .int i, .int j => vB (decide (i < j))
  | .str a, .str b => vB (decide (a.cps.toList < b.cps.toList))
  | _, _ => none
def gGt : Dv → Dv → Option Rt
  | .int i, .int j => vB (decide (j < i))
  | _, _ => none
mutual
def okN : Nat → Dv → Bool
  | _, .non => true
  | _, .bl _ => true
  | _, .int _ => true
  | _, .str s => PyData.strOk s
  | n + 1, .lst l => okNs n l
  | n + 1, .tup l => okNs n l
  | _, _ => false
def okNs : Nat → List Dv → Bool
  | _, [] => true
  | n, d :: l => okN n d && okNs n l
end
mutual
def eqD : Dv → Dv → Bool
  | .non, .non => true
  | .bl a, .bl b => a == b
  | .bl a, .int j => (if a then 1 else 0) == j
  | .int i, .bl b => i == (if b then 1 else 0)
  | .int i, .int j => i == j
  | .str a, .str b => a == b
  | .lst a, .lst b => eqDs a b
  | .tup a, .tup b => eqDs a b
  | _, _ => false
def eqDs : List Dv → List Dv → Bool
  | [], [] => true
  | a :: l, b :: m => eqD a b && eqDs l m
  | _, _ => false
end
def gEq (a b : Dv) : Option Rt := onlyIf (okN 60 a && okN 60 b) (vB (eqD a b))
def gNe (a b : Dv) : Option Rt := onlyIf (okN 60 a && okN 60 b) (vB (!eqD a b))
section
variable {Z : Zx} {X : Cx} {G H : Hp} {α : List Addr} {S : Sto} {Q : VK} {E : XK}
theorem onlyIf_ok {b : Bool} {r : Option Rt} {P : Pst Rt} (w : Wk Z (R.of S (onlyIf b r)) G α H P E) : b = true ∧ Wk Z (R.of S r) G α H P E := by
  cases b with
  | true => exact ⟨rfl, w⟩
  | false => exact w.elim
theorem wI {i : Int} (w : Wk Z (R.of S (vI i)) G α H (pRt Z Q) E) (hd : Hd Z G α S H) : Q (.int i) H := Wk.dat (v := .d (.int i)) w hd (or_int Z G α i)
theorem wB {i : Bool} (w : Wk Z (R.of S (vB i)) G α H (pRt Z Q) E) (hd : Hd Z G α S H) : Q (.bl i) H := Wk.dat (v := .d (.bl i)) w hd (or_bl Z G α i)
theorem wS {i : Str} (w : Wk Z (R.of S (vS i)) G α H (pRt Z Q) E) (hd : Hd Z G α S H) : Q (.str i) H := Wk.dat (v := .d (.str i)) w hd (or_str Z G α i)
/-- a new list, of what is known -/
theorem wL {l : List Dv} {xs : List V} (w : Wk Z (R.of S (nL l)) G α H (pRt Z Q) E) (hd : Hd Z G α S H) (o : OnL Z G l xs) {p : Addr} (hp : H p = none) : Q (.ref p) (upd H p (.lst xs)) := Wk.fresh w hd hp ⟨xs, rfl, o⟩
/-- a new tuple -/
theorem wT {l : List Dv} {xs : List V} (w : Wk Z (R.of S (vT l)) G α H (pRt Z Q) E) (hd : Hd Z G α S H) (o : OnL Z G l xs) {p : Addr} (hp : H p = none) : Q (.ref p) (upd H p (.tup xs)) := by
  obtain ⟨h3, f3⟩ := hd.know (o := .tup xs) hp
  exact w _ _ _ f3 h3 _ (by show On _ _ _ _; unfold On; exact ⟨p, xs, rfl, upd_same, o.up f3.g⟩)
/-- a tuple that stands already -/
theorem wkT {l : List Dv} {xs : List V} {a : Addr} (w : Wk Z (R.of S (vT l)) G α H (pRt Z Q) E) (hd : Hd Z G α S H) (h : G a = some (.tup xs)) (o : OnL Z G l xs) : Q (.ref a) H :=
  Wk.dat (v := .d (.tup l)) w hd (by show On _ _ _ _; unfold On; exact ⟨a, xs, rfl, h, o⟩)
theorem onl_rep {l : List Dv} {xs : List V} (h : OnL Z G l xs) : ∀ n : Nat, OnL Z G (List.replicate n l).flatten (List.replicate n xs).flatten
  | 0 => OnL.nil'
  | n + 1 => by
    rw [List.replicate_succ, List.replicate_succ, List.flatten_cons, List.flatten_cons]
    exact h.app (onl_rep h n)
theorem and3 {a b c : Bool} (h : (a && b && c) = true) : a = true ∧ b = true ∧ c = true := by
  cases a <;> cases b <;> cases c <;> simp_all
theorem od_add (hK : X.K = Z.K) : OpR X (binaryOp .Add) (rD Z gAdd) := by
  intro pins s σ H x y v u Q I rx ry h
  obtain ⟨G, α, S, a, b, hd, ha, hb, w⟩ := h
  cases a with
  | int i =>
    cases b with
    | int j => cases ha; cases hb; exact op_add pins s σ H _ _ v u Q I rx ry ⟨i, j, rfl, rfl, wI w hd⟩
    | _ => exact w.elim
  | str i =>
    cases b with
    | str j =>
      cases ha; cases hb
      obtain ⟨h1, w⟩ := onlyIf_ok w
      exact op_add_str pins s σ H _ _ v u Q I rx ry ⟨i, j, rfl, rfl, sz_of (of_decide_eq_true h1), wS w hd⟩
    | _ => exact w.elim
  | lst i =>
    cases b with
    | lst j =>
      obtain ⟨a, xs, rfl, h1, h2⟩ := ha
      obtain ⟨b, ys, rfl, h3, h4⟩ := hb
      obtain ⟨h5, w⟩ := onlyIf_ok w
      exact op_cat pins s σ H _ _ v u Q I rx ry ⟨a, b, xs, ys, rfl, rfl, h1, h3, by rw [h2.len, h4.len]; exact sz_of (of_decide_eq_true h5), fun p hp => wL w hd (h2.app h4) hp⟩
    | _ => exact w.elim
  | tup i =>
    cases b with
    | tup j =>
      obtain ⟨a, xs, rfl, h1, h2⟩ := ha
      obtain ⟨b, ys, rfl, h3, h4⟩ := hb
      obtain ⟨h5, w⟩ := onlyIf_ok w
      refine op_catA pins s σ H _ _ v u Q I rx ry ⟨a, b, xs, ys, rfl, rfl, SqT.of (hd.ex _ _ h1), SqT.of (hd.ex _ _ h3), by rw [h2.len, h4.len]; exact sz_of (of_decide_eq_true h5), fun e => ?_, fun _ e => ?_, fun _ _ p hp => wT w hd (h2.app h4) hp⟩
      · have e2 := h2.len
        rw [e] at e2
        have e3 : i = [] := List.length_eq_zero_iff.mp e2.symm
        subst e3
        exact wkT w hd h3 h4
      · have e2 := h4.len
        rw [e] at e2
        have e3 : j = [] := List.length_eq_zero_iff.mp e2.symm
        subst e3
        rw [List.append_nil] at w
        exact wkT w hd h1 h2
    | _ => exact w.elim
  | _ => cases b <;> exact w.elim
/-- two ints -/
theorem od_ii {f : Value → Value → Sem Value} {g : Dv → Dv → Option Rt} {C : Int → Int → Prop} {k : Int → Int → Int} (h : OpR X f (rI C fun i j => .int (k i j)))
    (hg : ∀ (a b : Dv) {G α S H} {Q : VK} {E : XK}, Wk Z (R.of S (g a b)) G α H (pRt Z Q) E → ∃ i j, a = .int i ∧ b = .int j ∧ C i j ∧ Wk Z (R.of S (vI (k i j))) G α H (pRt Z Q) E) : OpR X f (rD Z g) := by
  intro pins s σ H x y v u Q I rx ry h'
  obtain ⟨G, α, S, a, b, hd, ha, hb, w⟩ := h'
  obtain ⟨i, j, rfl, rfl, hc, w⟩ := hg a b w
  cases ha; cases hb
  exact h pins s σ H _ _ v u Q I rx ry ⟨i, j, rfl, rfl, hc, wI w hd⟩
theorem rI_of0 {f : Value → Value → Sem Value} {g : Int → Int → V} (h : OpR X f (rI0 g)) : OpR X f (rI (fun _ _ => True) g) := fun pins s σ H x y v u Q I rx ry q => by
  obtain ⟨i, j, h1, h2, _, h3⟩ := q
  exact h pins s σ H x y v u Q I rx ry ⟨i, j, h1, h2, h3⟩
theorem od_sub : OpR X (binaryOp .Sub) (rD Z gSub) := od_ii (rI_of0 op_sub) fun a b {G α S H Q E} w => by
  cases a <;> first | (exact w.elim) | skip
  cases b <;> first | (exact w.elim) | exact ⟨_, _, rfl, rfl, trivial, w⟩
theorem od_div : OpR X (binaryOp .FloorDiv) (rD Z gDiv) := od_ii op_fdivN fun a b {G α S H Q E} w => by
  cases a <;> first | (exact w.elim) | skip
  cases b <;> first | (exact w.elim) | skip
  obtain ⟨h1, w⟩ := onlyIf_ok w
  rw [Bool.and_eq_true] at h1
  exact ⟨_, _, rfl, rfl, ⟨of_decide_eq_true h1.1, of_decide_eq_true h1.2⟩, w⟩
theorem od_mod : OpR X (binaryOp .Mod) (rD Z gMod) := od_ii op_modN fun a b {G α S H Q E} w => by
  cases a <;> first | (exact w.elim) | skip
  cases b <;> first | (exact w.elim) | skip
  obtain ⟨h1, w⟩ := onlyIf_ok w
  exact ⟨_, _, rfl, rfl, of_decide_eq_true h1, w⟩
theorem od_pow : OpR X (binaryOp .Pow) (rD Z gPow) := od_ii op_pow fun a b {G α S H Q E} w => by
  cases a <;> first | (exact w.elim) | skip
  cases b <;> first | (exact w.elim) | skip
  obtain ⟨h1, w⟩ := onlyIf_ok w
  obtain ⟨h1, h2, h3⟩ := and3 h1
  exact ⟨_, _, rfl, rfl, ⟨of_decide_eq_true h1, of_decide_eq_true h2, of_decide_eq_true h3⟩, w⟩
theorem small64_ok {i : Int} (h : small64 i = true) : -(2 ^ 64) < i ∧ i < 2 ^ 64 := by
  unfold small64 at h
  rw [Bool.and_eq_true] at h
  exact ⟨of_decide_eq_true h.1, of_decide_eq_true h.2⟩
theorem od_mul : OpR X (binaryOp .Mult) (rD Z gMul) := by
  intro pins s σ H x y v u Q I rx ry h
  obtain ⟨G, α, S, a, b, hd, ha, hb, w⟩ := h
  cases a with
  | int i =>
    cases b with
    | int j =>
      cases ha; cases hb
      obtain ⟨h1, w⟩ := onlyIf_ok w
      rw [Bool.or_eq_true] at h1
      exact op_mul pins s σ H _ _ v u Q I rx ry ⟨i, j, rfl, rfl, h1.imp small64_ok small64_ok, wI w hd⟩
    | _ => exact w.elim
  | str i =>
    cases b with
    | int j =>
      cases ha; cases hb
      obtain ⟨h1, w⟩ := onlyIf_ok w
      obtain ⟨h1, h2, h3⟩ := and3 h1
      exact OP.op_mul_str pins s σ H _ _ v u Q I rx ry ⟨i, j, rfl, rfl, of_decide_eq_true h1, of_decide_eq_true h2, of_decide_eq_true h3, wS w hd⟩
    | _ => exact w.elim
  | lst i =>
    cases b with
    | int j =>
      obtain ⟨a, xs, rfl, h1, h2⟩ := ha
      cases hb
      obtain ⟨h5, w⟩ := onlyIf_ok w
      obtain ⟨h5, h6, h7⟩ := and3 h5
      have h5 := of_decide_eq_true h5
      have h6 := of_decide_eq_true h6
      exact op_rep pins s σ H _ _ v u Q I rx ry ⟨a, j, xs, rfl, rfl, h1, by omega, by omega, by rw [h2.len]; exact sz_of (of_decide_eq_true h7), fun p hp => wL w hd (onl_rep h2 _) hp⟩
    | _ => exact w.elim
  | _ => cases b <;> exact w.elim
/-- comparisons of two ints -/
theorem od_ib {f : Value → Value → Sem Value} {g : Dv → Dv → Option Rt} {k : Int → Int → Bool} (h : OpR X f (rI0 fun i j => .bl (k i j)))
    (hg : ∀ (a b : Dv) {G α S H} {Q : VK} {E : XK}, Wk Z (R.of S (g a b)) G α H (pRt Z Q) E → ∃ i j, a = .int i ∧ b = .int j ∧ Wk Z (R.of S (vB (k i j))) G α H (pRt Z Q) E) : OpR X f (rD Z g) := by
  intro pins s σ H x y v u Q I rx ry h'
  obtain ⟨G, α, S, a, b, hd, ha, hb, w⟩ := h'
  obtain ⟨i, j, e1, e2, w2⟩ := hg a b w
  subst e1; subst e2
  cases ha; cases hb
  exact h pins s σ H _ _ v u Q I rx ry ⟨i, j, rfl, rfl, wB w2 hd⟩
theorem od_gt : OpR X (compareOp .Gt) (rD Z gGt) := od_ib op_gt fun a b {G α S H Q E} w => by
  cases a <;> first | (exact w.elim) | skip
  cases b <;> first | (exact w.elim) | exact ⟨_, _, rfl, rfl, w⟩
theorem od_lt : OpR X (compareOp .Lt) (rD Z gLt) := by
  intro pins s σ H x y v u Q I rx ry h
  obtain ⟨G, α, S, a, b, hd, ha, hb, w⟩ := h
  cases a with
  | int i =>
    cases b with
    | int j => cases ha; cases hb; exact op_lt pins s σ H _ _ v u Q I rx ry ⟨i, j, rfl, rfl, wB w hd⟩
    | _ => exact w.elim
  | str i =>
    cases b with
    | str j => cases ha; cases hb; exact op_lt_str pins s σ H _ _ v u Q I rx ry ⟨i, j, rfl, rfl, wB w hd⟩
    | _ => exact w.elim
  | _ => cases b <;> exact w.elim
end
mutual
def toP : Dv → PyData
  | .non => .none
  | .bl b => .bool b
  | .int i => .int i
  | .str s => .str s
  | .lst l => .list (toPs l)
  | .tup l => .tuple (toPs l)
  | _ => .none
def toPs : List Dv → List PyData
  | [] => []
  | d :: l => toP d :: toPs l
end
section
variable {Z : Zx} {X : Cx} {G H : Hp} {α : List Addr} {S : Sto} {Q : VK} {E : XK}
mutual
theorem on_dp {n : Nat} : ∀ {d : Dv} {v : V}, okN n d = true → On Z G d v → Dp Z.K G v (toP d)
  | .non, _, _, h => by unfold On at h; subst h; unfold toP; exact .non
  | .bl _, _, _, h => by unfold On at h; subst h; unfold toP; exact .bl _
  | .int _, _, _, h => by unfold On at h; subst h; unfold toP; exact .int _
  | .str _, _, _, h => by unfold On at h; subst h; unfold toP; exact .str _
  | .lst l, v, k, h => by
    cases n with
    | zero => simp [okN] at k
    | succ n =>
      unfold On at h
      obtain ⟨a, xs, rfl, h1, h2⟩ := h
      unfold toP
      exact .lst (SqL.of h1) (onl_dp (n := n) (by simpa [okN] using k) h2)
  | .tup l, v, k, h => by
    cases n with
    | zero => simp [okN] at k
    | succ n =>
      unfold On at h
      obtain ⟨a, xs, rfl, h1, h2⟩ := h
      unfold toP
      exact .tup (SqT.of h1) (onl_dp (n := n) (by simpa [okN] using k) h2)
  | .ty _, _, k, _ => by simp [okN] at k
  | .cls _, _, k, _ => by simp [okN] at k
  | .scr _, _, k, _ => by simp [okN] at k
  | .ktp _, _, k, _ => by simp [okN] at k
  | .obj _ _, _, k, _ => by simp [okN] at k
  | .dic _ _ _, _, k, _ => by simp [okN] at k
theorem onl_dp {n : Nat} : ∀ {l : List Dv} {xs : List V}, okNs n l = true → OnL Z G l xs → DpAll Z.K G xs (toPs l)
  | [], xs, _, h => by rw [OnL.nil.mp h]; unfold toPs; exact .nil
  | d :: l, xs, k, h => by
    obtain ⟨y, ys, rfl, h2, h3⟩ := OnL.cons.mp h
    have k' : okN n d = true ∧ okNs n l = true := by simpa [okNs] using k
    unfold toPs
    exact .cons (on_dp k'.1 h2) (onl_dp k'.2 h3)
end
mutual
theorem ok_lay : ∀ {n : Nat} {d : Dv}, okN n d = true → (toP d).canLay0 = true ∧ (toP d).depth ≤ n
  | _, .non, _ => by simp [toP, PyData.canLay0, PyData.depth]
  | _, .bl _, _ => by simp [toP, PyData.canLay0, PyData.depth]
  | _, .int _, _ => by simp [toP, PyData.canLay0, PyData.depth]
  | _, .str s, k => by simp only [okN] at k; simp [toP, PyData.canLay0, PyData.depth, k]
  | 0, .lst l, k => by simp [okN] at k
  | n + 1, .lst l, k => by
    have h := ok_lays (n := n) (l := l) (by simpa [okN] using k)
    simp only [toP, PyData.canLay0, PyData.depth]
    exact ⟨h.1, by omega⟩
  | 0, .tup l, k => by simp [okN] at k
  | n + 1, .tup l, k => by
    have h := ok_lays (n := n) (l := l) (by simpa [okN] using k)
    simp only [toP, PyData.canLay0, PyData.depth]
    exact ⟨h.1, by omega⟩
  | _, .ty _, k => by simp [okN] at k
  | _, .cls _, k => by simp [okN] at k
  | _, .scr _, k => by simp [okN] at k
  | _, .ktp _, k => by simp [okN] at k
  | _, .obj _ _, k => by simp [okN] at k
  | _, .dic _ _ _, k => by simp [okN] at k
theorem ok_lays : ∀ {n : Nat} {l : List Dv}, okNs n l = true → PyData.canLayAll0 (toPs l) = true ∧ PyData.depthAll (toPs l) ≤ n
  | _, [], _ => by simp [toPs, PyData.canLayAll0, PyData.depthAll]
  | n, d :: l, k => by
    have k' : okN n d = true ∧ okNs n l = true := by simpa [okNs] using k
    have h1 := ok_lay k'.1
    have h2 := ok_lays k'.2
    simp only [toPs, PyData.canLayAll0, PyData.depthAll, h1.1, h2.1]
    exact ⟨rfl, by omega⟩
end
mutual
theorem eq_eqv : ∀ {n m : Nat} {a b : Dv}, okN n a = true → okN m b = true → PyData.eqv (toP a) (toP b) = eqD a b
  | n, m, a, b, ha, hb => by
    cases a <;> cases b <;> first
      | (simp [okN] at ha; done)
      | (simp [okN] at hb; done)
      | (simp [toP, PyData.eqv, eqD]; done)
      | skip
    · rename_i l k
      cases n with
      | zero => simp [okN] at ha
      | succ n =>
        cases m with
        | zero => simp [okN] at hb
        | succ m =>
          simp only [toP, PyData.eqv, eqD]
          exact eqs_eqv (by simpa [okN] using ha) (by simpa [okN] using hb)
    · rename_i l k
      cases n with
      | zero => simp [okN] at ha
      | succ n =>
        cases m with
        | zero => simp [okN] at hb
        | succ m =>
          simp only [toP, PyData.eqv, eqD]
          exact eqs_eqv (by simpa [okN] using ha) (by simpa [okN] using hb)
theorem eqs_eqv : ∀ {n m : Nat} {a b : List Dv}, okNs n a = true → okNs m b = true → PyData.eqvAll (toPs a) (toPs b) = eqDs a b
  | _, _, [], [], _, _ => by simp [toPs, PyData.eqvAll, eqDs]
  | _, _, [], _ :: _, _, _ => by simp [toPs, PyData.eqvAll, eqDs]
  | _, _, _ :: _, [], _, _ => by simp [toPs, PyData.eqvAll, eqDs]
  | n, m, a :: l, b :: k, ha, hb => by
    have ha' : okN n a = true ∧ okNs n l = true := by simpa [okNs] using ha
    have hb' : okN m b = true ∧ okNs m k = true := by simpa [okNs] using hb
    simp only [toPs, PyData.eqvAll, eqDs]
    rw [eq_eqv ha'.1 hb'.1, eqs_eqv ha'.2 hb'.2]
end
theorem ok_shaped {a : Dv} (h : okN 60 a = true) : SeqAt.shaped (toP a) = true := by
  obtain ⟨h1, h2⟩ := ok_lay h
  show ((toP a).canLay0 && decide ((toP a).depth ≤ 64)) = true
  rw [h1, decide_eq_true (by omega)]
  rfl
theorem and2 {a b : Bool} (h : (a && b) = true) : a = true ∧ b = true := by
  cases a <;> cases b <;> simp_all
theorem od_eq (hu : X.A.units + 64 < cLine) (hK : X.K = Z.K) : OpR X (compareOp .Eq) (rD Z gEq) := by
  intro pins s σ H x y v u Q I rx ry h
  obtain ⟨G, α, S, a, b, hd, ha, hb, w⟩ := h
  obtain ⟨h1, w⟩ := onlyIf_ok w
  obtain ⟨h1, h2⟩ := and2 h1
  refine op_eqD hu pins s σ H _ _ v u Q I rx ry ⟨toP a, toP b, hK ▸ on_dp h1 (ha.on hd.ex), hK ▸ on_dp h2 (hb.on hd.ex), ok_shaped h1, ok_shaped h2, ?_⟩
  rw [eq_eqv h1 h2]
  exact wB w hd
theorem od_ne (hu : X.A.units + 64 < cLine) (hK : X.K = Z.K) : OpR X (compareOp .NotEq) (rD Z gNe) := by
  intro pins s σ H x y v u Q I rx ry h
  obtain ⟨G, α, S, a, b, hd, ha, hb, w⟩ := h
  obtain ⟨h1, w⟩ := onlyIf_ok w
  obtain ⟨h1, h2⟩ := and2 h1
  refine op_neD hu pins s σ H _ _ v u Q I rx ry ⟨toP a, toP b, hK ▸ on_dp h1 (ha.on hd.ex), hK ▸ on_dp h2 (hb.on hd.ex), ok_shaped h1, ok_shaped h2, ?_⟩
  rw [eq_eqv h1 h2]
  exact wB w hd
/-- a op1 b op2 c -/
def fChain (g g' : Dv → Dv → Option Rt) (fa fb fc : FE) : FE := fun env S => (fa env S).bindV fun S1 a => (fb env S1).bindV fun S2 b => (g2 S2 a b g).bindV fun S3 k => onB S3 k fun t =>
  if t then (fc env S3).bindV fun S4 c => g2 S4 b c g' else .ok S3 (.val (.d (.bl false)))
variable {Ew : L2.St → XK} {ta tb tc : TE} {fa fb fc : FE}
variable {a b c : Expr} {pos : Pos}
end
end DN
namespace DN
open PySem PySem.Spec PyProof.Rows L2 Evl
def vD (d : Dv) : Option Rt := some (.val (.d d))
def kHit (t : Bool) (a k : Dv) : Bool := match t with
  | false => decide (key? a = key? k)
  | true => decide (tkey? a = tkey? k)
def dLookG (g : Dv → Bool) : List Dv → List Dv → Option Dv
  | a :: ks, v :: vs => if g a then some v else dLookG g ks vs
  | _, _ => none
def dLook (t : Bool) (k : Dv) (ks vs : List Dv) : Option Dv := dLookG (fun a => kHit t a k) ks vs
def isKey (t : Bool) (k : Dv) : Bool := match t with
  | false => (key? k).isSome
  | true => (tkey? k).isSome
def gIx : Dv → Dv → Option Rt
  | .lst l, .int i => match atI l i with
    | some d => vD d
    | none => none
  | .tup l, .int i => match atI l i with
    | some d => vD d
    | none => none
  | .ktp l, .int i => match atI l i with
    | some d => vD d
    | none => none
  | .scr l, .int i => match atI l i with
    | some d => vI d
    | none => none
  | .str s, .int i => if s.length ≤ 100000 then (match atI s.cps.toList i with
    | some c => vS ⟨#[c]⟩
    | none => none) else none
  | .dic t ks vs, k => onlyIf (isKey t k) (match dLook t k ks vs with
    | some d => vD d
    | none => none)
  | _, _ => none
section
variable {Z : Zx} {X : Cx} {G H : Hp} {α : List Addr} {S : Sto} {Q : VK} {E : XK}
theorem wD {d : Dv} {v : V} (w : Wk Z (R.of S (vD d)) G α H (pRt Z Q) E) (hd : Hd Z G α S H) (o : On Z G d v) : Q v H := Wk.dat (v := .d d) w hd o
theorem onl_at {l : List Dv} {xs : List V} {i : Int} {d : Dv} (h : OnL Z G l xs) (e : atI l i = some d) : ∃ v, atI xs i = some v ∧ On Z G d v := by
  unfold atI at e ⊢
  rw [h.len]
  cases q : ixN l.length i with
  | none => rw [q] at e; cases e
  | some j => rw [q] at e; exact h.get e
theorem key_on {k : Dv} {x : V} {κ : Key} (h : OnH Z G H k x) (e : key? k = some κ) : x = kV κ := by
  cases k with
  | int i => cases e; cases h; rfl
  | str i => cases e; cases h; rfl
  | _ => cases e
theorem keys_on : ∀ {l : List Dv} {xs : List V} {kk : List Key}, OnL Z G l xs → l.mapM key? = some kk → xs = kk.map kV
  | [], xs, kk, h, e => by
    simp at e
    subst e
    rw [OnL.nil.mp h]
    rfl
  | d :: l, xs, kk, h, e => by
    obtain ⟨y, ys, rfl, h2, h3⟩ := OnL.cons.mp h
    rw [List.mapM_cons] at e
    cases q : key? d with
    | none => rw [q] at e; cases e
    | some a =>
      rw [q] at e
      cases q2 : l.mapM key? with
      | none => rw [q2] at e; cases e
      | some b =>
        rw [q2] at e
        cases e
        rw [keys_on h3 q2]
        have : y = kV a := key_on (H := G) (On.h (Ex.refl G) h2) q
        rw [this]
        rfl
theorem look_on {κ : Type} [DecidableEq κ] {f : Dv → Option κ} {k' : κ} {g : Dv → Bool} (hg : ∀ a b, f a = some b → g a = decide (b = k')) :
    ∀ {ks vs : List Dv} {kk : List κ} {ws : List V}, ks.map f = kk.map some → OnL Z G vs ws → ks.length = ws.length →
    (∀ d, dLookG g ks vs = some d → ∃ v, valV (kk.zip ws) k' = some v ∧ On Z G d v) ∧ (dLookG g ks vs = none → valV (kk.zip ws) k' = none)
  | [], vs, kk, ws, h1, h2, h3 => by
    have : ws = [] := List.length_eq_zero_iff.mp h3.symm
    subst this
    have e : kk = [] := by cases kk with
      | nil => rfl
      | cons a b => simp at h1
    subst e
    refine ⟨fun d h => ?_, fun _ => rfl⟩
    unfold dLookG at h
    cases h
  | a :: ks, vs, kk, ws, h1, h2, h3 => by
    cases kk with
    | nil => simp at h1
    | cons b kk =>
      simp only [List.map_cons, List.cons.injEq] at h1
      cases ws with
      | nil => simp at h3
      | cons w ws =>
        cases vs with
        | nil => have := OnL.nil.mp h2; cases this
        | cons v vs =>
          obtain ⟨y, ys, e, h4, h5⟩ := OnL.cons.mp h2
          cases e
          have ih := look_on hg (ks := ks) h1.2 h5 (by simpa using h3)
          have hb := hg a b h1.1
          show (∀ d, (if g a then some v else dLookG g ks vs) = some d → _) ∧ ((if g a then some v else dLookG g ks vs) = none → _)
          rw [hb, List.zip_cons_cons]
          by_cases q : b = k'
          · rw [decide_eq_true q, if_pos rfl]
            refine ⟨fun d e => ?_, fun e => ?_⟩
            · cases e
              exact ⟨w, valV_pos q, h4⟩
            · cases e
          · rw [decide_eq_false q, if_neg Bool.false_ne_true]
            rw [show valV ((b, w) :: kk.zip ws) k' = valV (kk.zip ws) k' from valV_neg q]
            exact ih
/-- what a dict tells of a key -/
theorem dic_get {t : Bool} {ks vs : List Dv} {k : Dv} {x y : V} (eG : Ex G H) (hx : OnH Z G H (.dic t ks vs) x) (hy : OnH Z G H k y) (hk : isKey t k = true) :
    ∃ a, x = .ref a ∧ (∀ d, dLook t k ks vs = some d → ∃ v, DGet H a y (some v) ∧ On Z G d v) ∧ (dLook t k ks vs = none → DGet H a y none) := by
  obtain ⟨a, ws, rfl, h1, h2, h3⟩ := hx
  refine ⟨a, rfl, ?_⟩
  cases t with
  | false =>
    obtain ⟨kk, e1, e2⟩ := h1
    cases q : key? k with
    | none => simp [isKey, q] at hk
    | some κ =>
      have ey := key_on hy q
      subst ey
      obtain ⟨p1, p2⟩ := look_on (f := key?) (k' := κ) (g := fun a => kHit false a k) (fun a b e => by
        show decide (key? a = key? k) = decide (b = κ)
        rw [e, q, decide_eq_decide, Option.some.injEq]) e1 h3 h2
      refine ⟨fun d e => ?_, fun e => ?_⟩
      · obtain ⟨v, e3, o⟩ := p1 d e
        exact ⟨v, e3 ▸ DGet.k e2, o⟩
      · exact p2 e ▸ DGet.k e2
  | true =>
    obtain ⟨kk, e1, e2⟩ := h1
    cases k with
    | tup l =>
      cases q : l.mapM key? with
      | none => simp [isKey, tkey?, q] at hk
      | some κ =>
        obtain ⟨b, xs, rfl, h4, h5⟩ := hy
        have ex := keys_on h5 q
        subst ex
        obtain ⟨p1, p2⟩ := look_on (f := tkey?) (k' := κ) (g := fun a => kHit true a (.tup l)) (fun a b e => by
          show decide (tkey? a = tkey? (.tup l)) = decide (b = κ)
          rw [e, show tkey? (.tup l) = some κ from q, decide_eq_decide, Option.some.injEq]) e1 h3 h2
        refine ⟨fun d e => ?_, fun e => ?_⟩
        · obtain ⟨v, e3, o⟩ := p1 d e
          exact ⟨v, e3 ▸ DGet.t e2 (eG _ _ h4), o⟩
        · exact p2 e ▸ DGet.t e2 (eG _ _ h4)
    | _ => simp [isKey, tkey?] at hk
theorem ix_dict (hu : X.A.units + 1 < cLine) : IxR X (fun x y H Q => ∃ a v, x = .ref a ∧ DGet H a y (some v) ∧ Q v H) := by
  intro value slice pins s σ H x y v u Q I rx ry h hs
  obtain ⟨a, r, rfl, g, q⟩ := h
  cases rx
  exact tail_any (dict_typeIs I g) PySem.F.slot_dict_getitem.lookup (d_getItem hu I g ry fun w' s3 I3 rw' => ⟨r, H, I3, rw', q⟩) hs
theorem ix_d (hu : X.A.units + 1 < cLine) (hK : X.K = Z.K) : IxR X (rD Z gIx) := by
  intro value slice pins s σ H x y v u Q I rx ry h hs
  obtain ⟨G, α, S, a, b, hd, ha, hb, w⟩ := h
  cases a with
  | lst l =>
    cases b with
    | int i =>
      cases hb
      obtain ⟨p, xs, rfl, h1, h2⟩ := ha
      have w' : Wk Z (R.of S (match atI l i with | some d => vD d | none => none)) G α H (pRt Z Q) E0 := w
      cases e : atI l i with
      | none => simp only [e] at w'; exact w'.elim
      | some d =>
        simp only [e] at w'
        obtain ⟨r, e2, o⟩ := onl_at h2 e
        exact ix_list value slice pins s σ H _ _ v u Q I rx ry ⟨p, xs, i, r, rfl, rfl, hK ▸ SqL.of h1, e2, wD w' hd o⟩ hs
    | _ => exact w.elim
  | tup l =>
    cases b with
    | int i =>
      cases hb
      obtain ⟨p, xs, rfl, h1, h2⟩ := ha
      have w' : Wk Z (R.of S (match atI l i with | some d => vD d | none => none)) G α H (pRt Z Q) E0 := w
      cases e : atI l i with
      | none => simp only [e] at w'; exact w'.elim
      | some d =>
        simp only [e] at w'
        obtain ⟨r, e2, o⟩ := onl_at h2 e
        exact ix_tup value slice pins s σ H _ _ v u Q I rx ry ⟨p, xs, i, r, rfl, rfl, hK ▸ SqT.of (hd.ex _ _ h1), e2, wD w' hd o⟩ hs
    | _ => exact w.elim
  | ktp l =>
    cases b with
    | int i =>
      cases hb
      obtain ⟨p, xs, rfl, h1, h2⟩ := ha
      have w' : Wk Z (R.of S (match atI l i with | some d => vD d | none => none)) G α H (pRt Z Q) E0 := w
      cases e : atI l i with
      | none => simp only [e] at w'; exact w'.elim
      | some d =>
        simp only [e] at w'
        obtain ⟨r, e2, o⟩ := onl_at h2 e
        exact ix_tup value slice pins s σ H _ _ v u Q I rx ry ⟨p, xs, i, r, rfl, rfl, hK ▸ h1.sq hd.ex, e2, wD w' hd o⟩ hs
    | _ => exact w.elim
  | scr l =>
    cases b with
    | int i =>
      cases hb
      obtain ⟨p, rfl, h1⟩ := ha
      have w' : Wk Z (R.of S (match atI l i with | some d => vI d | none => none)) G α H (pRt Z Q) E0 := w
      cases e : atI l i with
      | none => simp only [e] at w'; exact w'.elim
      | some d =>
        simp only [e] at w'
        refine ix_list value slice pins s σ H _ _ v u Q I rx ry ⟨p, l.map V.int, i, .int d, rfl, rfl, hK ▸ ex_l hd.ex h1, ?_, wI w' hd⟩ hs
        unfold atI at e ⊢
        rw [List.length_map]
        cases q : ixN l.length i with
        | none => rw [q] at e; cases e
        | some j =>
          rw [q] at e
          show (l.map V.int)[j]? = _
          rw [List.getElem?_map, show l[j]? = some d from e]
          rfl
    | _ => exact w.elim
  | str t =>
    cases b with
    | int i =>
      cases hb; cases ha
      have w' : Wk Z (R.of S (if t.length ≤ 100000 then (match atI t.cps.toList i with | some c => vS ⟨#[c]⟩ | none => none) else none)) G α H (pRt Z Q) E0 := w
      by_cases hl : t.length ≤ 100000
      · rw [if_pos hl] at w'
        cases e : atI t.cps.toList i with
        | none => simp only [e] at w'; exact w'.elim
        | some c =>
          simp only [e] at w'
          exact ix_str value slice pins s σ H _ _ v u Q I rx ry ⟨t, i, c, rfl, rfl, sz_of hl, e, wS w' hd⟩ hs
      · rw [if_neg hl] at w'
        exact w'.elim
    | _ => exact w.elim
  | dic t ks vs =>
    have w' : Wk Z (R.of S (onlyIf (isKey t b) (match dLook t b ks vs with | some d => vD d | none => none))) G α H (pRt Z Q) E0 := by cases b <;> exact w
    obtain ⟨hk, w'⟩ := onlyIf_ok w'
    obtain ⟨p, rfl, p1, p2⟩ := dic_get hd.ex ha hb hk
    cases e : dLook t b ks vs with
    | none => simp only [e] at w'; exact w'.elim
    | some d =>
      simp only [e] at w'
      obtain ⟨r, g, o⟩ := p1 d e
      exact ix_dict hu value slice pins s σ H _ _ v u Q I rx ry ⟨p, r, rfl, g, wD w' hd o⟩ hs
  | _ => cases b <;> exact w.elim
variable {Ew : L2.St → XK} {a b c : Expr} {fa fb fc : FE} {pos : Pos}
theorem pf_ix {g : Dv → Dv → Option Rt} (h : IxR X (rD Z g)) (ha : PF Z Ew X a fa) (hb : PF Z Ew X b fb) (hs : PlainIx b := by exact fun _ _ => rfl) : PF Z Ew X (.Subscript a b pos) (fOp g fa fb) := by
  obtain ⟨ta, h1, h2⟩ := ha.ex
  obtain ⟨tb, h3, h4⟩ := hb.ex
  exact ⟨_, pe_ix h h1 h3 hs, se_op h2 h4⟩
abbrev FO := Env → Sto → R (Option Int)
def fNoPart : FO := fun _ S => .ok S none
def fPart (fa : FE) : FO := fun env S => (fa env S).bindV fun S1 a => match a with
  | .d (.int i) => .ok S1 (some i)
  | _ => .no
def cutL {β : Type} (l : List β) (lo hi : Option Int) : List β := (l.drop (HT.sIx l.length 0 lo)).take (HT.sIx l.length l.length hi - HT.sIx l.length 0 lo)
def gSl (lo hi : Option Int) : Dv → Option Rt
  | .lst l => nL (cutL l lo hi)
  | .tup l => vT (cutL l lo hi)
  | .str s => if s.length ≤ 100000 then vS (cutS s lo hi) else none
  | _ => none
def fSl (fa : FE) (lo hi : FO) : FE := fun env S => (fa env S).bindV fun S1 a => (lo env S1).bind fun S2 l => (hi env S2).bind fun S3 h => g1 S3 a (gSl l h)
end
end DN
namespace DN
open PySem PySem.Spec PyProof.Rows L2 Evl
def OnHA (Z : Zx) (G H : Hp) : List Dv → List V → Prop
  | [], xs => xs = []
  | d :: l, xs => ∃ y ys, xs = y :: ys ∧ OnH Z G H d y ∧ OnHA Z G H l ys
def snaps (S : Sto) : List Vr → Option (List Dv)
  | [] => some []
  | r :: l => match snap S r, snaps S l with
    | some d, some m => some (d :: m)
    | _, _ => none
section
variable {Z : Zx} {X : Cx} {G H : Hp} {α : List Addr} {S : Sto} {Q : VK} {E : XK}
theorem snaps_on : ∀ {l : List Vr} {vs : List V} {ds : List Dv}, Hd Z G α S H → OnA Z G α l vs → snaps S l = some ds → OnHA Z G H ds vs
  | [], vs, ds, hd, h, e => by cases e; exact h
  | r :: l, vs, ds, hd, h, e => by
    obtain ⟨y, ys, rfl, h2, h3⟩ := h
    unfold snaps at e
    cases e1 : snap S r with
    | none => rw [e1] at e; cases e
    | some d =>
      cases e2 : snaps S l with
      | none => rw [e1, e2] at e; cases e
      | some m =>
        rw [e1, e2] at e
        cases e
        exact ⟨y, ys, rfl, snap_on hd h2 e1, snaps_on hd h3 e2⟩
theorem OnHA.one {d : Dv} {xs : List V} (h : OnHA Z G H [d] xs) : ∃ y, xs = [y] ∧ OnH Z G H d y := by
  obtain ⟨y, ys, rfl, h2, h3⟩ := h
  cases (show ys = [] from h3)
  exact ⟨y, rfl, h2⟩
theorem OnHA.two {d e : Dv} {xs : List V} (h : OnHA Z G H [d, e] xs) : ∃ y z, xs = [y, z] ∧ OnH Z G H d y ∧ OnH Z G H e z := by
  obtain ⟨y, ys, rfl, h2, h3⟩ := h
  obtain ⟨z, rfl, h4⟩ := h3.one
  exact ⟨y, z, rfl, h2, h4⟩
def gA (S : Sto) (l : List Vr) (g : List Dv → Option Rt) : R Rt := match snaps S l with
  | some ds => R.of S (g ds)
  | none => .no
def fCall (g : List Dv → Option Rt) (fa : FA) : FE := fun env S => (fa env S).bind fun S1 l => gA S1 l g
def rA (Z : Zx) (g : List Dv → Option Rt) : List V → Hp → VK → Prop := fun xs H Q => ∃ G α S l, Hd Z G α S H ∧ OnHA Z G H l xs ∧ Wk Z (R.of S (g l)) G α H (pRt Z Q) E0
theorem gA_ok {l : List Vr} {vs : List V} {g : List Dv → Option Rt} (hd : Hd Z G α S H) (ol : OnA Z G α l vs) (w : Wk Z (gA S l g) G α H (pRt Z Q) E) : rA Z g vs H Q := by
  unfold gA at w
  cases e : snaps S l with
  | none => rw [e] at w; exact w.elim
  | some ds => rw [e] at w; exact ⟨G, α, S, ds, hd, snaps_on hd ol e, w.any⟩
variable {Ew : L2.St → XK} {ta : TA} {fa : FA}
theorem se_call {g : List Dv → Option Rt} (ha : SA Z Ew ta fa) : SE Z Ew (tCB (rA Z g) ta) (fCall g fa) := fun env σ G α S H Q hd oe w =>
  ha.bind hd oe w fun S2 l vs H2 G2 α2 f2 hd2 oe2 ol w2 => gA_ok hd2 ol w2
variable {x : Str} {p pos : Pos} {e : Expr} {es : List Expr}
theorem pf_callB {id : String} {g : List Dv → Option Rt} (hc : CallR X (.builtin id) (rA Z g)) (hg : Gl X x) (hm : X.mg x = none) (hv : bootBuiltins x = some (.builtin id)) (ha : PAF Z Ew X (e :: es) fa) (hn : x ≠ "__name__" := by decide) (hdb : (x == ("__debug__" : Str)) = false := by decide)
    (he : starEach (e :: es) X.env = (false, eval e X.env) :: starEach es X.env := by rfl) (hpl : (backTo pos (starEach es X.env)).any (·.1) = false := by rfl) : PF Z Ew X (.Call (.Name x p) (e :: es) [] pos) (fCall g fa) := by
  obtain ⟨ta, h1, h2⟩ := ha.ex
  exact ⟨_, pe_callB hc hg hm hv h1 hn hdb he hpl, se_call h2⟩
end
def arg1 (f : Dv → Option Rt) : List Dv → Option Rt
  | [x] => f x
  | _ => none
def arg12 (f : Dv → Option Rt) (g : Dv → Dv → Option Rt) : List Dv → Option Rt
  | [x] => f x
  | [x, y] => g x y
  | _ => none
theorem arg1_ok {Z : Zx} {G H : Hp} {α : List Addr} {S : Sto} {P : Pst Rt} {E : XK} {f : Dv → Option Rt} {l : List Dv} {xs : List V} (h : OnHA Z G H l xs) (w : Wk Z (R.of S (arg1 f l)) G α H P E) : ∃ x y, xs = [y] ∧ OnH Z G H x y ∧ Wk Z (R.of S (f x)) G α H P E := by
  cases l with
  | nil => exact w.elim
  | cons a r =>
    cases r with
    | nil =>
      obtain ⟨y, e, o⟩ := h.one
      exact ⟨a, y, e, o, w⟩
    | cons b r => exact w.elim
theorem arg12_ok {Z : Zx} {G H : Hp} {α : List Addr} {S : Sto} {P : Pst Rt} {E : XK} {f : Dv → Option Rt} {g : Dv → Dv → Option Rt} {l : List Dv} {xs : List V} (h : OnHA Z G H l xs) (w : Wk Z (R.of S (arg12 f g l)) G α H P E) :
    (∃ x y, xs = [y] ∧ OnH Z G H x y ∧ Wk Z (R.of S (f x)) G α H P E) ∨ ∃ x x2 y y2, xs = [y, y2] ∧ OnH Z G H x y ∧ OnH Z G H x2 y2 ∧ Wk Z (R.of S (g x x2)) G α H P E := by
  cases l with
  | nil => exact w.elim
  | cons a r =>
    cases r with
    | nil =>
      obtain ⟨y, e, o⟩ := h.one
      exact .inl ⟨a, y, e, o, w⟩
    | cons b r =>
      cases r with
      | nil =>
        obtain ⟨y, z, e, o, o2⟩ := h.two
        exact .inr ⟨a, b, y, z, e, o, o2, w⟩
      | cons c r => exact w.elim
def gLen1 : Dv → Option Rt
  | .lst l => vI l.length
  | .tup l => vI l.length
  | .ktp l => vI l.length
  | .scr l => vI l.length
  | .str s => if s.length ≤ 100000 then vI s.length else none
  | .dic false ks _ => vI ks.length
  | _ => none
def gLen : List Dv → Option Rt := arg1 gLen1
def ints? : List Dv → Option (List Int)
  | [] => some []
  | .int i :: l => match ints? l with
    | some m => some (i :: m)
    | none => none
  | _ => none
def strs? : List Dv → Option (List Str)
  | [] => some []
  | .str i :: l => match strs? l with
    | some m => some (i :: m)
    | none => none
  | _ => none
def maxI : List Int → Option Int
  | [] => none
  | i :: l => match maxI l with
    | some m => some (if m ≤ i then i else m)
    | none => some i
def minI : List Int → Option Int
  | [] => none
  | i :: l => match minI l with
    | some m => some (if i ≤ m then i else m)
    | none => some i
def onI (o : Option (List Int)) (f : List Int → Option Rt) : Option Rt := match o with
  | some l => f l
  | none => none
def gMax1 : Dv → Option Rt
  | .lst l => onI (ints? l) fun ns => match maxI ns with
    | some m => vI m
    | none => none
  | _ => none
def gMax2 : Dv → Dv → Option Rt
  | .int i, .int j => vI (if j > i then j else i)
  | _, _ => none
def gMax : List Dv → Option Rt := arg12 gMax1 gMax2
def gMin1 : Dv → Option Rt
  | .lst l => onI (ints? l) fun ns => match minI ns with
    | some m => vI m
    | none => none
  | _ => none
def gMin2 : Dv → Dv → Option Rt
  | .int i, .int j => vI (if j < i then j else i)
  | _, _ => none
def gMin : List Dv → Option Rt := arg12 gMin1 gMin2
def gInt1 : Dv → Option Rt
  | .int i => vI i
  | .bl b => vI (if b then 1 else 0)
  | .str s => if s.length ≤ 640 then (match PySem.intText? s with
    | some n => vI n
    | none => none) else none
  | _ => none
def gInt : List Dv → Option Rt := arg1 gInt1
def gList1 : Dv → Option Rt
  | .lst l => nL l
  | .tup l => nL l
  | .ktp l => nL l
  | .str s => if s.length ≤ 100000 then nL (s.cps.toList.map fun c => .str ⟨#[c]⟩) else none
  | _ => none
def gList : List Dv → Option Rt := arg1 gList1
def gTuple1 : Dv → Option Rt
  | .lst l => vT l
  | .tup l => vT l
  | _ => none
def gTuple : List Dv → Option Rt := arg1 gTuple1
def gStr1 : Dv → Option Rt
  | .int i => if i.natAbs.log2 < 1920 then vS (toString i) else none
  | .str s => vS s
  | _ => none
def gStr : List Dv → Option Rt := arg1 gStr1
section
variable {Z : Zx} {X : Cx} {G H : Hp} {α : List Addr} {S : Sto} {Q : VK} {E : XK}
theorem ints_on : ∀ {l : List Dv} {ns : List Int} {xs : List V}, ints? l = some ns → OnL Z G l xs → xs = ns.map V.int
  | [], ns, xs, e, h => by cases e; rw [OnL.nil.mp h]; rfl
  | .int i :: l, ns, xs, e, h => by
    obtain ⟨y, ys, rfl, h2, h3⟩ := OnL.cons.mp h
    unfold ints? at e
    cases q : ints? l with
    | none => rw [q] at e; cases e
    | some m =>
      rw [q] at e
      cases e
      unfold On at h2
      rw [h2, ints_on q h3]
      rfl
theorem strs_on : ∀ {l : List Dv} {ns : List Str} {xs : List V}, strs? l = some ns → OnL Z G l xs → xs = ns.map V.str
  | [], ns, xs, e, h => by cases e; rw [OnL.nil.mp h]; rfl
  | .str i :: l, ns, xs, e, h => by
    obtain ⟨y, ys, rfl, h2, h3⟩ := OnL.cons.mp h
    unfold strs? at e
    cases q : strs? l with
    | none => rw [q] at e; cases e
    | some m =>
      rw [q] at e
      cases e
      unfold On at h2
      rw [h2, strs_on q h3]
      rfl
theorem maxI_ok : ∀ {l : List Int} {m : Int}, maxI l = some m → m ∈ l ∧ ∀ y ∈ l, y ≤ m
  | [], m, e => by cases e
  | i :: l, m, e => by
    unfold maxI at e
    cases q : maxI l with
    | none =>
      rw [q] at e
      cases e
      have : l = [] := by
        cases l with
        | nil => rfl
        | cons a b => unfold maxI at q; cases r : maxI b <;> simp [r] at q
      subst this
      exact ⟨by simp, fun y hy => by simp at hy; omega⟩
    | some k =>
      rw [q] at e
      obtain ⟨h1, h2⟩ := maxI_ok q
      cases e
      by_cases c : k ≤ i
      · rw [if_pos c]
        exact ⟨by simp, fun y hy => by
          rcases List.mem_cons.mp hy with rfl | hy
          · omega
          · have := h2 y hy; omega⟩
      · rw [if_neg c]
        exact ⟨List.mem_cons_of_mem _ h1, fun y hy => by
          rcases List.mem_cons.mp hy with rfl | hy
          · omega
          · exact h2 y hy⟩
theorem minI_ok : ∀ {l : List Int} {m : Int}, minI l = some m → m ∈ l ∧ ∀ y ∈ l, m ≤ y
  | [], m, e => by cases e
  | i :: l, m, e => by
    unfold minI at e
    cases q : minI l with
    | none =>
      rw [q] at e
      cases e
      have : l = [] := by
        cases l with
        | nil => rfl
        | cons a b => unfold minI at q; cases r : minI b <;> simp [r] at q
      subst this
      exact ⟨by simp, fun y hy => by simp at hy; omega⟩
    | some k =>
      rw [q] at e
      obtain ⟨h1, h2⟩ := minI_ok q
      cases e
      by_cases c : i ≤ k
      · rw [if_pos c]
        exact ⟨by simp, fun y hy => by
          rcases List.mem_cons.mp hy with rfl | hy
          · omega
          · have := h2 y hy; omega⟩
      · rw [if_neg c]
        exact ⟨List.mem_cons_of_mem _ h1, fun y hy => by
          rcases List.mem_cons.mp hy with rfl | hy
          · omega
          · exact h2 y hy⟩
theorem cd_len (hK : X.K = Z.K) : CallR X (.builtin "len") (rA Z gLen) := by
  intro pins s σ H xs us Q I r h
  obtain ⟨G, α, S, l, hd, hl, w⟩ := h
  obtain ⟨x, y, rfl, hx, w⟩ := arg1_ok hl w
  cases x with
  | lst l =>
    obtain ⟨a, xs, rfl, h1, h2⟩ := hx
    have w' := wI w hd
    rw [← h2.len] at w'
    exact call_len_seq pins s σ H _ us Q I r ⟨a, xs, rfl, .inl (SqL.of h1), w'⟩
  | tup l =>
    obtain ⟨a, xs, rfl, h1, h2⟩ := hx
    have w' := wI w hd
    rw [← h2.len] at w'
    exact call_len_seq pins s σ H _ us Q I r ⟨a, xs, rfl, .inr (SqT.of (hd.ex _ _ h1)), w'⟩
  | ktp l =>
    obtain ⟨a, xs, rfl, h1, h2⟩ := hx
    have w' := wI w hd
    rw [← h2.len] at w'
    exact call_len_seq pins s σ H _ us Q I r ⟨a, xs, rfl, .inr (hK ▸ h1.sq hd.ex), w'⟩
  | scr l =>
    obtain ⟨a, rfl, h1⟩ := hx
    have w' := wI w hd
    rw [← List.length_map (f := V.int)] at w'
    exact call_len_seq pins s σ H _ us Q I r ⟨a, _, rfl, .inl (hK ▸ ex_l hd.ex h1), w'⟩
  | str t =>
    cases hx
    have w' : Wk Z (R.of S (if t.length ≤ 100000 then vI t.length else none)) G α H (pRt Z Q) E0 := w
    by_cases c : t.length ≤ 100000
    · rw [if_pos c] at w'
      exact call_len_str pins s σ H _ us Q I r ⟨t, rfl, sz_of c, wI w' hd⟩
    · rw [if_neg c] at w'
      exact w'.elim
  | dic t ks vs =>
    cases t with
    | true => exact w.elim
    | false =>
    obtain ⟨a, ws, rfl, ⟨kk, e1, e2⟩, h2, h3⟩ := hx
    have w' := wI w hd
    have e3 : kk.length = ks.length := by have := congrArg List.length e1; rw [List.length_map, List.length_map] at this; exact this.symm
    refine call_lenD pins s σ H _ us Q I r ⟨a, kk.zip ws, rfl, e2, ?_⟩
    rw [List.length_zip, e3, ← h2, Nat.min_self]
    exact w'
  | _ => exact w.elim
theorem cd_max (hc : X.calm = true) (hK : X.K = Z.K) : CallR X (.builtin "max") (rA Z gMax) := by
  intro pins s σ H xs us Q I r h
  obtain ⟨G, α, S, l, hd, hl, w⟩ := h
  rcases arg12_ok hl w with ⟨x, y, rfl, hx, w⟩ | ⟨x, x2, y, y2, rfl, hx, hx2, w⟩
  · cases x with
    | lst l =>
      obtain ⟨a, xs, rfl, h1, h2⟩ := hx
      have w' : Wk Z (R.of S (onI (ints? l) fun ns => match maxI ns with | some m => vI m | none => none)) G α H (pRt Z Q) E0 := w
      cases q : ints? l with
      | none => rw [q] at w'; exact w'.elim
      | some ns =>
        rw [q] at w'
        have w' : Wk Z (R.of S (match maxI ns with | some m => vI m | none => none)) G α H (pRt Z Q) E0 := w'
        cases q2 : maxI ns with
        | none => simp only [q2] at w'; exact w'.elim
        | some m =>
          simp only [q2] at w'
          obtain ⟨m1, m2⟩ := maxI_ok q2
          have ex := ints_on q h2
          subst ex
          refine cr_max hc pins s σ H _ us Q I r ⟨a, ns, rfl, SqL.of h1, List.length_pos_of_mem m1, fun k k1 k2 => ?_⟩
          have e : k = m := Int.le_antisymm (m2 k k1) (k2 m m1)
          subst e
          exact wI w' hd
    | _ => exact w.elim
  · cases x with
    | int i =>
      cases x2 with
      | int j => cases hx; cases hx2; exact call_max2 hc pins s σ H _ us Q I r ⟨i, j, rfl, wI w hd⟩
      | _ => exact w.elim
    | _ => cases x2 <;> exact w.elim
theorem cd_min (hc : X.calm = true) (hK : X.K = Z.K) : CallR X (.builtin "min") (rA Z gMin) := by
  intro pins s σ H xs us Q I r h
  obtain ⟨G, α, S, l, hd, hl, w⟩ := h
  rcases arg12_ok hl w with ⟨x, y, rfl, hx, w⟩ | ⟨x, x2, y, y2, rfl, hx, hx2, w⟩
  · cases x with
    | lst l =>
      obtain ⟨a, xs, rfl, h1, h2⟩ := hx
      have w' : Wk Z (R.of S (onI (ints? l) fun ns => match minI ns with | some m => vI m | none => none)) G α H (pRt Z Q) E0 := w
      cases q : ints? l with
      | none => rw [q] at w'; exact w'.elim
      | some ns =>
        rw [q] at w'
        have w' : Wk Z (R.of S (match minI ns with | some m => vI m | none => none)) G α H (pRt Z Q) E0 := w'
        cases q2 : minI ns with
        | none => simp only [q2] at w'; exact w'.elim
        | some m =>
          simp only [q2] at w'
          obtain ⟨m1, m2⟩ := minI_ok q2
          have ex := ints_on q h2
          subst ex
          refine cr_min hc pins s σ H _ us Q I r ⟨a, ns, rfl, SqL.of h1, List.length_pos_of_mem m1, fun k k1 k2 => ?_⟩
          have e : k = m := Int.le_antisymm (k2 m m1) (m2 k k1)
          subst e
          exact wI w' hd
    | _ => exact w.elim
  · cases x with
    | int i =>
      cases x2 with
      | int j => cases hx; cases hx2; exact call_min2 hc pins s σ H _ us Q I r ⟨i, j, rfl, wI w hd⟩
      | _ => exact w.elim
    | _ => cases x2 <;> exact w.elim
end
end DN
namespace DN
open PySem PySem.Spec PyProof.Rows L2 Evl
def isT (T : String) : Dv → Bool
  | .str _ => T == "str"
  | .int _ => T == "int"
  | .lst _ => T == "list"
  | _ => false
def gM (S : Sto) (a : Vr) (l : List Vr) (g : Dv → List Dv → Option Rt) : R Rt := match snap S a, snaps S l with
  | some d, some ds => R.of S (g d ds)
  | _, _ => .no
def onT {β : Type} (T : String) (S : Sto) (a : Vr) (r : R β) : R β := match snap S a with
  | some d => if isT T d then r else .no
  | none => .no
def fMeth (T : String) (g : Dv → List Dv → Option Rt) (fo : FE) (fa : FA) : FE := fun env S => (fo env S).bindV fun S1 a => onT T S1 a ((fa env S1).bind fun S2 l => gM S2 a l g)
/-- a list that is changed: its items, the arguments; its items behind, what is handed back -/
def gMu (S : Sto) (a : Vr) (l : List Vr) (g : List Dv → List Dv → Option (List Dv × Dv)) : R Rt := match a, allD l with
  | .r n, some ds => match S[n]? with
    | some (.lst l0) => match g l0 ds with
      | some (l1, res) => .ok (S.set n (.lst l1)) (.val (.d res))
      | none => .no
    | _ => .no
  | _, _ => .no
def fMut (g : List Dv → List Dv → Option (List Dv × Dv)) (fo : FE) (fa : FA) : FE := fun env S => (fo env S).bindV fun S1 a => onT "list" S1 a ((fa env S1).bind fun S2 l => gMu S2 a l g)
def gAppend (l ds : List Dv) : Option (List Dv × Dv) := match ds with
  | [y] => if l.length < 100000 then some (l ++ [y], .non) else none
  | _ => none
def gClear (l ds : List Dv) : Option (List Dv × Dv) := match ds with
  | [] => some ([], .non)
  | _ => none
section
variable {Z : Zx} {X : Cx} {G H : Hp} {α : List Addr} {S : Sto} {Q : VK} {E : XK}
def rM (Z : Zx) (g : Dv → List Dv → Option Rt) : V → List V → Hp → VK → Prop := fun x xs H Q => ∃ G α S d l, Hd Z G α S H ∧ OnH Z G H d x ∧ OnHA Z G H l xs ∧ Wk Z (R.of S (g d l)) G α H (pRt Z Q) E0
def rMu (Z : Zx) (g : List Dv → List Dv → Option (List Dv × Dv)) : V → List V → Hp → VK → Prop := fun x xs H Q => ∃ G α S n a l0 ds l1 res, Hd Z G α S H ∧ x = .ref a ∧ α[n]? = some a ∧ S[n]? = some (.lst l0) ∧ OnL Z G ds xs ∧ g l0 ds = some (l1, res) ∧
  Wk Z (.ok (S.set n (.lst l1)) (.val (.d res))) G α H (pRt Z Q) E0
theorem ty_on {T : String} {d : Dv} {x : V} (eG : Ex G H) (h : OnH Z G H d x) (e : isT T d = true) : tyV Z.K T x H := by
  cases d with
  | str s => cases h; exact beq_iff_eq.mp e
  | int s => cases h; exact beq_iff_eq.mp e
  | lst l => obtain ⟨a, xs, rfl, h1, h2⟩ := h; exact .inl ⟨beq_iff_eq.mp e, xs, SqL.of h1⟩
  | _ => cases e
theorem onT_ok {β : Type} {T : String} {a : Vr} {x : V} {r : R β} {P : Pst β} (hd : Hd Z G α S H) (ox : OnR Z G α a x) (w : Wk Z (onT T S a r) G α H P E) : tyV Z.K T x H ∧ Wk Z r G α H P E := by
  unfold onT at w
  cases e : snap S a with
  | none => rw [e] at w; exact w.elim
  | some d =>
    rw [e] at w
    cases e2 : isT T d with
    | false => simp only [e2] at w; exact w.elim
    | true => simp only [e2] at w; exact ⟨ty_on hd.ex (snap_on hd ox e) e2, w⟩
theorem gM_ok {a : Vr} {x : V} {l : List Vr} {vs : List V} {g : Dv → List Dv → Option Rt} (hd : Hd Z G α S H) (ox : OnR Z G α a x) (ol : OnA Z G α l vs) (w : Wk Z (gM S a l g) G α H (pRt Z Q) E) : rM Z g x vs H Q := by
  unfold gM at w
  cases e : snap S a with
  | none => rw [e] at w; exact w.elim
  | some d =>
    cases e2 : snaps S l with
    | none => rw [e, e2] at w; exact w.elim
    | some ds => rw [e, e2] at w; exact ⟨G, α, S, d, ds, hd, snap_on hd ox e, snaps_on hd ol e2, w.any⟩
theorem gMu_ok {a : Vr} {x : V} {l : List Vr} {vs : List V} {g : List Dv → List Dv → Option (List Dv × Dv)} (hd : Hd Z G α S H) (ox : OnR Z G α a x) (ol : OnA Z G α l vs) (w : Wk Z (gMu S a l g) G α H (pRt Z Q) E) : rMu Z g x vs H Q := by
  unfold gMu at w
  cases a with
  | d d => cases e : allD l <;> (rw [e] at w; exact w.elim)
  | r n =>
    cases e : allD l with
    | none => rw [e] at w; exact w.elim
    | some ds =>
      rw [e] at w
      cases e2 : S[n]? with
      | none => simp only [e2] at w; exact w.elim
      | some c =>
        simp only [e2] at w
        cases c with
        | lst l0 =>
          cases e3 : g l0 ds with
          | none => simp only [e3] at w; exact w.elim
          | some p =>
            simp only [e3] at w
            obtain ⟨b, rfl, hb⟩ := ox
            exact ⟨G, α, S, n, b, l0, ds, p.1, p.2, hd, rfl, hb, e2, allD_on e ol, e3, w⟩
        | _ => exact w.elim
variable {Ew : L2.St → XK} {to : TE} {fo : FE} {ta : TA} {fa : FA} {T : String}
theorem se_meth {g : Dv → List Dv → Option Rt} (ho : SE Z Ew to fo) (ha : SA Z Ew ta fa) : SE Z Ew (tBM Z.K T (rM Z g) to ta) (fMeth T g fo fa) := fun env σ G α S H Q hd oe w =>
  ho.bind hd oe w fun S2 a x H2 G2 α2 f2 hd2 oe2 ox w2 => by
    obtain ⟨t, w3⟩ := onT_ok hd2 ox w2
    exact ⟨t, ha.bind hd2 oe2 w3 fun S3 l vs H3 G3 α3 f3 hd3 oe3 ol w4 => gM_ok hd3 (ox.up f3.g f3.a) ol w4⟩
theorem se_mut {g : List Dv → List Dv → Option (List Dv × Dv)} (ho : SE Z Ew to fo) (ha : SA Z Ew ta fa) : SE Z Ew (tBM Z.K "list" (rMu Z g) to ta) (fMut g fo fa) := fun env σ G α S H Q hd oe w =>
  ho.bind hd oe w fun S2 a x H2 G2 α2 f2 hd2 oe2 ox w2 => by
    obtain ⟨t, w3⟩ := onT_ok hd2 ox w2
    exact ⟨t, ha.bind hd2 oe2 w3 fun S3 l vs H3 G3 α3 f3 hd3 oe3 ol w4 => gMu_ok hd3 (ox.up f3.g f3.a) ol w4⟩
/-- the cell is changed -/
theorem Wk.put {n : Nat} {a : Addr} {c c2 : Cell} {o : HO} {v : Vr} {x : V} (w : Wk Z (.ok (S.set n c2) (.val v)) G α H (pRt Z Q) E) (hd : Hd Z G α S H) (ha : α[n]? = some a) (hs : S[n]? = some c) (hc : stf c ≠ .dead) (h2 : CellAt Z G c2 (some o)) (hx : OnR Z G α v x) : Q x (upd H a o) := by
  obtain ⟨hd2, f2⟩ := hd.put ha hs hc h2
  exact w _ _ _ f2 hd2 x hx
theorem md_append : MtR X "list.append" (rMu Z gAppend) := by
  intro pins s σ H x xs v us Q I rx rxs h
  obtain ⟨G, α, S, n, a, l0, ds, l1, res, hd, rfl, ha, hs, ol, e, w⟩ := h
  cases ds with
  | nil => cases e
  | cons y r =>
    cases r with
    | cons _ _ => cases e
    | nil =>
      have e' : (if l0.length < 100000 then some (l0 ++ [y], Dv.non) else none) = some (l1, res) := e
      by_cases hl : l0.length < 100000
      · rw [if_pos hl] at e'
        cases e'
        obtain ⟨z, rfl, oz⟩ := ol.one
        obtain ⟨zs, h1, h2⟩ := (hd.at_ n a _ ha hs).2
        exact mt_append pins s σ H _ _ v us Q I rx rxs ⟨a, zs, z, rfl, rfl, h1, Nat.lt_of_lt_of_le (by rw [h2.len]; exact hl) (by decide), w.put hd ha hs (fun c => nomatch c) ⟨_, rfl, h2.app (OnL.cons' oz OnL.nil')⟩ (or_non Z G α)⟩
      · rw [if_neg hl] at e'
        cases e'
def gJoin : Dv → List Dv → Option Rt
  | .str a, [.lst l] => match strs? l with
    | some ss => if (ss.map (·.length)).sum + ss.length * a.length ≤ 100000 then vS (Txt.join a ss) else none
    | none => none
  | .str a, [.tup l] => match strs? l with
    | some ss => if (ss.map (·.length)).sum + ss.length * a.length ≤ 100000 then vS (Txt.join a ss) else none
    | none => none
  | _, _ => none
theorem join_ok {a : Str} {l : List Dv} {xs : List V} {p : Addr} (hx : (OnL Z G l xs)) (h : SqL X.K H p xs ∨ SqT X.K H p xs) (hd : Hd Z G α S H)
    (w : Wk Z (R.of S (match strs? l with | some ss => if (ss.map (·.length)).sum + ss.length * a.length ≤ 100000 then vS (Txt.join a ss) else none | none => none)) G α H (pRt Z Q) E) :
    ∃ ys : List Str, (SqL X.K H p (ys.map V.str) ∨ SqT X.K H p (ys.map V.str)) ∧ (ys.map (·.length)).sum + ys.length * a.length ≤ 16777216 ∧ Q (.str (Txt.join a ys)) H := by
  cases q : strs? l with
  | none => simp only [q] at w; exact w.elim
  | some ss =>
    simp only [q] at w
    have ex := strs_on q hx
    subst ex
    by_cases c : (ss.map (·.length)).sum + ss.length * a.length ≤ 100000
    · rw [if_pos c] at w
      exact ⟨ss, h, by omega, wS w hd⟩
    · rw [if_neg c] at w
      exact w.elim
theorem meth2 {d : Dv} {l : List Dv} {g : Dv → List Dv → Option Rt} {xs : List V} (ol : OnHA Z G H l xs) (w : Wk Z (R.of S (g d l)) G α H (pRt Z Q) E) (hg : ∀ l, (∀ x, l ≠ [x]) → g d l = none) : ∃ x y, l = [x] ∧ xs = [y] ∧ OnH Z G H x y := by
  cases l with
  | nil => rw [hg [] (fun x h => nomatch h)] at w; exact w.elim
  | cons a r =>
    cases r with
    | cons b r => rw [hg _ (fun x h => by cases h)] at w; exact w.elim
    | nil =>
      obtain ⟨y, rfl, o⟩ := ol.one
      exact ⟨a, y, rfl, rfl, o⟩
theorem md_join : MtR X "str.join" (rM Z gJoin) := by
  intro pins s σ H x xs v us Q I rx rxs h
  obtain ⟨G, α, S, d, l, hd, od, ol, w⟩ := h
  cases d with
  | str a =>
    cases od
    obtain ⟨u, y, rfl, rfl, ou⟩ := meth2 ol w fun l h => by
      cases l with
      | nil => rfl
      | cons c r => cases r with
        | nil => exact absurd rfl (h c)
        | cons _ _ => cases c <;> rfl
    cases u with
    | lst l =>
      obtain ⟨p, zs, rfl, h1, h2⟩ := ou
      obtain ⟨ys, h3, h4, h5⟩ := join_ok (X := X) h2 (.inl (SqL.of h1)) hd w
      exact mt_join pins s σ H _ _ v us Q I rx rxs ⟨a, p, ys, rfl, rfl, h3, h4, h5⟩
    | tup l =>
      obtain ⟨p, zs, rfl, h1, h2⟩ := ou
      obtain ⟨ys, h3, h4, h5⟩ := join_ok (X := X) h2 (.inr (SqT.of (hd.ex _ _ h1))) hd w
      exact mt_join pins s σ H _ _ v us Q I rx rxs ⟨a, p, ys, rfl, rfl, h3, h4, h5⟩
    | _ => exact w.elim
  | _ => exact w.elim
variable {name : Str} {id : String} {o e : Expr} {es : List Expr} {apos cpos : Pos}
theorem pf_meth {g : Dv → List Dv → Option Rt} (hm : MtR X id (rM Z g)) (pa : PlainAttrs T) (slot : Slot T name id) (hty : typeOf (.builtin id) = pure (.type "method_descriptor")) (hK : X.K = Z.K) (ho : PF Z Ew X o fo) (ha : PAF Z Ew X (e :: es) fa)
    (hbase : attributeBase o name X.env (eval o X.env) = eval o X.env := by rfl)
    (hfew : ((backTo cpos (starEach (e :: es) X.env)).all (fun x => !x.1) && (backToKw cpos (keywordEach [] X.env)).all (fun x => x.1.isSome) && decide ((e :: es).length + ([] : List Keyword).length + (if ([] : List Keyword).isEmpty then 0 else 1) < 30)) = true := by rfl)
    (hline : (apos.endLine == cpos.line) = true := by rfl) (hst : starEach (e :: es) X.env = (false, eval e X.env) :: starEach es X.env := by rfl) (hpl : (backTo cpos (starEach es X.env)).any (·.1) = false := by rfl) :
    PF Z Ew X (.Call (.Attribute o name apos) (e :: es) [] cpos) (fMeth T g fo fa) := by
  obtain ⟨to, h1, h2⟩ := ho.ex
  obtain ⟨ta, h3, h4⟩ := ha.ex
  exact ⟨_, OP.pe_bmK Z.K pa slot hty hm h1 h3 hbase hfew hline hst hpl hK, se_meth h2 h4⟩
theorem pf_mut {g : List Dv → List Dv → Option (List Dv × Dv)} (hm : MtR X id (rMu Z g)) (slot : Slot "list" name id) (hty : typeOf (.builtin id) = pure (.type "method_descriptor")) (hK : X.K = Z.K) (ho : PF Z Ew X o fo) (ha : PAF Z Ew X (e :: es) fa)
    (hbase : attributeBase o name X.env (eval o X.env) = eval o X.env := by rfl)
    (hfew : ((backTo cpos (starEach (e :: es) X.env)).all (fun x => !x.1) && (backToKw cpos (keywordEach [] X.env)).all (fun x => x.1.isSome) && decide ((e :: es).length + ([] : List Keyword).length + (if ([] : List Keyword).isEmpty then 0 else 1) < 30)) = true := by rfl)
    (hline : (apos.endLine == cpos.line) = true := by rfl) (hst : starEach (e :: es) X.env = (false, eval e X.env) :: starEach es X.env := by rfl) (hpl : (backTo cpos (starEach es X.env)).any (·.1) = false := by rfl) :
    PF Z Ew X (.Call (.Attribute o name apos) (e :: es) [] cpos) (fMut g fo fa) := by
  obtain ⟨to, h1, h2⟩ := ho.ex
  obtain ⟨ta, h3, h4⟩ := ha.ex
  exact ⟨_, OP.pe_bmK Z.K PySem.F.plainAttrs_list slot hty hm h1 h3 hbase hfew hline hst hpl hK, se_mut h2 h4⟩
end
end DN
namespace DN
open PySem PySem.Spec PyProof.Rows L2 Evl
/-- the items, and the cell that they are read from (if it is one) -/
abbrev Its := List Dv × Option Nat
abbrev FI := Env → Sto → R Its
def OkI (Z : Zx) (G2 : Hp) (α2 : List Addr) (t : Its) (G' H : Hp) : Prop := Ex G2 G' ∧ Ex G' H ∧ ∀ n, t.2 = some n → ∃ a xs, α2[n]? = some a ∧ H a = some (.lst xs) ∧ OnL Z G' t.1 xs
structure Gz (Z : Zx) (J : It) (G2 : Hp) (α2 : List Addr) (t : Its) : Prop where
  go : ∀ i G' H, i < t.1.length → OkI Z G2 α2 t G' H → J.go i H
  stop : ∀ G' H, OkI Z G2 α2 t G' H → J.stop t.1.length H
  yld : ∀ i G' H x H', i < t.1.length → OkI Z G2 α2 t G' H → J.yld i H x H' → ∃ d, t.1[i]? = some d ∧ ∀ α' S', Hd Z G' α' S' H → ∃ G3, Fr G' α' H G3 α' H' ∧ Hd Z G3 α' S' H' ∧ On Z G3 d x
def pI (Z : Zx) (R' : It → Hp → Prop) : Pst Its := ⟨fun t _ G2 α2 H2 => ∀ J, Gz Z J G2 α2 t → R' J H2, fun _ q => q⟩
def SI (Z : Zx) (Ew : L2.St → XK) (wi : TI) (f : FI) : Prop :=
  ∀ env σ G α S H R', Hd Z G α S H → OnE Z G α env σ → Wk Z (f env S) G α H (pI Z R') (Ew σ) → wi σ H R'
structure PIF (Z : Zx) (Ew : L2.St → XK) (X : Cx) (tg e : Expr) (f : FI) : Prop where
  ex : ∃ wi, PI X tg e wi ∧ SI Z Ew wi f
/-- the items of a value -/
def iterD : Dv → Option (List Dv)
  | .lst l => some l
  | .tup l => some l
  | .ktp l => some l
  | .str s => some (s.cps.toList.map fun c => .str ⟨#[c]⟩)
  | _ => none
def itOf (S : Sto) (a : Vr) : R Its := match a with
  | .d d => match iterD d with
    | some l => .ok S (l, none)
    | none => .no
  | .r n => match S[n]? with
    | some (.lst l) => .ok S (l, some n)
    | _ => .no
def iVal (fa : FE) : FI := fun env S => (fa env S).bindV fun S1 a => itOf S1 a
section
variable {Z : Zx} {X : Cx} {Ew : L2.St → XK} {G H G' H' : Hp} {α : List Addr} {S : Sto} {Q : VK} {E : XK}
/-- nothing new at a turn -/
theorem y_same {d : Dv} {x : V} (o : On Z G' d x) : ∀ α' S', Hd Z G' α' S' H → ∃ G3, Fr G' α' H G3 α' H ∧ Hd Z G3 α' S' H ∧ On Z G3 d x := fun α' S' hd => ⟨G', Fr.refl G' α' H, hd, o⟩
theorem gz_range {lo : Int} {n : Nat} {G2 : Hp} {α2 : List Addr} : Gz Z (Itr lo n) G2 α2 ((List.range n).map fun (i : Nat) => Dv.int (lo + i), none) := by
  have hl : ((List.range n).map fun (i : Nat) => Dv.int (lo + i)).length = n := by rw [List.length_map, List.length_range]
  refine ⟨fun i G' H hi ok => by rw [hl] at hi; exact hi, fun G' H ok => by rw [hl]; exact Nat.le_refl _, fun i G' H x H' hi ok y => ?_⟩
  rw [hl] at hi
  obtain ⟨rfl, rfl⟩ := y
  exact ⟨.int (lo + i), by rw [List.getElem?_map, List.getElem?_range hi]; rfl, y_same on_int⟩
variable {tg e : Expr} {fa : FE} {te : TE}
def smallR (i : Int) : Bool := decide (-1000000 ≤ i) && decide (i ≤ 1000000)
def rangeD (lo hi : Int) : List Dv := (List.range (hi - lo).toNat).map fun (i : Nat) => Dv.int (lo + i)
def vi (a : Vr) : Option Int := match a with
  | .d (.int j) => some j
  | _ => none
def vi1 (l : List Vr) : Option Int := match l with
  | [a] => vi a
  | _ => none
def rng1 (S : Sto) (o : Option Int) : R Its := match o with
  | some j => if smallR j then .ok S (rangeD 0 j, none) else .no
  | none => .no
def iRange1 (fa : FA) : FI := fun env S => (fa env S).bind fun S1 l => rng1 S1 (vi1 l)
theorem vi_on {a : Vr} {i : Int} {x : V} (e : vi a = some i) (h : OnR Z G α a x) : x = .int i := by
  cases a with
  | r n => cases e
  | d d =>
    cases d with
    | int j =>
      cases e
      have h : On Z G (.int i) x := h
      unfold On at h
      exact h
    | _ => cases e
theorem vi1_on {l : List Vr} {i : Int} {vs : List V} (e : vi1 l = some i) (h : OnA Z G α l vs) : vs = [.int i] := by
  cases l with
  | nil => cases e
  | cons a r =>
    cases r with
    | nil =>
      obtain ⟨y, ys, rfl, o1, o2⟩ := h
      cases (show ys = [] from o2)
      rw [vi_on e o1]
    | cons b r => cases e
theorem smallR_ok {i : Int} (h : smallR i = true) : -1000000 ≤ i ∧ i ≤ 1000000 := by
  obtain ⟨h1, h2⟩ := and2 h
  exact ⟨of_decide_eq_true h1, of_decide_eq_true h2⟩
variable {a b : Expr} {fl : FA} {p pos : Pos}
theorem pif_range1 (hg : Gl X "range") (hm : X.mg "range" = none) (ha : PAF Z Ew X [a] fl) (hs : starEach [a] X.env = [(false, eval a X.env)] := by rfl) : PIF Z Ew X tg (.Call (.Name "range" p) [a] [] pos) (iRange1 fl) := by
  obtain ⟨ta, h1, h2⟩ := ha.ex
  refine ⟨_, pi_range1 hg hm h1 hs, fun env σ G α S H R' hd oe w => h2.bind hd oe w fun S2 l vs H2 G2 α2 f2 hd2 oe2 ol w2 => ?_⟩
  cases q : vi1 l with
  | none => rw [q] at w2; exact w2.elim
  | some j =>
    rw [q] at w2
    have w2 : Wk Z (if smallR j then R.ok S2 (rangeD 0 j, none) else .no) G2 α2 H2 (pI Z R') (Ew σ) := w2
    cases c : smallR j with
    | false => rw [c] at w2; exact w2.elim
    | true =>
      rw [c] at w2
      obtain ⟨b1, b2⟩ := smallR_ok c
      refine ⟨j, vi1_on q ol, by omega, by omega, w2 H2 G2 α2 (Fr.refl _ _ _) hd2 _ ?_⟩
      have := gz_range (Z := Z) (lo := 0) (n := j.toNat) (G2 := G2) (α2 := α2)
      unfold rangeD
      rw [Int.sub_zero]
      exact this
variable {elts : List Expr} {kk : Nat} {tpos : Pos}
end
end DN
namespace DN
open PySem PySem.Spec PyProof.Rows L2 Evl
def tF (Z : Zx) (Ew : L2.St → XK) (f : FE) : TE := fun σ H Q => ∃ env G α S, Hd Z G α S H ∧ OnE Z G α env σ ∧ Wk Z (f env S) G α H (pRt Z Q) (Ew σ)
def tFT (Z : Zx) (Ew : L2.St → XK) (f : FT) : TT := fun σ H Q => ∃ env G α S, Hd Z G α S H ∧ OnE Z G α env σ ∧ Wk Z (f env S) G α H (pB Q) (Ew σ)
def tFI (Z : Zx) (Ew : L2.St → XK) (f : FI) : TI := fun σ H R' => ∃ env G α S, Hd Z G α S H ∧ OnE Z G α env σ ∧ Wk Z (f env S) G α H (pI Z R') (Ew σ)
section
variable {Z : Zx} {Ew : L2.St → XK} {X : Cx} {e tg : Expr}
theorem PF.pe {f : FE} (h : PF Z Ew X e f) : PE X e (tF Z Ew f) := by
  obtain ⟨te, h1, h2⟩ := h.ex
  refine ⟨fun pins s σ H Q I ht => ?_⟩
  obtain ⟨env, G, α, S, hd, oe, w⟩ := ht
  exact h1.run pins s σ H Q I (h2 env σ G α S H Q hd oe w)
theorem PTF.pt {f : FT} (h : PTF Z Ew X e f) : PT X e (tFT Z Ew f) := by
  obtain ⟨te, h1, h2⟩ := h.ex
  refine ⟨fun pins s σ H Q I ht => ?_⟩
  obtain ⟨env, G, α, S, hd, oe, w⟩ := ht
  exact h1.run pins s σ H Q I (h2 env σ G α S H Q hd oe w)
theorem PIF.pi {f : FI} (h : PIF Z Ew X tg e f) : PI X tg e (tFI Z Ew f) := by
  obtain ⟨te, h1, h2⟩ := h.ex
  refine ⟨fun pins s σ H Q I ht => ?_⟩
  obtain ⟨env, G, α, S, hd, oe, w⟩ := ht
  exact h1.run pins s σ H Q I (h2 env σ G α S H Q hd oe w)
theorem se_tF {f : FE} : SE Z Ew (tF Z Ew f) f := fun env σ G α S H Q hd oe w => ⟨env, G, α, S, hd, oe, w⟩
theorem st_tF {f : FT} : ST Z Ew (tFT Z Ew f) f := fun env σ G α S H Q hd oe w => ⟨env, G, α, S, hd, oe, w⟩
theorem si_tF {f : FI} : SI Z Ew (tFI Z Ew f) f := fun env σ G α S H Q hd oe w => ⟨env, G, α, S, hd, oe, w⟩
end
abbrev FG := Dv → Env → Option Env
abbrev FGs := List Dv → Env → Option Env
def tgN (i : Nat) : FG := fun d env => some (env.set i (.v (.d d)))
def tgNil : FGs := fun l env => match l with
  | [] => some env
  | _ => none
def tgCons (f : FG) (fs : FGs) : FGs := fun l env => match l with
  | d :: r => match f d env with
    | some env' => fs r env'
    | none => none
  | [] => none
def tgT (fs : FGs) : FG := fun d env => match d with
  | .tup l => fs l env
  | _ => none
def Wp1 (sl : List Nat) (σ σ' : L2.St) : Prop := ∀ vs : List Nat, (∀ i ∈ sl, i ∈ vs) → wipe σ' vs = wipe σ vs
def tG (Z : Zx) (f : FG) (sl : List Nat) : TG := fun v σ H Q => ∃ env G α S d env', Hd Z G α S H ∧ OnE Z G α env σ ∧ On Z G d v ∧ f d env = some env' ∧ ∀ σ', OnE Z G α env' σ' → Wp1 sl σ σ' → Q σ' H
structure PGF (Z : Zx) (X : Cx) (tg : Expr) (f : FG) (sl : List Nat) : Prop where
  pg : PG X tg (tG Z f sl)
section
variable {Z : Zx} {X : Cx} {pos : Pos}
theorem wipe_set {σ : L2.St} {i : Nat} {x : Option V} : ∀ {vs : List Nat}, i ∈ vs → wipe (σ.set i x) vs = wipe σ vs
  | [], h => nomatch h
  | j :: vs, h => by
    show (wipe (σ.set i x) vs).set j none = (wipe σ vs).set j none
    by_cases q : i ∈ vs
    · rw [wipe_set q]
    · have e : i = j := by
        rcases List.mem_cons.mp h with e | e
        · exact e
        · exact absurd e q
      subst e
      clear h
      have aux : ∀ (σ : L2.St) (vs : List Nat), i ∉ vs → wipe (σ.set i x) vs = (wipe σ vs).set i x := fun σ vs => by
        induction vs generalizing σ with
        | nil => intro _; rfl
        | cons k r ih =>
          intro h
          have hk : i ≠ k := fun e => h (e ▸ List.mem_cons_self)
          have hr : i ∉ r := fun e => h (List.mem_cons_of_mem _ e)
          show (wipe (σ.set i x) r).set k none = ((wipe σ r).set k none).set i x
          rw [ih σ hr, List.set_comm _ _ hk]
      rw [aux σ vs q, List.set_set]
theorem Wp1.refl (sl : List Nat) (σ : L2.St) : Wp1 sl σ σ := fun _ _ => rfl
theorem Wp1.trans {sl sl' : List Nat} {σ σ' σ'' : L2.St} (a : Wp1 sl σ σ') (b : Wp1 sl' σ' σ'') : Wp1 (sl ++ sl') σ σ'' := fun vs h => (b vs fun i hi => h i (List.mem_append_right _ hi)).trans (a vs fun i hi => h i (List.mem_append_left _ hi))
theorem pgf_name (i : Nat) {x : Str} (hN : X.N.Nodup) (hi : X.N[i]? = some x) (hx : Loc X.env.scope x) (hf : X.fn x = true ∨ X.env.scope.names.lookup x = some .local := by first | exact .inl rfl | exact .inr rfl | assumption) : PGF Z X (.Name x pos) (tgN i) [i] := by
  refine ⟨⟨fun pins s σ H v u Q I r h => ?_⟩⟩
  obtain ⟨env, G, α, S, d, env', hd, oe, ov, e, k⟩ := h
  cases e
  exact (pg_name hN hi hx hf).run pins s σ H v u Q I r (k _ (oe.set i ov) fun vs hv => wipe_set (hv i (by simp)))
end
mutual
def beqD : Dv → Dv → Bool
  | .non, .non => true
  | .bl a, .bl b => a == b
  | .int a, .int b => a == b
  | .str a, .str b => a == b
  | .ty a, .ty b => a == b
  | .cls a, .cls b => a == b
  | .lst a, .lst b => beqDs a b
  | .tup a, .tup b => beqDs a b
  | .ktp a, .ktp b => beqDs a b
  | .obj c a, .obj d b => c == d && beqDs a b
  | .dic t a b, .dic u c d => t == u && beqDs a c && beqDs b d
  | .scr a, .scr b => a == b
  | _, _ => false
def beqDs : List Dv → List Dv → Bool
  | [], [] => true
  | a :: l, b :: m => beqD a b && beqDs l m
  | _, _ => false
end
mutual
theorem beqD_refl : ∀ d : Dv, beqD d d = true
  | .non => by simp [beqD]
  | .bl _ => by simp [beqD]
  | .int _ => by simp [beqD]
  | .str _ => by simp [beqD]
  | .ty _ => by simp [beqD]
  | .cls _ => by simp [beqD]
  | .scr _ => by simp [beqD]
  | .lst l => by simp [beqD, beqDs_refl l]
  | .tup l => by simp [beqD, beqDs_refl l]
  | .ktp l => by simp [beqD, beqDs_refl l]
  | .obj c l => by simp [beqD, beqDs_refl l]
  | .dic t l m => by simp [beqD, beqDs_refl l, beqDs_refl m]
theorem beqDs_refl : ∀ l : List Dv, beqDs l l = true
  | [] => by simp [beqDs]
  | d :: l => by simp [beqDs, beqD_refl d, beqDs_refl l]
end
mutual
theorem beqD_eq : ∀ {a b : Dv}, beqD a b = true → a = b
  | a, b, h => by
    cases a <;> cases b <;> first
      | rfl
      | (simp [beqD] at h; done)
      | (simp [beqD] at h; subst h; rfl)
      | skip
    · rename_i l m; rw [beqDs_eq (a := l) (b := m) (by simpa [beqD] using h)]
    · rename_i l m; rw [beqDs_eq (a := l) (b := m) (by simpa [beqD] using h)]
    · rename_i c l d m
      have h' : c = d ∧ beqDs l m = true := by simpa [beqD] using h
      rw [h'.1, beqDs_eq h'.2]
    · rename_i t l m u l' m'
      have h' : (t = u ∧ beqDs l l' = true) ∧ beqDs m m' = true := by simpa [beqD] using h
      rw [h'.1.1, beqDs_eq h'.1.2, beqDs_eq h'.2]
    · rename_i l m; rw [beqDs_eq (a := l) (b := m) (by simpa [beqD] using h)]
theorem beqDs_eq : ∀ {a b : List Dv}, beqDs a b = true → a = b
  | [], [], _ => rfl
  | [], _ :: _, h => by simp [beqDs] at h
  | _ :: _, [], h => by simp [beqDs] at h
  | a :: l, b :: m, h => by
    have h' : beqD a b = true ∧ beqDs l m = true := by simpa [beqDs] using h
    rw [beqD_eq h'.1, beqDs_eq h'.2]
end
/-- the list that is gone over stands as it did -/
def lockOk (t : Its) (S : Sto) : Bool := match t.2 with
  | none => true
  | some n => match S[n]? with
    | some (.lst l) => beqDs l t.1
    | _ => false
theorem lock_ok {Z : Zx} {G2 G' H : Hp} {α2 α' : List Addr} {t : Its} {S' : Sto} (hd : Hd Z G' α' S' H) (e : Ex G2 G') (p : Px α2 α') (hn : ∀ n, t.2 = some n → n < α2.length) (h : lockOk t S' = true) : OkI Z G2 α2 t G' H := by
  refine ⟨e, hd.ex, fun n q => ?_⟩
  unfold lockOk at h
  rw [q] at h
  obtain ⟨b, ha⟩ : ∃ b, α2[n]? = some b := ⟨_, List.getElem?_eq_getElem (hn n q)⟩
  cases q2 : S'[n]? with
  | none => simp only [q2] at h; cases h
  | some c =>
    simp only [q2] at h
    cases c with
    | lst l =>
      have e2 := beqDs_eq h
      subst e2
      obtain ⟨xs, h1, h2⟩ := (hd.at_ n _ _ (p.get ha) q2).2
      exact ⟨_, xs, ha, h1, h2⟩
    | _ => cases h
theorem lock_lt {Z : Zx} {G H : Hp} {α : List Addr} {t : Its} {S : Sto} (hd : Hd Z G α S H) (h : lockOk t S = true) : ∀ n, t.2 = some n → n < α.length := fun n q => by
  unfold lockOk at h
  rw [q] at h
  rw [hd.len]
  cases q2 : S[n]? with
  | none => simp only [q2] at h; cases h
  | some c => exact (List.getElem?_eq_some_iff.mp q2).1
def R.noex {β : Type} (r : R β) : R β := match r with
  | .ex _ _ => .no
  | r => r
def onD {β : Type} (v : Vr) (f : Dv → R β) : R β := match v with
  | .d d => f d
  | .r _ => .no
/-- the turns of a comprehension -/
def lcGo (t : Its) (tg : FG) (ft : FT) (fe : FE) (env : Env) : List Dv → Sto → List Dv → R (List Dv)
  | [], S, acc => if lockOk t S then .ok S acc else .no
  | d :: r, S, acc => if lockOk t S then (match tg d env with
    | some env' => (ft env' S).noex.bind fun S1 b => if b then (fe env' S1).noex.bindV fun S2 v => onD v fun y => if acc.length < 100000 then lcGo t tg ft fe env r S2 (acc ++ [y]) else .no else lcGo t tg ft fe env r S1 acc
    | none => .no) else .no
def wipeE (env : Env) : List Nat → Env
  | [] => env
  | i :: vs => (wipeE env vs).set i .u
def fLc (fi : FI) (tg : FG) (ft : FT) (fe : FE) (vs : List Nat) : FE := fun env S => (fi env S).bind fun S1 t => (lcGo t tg ft fe (wipeE env vs) t.1 S1 []).bind fun S2 l => .ok S2 (.new (.lst l))
def kYes : FT := fun _ S => .ok S true
abbrev Ew0 : L2.St → XK := fun _ => E0
section
variable {Z : Zx} {X : Cx} {Ew : L2.St → XK} {G H : Hp} {α : List Addr} {S : Sto}
theorem OnE.wipe {env : Env} {σ : L2.St} (h : OnE Z G α env σ) : ∀ vs : List Nat, OnE Z G α (wipeE env vs) (wipe σ vs)
  | [] => h
  | i :: vs => (OnE.wipe h vs).forget i
theorem wipe_wipe {σ : L2.St} {vs : List Nat} : ∀ {l : List Nat}, (∀ i ∈ l, i ∈ vs) → wipe (wipe σ l) vs = wipe σ vs
  | [], _ => rfl
  | i :: l, h => by
    show wipe ((wipe σ l).set i none) vs = wipe σ vs
    rw [wipe_set (h i List.mem_cons_self), wipe_wipe fun j hj => h j (List.mem_cons_of_mem _ hj)]
/-- beside what is known and the cells, something of ours is changed -/
theorem Hd.side {D : Addr} {o : HO} (h : Hd Z G α S H) (hG : G D = none) (hD : D ∉ α) : Hd Z G α S (upd H D o) := by
  refine ⟨fun b u hb => ?_, h.len, h.nd, fun n a c h1 h2 => ?_⟩
  · have : b ≠ D := fun e => by subst e; rw [hG] at hb; cases hb
    rw [upd_ne this]
    exact h.ex b u hb
  · have : a ≠ D := fun e => hD (e ▸ List.mem_of_getElem? h1)
    obtain ⟨h3, h4⟩ := h.at_ n a c h1 h2
    refine ⟨h3, h4.move (Ex.refl G) (upd_ne this) (fun _ _ _ q => q) fun m b _ q1 q2 q3 => ⟨q1, q2, q3, fun o' ho => ?_⟩⟩
    have nb : b ≠ D := fun e => hD (e ▸ List.mem_of_getElem? q1)
    rw [upd_ne nb]; exact ho
theorem Fr.side {G2 H2 : Hp} {α2 : List Addr} {D : Addr} {o : HO} (f : Fr G α H G2 α2 H2) (hD : H D = none) : Fr G α H G2 α2 (upd H2 D o) :=
  ⟨f.g, f.a, fun b u h1 h2 => by
    have : b ≠ D := fun e => by subst e; rw [hD] at h1; cases h1
    rw [upd_ne this]
    exact f.h b u h1 h2, f.n, f.m, fun b hb => by
    by_cases q : b = D
    · subst q; rw [upd_same]; exact fun h => nomatch h
    · rw [upd_ne q]; exact f.s b hb⟩
/-- D, of ours, through a step -/
theorem Fr.ours {G2 H2 : Hp} {α2 : List Addr} {D : Addr} {o : HO} (f : Fr G α H G2 α2 H2) (hG : G D = none) (hD : D ∉ α) (h : H D = some o) (ht : ∀ xs, o ≠ HO.tup xs := by intro _ h; cases h) : G2 D = none ∧ D ∉ α2 ∧ H2 D = some o := by
  refine ⟨f.n D o hG h ht hD, fun hm => ?_, f.h D o h hD⟩
  rcases f.m D hm with e | e
  · exact hD e
  · rw [h] at e; cases e
theorem noex_V {γ δ : Type} {r : R Rt} {F : Sto → Vr → R γ} {fin : Sto → γ → R δ} {P : Pst δ} {E : XK} {Q' : VK} {G' H' : Hp} {α' : List Addr} (w : Wk Z ((r.noex.bindV F).bind fin) G α H P E)
    (k : ∀ S2 d v H2 G2 α2, Fr G' α' H' G2 α2 H2 → Hd Z G2 α2 S2 H2 → OnR Z G2 α2 d v → Wk Z ((F S2 d).bind fin) G α H P E → Q' v H2) : Wk Z r G' α' H' (pRt Z Q') E0 := by
  match r, w with
  | .ok S (.val v), w => exact fun H2 G2 α2 f2 hd2 x ox => k S v x H2 G2 α2 f2 hd2 ox w
  | .ok S (.new c), w =>
    intro H2 G2 α2 f2 hd2 p n
    cases e : frzC c with
    | none =>
      have w : Wk Z ((R.bindV (.ok S (.new c)) F).bind fin) G α H P E := w
      rw [bindV_dead e] at w
      exact w.elim
    | some d =>
      have w : Wk Z ((R.bindV (.ok S (.new c)) F).bind fin) G α H P E := w
      rw [bindV_new e] at w
      cases q : H2 p with
      | none => exact absurd q n.c.ne
      | some o =>
        have hc := n.c
        rw [q] at hc
        exact k S (.d d) _ H2 _ α2 (f2.freeze (o := o) n.h n.g) (hd2.freeze n.g q n.a) (On.frz hc e n.g) w
structure PTsF (Z : Zx) (X : Cx) (ifs : List Expr) (f : FT) : Prop where
  pts : PTs X ifs (tFT Z Ew0 f)
theorem ptsf_nil : PTsF Z X [] kYes := ⟨⟨fun pins s σ H Q I h => by
  obtain ⟨env, G, α, S, hd, oe, w⟩ := h
  exact pts_nil.run pins s σ H Q I (Wk.bool w hd)⟩⟩
/-- [elt for target in iter if ..] -/
theorem se_lc {fi : FI} {tg : FG} {ft : FT} {fe : FE} {sl vs : List Nat} (hsl : ∀ i ∈ sl, i ∈ vs) : SE Z Ew (tLc (tFI Z Ew fi) (tG Z tg sl) (tFT Z Ew0 ft) (tF Z Ew0 fe) vs) (fLc fi tg ft fe vs) := fun env σ G α S H Q hd oe w => by
  refine ⟨env, G, α, S, hd, oe, w.bind (P' := pI Z _) fun S1 t H1 G1 α1 f1 hd1 w1 J gz D hD => ?_⟩
  have oe1 : OnE Z G1 α1 (wipeE env vs) (wipe σ vs) := (oe.up f1.g f1.a).wipe vs
  let fin : Sto → List Dv → R Rt := fun S2 l => .ok S2 (.new (.lst l))
  have lk0 : lockOk t S1 = true := by
    have w1 : Wk Z ((lcGo t tg ft fe (wipeE env vs) t.1 S1 []).bind fin) G1 α1 H1 (pRt Z Q) (Ew σ) := w1
    cases q : lockOk t S1 with
    | true => rfl
    | false =>
      cases q2 : t.1 with
      | nil => rw [q2] at w1; simp only [lcGo, q] at w1; exact w1.elim
      | cons d r => rw [q2] at w1; simp only [lcGo, q] at w1; exact w1.elim
  have hlt := lock_lt hd1 lk0
  refine ⟨fun i m H' => m = t.1.length - i ∧ i ≤ t.1.length ∧ ∃ G' α' S' acc xs, Fr G1 α1 H1 G' α' H' ∧ Hd Z G' α' S' H' ∧ G' D = none ∧ D ∉ α' ∧ H' D = some (.lst xs) ∧ OnL Z G' acc xs ∧
    Wk Z ((lcGo t tg ft fe (wipeE env vs) (t.1.drop i) S' acc).bind fin) G1 α1 H1 (pRt Z Q) (Ew σ),
    ⟨t.1.length, by simp, Nat.zero_le _, G1, α1, S1, [], [], Fr.grow hd1 (Ex.new hD), hd1.grow (Ex.new hD), fresh_back hd1.ex hD, fun h => hd1.live h hD, upd_same, OnL.nil', w1⟩, ?_⟩
  rintro i m H' ⟨rfl, hi, G', α', S', acc, xs, f2, hd2, gD, aD, hHD, oa, w2⟩
  cases lk : lockOk t S' with
  | false =>
    cases q2 : t.1.drop i with
    | nil => rw [q2] at w2; simp only [lcGo, lk] at w2; exact w2.elim
    | cons d r => rw [q2] at w2; simp only [lcGo, lk] at w2; exact w2.elim
  | true =>
    have ok := lock_ok hd2 f2.g f2.a hlt lk
    by_cases hlt2 : i < t.1.length
    · refine .inr ⟨gz.go i G' H' hlt2 ok, _, fun H3 h3 => ⟨t.1.length - (i + 1), by omega, rfl, hlt2, h3⟩, fun x H3 y => ?_⟩
      obtain ⟨d, ed, hy⟩ := gz.yld i G' H' x H3 hlt2 ok y
      obtain ⟨G3, f3, hd3, od⟩ := hy α' S' hd2
      obtain ⟨gD3, aD3, hHD3⟩ := f3.ours gD aD hHD
      have e1 : t.1.drop i = d :: t.1.drop (i + 1) := by
        rw [List.drop_eq_getElem_cons hlt2]
        rw [List.getElem?_eq_getElem hlt2] at ed
        cases ed
        rfl
      rw [e1] at w2
      simp only [lcGo, lk, if_true] at w2
      cases q : tg d (wipeE env vs) with
      | none => simp only [q] at w2; exact w2.elim
      | some env' =>
        simp only [q] at w2
        have oe3 : OnE Z G3 α' (wipeE env vs) (wipe σ vs) := (oe1.up f2.g f2.a).up f3.g f3.a
        refine ⟨_, G3, α', S', d, env', hd3, oe3, od, q, fun σ2 oe2 wp => ⟨(wp vs hsl).trans (wipe_wipe fun i h => h), env', G3, α', S', hd3, oe2, ?_⟩⟩
        cases q3 : ft env' S' with
        | no => rw [q3] at w2; exact w2.elim
        | ex S x => rw [q3] at w2; exact w2.elim
        | ok S4 b =>
          rw [q3] at w2
          intro H4 G4 α4 f4 hd4
          obtain ⟨gD4, aD4, hHD4⟩ := f4.ours gD3 aD3 hHD3
          have f14 := (f2.trans f3).trans f4
          cases b with
          | false =>
            dsimp only [pB]
            rw [if_neg Bool.false_ne_true]
            exact ⟨G4, α4, S4, acc, xs, f14, hd4, gD4, aD4, hHD4, oa.up (f3.g.trans f4.g), w2⟩
          | true =>
            dsimp only [pB]
            rw [if_pos rfl]
            refine ⟨env', G4, α4, S4, hd4, oe2.up f4.g f4.a, noex_V (F := fun S2 v => onD v fun y => if acc.length < 100000 then lcGo t tg ft fe (wipeE env vs) (t.1.drop (i + 1)) S2 (acc ++ [y]) else .no) w2 fun S5 v y H5 G5 α5 f5 hd5 ov w5 => ?_⟩
            obtain ⟨gD5, aD5, hHD5⟩ := f5.ours gD4 aD4 hHD4
            cases v with
            | r n => exact w5.elim
            | d v =>
              by_cases hl : acc.length < 100000
              · have w5 : Wk Z ((if acc.length < 100000 then lcGo t tg ft fe (wipeE env vs) (t.1.drop (i + 1)) S5 (acc ++ [v]) else .no).bind fin) G1 α1 H1 (pRt Z Q) (Ew σ) := w5
                rw [if_pos hl] at w5
                have oa5 := (oa.up (f3.g.trans f4.g)).up f5.g
                exact ⟨xs, hHD5, Nat.lt_of_lt_of_le (by rw [oa.len]; exact hl) (by decide), G5, α5, S5, acc ++ [v], xs ++ [y], (f14.trans f5).side hD, hd5.side gD5 aD5, gD5, aD5, upd_same, oa5.app (OnL.cons' ov OnL.nil'), w5⟩
              · have w5 : Wk Z ((if acc.length < 100000 then lcGo t tg ft fe (wipeE env vs) (t.1.drop (i + 1)) S5 (acc ++ [v]) else .no).bind fin) G1 α1 H1 (pRt Z Q) (Ew σ) := w5
                rw [if_neg hl] at w5
                exact w5.elim
    · have e : i = t.1.length := by omega
      subst e
      rw [List.drop_length] at w2
      simp only [lcGo, lk, if_true] at w2
      have w2 : Wk Z (.ok S' (Rt.new (.lst acc))) G1 α1 H1 (pRt Z Q) (Ew σ) := w2
      exact .inl ⟨gz.stop G' H' ok, w2 H' G' α' f2 hd2 D ⟨hD, gD, aD, ⟨xs, hHD, oa⟩⟩⟩
theorem pf_lc {elt tg iter : Expr} {ifs : List Expr} {scope : Scope} {own : List (Str × Nat)} {pos : Pos} {fi : FI} {ftg : FG} {ft : FT} {fe : FE} {sl : List Nat} (hc : X.calm = true) (hN : X.N.Nodup) (hi : PIF Z Ew X tg iter fi) (ok : BlkOk X.N X.env.scope scope own)
    (hg : ∀ (s : Shared) (H : Hp) (C : Addr) (cl : List (Str × Addr)) (fp : List Addr), PGF Z (X.blk s H scope (compEnvC scope cl C X.env) fp) tg ftg sl)
    (ht : ∀ (s : Shared) (H : Hp) (C : Addr) (cl : List (Str × Addr)) (fp : List Addr), PTsF Z (X.blk s H scope (compEnvC scope cl C X.env) fp) ifs ft)
    (he : ∀ (s : Shared) (H : Hp) (C : Addr) (cl : List (Str × Addr)) (fp : List Addr), PF Z Ew0 (X.blk s H scope (compEnvC scope cl C X.env) fp) elt fe)
    (hsl : ∀ i ∈ sl, i ∈ own.map (·.2) := by decide) (hs : ∀ x, foldedSetIterable iter X.env x = pure x := by intro _; rfl) : PF Z Ew X (.ListComp elt [⟨tg, iter, ifs, 0⟩] scope pos) (fLc fi ftg ft fe (own.map (·.2))) :=
  ⟨_, pe_lc hc hN hi.pi ok (fun s H C cl fp => (hg s H C cl fp).pg) (fun s H C cl fp => (ht s H C cl fp).pts) (fun s H C cl fp => (he s H C cl fp).pe) hs, se_lc hsl⟩
end
end DN
namespace DN
open PySem PySem.Spec PyProof.Rows L2 Evl
inductive RS where
  | nx (env : Env) (S : Sto) | rt (S : Sto) (r : Rt) | bk (env : Env) (S : Sto) | ct (env : Env) (S : Sto) | ex (env : Env) (S : Sto) (x : Xn) | no
abbrev FS := Env → Sto → RS
/-- a value is wanted, then a statement goes on -/
def sV (env : Env) (r : R Rt) (F : Sto → Vr → RS) : RS := match r with
  | .ok S (.val v) => F S v
  | .ok S (.new (.lst l)) => F S (.d (.lst l))
  | .ok S (.new (.ob c l)) => F S (.d (.obj c l))
  | .ok S (.new (.dc t ks vs)) => F S (.d (.dic t ks vs))
  | .ok _ (.new .dead) => .no
  | .ok _ (.new (.tab _)) => .no
  | .ex S x => .ex env S x
  | .no => .no
def sB {β : Type} (env : Env) (r : R β) (F : Sto → β → RS) : RS := match r with
  | .ok S b => F S b
  | .ex S x => .ex env S x
  | .no => .no
def WkS (Z : Zx) (r : RS) (G : Hp) (α : List Addr) (H : Hp) (D : Ends) (W : WX) : Prop := match r with
  | .nx env S => ∀ σ2 H2 G2 α2, Fr G α H G2 α2 H2 → Hd Z G2 α2 S H2 → OnE Z G2 α2 env σ2 → D.nx σ2 H2
  | .bk env S => ∀ σ2 H2 G2 α2, Fr G α H G2 α2 H2 → Hd Z G2 α2 S H2 → OnE Z G2 α2 env σ2 → D.bk σ2 H2
  | .ct env S => ∀ σ2 H2 G2 α2, Fr G α H G2 α2 H2 → Hd Z G2 α2 S H2 → OnE Z G2 α2 env σ2 → D.ct σ2 H2
  | .rt S r => Wk Z (.ok S r) G α H (pRt Z D.rt) E0
  | .ex env S x => ∀ σ2 cls d H2 G2 α2, Fr G α H G2 α2 H2 → Hd Z G2 α2 S H2 → OnE Z G2 α2 env σ2 → OnX Z G2 α2 x cls d → W cls d σ2 H2
  | .no => False
def SS (Z : Zx) (W : WX) (ts : TS) (f : FS) : Prop := ∀ env σ G α S H D, Hd Z G α S H → OnE Z G α env σ → WkS Z (f env S) G α H D W → ts D σ H
def tS (Z : Zx) (W : WX) (f : FS) : TS := fun D σ H => ∃ env G α S, Hd Z G α S H ∧ OnE Z G α env σ ∧ WkS Z (f env S) G α H D W
structure PSF (Z : Zx) (W : WX) (X : Cx) (st : Stmt) (f : FS) : Prop where
  ps : PS X st (tS Z W f)
structure PSsF (Z : Zx) (W : WX) (X : Cx) (st : List Stmt) (f : FS) : Prop where
  ps : PSs X st (tS Z W f)
section
variable {Z : Zx} {W : WX} {X : Cx} {G H G2 H2 : Hp} {α α2 : List Addr} {S : Sto} {D : Ends} {env : Env} {σ : L2.St}
theorem WkS.later {r : RS} (w : WkS Z r G α H D W) (f : Fr G α H G2 α2 H2) : WkS Z r G2 α2 H2 D W := by
  cases r with
  | nx env S => exact fun σ2 H3 G3 α3 f3 => w σ2 H3 G3 α3 (f.trans f3)
  | bk env S => exact fun σ2 H3 G3 α3 f3 => w σ2 H3 G3 α3 (f.trans f3)
  | ct env S => exact fun σ2 H3 G3 α3 f3 => w σ2 H3 G3 α3 (f.trans f3)
  | rt S r => exact Wk.later (show Wk Z (.ok S r) G α H (pRt Z D.rt) E0 from w) f
  | ex env S x => exact fun σ2 cls d H3 G3 α3 f3 => w σ2 cls d H3 G3 α3 (f.trans f3)
  | no => exact w
theorem PSF.of {st : Stmt} {ts : TS} {f : FS} (h : PS X st ts) (s : SS Z W ts f) : PSF Z W X st f := ⟨⟨fun pins sh σ H D I ht => by
  obtain ⟨env, G, α, S, hd, oe, w⟩ := ht
  exact h.run pins sh σ H D I (s env σ G α S H D hd oe w)⟩⟩
theorem PSsF.of {st : List Stmt} {ts : TS} {f : FS} (h : PSs X st ts) (s : SS Z W ts f) : PSsF Z W X st f := ⟨⟨fun pins sh σ H D I ht => by
  obtain ⟨env, G, α, S, hd, oe, w⟩ := ht
  exact h.run pins sh σ H D I (s env σ G α S H D hd oe w)⟩⟩
theorem Got.sV {r : R Rt} {S : Sto} {d : Vr} {F : Sto → Vr → RS} (h : Got r S d) : sV env r F = F S d := by
  cases h with
  | val => rfl
  | new S c d h => cases c <;> cases h <;> rfl
/-- an expression's value, then the rest of the statement -/
theorem SE.bindS {te : TE} {fe : FE} {F : Sto → Vr → RS} {Q' : VK} (h : SE Z (WE W) te fe) (hd : Hd Z G α S H) (oe : OnE Z G α env σ) (w : WkS Z (sV env (fe env S) F) G α H D W)
    (k : ∀ S2 d v H2 G2 α2, Got (fe env S) S2 d → Fr G α H G2 α2 H2 → Hd Z G2 α2 S2 H2 → OnE Z G2 α2 env σ → OnR Z G2 α2 d v → WkS Z (F S2 d) G2 α2 H2 D W → Q' v H2) : te σ H Q' := by
  refine h env σ G α S H Q' hd oe ?_
  cases e : fe env S with
  | no => rw [e] at w; exact w.elim
  | ex S2 x =>
    rw [e] at w
    exact fun cls d H2 G2 α2 f2 hd2 ox => w σ cls d H2 G2 α2 f2 hd2 (oe.up f2.g f2.a) ox
  | ok S2 b =>
    cases b with
    | val v =>
      rw [e] at w
      exact fun H2 G2 α2 f2 hd2 x ox => k S2 v x H2 G2 α2 (e ▸ .val S2 v) f2 hd2 (oe.up f2.g f2.a) ox (WkS.later w f2)
    | new c =>
      intro H2 G2 α2 f2 hd2 p n
      cases q : frzC c with
      | none =>
        rw [e] at w
        cases c with
        | dead => exact w.elim
        | tab rows => exact w.elim
        | _ => cases q
      | some d =>
        have g : Got (fe env S) S2 (.d d) := e ▸ .new S2 c d q
        rw [g.sV] at w
        cases q2 : H2 p with
        | none => exact absurd q2 n.c.ne
        | some o =>
          have hc := n.c
          rw [q2] at hc
          have f3 := f2.freeze (o := o) n.h n.g
          exact k S2 (.d d) _ H2 _ α2 g f3 (hd2.freeze n.g q2 n.a) (oe.up f3.g f3.a) (On.frz hc q n.g) (WkS.later w f3)
theorem ST.bindS {tt : TT} {ft : FT} {F : Sto → Bool → RS} {Q' : Bool → Hp → Prop} (h : ST Z (WE W) tt ft) (hd : Hd Z G α S H) (oe : OnE Z G α env σ) (w : WkS Z (sB env (ft env S) F) G α H D W)
    (k : ∀ S2 b H2 G2 α2, Fr G α H G2 α2 H2 → Hd Z G2 α2 S2 H2 → OnE Z G2 α2 env σ → WkS Z (F S2 b) G2 α2 H2 D W → Q' b H2) : tt σ H Q' := by
  refine h env σ G α S H Q' hd oe ?_
  cases e : ft env S with
  | no => rw [e] at w; exact w.elim
  | ex S2 x =>
    rw [e] at w
    exact fun cls d H2 G2 α2 f2 hd2 ox => w σ cls d H2 G2 α2 f2 hd2 (oe.up f2.g f2.a) ox
  | ok S2 b =>
    rw [e] at w
    exact fun H2 G2 α2 f2 hd2 => k S2 b H2 G2 α2 f2 hd2 (oe.up f2.g f2.a) (WkS.later w f2)
theorem SA.bindS {ta : TA} {fa : FA} {F : Sto → List Vr → RS} {Q' : List V → Hp → Prop} (h : SA Z (WE W) ta fa) (hd : Hd Z G α S H) (oe : OnE Z G α env σ) (w : WkS Z (sB env (fa env S) F) G α H D W)
    (k : ∀ S2 l vs H2 G2 α2, Fr G α H G2 α2 H2 → Hd Z G2 α2 S2 H2 → OnE Z G2 α2 env σ → OnA Z G2 α2 l vs → WkS Z (F S2 l) G2 α2 H2 D W → Q' vs H2) : ta σ H Q' := by
  refine h env σ G α S H Q' hd oe ?_
  cases e : fa env S with
  | no => rw [e] at w; exact w.elim
  | ex S2 x =>
    rw [e] at w
    exact fun cls d H2 G2 α2 f2 hd2 ox => w σ cls d H2 G2 α2 f2 hd2 (oe.up f2.g f2.a) ox
  | ok S2 b =>
    rw [e] at w
    exact fun H2 G2 α2 f2 hd2 vs ov => k S2 b vs H2 G2 α2 f2 hd2 (oe.up f2.g f2.a) ov (WkS.later w f2)
theorem WkS.here {env' : Env} (w : WkS Z (.nx env' S) G α H D W) (hd : Hd Z G α S H) (oe : OnE Z G α env' σ) : D.nx σ H := w σ H G α (Fr.refl G α H) hd oe
end
def kNext : FS := fun env S => .nx env S
def kSeq (a b : FS) : FS := fun env S => match a env S with
  | .nx e2 S2 => b e2 S2
  | r => r
def kIf (ft : FT) (a b : FS) : FS := fun env S => sB env (ft env S) fun S1 t => if t then a env S1 else b env S1
def kRet (fe : FE) : FS := fun env S => match fe env S with
  | .ok S2 r => .rt S2 r
  | .ex S2 x => .ex env S2 x
  | .no => .no
def kRetN : FS := fun _ S => .rt S (.val (.d .non))
def kExpr (fe : FE) : FS := fun env S => sB env (fe env S) fun S1 _ => .nx env S1
/-- name = value -/
def kSet (i : Nat) (fe : FE) : FS := fun env S => sV env (fe env S) fun S1 v => .nx (env.set i (.v v)) S1
/-- name = value, a new thing becomes a cell -/
def kSetC (i : Nat) (fe : FE) : FS := fun env S => match fe env S with
  | .ok S1 (.val v) => .nx (env.set i (.v v)) S1
  | .ok S1 (.new c) => .nx (env.set i (.v (.r S1.length))) (S1 ++ [c])
  | .ex S1 x => .ex env S1 x
  | .no => .no
/-- target = value -/
def kAsg (f : FG) (fe : FE) : FS := fun env S => sV env (fe env S) fun S1 v => match v with
  | .d d => match f d env with
    | some env' => .nx env' S1
    | none => .no
  | .r _ => .no
/-- a, b = x, y -/
def kPar (i j : Nat) (fa : FA) : FS := fun env S => sB env (fa env S) fun S1 l => match l with
  | [v, w] => .nx ((env.set i (.v v)).set j (.v w)) S1
  | _ => .no
section
variable {Z : Zx} {W : WX} {X : Cx} {st : Stmt} {rest : List Stmt} {f g : FS} {e : Expr} {fe : FE} {pos : Pos}
theorem psf_nil : PSsF Z W X [] kNext := .of pss_nil fun env σ G α S H D hd oe w => w.here hd oe
theorem psf_cons (h1 : PSF Z W X st f) (h2 : PSsF Z W X rest g) : PSsF Z W X (st :: rest) (kSeq f g) := .of (pss_cons h1.ps h2.ps) fun env σ G α S H D hd oe w => by
  refine ⟨env, G, α, S, hd, oe, ?_⟩
  unfold kSeq at w
  cases q : f env S with
  | nx e2 S2 =>
    rw [q] at w
    exact fun σ2 H2 G2 α2 f2 hd2 oe2 => ⟨e2, G2, α2, S2, hd2, oe2, WkS.later w f2⟩
  | rt S2 r => rw [q] at w; exact w
  | bk e2 S2 => rw [q] at w; exact w
  | ct e2 S2 => rw [q] at w; exact w
  | ex e2 S2 x => rw [q] at w; exact w
  | no => rw [q] at w; exact w
theorem psf_one (h1 : PSF Z W X st f) : PSsF Z W X [st] f := ⟨pss_one h1.ps⟩
theorem psf_ret (h : PF Z (WE W) X e fe) : PSF Z W X (.Return (some e) pos) (kRet fe) := by
  obtain ⟨te, h1, h2⟩ := h.ex
  refine .of (ps_ret h1) fun env σ G α S H D hd oe w => h2 env σ G α S H _ hd oe ?_
  unfold kRet at w
  cases q : fe env S with
  | ok S2 r => rw [q] at w; exact w
  | ex S2 x =>
    rw [q] at w
    exact fun cls d H2 G2 α2 f2 hd2 ox => w σ cls d H2 G2 α2 f2 hd2 (oe.up f2.g f2.a) ox
  | no => rw [q] at w; exact w.elim
theorem psf_expr (h : PF Z (WE W) X e fe) (hs : swapsWith e none pos.line X.env = pure false := by rfl) : PSF Z W X (.Expr e pos) (kExpr fe) := by
  obtain ⟨te, h1, h2⟩ := h.ex
  refine .of (ps_expr h1 hs) fun env σ G α S H D hd oe w => h2 env σ G α S H _ hd oe ?_
  unfold kExpr at w
  cases q : fe env S with
  | ok S2 r =>
    rw [q] at w
    cases r with
    | val v => exact fun H2 G2 α2 f2 hd2 x ox => w σ H2 G2 α2 f2 hd2 (oe.up f2.g f2.a)
    | new c => exact fun H2 G2 α2 f2 hd2 p n => w σ H2 G2 α2 f2 hd2 (oe.up f2.g f2.a)
  | ex S2 x =>
    rw [q] at w
    exact fun cls d H2 G2 α2 f2 hd2 ox => w σ cls d H2 G2 α2 f2 hd2 (oe.up f2.g f2.a) ox
  | no => rw [q] at w; exact w.elim
theorem psf_if {c : Expr} {a b : List Stmt} {ft : FT} (hc : PTF Z (WE W) X c ft) (ha : PSsF Z W X a f) (hb : PSsF Z W X b g) : PSF Z W X (.If c a b pos) (kIf ft f g) := by
  refine .of (ps_if hc.pt ha.ps hb.ps) fun env σ G α S H D hd oe w => st_tF.bindS hd oe w fun S2 b H2 G2 α2 f2 hd2 oe2 w2 => ?_
  cases b with
  | true => rw [if_pos rfl]; exact ⟨env, G2, α2, S2, hd2, oe2, w2⟩
  | false => rw [if_neg Bool.false_ne_true]; exact ⟨env, G2, α2, S2, hd2, oe2, w2⟩
/-- what a plain name's store leaves -/
theorem ss_set {i : Nat} {te : TE} (h : SE Z (WE W) te fe) : SS Z W (tAsg te (gName i)) (kSet i fe) := fun env σ G α S H D hd oe w =>
  h.bindS hd oe w fun S2 d v H2 G2 α2 _ f2 hd2 oe2 ov w2 => w2.here hd2 (oe2.set i ov)
theorem ss_setC {i : Nat} {te : TE} (h : SE Z (WE W) te fe) : SS Z W (tAsg te (gName i)) (kSetC i fe) := fun env σ G α S H D hd oe w => by
  refine h env σ G α S H _ hd oe ?_
  unfold kSetC at w
  cases q : fe env S with
  | no => rw [q] at w; exact w.elim
  | ex S2 x =>
    rw [q] at w
    exact fun cls d H2 G2 α2 f2 hd2 ox => w σ cls d H2 G2 α2 f2 hd2 (oe.up f2.g f2.a) ox
  | ok S2 r =>
    rw [q] at w
    cases r with
    | val v => exact fun H2 G2 α2 f2 hd2 x ox => w _ H2 G2 α2 f2 hd2 ((oe.up f2.g f2.a).set i ox)
    | new c =>
      intro H2 G2 α2 f2 hd2 p n
      have hd3 := hd2.push n.g n.a n.c
      have f3 := f2.push n.h
      refine w _ H2 G2 _ f3 hd3 ((oe.up f3.g f3.a).set i ⟨p, rfl, ?_⟩)
      rw [← hd2.len, List.getElem?_append_right (Nat.le_refl _), Nat.sub_self]
      rfl
theorem psf_set (i : Nat) {x : Str} {p' : Pos} (hN : X.N.Nodup) (hi : X.N[i]? = some x) (hx : Loc X.env.scope x) (h : PF Z (WE W) X e fe) (hs : swapsWith e (some (.Name x p')) pos.line X.env = pure false := by rfl) (hf : X.fn x = true ∨ X.env.scope.names.lookup x = some .local := by first | exact .inl rfl | exact .inr rfl | assumption) :
    PSF Z W X (.Assign [.Name x p'] e pos) (kSet i fe) := .of (ps_set hN hi hx h.pe hs hf) (ss_set se_tF)
theorem psf_setC (i : Nat) {x : Str} {p' : Pos} (hN : X.N.Nodup) (hi : X.N[i]? = some x) (hx : Loc X.env.scope x) (h : PF Z (WE W) X e fe) (hs : swapsWith e (some (.Name x p')) pos.line X.env = pure false := by rfl) (hf : X.fn x = true ∨ X.env.scope.names.lookup x = some .local := by first | exact .inl rfl | exact .inr rfl | assumption) :
    PSF Z W X (.Assign [.Name x p'] e pos) (kSetC i fe) := .of (ps_set hN hi hx h.pe hs hf) (ss_setC se_tF)
end
end DN
namespace DN
open PySem PySem.Spec PyProof.Rows L2 Evl
def forGo (t : Its) (tg : FG) (body : FS) : List Dv → Env → Sto → RS
  | [], env, S => if lockOk t S then .nx env S else .no
  | d :: r, env, S => if lockOk t S then (match tg d env with
    | some env' => match body env' S with
      | .nx e2 S2 => forGo t tg body r e2 S2
      | .ct e2 S2 => forGo t tg body r e2 S2
      | .bk e2 S2 => .nx e2 S2
      | r => r
    | none => .no) else .no
def kFor (fi : FI) (tg : FG) (body : FS) : FS := fun env S => sB env (fi env S) fun S1 t => forGo t tg body t.1 env S1
section
variable {Z : Zx} {W : WX} {X : Cx} {G H G2 H2 : Hp} {α α2 : List Addr} {S : Sto} {D : Ends} {env : Env} {σ : L2.St} {pos : Pos}
theorem SI.bindS {wi : TI} {fi : FI} {F : Sto → Its → RS} {R' : It → Hp → Prop} (h : SI Z (WE W) wi fi) (hd : Hd Z G α S H) (oe : OnE Z G α env σ) (w : WkS Z (sB env (fi env S) F) G α H D W)
    (k : ∀ S2 t H2 G2 α2, Fr G α H G2 α2 H2 → Hd Z G2 α2 S2 H2 → OnE Z G2 α2 env σ → WkS Z (F S2 t) G2 α2 H2 D W → ∀ J, Gz Z J G2 α2 t → R' J H2) : wi σ H R' := by
  refine h env σ G α S H R' hd oe ?_
  cases e : fi env S with
  | no => rw [e] at w; exact w.elim
  | ex S2 x =>
    rw [e] at w
    exact fun cls d H2 G2 α2 f2 hd2 ox => w σ cls d H2 G2 α2 f2 hd2 (oe.up f2.g f2.a) ox
  | ok S2 b =>
    rw [e] at w
    exact fun H2 G2 α2 f2 hd2 J gz => k S2 b H2 G2 α2 f2 hd2 (oe.up f2.g f2.a) (WkS.later w f2) J gz
theorem psf_for {tg iter : Expr} {body : List Stmt} {fi : FI} {ftg : FG} {sl : List Nat} {fb : FS} (hp : PassesOwn (model X.prog X.w) X.A X.env X.xe) (hc : X.calm = true) (hi : PIF Z (WE W) X tg iter fi) (hg : PGF Z X tg ftg sl) (hb : PSsF Z W X body fb)
    (hs : ∀ x, foldedSetIterable iter X.env x = pure x := by intro _; rfl) : PSF Z W X (.For tg iter body [] pos) (kFor fi ftg fb) := by
  refine .of (ps_for hp hc hi.pi hg.pg hb.ps hs) fun env σ G α S H D hd oe w => si_tF.bindS hd oe w fun S1 t H1 G1 α1 f1 hd1 oe1 w1 J gz => ?_
  have lk0 : lockOk t S1 = true := by
    cases q : lockOk t S1 with
    | true => rfl
    | false =>
      cases q2 : t.1 with
      | nil => rw [q2] at w1; simp only [forGo, q] at w1; exact w1.elim
      | cons d r => rw [q2] at w1; simp only [forGo, q] at w1; exact w1.elim
  have hlt := lock_lt hd1 lk0
  refine ⟨fun i m σ' H' => m = t.1.length - i ∧ i ≤ t.1.length ∧ ∃ env' G' α' S', Fr G1 α1 H1 G' α' H' ∧ Hd Z G' α' S' H' ∧ OnE Z G' α' env' σ' ∧ WkS Z (forGo t ftg fb (t.1.drop i) env' S') G' α' H' D W,
    ⟨t.1.length, by simp, Nat.zero_le _, env, G1, α1, S1, Fr.refl _ _ _, hd1, oe1, w1⟩, ?_⟩
  rintro i m σ' H' ⟨rfl, hi, env', G', α', S', f2, hd2, oe2, w2⟩
  cases lk : lockOk t S' with
  | false =>
    cases q2 : t.1.drop i with
    | nil => rw [q2] at w2; simp only [forGo, lk] at w2; exact w2.elim
    | cons d r => rw [q2] at w2; simp only [forGo, lk] at w2; exact w2.elim
  | true =>
    have ok := lock_ok hd2 f2.g f2.a hlt lk
    by_cases hlt2 : i < t.1.length
    · refine .inr ⟨gz.go i G' H' hlt2 ok, _, fun σ3 H3 h3 => ⟨t.1.length - (i + 1), by omega, rfl, hlt2, h3⟩, fun x H3 y => ?_⟩
      obtain ⟨d, ed, hy⟩ := gz.yld i G' H' x H3 hlt2 ok y
      obtain ⟨G3, f3, hd3, od⟩ := hy α' S' hd2
      have e1 : t.1.drop i = d :: t.1.drop (i + 1) := by
        rw [List.drop_eq_getElem_cons hlt2]
        rw [List.getElem?_eq_getElem hlt2] at ed
        cases ed
        rfl
      rw [e1] at w2
      simp only [forGo, lk, if_true] at w2
      cases q : ftg d env' with
      | none => simp only [q] at w2; exact w2.elim
      | some env2 =>
        simp only [q] at w2
        refine ⟨env', G3, α', S', d, env2, hd3, oe2.up f3.g f3.a, od, q, fun σ4 oe4 _ => ⟨env2, G3, α', S', hd3, oe4, ?_⟩⟩
        have w3 := WkS.later w2 f3
        cases q3 : fb env2 S' with
        | nx e5 S5 =>
          simp only [q3] at w3
          exact fun σ5 H5 G5 α5 f5 hd5 oe5 => ⟨e5, G5, α5, S5, (f2.trans f3).trans f5, hd5, oe5, WkS.later w3 f5⟩
        | ct e5 S5 =>
          simp only [q3] at w3
          exact fun σ5 H5 G5 α5 f5 hd5 oe5 => ⟨e5, G5, α5, S5, (f2.trans f3).trans f5, hd5, oe5, WkS.later w3 f5⟩
        | bk e5 S5 => simp only [q3] at w3; exact w3
        | rt S5 r => simp only [q3] at w3; exact w3
        | ex e5 S5 x => simp only [q3] at w3; exact w3
        | no => simp only [q3] at w3; exact w3
    · have e : i = t.1.length := by omega
      subst e
      rw [List.drop_length] at w2
      simp only [forGo, lk, if_true] at w2
      exact .inl ⟨gz.stop G' H' ok, w2.here hd2 oe2⟩
end
/-- a cell is changed at an index or a key -/
def putC (c : Cell) (i v : Dv) : Option Cell := match c, i with
  | .lst l, .int k => match ixN l.length k with
    | some j => some (.lst (l.set j v))
    | none => none
  | _, _ => none
def setIx (env : Env) (S : Sto) (o i v : Vr) : RS := match o, i, v with
  | .r n, .d i, .d v => match S[n]? with
    | some c => match putC c i v with
      | some c2 => .nx env (S.set n c2)
      | none => .no
    | none => .no
  | _, _, _ => .no
def kSub (fo fi fv : FE) : FS := fun env S => sV env (fv env S) fun S1 v => sV env (fo env S1) fun S2 o => sV env (fi env S2) fun S3 i => setIx env S3 o i v
section
variable {Z : Zx} {W : WX} {X : Cx} {pos p' : Pos} {o i e : Expr} {fo fi fe : FE}
theorem psf_sub (ho : PF Z (WE W) X o fo) (hi : PF Z (WE W) X i fi) (he : PF Z (WE W) X e fe)
    (ha : ∀ v, assign (.Subscript o i p') X.env v = (do
      let ov ← holding [v] (eval o X.env)
      let iv ← holding [v, ov] (eval i X.env)
      standAt p'
      holding [v, ov, iv] (setItem ov iv v)
      release [v, ov, iv] []) := by intro _; rfl)
    (hs : swapsWithSole [.Subscript o i p'] e pos.line X.env = pure false := by rfl) (hw : swappedStores [.Subscript o i p'] e X.env = pure none := by rfl)
    (h1 : (assignEach [.Subscript o i p'] X.env).map (·.2) = [assign (.Subscript o i p') X.env] := by rfl) : PSF Z W X (.Assign [.Subscript o i p'] e pos) (kSub fo fi fe) := by
  refine .of (ps_asg he.pe (pg_sub ho.pe hi.pe set_list ha) hs hw h1) fun env σ G α S H D hd oe w => se_tF.bindS hd oe w fun S2 dv v H2 G2 α2 _ f2 hd2 oe2 ov w2 => ?_
  refine se_tF.bindS hd2 oe2 w2 fun S3 d3 o3 H3 G3 α3 _ f3 hd3 oe3 ov3 w3 => se_tF.bindS hd3 oe3 w3 fun S4 d4 i4 H4 G4 α4 _ f4 hd4 oe4 ov4 w4 => ?_
  cases d3 with
  | d _ => exact w4.elim
  | r n =>
    cases d4 with
    | r _ => exact w4.elim
    | d di =>
      cases dv with
      | r _ => exact w4.elim
      | d dv =>
        have w4 : WkS Z (match S4[n]? with | some c => (match putC c di dv with | some c2 => RS.nx env (S4.set n c2) | none => .no) | none => .no) G4 α4 H4 D W := w4
        cases q : S4[n]? with
        | none => rw [q] at w4; exact w4.elim
        | some c =>
          rw [q] at w4
          have w4 : WkS Z (match putC c di dv with | some c2 => RS.nx env (S4.set n c2) | none => .no) G4 α4 H4 D W := w4
          cases q2 : putC c di dv with
          | none => rw [q2] at w4; exact w4.elim
          | some c2 =>
            rw [q2] at w4
            have w4 : WkS Z (RS.nx env (S4.set n c2)) G4 α4 H4 D W := w4
            obtain ⟨a, rfl, ha3⟩ := ov3
            have ha4 := f4.a.get ha3
            have ovv : On Z G4 dv v := (On.up f3.g (show On Z G2 dv v from ov)).up f4.g
            cases c with
            | lst l =>
              cases di with
              | int k =>
                have e' : (match ixN l.length k with | some j => some (Cell.lst (l.set j dv)) | none => none) = some c2 := q2
                cases q3 : ixN l.length k with
                | none => rw [q3] at e'; cases e'
                | some j =>
                  rw [q3] at e'
                  cases e'
                  obtain ⟨xs, e1, e2⟩ := (hd4.at_ n a _ ha4 q).2
                  obtain ⟨hd5, f5⟩ := hd4.put (c2 := .lst (l.set j dv)) (o := .lst (xs.set j v)) ha4 q (fun c => nomatch c) ⟨_, rfl, e2.set ovv⟩
                  have ok4 : On Z G4 (.int k) i4 := ov4
                  unfold On at ok4
                  exact ⟨a, xs, k, j, rfl, ok4, e1, by rw [e2.len]; exact q3, w4 _ _ _ _ f5 hd5 (oe4.up f5.g f5.a)⟩
              | _ => cases q2
            | _ => cases di <;> cases q2
end
end DN
namespace DN
open PySem PySem.Spec PyProof.Rows L2 Evl
abbrev FD := List Vr → Sto → R Rt
def cutX (k : Nat) (S : Sto) (x : Xn) : R Rt := match x with
  | .own c (.r n) => if n < k then .ex (S.take k) (.own c (.r n)) else .no
  | x => .ex (S.take k) x
/-- a def is left: its own cells are forgotten, one that is handed back is new -/
def exitR (k : Nat) (r : R Rt) : R Rt := match r with
  | .ok S (.val (.r n)) => if n < k then .ok (S.take k) (.val (.r n)) else (match S[n]? with
    | some (.lst l) => .ok (S.take k) (.new (.lst l))
    | some (.ob c l) => .ok (S.take k) (.new (.ob c l))
    | some (.dc t ks vs) => .ok (S.take k) (.new (.dc t ks vs))
    | _ => .no)
  | .ok S b => .ok (S.take k) b
  | .ex S x => cutX k S x
  | .no => .no
def startE (n : Nat) (args : List Vr) : Env := args.map .v ++ List.replicate (n - args.length) .u
def outS (r : RS) : R Rt := match r with
  | .nx _ S => .ok S (.val (.d .non))
  | .rt S r => .ok S r
  | .ex _ S x => .ex S x
  | _ => .no
def defD (n : Nat) (body : FS) : FD := fun args S => exitR S.length (outS (body (startE n args) S))
def spD (Z : Zx) (m : Nat) (D : FD) : Sp := fun vs H Q E => ∃ G α S args, Hd Z G α S H ∧ OnA Z G α args vs ∧ args.length = m ∧ Wk Z (D args S) G α H (pRt Z Q) E
section
variable {Z : Zx} {G H G2 H2 : Hp} {α α2 : List Addr} {S : Sto} {Q : VK} {E : XK}
theorem take_pre {S2 : Sto} (f : Fr G α H G2 α2 H2) (hd2 : Hd Z G2 α2 S2 H2) : Hd Z G2 α (S2.take α.length) H2 := by
  have := hd2.cut α.length
  rw [f.a.cut] at this
  exact this
theorem pre_get {n : Nat} {a : Addr} (p : Px α α2) (hn : n < α.length) (h : α2[n]? = some a) : α[n]? = some a := by
  obtain ⟨γ, rfl⟩ := p
  rw [List.getElem?_append_left hn] at h
  exact h
theorem cutX_ok {S2 : Sto} {x : Xn} (w : Wk Z (cutX α.length S2 x) G α H (pRt Z Q) E) : Xp Z S2 x G α H E := by
  intro cls d H2 G2 α2 f2 hd2 ox
  have hd3 := take_pre f2 hd2
  cases x with
  | blt n => exact w cls d H2 G2 α f2.cut hd3 ox
  | own c v =>
    cases v with
    | d v => exact w cls d H2 G2 α f2.cut hd3 ox
    | r n =>
      have w : Wk Z (if n < α.length then R.ex (S2.take α.length) (.own c (.r n)) else .no) G α H (pRt Z Q) E := w
      by_cases hn : n < α.length
      · rw [if_pos hn] at w
        obtain ⟨h1, dd, v, h2, h3, a, h4, h5⟩ := ox
        exact w cls d H2 G2 α f2.cut hd3 ⟨h1, dd, v, h2, h3, a, h4, pre_get f2.a hn h5⟩
      · rw [if_neg hn] at w
        exact w.elim
/-- a cell that the def made -/
theorem own_cell {S2 : Sto} {n : Nat} {a : Addr} {c : Cell} (hd : Hd Z G α S H) (f2 : Fr G α H G2 α2 H2) (hd2 : Hd Z G2 α2 S2 H2) (hn : ¬ n < α.length) (ha : α2[n]? = some a) (hs : S2[n]? = some c) (hc : c ≠ .dead) (ht : ∀ r, c ≠ .tab r) : Nw Z H G2 α H2 c a := by
  obtain ⟨h1, h2⟩ := hd2.at_ n a c ha hs
  have na : a ∉ α := fun hm => by
    obtain ⟨m, hm1, hm2⟩ := List.mem_iff_getElem.mp hm
    have h3 : α2[m]? = some a := f2.a.get (by rw [List.getElem?_eq_getElem hm1, hm2])
    have e : m = n := (List.getElem?_inj (List.getElem?_eq_some_iff.mp h3).1 hd2.nd).mp (h3.trans ha.symm)
    omega
  have hs2 : stf c = c := by cases c <;> first | rfl | exact absurd rfl (ht _)
  refine ⟨?_, h1 (by rw [hs2]; exact hc), na, h2.at ht⟩
  rcases f2.m a (List.mem_of_getElem? ha) with h | h
  · exact absurd h na
  · exact h
theorem exitR_ok {r : R Rt} (hd : Hd Z G α S H) (w : Wk Z (exitR S.length r) G α H (pRt Z Q) E) : Wk Z r G α H (pRt Z Q) E := by
  rw [← hd.len] at w
  cases r with
  | no => exact w.elim
  | ex S2 x => exact cutX_ok w
  | ok S2 b =>
    cases b with
    | new c =>
      intro H2 G2 α2 f2 hd2 p n
      exact w H2 G2 α f2.cut (take_pre f2 hd2) p ⟨n.h, n.g, fun hm => n.a (f2.a.mem hm), n.c⟩
    | val v =>
      cases v with
      | d d => exact fun H2 G2 α2 f2 hd2 x ox => w H2 G2 α f2.cut (take_pre f2 hd2) x ox
      | r n =>
        intro H2 G2 α2 f2 hd2 x ox
        obtain ⟨a, rfl, ha⟩ := ox
        have hd3 := take_pre f2 hd2
        by_cases hn : n < α.length
        · simp only [exitR, if_pos hn] at w
          exact w H2 G2 α f2.cut hd3 _ ⟨a, rfl, pre_get f2.a hn ha⟩
        · simp only [exitR, if_neg hn] at w
          cases q : S2[n]? with
          | none => simp only [q] at w; exact w.elim
          | some c =>
            simp only [q] at w
            have nw : c ≠ .dead → (∀ r, c ≠ .tab r) → Nw Z H G2 α H2 c a := fun hc ht => own_cell hd f2 hd2 hn ha q hc ht
            cases c with
            | lst l => exact w H2 G2 α f2.cut hd3 a (nw (fun e => nomatch e) (fun _ e => nomatch e))
            | ob c l => exact w H2 G2 α f2.cut hd3 a (nw (fun e => nomatch e) (fun _ e => nomatch e))
            | dc t ks vs => exact w H2 G2 α f2.cut hd3 a (nw (fun e => nomatch e) (fun _ e => nomatch e))
            | dead => exact w.elim
            | tab rows => exact w.elim
theorem OnA.get : ∀ {l : List Vr} {xs : List V} {i : Nat} {d : Vr}, OnA Z G α l xs → l[i]? = some d → ∃ x, xs[i]? = some x ∧ OnR Z G α d x
  | [], _, _, _, _, e => by simp at e
  | c :: l, xs, 0, d, h, e => by
    obtain ⟨y, ys, rfl, h2, h3⟩ := h
    simp at e
    subst e
    exact ⟨y, rfl, h2⟩
  | c :: l, xs, i + 1, d, h, e => by
    obtain ⟨y, ys, rfl, h2, h3⟩ := h
    obtain ⟨x, h4, h5⟩ := OnA.get (i := i) h3 (by simpa using e)
    exact ⟨x, by simpa using h4, h5⟩
theorem start_on {N : List Str} {args : List Vr} {vs : List V} (h : OnA Z G α args vs) : OnE Z G α (startE N.length args) (L2.start N vs) := by
  have hl := h.len
  refine ⟨?_, fun i d e => ?_, fun i c r e => ?_⟩
  · unfold startE L2.start
    rw [List.length_append, List.length_append, List.length_map, List.length_map, List.length_replicate, List.length_replicate, hl]
  · unfold startE at e
    by_cases hi : i < args.length
    · rw [List.getElem?_append_left (by rw [List.length_map]; exact hi), List.getElem?_map] at e
      cases q : args[i]? with
      | none => rw [q] at e; cases e
      | some a =>
        rw [q] at e
        cases e
        obtain ⟨x, h1, h2⟩ := h.get q
        refine ⟨x, ?_, h2⟩
        unfold L2.start
        rw [List.getElem?_append_left (by rw [List.length_map, hl]; exact hi), List.getElem?_map, h1]
        rfl
    · rw [List.getElem?_append_right (by rw [List.length_map]; omega), List.getElem?_replicate] at e
      split at e <;> cases e
  · unfold startE at e
    by_cases hi : i < args.length
    · rw [List.getElem?_append_left (by rw [List.length_map]; exact hi), List.getElem?_map] at e
      cases q : args[i]? with
      | none => rw [q] at e; cases e
      | some a => rw [q] at e; cases e
    · rw [List.getElem?_append_right (by rw [List.length_map]; omega), List.getElem?_replicate] at e
      split at e <;> cases e
end
/-- a def with defaults or without -/
structure FunD (K : PySem.W.Frag) (x qual : Str) (st : Stmt) (f : Addr) (fd : FuncData) : Prop where
  ex : ∃ (oc : Value) (od : Option Addr) (dV kV doc pm : Value) (an : Option Addr) (cdv ct : Value) (osl : Array (Option Value)),
    fd = PySem.W.fnOf x qual (defArgs st) (defBody st) (defScope st) dV kV doc pm an cdv ct ∧ K.lookup f = some ⟨oc, od, .func fd, osl⟩ ∧ PySem.W.codeIn K cdv qual = true
  kp : PySem.W.keepIn K (.ref f) = true
theorem Fun.d {K : PySem.W.Frag} {x qual : Str} {st : Stmt} {f : Addr} {fd : FuncData} (F : Fun K x qual st f fd) : FunD K x qual st f fd := by
  obtain ⟨⟨oc, od, kV, doc, pm, an, cdv, ct, osl, h1, h2, h3⟩, h4⟩ := F
  exact ⟨⟨oc, od, .none, kV, doc, pm, an, cdv, ct, osl, h1, h2, h3⟩, h4⟩
/-- the wish of a def about exceptions -/
abbrev WD (E : XK) : WX := fun cls d _ H => E cls d H
/-- THE RULE: a def computes its denotation -/
theorem fn_d {Z : Zx} {P : Program} {w : World} {K : PySem.W.Frag} {mg : Str → Option Value} {base : Heap} {b : Bool} {x qual : Str} {st : Stmt} {f : Addr} {fd : FuncData} {N ps : List Str} {k : Nat} {fb : FS} (F : FunD K x qual st f fd) (sc : FnScope N ps (defScope st))
    (hb : ∀ (cdv : Value) (A : Around) (outer : List PySem.Env) (s : Shared) (H : Hp) (E : XK), RoomG b k (A.deeper (envOfC qual (defScope st) s.heap.objs.size f cdv)) →
      PSsF Z (WD E) (cxOf (L2N.CX P w) P w K mg base N qual (defScope st) f cdv A outer s H E) (defBody st) fb) : FnG b P w K mg base (L2N.CX P w) (k + 1) f fd ps (spD Z ps.length (defD N.length fb)) := by
  obtain ⟨oc, od, dV, kV, doc, pm, an, cdv, ct, osl, rfl, lk, hcd⟩ := F.ex
  refine fn_ofG lk hcd sc (fun vs H Q E h => ?_) fun A outer s H vs Q E hr h => ?_
  · obtain ⟨G, α, S, args, _, h1, h2, _⟩ := h
    rw [h1.len, h2]
  · obtain ⟨G, α, S, args, hd, oa, hl, w'⟩ := h
    refine ⟨_, (hb cdv A outer s H E hr).ps, startE N.length args, G, α, S, hd, start_on oa, ?_⟩
    have w2 := exitR_ok hd w'
    cases q : fb (startE N.length args) S with
    | nx e2 S2 =>
      rw [q] at w2
      exact fun σ2 H2 G2 α2 f2 hd2 oe2 => w2 H2 G2 α2 f2 hd2 _ (or_non Z G2 α2)
    | rt S2 r =>
      rw [q] at w2
      show Wk Z (.ok S2 r) G α H (pRt Z Q) E0
      cases r <;> exact w2
    | ex e2 S2 x =>
      rw [q] at w2
      exact fun σ2 cls d H2 G2 α2 f2 hd2 oe2 ox => w2 cls d H2 G2 α2 f2 hd2 ox
    | bk e2 S2 => rw [q] at w2; exact w2.elim
    | ct e2 S2 => rw [q] at w2; exact w2.elim
    | no => rw [q] at w2; exact w2.elim
def fCallD (m : Nat) (D : FD) (fa : FA) : FE := fun env S => (fa env S).bind fun S1 l => if l.length = m then D l S1 else .no
/-- an argument that the callee changes: a new thing becomes a cell -/
def fConsC (fa : FE) (fr : FA) : FA := fun env S => match fa env S with
  | .ok S1 (.val v) => (fr env S1).bind fun S2 l => .ok S2 (v :: l)
  | .ok S1 (.new c) => (fr env (S1 ++ [c])).bind fun S2 l => .ok S2 (.r S1.length :: l)
  | .ex S1 x => .ex S1 x
  | .no => .no
section
variable {Z : Zx} {X : Cx} {W : WX} {k m : Nat} {f : Addr} {fd : FuncData} {ps : List Str} {D : FD} {x : Str} {p pos : Pos} {e : Expr} {es : List Expr} {fa : FA} {fe : FE}
theorem pafc_cons {fr : FA} (ha : PF Z (WE W) X e fe) (hr : PAF Z (WE W) X es fr) (he : starEach (e :: es) X.env = (false, eval e X.env) :: starEach es X.env := by rfl) : PAF Z (WE W) X (e :: es) (fConsC fe fr) := by
  obtain ⟨tb, h3, h4⟩ := hr.ex
  refine ⟨_, pa_cons ha.pe h3 he, fun env σ G α S H Q hd oe w => ?_⟩
  refine ⟨env, G, α, S, hd, oe, ?_⟩
  unfold fConsC at w
  cases q : fe env S with
  | no => rw [q] at w; exact w.elim
  | ex S1 x => rw [q] at w; exact w
  | ok S1 b =>
    rw [q] at w
    cases b with
    | val v =>
      intro H2 G2 α2 f2 hd2 y oy
      refine h4.bind hd2 (oe.up f2.g f2.a) (Wk.later w f2) fun S3 l vs H3 G3 α3 f3 hd3 oe3 ol w3 => w3.here hd3 _ ⟨_, _, rfl, oy.up f3.g f3.a, ol⟩
    | new c =>
      intro H2 G2 α2 f2 hd2 q n
      have hd3 := hd2.push n.g n.a n.c
      have f3 := f2.push n.h
      have hq : OnR Z G2 (α2 ++ [q]) (.r S1.length) (.ref q) := ⟨q, rfl, by rw [← hd2.len, List.getElem?_append_right (Nat.le_refl _), Nat.sub_self]; rfl⟩
      exact h4.bind hd3 (oe.up f3.g f3.a) (Wk.later w f3) fun S4 l vs H4 G4 α4 f4 hd4 oe4 ol w4 => w4.here hd4 _ ⟨_, _, rfl, hq.up f4.g f4.a, ol⟩
theorem sp_of {vs : List V} {l : List Vr} {G H : Hp} {α : List Addr} {S : Sto} {Q : VK} {E : XK} (hd : Hd Z G α S H) (ol : OnA Z G α l vs) (w : Wk Z (if l.length = m then D l S else .no) G α H (pRt Z Q) E) : spD Z m D vs H Q E := by
  by_cases h : l.length = m
  · rw [if_pos h] at w
    exact ⟨G, α, S, l, hd, ol, h, w⟩
  · rw [if_neg h] at w
    exact w.elim
theorem pf_call {b : Bool} (F : FnG b X.prog X.w X.K X.mg X.base (L2N.CX X.prog X.w) k f fd ps (spD Z m D)) (hr : RoomG b k X.A) (tk : Takes X W) (hg : Gl X x) (hm : X.mg x = some (.ref f)) (hk : PySem.W.keepIn X.K (.ref f) = true) (hb : Binds X.K fd ps [])
    (ha : PAF Z (WE W) X (e :: es) fa) (hdb : (x == ("__debug__" : Str)) = false := by decide) (he : starEach (e :: es) X.env = (false, eval e X.env) :: starEach es X.env := by rfl) (hpl : (backTo pos (starEach es X.env)).any (·.1) = false := by rfl) :
    PF Z (WE W) X (.Call (.Name x p) (e :: es) [] pos) (fCallD m D fa) := by
  obtain ⟨ta, h1, h2⟩ := ha.ex
  refine ⟨_, pe_callG (E := WE W) F hr hg hm hk hb .nil (passAt tk) h1 hdb he hpl, fun env σ G α S H Q hd oe w => h2.bind hd oe w fun S2 l vs H2 G2 α2 f2 hd2 oe2 ol w2 => ?_⟩
  rw [List.append_nil]
  exact sp_of hd2 ol w2
end
end DN
namespace DN
open PySem PySem.Spec PyProof.Rows L2 Evl
def AllC (P : String → Prop) : List String → Prop
  | [] => True
  | c :: r => P c ∧ AllC P r
theorem AllC.mem {P : String → Prop} : ∀ {cs : List String} {c : String}, AllC P cs → cs.contains c = true → P c
  | [], c, _, h => by simp at h
  | a :: r, c, h, e => by
    rw [List.contains_cons, Bool.or_eq_true] at e
    rcases e with e | e
    · rw [beq_iff_eq.mp e]; exact h.1
    · exact AllC.mem h.2 e
section
variable {Z : Zx} {X : Cx} {G H G2 H2 : Hp} {α α2 : List Addr} {S : Sto} {Q : VK} {E : XK}
variable {Ew : L2.St → XK} {W : WX} {o e : Expr} {es : List Expr} {fo fe : FE} {fa : FA} {pos apos : Pos} {f : Str}
def idxS (f : Str) : List Str → Option Nat
  | [] => none
  | g :: r => if f == g then some 0 else (idxS f r).map (· + 1)
def putFd (c : String) (f : Str) (l : List Dv) (v : Dv) : Option (List Dv) := match idxS f (flds c) with
  | some i => if i < l.length then some (l.set i v) else if i = l.length then some (l ++ [v]) else none
  | none => none
def setFd (cs : List String) (f : Str) (env : Env) (S : Sto) (o v : Vr) : RS := match o, v with
  | .r n, .d v => match S[n]? with
    | some (.ob c l) => if cs.contains c then (match putFd c f l v with
      | some l2 => .nx env (S.set n (.ob c l2))
      | none => .no) else .no
    | _ => .no
  | _, _ => .no
def kFld (cs : List String) (f : Str) (fo fv : FE) : FS := fun env S => sV env (fv env S) fun S1 v => sV env (fo env S1) fun S2 o => setFd cs f env S2 o v
end
end DN
namespace DN
open PySem PySem.Spec PyProof.Rows L2 Evl
/-- for each class: how many arguments, what the def computes -/
abbrev MT := List (String × Nat × FD)
def MT.at (t : MT) (c : String) : Option (Nat × FD) := match t with
  | [] => none
  | (b, p) :: r => if b == c then some p else MT.at r c
def AllM (P : String → Nat → FD → Prop) : MT → Prop
  | [] => True
  | (c, n, D) :: r => P c n D ∧ AllM P r
theorem AllM.mem {P : String → Nat → FD → Prop} : ∀ {t : MT} {c : String} {n : Nat} {D : FD}, AllM P t → t.at c = some (n, D) → P c n D
  | [], c, n, D, _, h => by cases h
  | (b, p, q) :: r, c, n, D, h, e => by
    have e' : (if b == c then some (p, q) else MT.at r c) = some (n, D) := e
    cases g : b == c with
    | true =>
      rw [g] at e'
      cases e'
      rw [← beq_iff_eq.mp g]
      exact h.1
    | false =>
      rw [g] at e'
      exact AllM.mem h.2 e'
def clsV (S : Sto) : Vr → Option String
  | .d (.obj c _) => some c
  | .r n => match S[n]? with
    | some (.ob c _) => some c
    | _ => none
  | _ => none
section
variable {Z : Zx} {X : Cx} {G H G2 H2 : Hp} {α α2 : List Addr} {S : Sto} {Q : VK} {E : XK}
variable {W : WX} {o e : Expr} {es : List Expr} {m x : Str} {p pos apos : Pos} {ta : TE} {t : TA} {fo : FE} {fa : FA}
def fMethD (t : MT) (fo : FE) (fa : FA) : FE := fun env S => (fo env S).bindV fun S1 o => match clsV S1 o with
  | some c => (match t.at c with
    | some (n, D) => (fa env S1).bind fun S2 l => if (o :: l).length = n then D (o :: l) S2 else .no
    | none => .no)
  | none => .no
def okR : R Rt → R Rt
  | .ex _ _ => .no
  | r => r
theorem okR_ok {r : R Rt} {E' : XK} (w : Wk Z (okR r) G α H (pRt Z Q) E) : Wk Z r G α H (pRt Z Q) E' := by
  cases r with
  | no => exact w.elim
  | ex S x => exact w.elim
  | ok S b => exact w
def fAsk1 (t : MT) (S : Sto) (o : Vr) : R Rt := match clsV S o with
  | some c => (match t.at c with
    | some (n, D) => if [o].length = n then okR (D [o] S) else .no
    | none => .no)
  | none => .no
def fPropD (t : MT) (fo : FE) : FE := fun env S => (fo env S).bindV fun S1 o => fAsk1 t S1 o
def makeR (k : Nat) (r : R Rt) : R Rt := match r with
  | .ok S (.val (.d .non)) => (match S[k]? with
    | some (.ob c l) => .ok (S.take k) (.new (.ob c l))
    | _ => .no)
  | .ok _ _ => .no
  | .ex S x => cutX k S x
  | .no => .no
def fMakeD (c : String) (dl : List Dv) (n : Nat) (D : FD) (fa : FA) : FE := fun env S => (fa env S).bind fun S1 l =>
  if (Vr.r S1.length :: (l ++ dl.map .d)).length = n then makeR S1.length (D (.r S1.length :: (l ++ dl.map .d)) (S1 ++ [.ob c []])) else .no
theorem OnA.app : ∀ {l m : List Vr} {xs ys : List V}, OnA Z G α l xs → OnA Z G α m ys → OnA Z G α (l ++ m) (xs ++ ys)
  | [], _, _, _, h, g => by rw [show _ = [] from h]; exact g
  | d :: l, m, xs, ys, h, g => by
    obtain ⟨y, zs, rfl, h2, h3⟩ := h
    exact ⟨y, zs ++ ys, rfl, h2, OnA.app h3 g⟩
/-- cls(..), the class held by a name -/
def fMakeL (i : Nat) (c : String) (n : Nat) (D : FD) (fa : FA) : FE := fun env S => match env[i]? with
  | some (.v (.d (.cls b))) => if b == c then fMakeD c [] n D fa env S else .no
  | _ => .no
def fCMeth (c : String) (n : Nat) (D : FD) (fo : FE) (fa : FA) : FE := fun env S => (fo env S).bindV fun S1 o => match o with
  | .d (.cls b) => if b == c then (fa env S1).bind fun S2 l => if (Vr.d (.cls c) :: l).length = n then D (.d (.cls c) :: l) S2 else .no else .no
  | _ => .no
end
end DN
namespace DN
open PySem PySem.Spec PyProof.Rows L2 Evl
inductive Tk where
  | b (n : String) | o (c : String)
def TYS : List String := ["bool", "int", "str", "list", "tuple", "dict"]
def tkD : Dv → Option Tk
  | .non => some (.b "NoneType")
  | .bl _ => some (.b "bool")
  | .int _ => some (.b "int")
  | .str _ => some (.b "str")
  | .lst _ => some (.b "list")
  | .tup _ => some (.b "tuple")
  | .ktp _ => some (.b "tuple")
  | .dic _ _ _ => some (.b "dict")
  | .obj c _ => some (.o c)
  | _ => none
def tkV (Z : Zx) : Tk → Value
  | .b n => .type n
  | .o c => .ref (Z.cm c)
structure ClOk (Z : Zx) (c : String) : Prop where
  cl : Cls Z.K (Z.cm c)
  it : OP.InsT Z.K (Z.cm c)
  kc : PySem.W.kitOne Z.K (.type "int") (.ref (Z.cm c)) = some false
  kb : AllC (fun t => PySem.W.kitOne Z.K (.ref (Z.cm c)) (.type t) = some false) TYS
structure CsOk (Z : Zx) (cs : List String) : Prop where
  all : AllC (ClOk Z) cs
  two : AllC (fun c => AllC (fun d => c = d ∨ PySem.W.kitOne Z.K (.ref (Z.cm c)) (.ref (Z.cm d)) = some false) cs) cs
def BTS : List String := ["NoneType", "bool", "int", "str", "list", "tuple", "dict"]
/-- is a thing of type k one of the class d? -/
def isa1 (cs : List String) (k : Tk) (d : Dv) : Option Bool := match k, d with
  | .b n, .ty m => if BTS.contains n && TYS.contains m then some (n == m || (n == "bool" && m == "int")) else none
  | .b n, .cls c => if BTS.contains n && cs.contains c then some false else none
  | .o c, .ty m => if cs.contains c && TYS.contains m then some false else none
  | .o c, .cls e => if cs.contains c && cs.contains e then some (c == e) else none
  | _, _ => none
def okT (cs : List String) : Tk → Bool
  | .b n => BTS.contains n
  | .o c => cs.contains c
section
variable {Z : Zx} {X : Cx} {G H G2 H2 : Hp} {α α2 : List Addr} {S : Sto} {Q : VK} {E : XK} {cs : List String}
theorem beq_tr (n : String) (C : Addr) : (Value.type n == Value.ref C) = false := rfl
theorem kit_c {C : Addr} (h : PySem.W.kitOne Z.K (.type "int") (.ref C) = some false) : ((PySem.W.clsIn Z.K C).isSome && PySem.W.typeIn Z.K (.ref C) == some (.type "type")) = true := by
  unfold PySem.W.kitOne at h
  rw [beq_tr] at h
  simp only [Bool.false_eq_true, if_false] at h
  unfold PySem.W.kitCls at h
  simp only at h
  split at h
  · assumption
  · cases h
theorem kit_bo {C : Addr} {n : String} (h : PySem.W.kitOne Z.K (.type "int") (.ref C) = some false) (hn : BTS.contains n = true) : PySem.W.kitOne Z.K (.type n) (.ref C) = some false := by
  have h2 := kit_c h
  unfold PySem.W.kitOne
  rw [beq_tr]
  simp only [Bool.false_eq_true, if_false]
  unfold PySem.W.kitCls
  simp only [h2, if_true]
  simp only [BTS, List.contains_cons, List.contains_nil, Bool.or_false, Bool.or_eq_true, beq_iff_eq] at hn
  rcases hn with rfl | rfl | rfl | rfl | rfl | rfl | rfl <;> rfl
theorem kit_bb {n m : String} (hn : BTS.contains n = true) (hm : TYS.contains m = true) : PySem.W.kitOne Z.K (.type n) (.type m) = some (n == m || (n == "bool" && m == "int")) := by
  simp only [BTS, List.contains_cons, List.contains_nil, Bool.or_false, Bool.or_eq_true, beq_iff_eq] at hn
  simp only [TYS, List.contains_cons, List.contains_nil, Bool.or_false, Bool.or_eq_true, beq_iff_eq] at hm
  rcases hn with rfl | rfl | rfl | rfl | rfl | rfl | rfl <;> rcases hm with rfl | rfl | rfl | rfl | rfl | rfl <;> rfl
theorem isa1_ok (C : CsOk Z cs) {k : Tk} {d : Dv} {b : Bool} (h : isa1 cs k d = some b) : ∃ x u, (∀ G, On Z G d x) ∧ ClsV x u ∧ PySem.W.kitOne Z.K (tkV Z k) u = some b := by
  cases k with
  | b n =>
    cases d with
    | ty m =>
      have h : (if BTS.contains n && TYS.contains m then some (n == m || (n == "bool" && m == "int")) else none) = some b := h
      split at h
      · rename_i q
        obtain ⟨q1, q2⟩ := and2 q
        cases h
        exact ⟨.ty m, .type m, fun G => on_ty, .ty m, kit_bb q1 q2⟩
      · cases h
    | cls c =>
      have h : (if BTS.contains n && cs.contains c then some false else none) = some b := h
      split at h
      · rename_i q
        obtain ⟨q1, q2⟩ := and2 q
        cases h
        exact ⟨.ref (Z.cm c), .ref (Z.cm c), fun G => on_cls, .own _, kit_bo (C.all.mem q2).kc q1⟩
      · cases h
    | _ => cases h
  | o c =>
    cases d with
    | ty m =>
      have h : (if cs.contains c && TYS.contains m then some false else none) = some b := h
      split at h
      · rename_i q
        obtain ⟨q1, q2⟩ := and2 q
        cases h
        exact ⟨.ty m, .type m, fun G => on_ty, .ty m, (C.all.mem q1).kb.mem q2⟩
      · cases h
    | cls e =>
      have h : (if cs.contains c && cs.contains e then some (c == e) else none) = some b := h
      split at h
      · rename_i q
        obtain ⟨q1, q2⟩ := and2 q
        cases h
        refine ⟨.ref (Z.cm e), .ref (Z.cm e), fun G => on_cls, .own _, ?_⟩
        cases q3 : c == e with
        | true =>
          rw [beq_iff_eq.mp q3]
          show PySem.W.kitOne Z.K (.ref (Z.cm e)) (.ref (Z.cm e)) = some true
          unfold PySem.W.kitOne
          rw [if_pos (by simp)]
        | false =>
          rcases (C.two.mem q1).mem q2 with rfl | h
          · simp at q3
          · exact h
      · cases h
    | _ => cases h
theorem tk_on (C : CsOk Z cs) {d : Dv} {y : V} {k : Tk} (eG : Ex G H) (h : OnH Z G H d y) (e : tkD d = some k) (hk : okT cs k = true) : TyX Z.K H y (tkV Z k) := by
  cases d with
  | non => cases e; cases h; exact .base .non
  | bl b => cases e; cases h; exact .base (.bl b)
  | int b => cases e; cases h; exact .base (.int b)
  | str b => cases e; cases h; exact .base (.str b)
  | lst l => cases e; obtain ⟨a, xs, rfl, h2, _⟩ := h; exact .base (.lst h2)
  | tup l => cases e; obtain ⟨a, xs, rfl, h2, _⟩ := h; exact .base (.tup (eG _ _ h2))
  | ktp l =>
    cases e
    obtain ⟨a, xs, rfl, h1, _⟩ := h
    rcases h1 with ⟨_, o, h1, h2, _⟩ | ⟨o, _, _, h1⟩
    · exact .kTuple h1 h2
    · exact .fTuple (eG _ _ h1)
  | obj c l =>
    cases e
    obtain ⟨a, dx, xs, rfl, h2, _⟩ := h
    have cc := C.all.mem hk
    exact .base (.ins h2 cc.cl cc.it.ha cc.it.hn cc.it.htk cc.it.hm)
  | dic t ks vs =>
    cases e
    obtain ⟨a, ws, rfl, h2, _⟩ := h
    cases t with
    | false => obtain ⟨kk, _, h3⟩ := h2; exact .base (.dK h3)
    | true => obtain ⟨kk, _, h3⟩ := h2; exact .base (.dT h3)
  | _ => cases e
/-- all classes of the tuple are asked -/
def isaA (cs : List String) (k : Tk) : List Dv → Option Bool
  | [] => some false
  | d :: l => match isa1 cs k d, isaA cs k l with
    | some a, some b => some (a || b)
    | _, _ => none
theorem isaA_ok (C : CsOk Z cs) {k : Tk} : ∀ {l : List Dv} {b : Bool} {xs : List V}, isaA cs k l = some b → OnL Z G l xs → ∃ us, Paired ClsV xs us ∧ PySem.W.kitAny Z.K (tkV Z k) us = some b
  | [], b, xs, h, o => by
    cases h
    rw [OnL.nil.mp o]
    exact ⟨[], .nil, rfl⟩
  | d :: l, b, xs, h, o => by
    obtain ⟨y, ys, rfl, h2, h3⟩ := OnL.cons.mp o
    have h : (match isa1 cs k d, isaA cs k l with | some a, some b => some (a || b) | _, _ => none) = some b := h
    cases q : isa1 cs k d with
    | none => rw [q] at h; cases h
    | some c =>
      cases q2 : isaA cs k l with
      | none => rw [q, q2] at h; cases h
      | some c2 =>
        rw [q, q2] at h
        cases h
        obtain ⟨x, u, e1, e2, e3⟩ := isa1_ok C q
        have ey : y = x := by
          cases d with
          | ty m => have a := e1 G; unfold On at a h2; rw [a, h2]
          | cls m => have a := e1 G; unfold On at a h2; rw [a, h2]
          | _ => cases k <;> cases q
        subst ey
        obtain ⟨us, f1, f2⟩ := isaA_ok C (l := l) q2 h3
        exact ⟨u :: us, .cons e2 f1, kitAny_cons e3 (fun h => by rw [h]; exact f2) (fun h => by rw [h]; rfl)⟩
end
def gIsi (cs : List String) (x c : Dv) : Option Rt := match tkD x with
  | some k => if okT cs k then (match c with
    | .tup l => (match isaA cs k l with
      | some b => vB b
      | none => none)
    | c => (match isa1 cs k c with
      | some b => vB b
      | none => none)) else none
  | none => none
def arg2 (f : Dv → Dv → Option Rt) : List Dv → Option Rt
  | [x, y] => f x y
  | _ => none
section
variable {Z : Zx} {X : Cx} {G H G2 H2 : Hp} {α α2 : List Addr} {S : Sto} {Q : VK} {E : XK} {cs : List String}
theorem arg2_ok {P : Pst Rt} {f : Dv → Dv → Option Rt} {l : List Dv} {xs : List V} (h : OnHA Z G H l xs) (w : Wk Z (R.of S (arg2 f l)) G α H P E) : ∃ x x2 y y2, xs = [y, y2] ∧ OnH Z G H x y ∧ OnH Z G H x2 y2 ∧ Wk Z (R.of S (f x x2)) G α H P E := by
  cases l with
  | nil => exact w.elim
  | cons a r =>
    cases r with
    | nil => exact w.elim
    | cons b r =>
      cases r with
      | nil =>
        obtain ⟨y, z, e, o, o2⟩ := h.two
        exact ⟨a, b, y, z, e, o, o2, w⟩
      | cons c r => exact w.elim
theorem cd_isi (C : CsOk Z cs) (hK : X.K = Z.K) : CallR X (.builtin "isinstance") (rA Z (arg2 (gIsi cs))) := by
  intro pins s σ H xs us Q I r h
  obtain ⟨G, α, S, l, hd, ol, w⟩ := h
  obtain ⟨x, c, y, z, rfl, ox, oc, w⟩ := arg2_ok ol w
  unfold gIsi at w
  cases q : tkD x with
  | none => rw [q] at w; exact w.elim
  | some k =>
    rw [q] at w
    simp only at w
    by_cases q2 : okT cs k = true
    · rw [if_pos q2] at w
      have ty := tk_on C hd.ex ox q q2
      rw [← hK] at ty
      by_cases ht : ∃ l, c = .tup l
      · obtain ⟨l, rfl⟩ := ht
        simp only at w
        cases q3 : isaA cs k l with
        | none => rw [q3] at w; exact w.elim
        | some b =>
          rw [q3] at w
          obtain ⟨tp, cs', rfl, h1, h2⟩ := oc
          obtain ⟨us', f1, f2⟩ := isaA_ok C q3 h2
          exact call_isiT pins s σ H _ us Q I r ⟨y, tp, cs', _, us', b, rfl, hd.ex _ _ h1, f1, ty, hK ▸ f2, wB w hd⟩
      · have w' : Wk Z (R.of S (match isa1 cs k c with | some b => vB b | none => none)) G α H (pRt Z Q) E0 := by
          cases c with
          | tup l => exact absurd ⟨l, rfl⟩ ht
          | _ => exact w
        cases q3 : isa1 cs k c with
        | none => rw [q3] at w'; exact w'.elim
        | some b =>
          rw [q3] at w'
          obtain ⟨x', u, e1, e2, e3⟩ := isa1_ok C q3
          have ez : z = x' := by
            cases c with
            | ty m => have a := e1 G; unfold On at a; have oc : z = .ty m := oc; rw [a, oc]
            | cls m => have a := e1 G; unfold On at a; have oc : z = .ref (Z.cm m) := oc; rw [a, oc]
            | _ => cases k <;> cases q3
          subst ez
          exact OP.call_isZ pins s σ H _ us Q I r ⟨y, z, _, u, b, rfl, e2, .x ty, hK ▸ e3, wB w' hd⟩
    · rw [if_neg q2] at w
      exact w.elim
def onlyV (p : Dv → Option Dv) (r : R Rt) : R Rt := match r with
  | .ok S (.val (.d d)) => (match p d with
    | some e => .ok S (.val (.d e))
    | none => .no)
  | _ => .no
def pInt : Dv → Option Dv
  | .int i => if 0 ≤ i ∧ i < 2 ^ 63 then some (.int i) else none
  | _ => none
def pStr : Dv → Option Dv
  | .str i => some (.str i)
  | _ => none
def pBl (neg : Bool) : Dv → Option Dv
  | .bl b => some (.bl (if neg then !b else b))
  | _ => none
/-- the own method of o, at these arguments -/
def askT (t : MT) (c : String) (l : List Vr) (S : Sto) : R Rt := match t.at c with
  | some (n, D) => if l.length = n then D l S else .no
  | none => .no
/-- len -/
def lenR (T : MT) (S : Sto) (l : List Vr) : R Rt := match l with
  | [o] => (match clsV S o with
    | some c => onlyV pInt (askT T c [o] S)
    | none => gA S [o] gLen)
  | _ => .no
def fLenD (T : MT) (fa : FA) : FE := fun env S => (fa env S).bind fun S1 l => lenR T S1 l
variable {Ew : L2.St → XK} {x : Str} {p pos : Pos} {e : Expr} {es : List Expr} {fa : FA}
/-- str -/
def strR (T : MT) (S : Sto) (l : List Vr) : R Rt := match l with
  | [o] => (match clsV S o with
    | some c => onlyV pStr (askT T c [o] S)
    | none => gA S [o] gStr)
  | _ => .no
def fStrD (T : MT) (fa : FA) : FE := fun env S => (fa env S).bind fun S1 l => strR T S1 l
def eqR (cs : List String) (T : MT) (neg : Bool) (S : Sto) (a b : Vr) : R Rt := match clsV S a with
  | some c => (match snap S b with
    | some y => (match tkD y with
      | some k => if okT cs k && cs.contains c then (match k, neg with
        | .b _, true => .no
        | .o e, true => if e == c then onlyV (pBl true) (askT T c [a, b] S) else .no
        | _, false => onlyV (pBl false) (askT T c [a, b] S)) else .no
      | none => .no)
    | none => .no)
  | none => g2 S a b (if neg then gNe else gEq)
def fEqD (cs : List String) (T : MT) (neg : Bool) (fa fb : FE) : FE := fun env S => (fa env S).bindV fun S1 a => (fb env S1).bindV fun S2 b => eqR cs T neg S2 a b
variable {a b : Expr} {fx fy : FE}
def ixR (T : MT) (S : Sto) (a b : Vr) : R Rt := match clsV S a with
  | some c => okR (askT T c [a, b] S)
  | none => g2 S a b gIx
def fIxD (T : MT) (fa fb : FE) : FE := fun env S => (fa env S).bindV fun S1 a => (fb env S1).bindV fun S2 b => ixR T S2 a b
end
end DN
namespace DN
open PySem PySem.Spec PyProof.Rows L2 Evl
section
variable {Z : Zx} {X : Cx} {G H G2 H2 : Hp} {α α2 : List Addr} {S : Sto} {Q : VK} {E : XK} {cs : List String} {Ew : L2.St → XK} {pos p p2 : Pos} {a b : Expr} {fx fy : FE}
def fDisp (ks vs : List Dv) : FE := fun _ S => .ok S (.new (.dc false ks vs))
end
end DN
namespace DN
open PySem PySem.Spec PyProof.Rows L2 Evl
theorem AllM.nil {P : String → Nat → FD → Prop} : AllM P [] := trivial
theorem AllM.cons {P : String → Nat → FD → Prop} {c : String} {n : Nat} {D : FD} {r : MT} (h : P c n D) (t : AllM P r) : AllM P ((c, n, D) :: r) := ⟨h, t⟩
theorem AllC.nil {P : String → Prop} : AllC P [] := trivial
theorem AllC.cons {P : String → Prop} {c : String} {r : List String} (h : P c) (t : AllC P r) : AllC P (c :: r) := ⟨h, t⟩
theorem _root_.L2.Room.u1 {k : Nat} {A : Around} (r : Room k A) : A.units + 1 < cLine := by have := r.un; omega
theorem _root_.L2.Room.u64 {k : Nat} {A : Around} (r : Room k A) : A.units + 64 < cLine := by have := r.un; omega
theorem tk0 {X : Cx} : Takes X (fun _ _ _ _ => False) := fun u s' x => by
  obtain ⟨_, _, _, _, _, _, _, _, _, _, _, _, _, _, _, _, h⟩ := x
  exact h.elim
theorem tkd {P : Program} {w : World} {K : PySem.W.Frag} {mg : Str → Option Value} {base : Heap} {N : List Str} {qual : Str} {scope : Scope} {f : Addr} {cd : Value} {A : Around} {outer : List PySem.Env} {s : Shared} {H : Hp} {E : XK} :
    Takes (cxOf (L2N.CX P w) P w K mg base N qual scope f cd A outer s H E) (WD E) := takes_of rfl rfl rfl rfl
theorem pod {P : Program} {w : World} {K : PySem.W.Frag} {mg : Str → Option Value} {base : Heap} {N : List Str} {qual : Str} {scope : Scope} {f : Addr} {cd : Value} {A : Around} {outer : List PySem.Env} {s : Shared} {H : Hp} {E : XK} :
    PassesOwn (model P w) (cxOf (L2N.CX P w) P w K mg base N qual scope f cd A outer s H E).A (cxOf (L2N.CX P w) P w K mg base N qual scope f cd A outer s H E).env (cxOf (L2N.CX P w) P w K mg base N qual scope f cd A outer s H E).xe := passes_of (X := cxOf (L2N.CX P w) P w K mg base N qual scope f cd A outer s H E) rfl
def spLaw (K : PySem.W.Frag) : Sp := fun vs H Q _ => ∃ (a : Addr) (ns : List Int), vs = [.ref a] ∧ SqL K H a (ns.map V.int) ∧ ns.length ≤ 63 ∧ ∀ H', Q (.bl true) H'
theorem law_sp {Z : Zx} {D : FD} (h : ∀ ns : List Int, ns.length ≤ 63 → ∃ S, D [.d (.scr ns)] [] = .ok S (.val (.d (.bl true)))) (vs : List V) (H : Hp) (Q : VK) (E : XK) (q : spLaw Z.K vs H Q E) : spD Z 1 D vs H Q E := by
  obtain ⟨a, ns, rfl, hS, hl, k⟩ := q
  obtain ⟨S, e⟩ := h ns hl
  refine ⟨H, [], [], [.d (.scr ns)], ⟨Ex.refl H, rfl, List.nodup_nil, fun n a c h1 h2 => by simp at h1⟩, ⟨_, _, rfl, ?_, rfl⟩, rfl, ?_⟩
  · show On Z H (.scr ns) (.ref a)
    unfold On
    exact ⟨a, rfl, hS⟩
  · rw [e]
    intro H2 G2 α2 f hd v ov
    have ov : On Z G2 (.bl true) v := ov
    unfold On at ov
    rw [ov]
    exact k H2
theorem cx_no {P : Program} {w : World} {o : List PySem.Env} {H : Hp} {s : Shared} {e : Value} {s' : Shared} (h : L2N.CX P w o H s (fun _ _ _ => False) e s') : False := by
  obtain ⟨_, _, _, _, _, _, _, _, _, _, _, _, h⟩ := h
  exact h
end DN
namespace DN
open PySem
theorem got_val {S : Sto} {v : Vr} : Got (.ok S (.val v)) S v := .val S v
theorem noex_ok {β : Type} {S : Sto} {b : β} : (R.ok S b).noex = .ok S b := rfl
/-- a comprehension that changes nothing -/
theorem lc_pure {t : Its} {tg : FG} {ft : FT} {fe : FE} {env : Env} {S : Sto} (p : Dv → Bool) (g : Dv → Dv) (hk : lockOk t S = true) : ∀ {l acc : List Dv},
    (∀ d ∈ l, ∃ env', tg d env = some env' ∧ ft env' S = .ok S (p d) ∧ (p d = true → Got (fe env' S) S (.d (g d)))) → acc.length + l.length ≤ 100000 → lcGo t tg ft fe env l S acc = .ok S (acc ++ (l.filter p).map g)
  | [], acc, h, hl => by simp [lcGo, hk]
  | d :: l, acc, h, hl => by
    obtain ⟨env', h1, h2, h3⟩ := h d List.mem_cons_self
    have ih := fun acc => lc_pure p g hk (l := l) (acc := acc) fun x hx => h x (List.mem_cons_of_mem _ hx)
    have hl' : acc.length + l.length + 1 ≤ 100000 := by simpa [Nat.add_assoc] using hl
    simp only [lcGo, hk, if_true, h1, h2, noex_ok, R.bind]
    cases q : p d with
    | false =>
      simp only [Bool.false_eq_true, if_false]
      rw [ih acc (by omega), List.filter_cons, q]
      rfl
    | true =>
      have g3 := h3 q
      simp only [if_true]
      have e : (fe env' S).noex.bindV (fun S2 v => onD v fun y => if acc.length < 100000 then lcGo t tg ft fe env l S2 (acc ++ [y]) else .no) = lcGo t tg ft fe env l S (acc ++ [g d]) := by
        generalize fe env' S = r at g3
        cases g3 with
        | val =>
          simp only [noex_ok, R.bindV, onD]
          rw [if_pos (by omega)]
        | new S c d' hc => rw [noex_ok, bindV_new hc]; simp only [onD]; rw [if_pos (by omega)]
      rw [e, ih (acc ++ [g d]) (by simp; omega), List.filter_cons, q]
      simp
theorem fLc_pure {fi : FI} {tg : FG} {ft : FT} {fe : FE} {vs : List Nat} {env : Env} {S : Sto} {t : Its} (p : Dv → Bool) (g : Dv → Dv) (hi : fi env S = .ok S t) (hk : lockOk t S = true) (hl : t.1.length ≤ 100000)
    (h : ∀ d ∈ t.1, ∃ env', tg d (wipeE env vs) = some env' ∧ ft env' S = .ok S (p d) ∧ (p d = true → Got (fe env' S) S (.d (g d)))) : fLc fi tg ft fe vs env S = .ok S (.new (.lst ((t.1.filter p).map g))) := by
  unfold fLc
  rw [hi]
  simp only [R.bind]
  rw [lc_pure p g hk h (by simpa using hl)]
  rfl
theorem def_val {n : Nat} {body : FS} {args : List Vr} {S S' : Sto} {d : Dv} (h : outS (body (startE n args) S) = .ok S' (.val (.d d))) (h2 : S'.take S.length = S) : defD n body args S = .ok S (.val (.d d)) := by
  unfold defD
  rw [h]
  show R.ok _ _ = _
  rw [h2]
theorem def_pure {n : Nat} {body : FS} {args : List Vr} {S : Sto} {d : Dv} (h : outS (body (startE n args) S) = .ok S (.val (.d d))) : defD n body args S = .ok S (.val (.d d)) := def_val h (by simp)
theorem def_new {n : Nat} {body : FS} {args : List Vr} {S : Sto} {c : Cell} (h : outS (body (startE n args) S) = .ok S (.new c)) : defD n body args S = .ok S (.new c) := by
  unfold defD
  rw [h]
  show R.ok _ _ = _
  rw [List.take_length]
end DN
namespace DN
open PySem
structure Fx {α : Sort _} (a : α) : Type where
def bindW {γ : Type} (r : R Rt) (f : Sto → Vr → R γ) (_ : Fx f) : R γ := r.bindV f
def bindX {β γ : Type} (r : R β) (f : Sto → β → R γ) (_ : Fx f) : R γ := r.bind f
def sVW (env : Env) (r : R Rt) (f : Sto → Vr → RS) (_ : Fx f) : RS := sV env r f
def sBW {β : Type} (env : Env) (r : R β) (f : Sto → β → RS) (_ : Fx f) : RS := sB env r f
def onBW {β : Type} (S : Sto) (a : Vr) (f : Bool → R β) (_ : Fx f) : R β := onB S a f
section
variable {β γ : Type} {S S1 : Sto} {env : Env}
theorem bindV_val {v : Vr} {f : Sto → Vr → R γ} {u : Fx f} : bindW (.ok S (.val v)) f u = f S v := rfl
theorem bindV_lst {l : List Dv} {f : Sto → Vr → R γ} {u : Fx f} : bindW (.ok S (.new (.lst l))) f u = f S (.d (.lst l)) := rfl
theorem bindV_ob {c : String} {l : List Dv} {f : Sto → Vr → R γ} {u : Fx f} : bindW (.ok S (.new (.ob c l))) f u = f S (.d (.obj c l)) := rfl
theorem bindV_dc {t : Bool} {k l : List Dv} {f : Sto → Vr → R γ} {u : Fx f} : bindW (.ok S (.new (.dc t k l))) f u = f S (.d (.dic t k l)) := rfl
theorem bindV_no {f : Sto → Vr → R γ} {u : Fx f} : bindW .no f u = .no := rfl
theorem bindV_ex {x : Xn} {f : Sto → Vr → R γ} {u : Fx f} : bindW (.ex S x) f u = .ex S x := rfl
theorem bind_ok {b : β} {f : Sto → β → R γ} {u : Fx f} : bindX (.ok S b) f u = f S b := rfl
theorem bind_no {f : Sto → β → R γ} {u : Fx f} : bindX .no f u = .no := rfl
theorem bind_ex {x : Xn} {f : Sto → β → R γ} {u : Fx f} : bindX (.ex S x) f u = .ex S x := rfl
theorem sV_val {v : Vr} {f : Sto → Vr → RS} {u : Fx f} : sVW env (.ok S (.val v)) f u = f S v := rfl
theorem sV_lst {l : List Dv} {f : Sto → Vr → RS} {u : Fx f} : sVW env (.ok S (.new (.lst l))) f u = f S (.d (.lst l)) := rfl
theorem sV_ob {c : String} {l : List Dv} {f : Sto → Vr → RS} {u : Fx f} : sVW env (.ok S (.new (.ob c l))) f u = f S (.d (.obj c l)) := rfl
theorem sV_dc {t : Bool} {k l : List Dv} {f : Sto → Vr → RS} {u : Fx f} : sVW env (.ok S (.new (.dc t k l))) f u = f S (.d (.dic t k l)) := rfl
theorem sV_ex {x : Xn} {f : Sto → Vr → RS} {u : Fx f} : sVW env (.ex S x) f u = .ex env S x := rfl
theorem sB_ok {b : β} {f : Sto → β → RS} {u : Fx f} : sBW env (.ok S b) f u = f S b := rfl
theorem sB_ex {x : Xn} {f : Sto → β → RS} {u : Fx f} : sBW env (.ex S x) f u = .ex env S x := rfl
/-- one statement, then the rest -/
def seqR (r : RS) (b : FS) : RS := match r with
  | .nx e2 S2 => b e2 S2
  | r => r
theorem kSeq_ {a b : FS} : kSeq a b env S = seqR (a env S) b := rfl
theorem seqR_nx {b : FS} : seqR (.nx env S) b = b env S := rfl
theorem seqR_rt {r : Rt} {b : FS} : seqR (.rt S r) b = .rt S r := rfl
theorem seqR_ex {x : Xn} {b : FS} : seqR (.ex env S x) b = .ex env S x := rfl
theorem seqR_no {b : FS} : seqR .no b = .no := rfl
def retR (env : Env) (r : R Rt) : RS := match r with
  | .ok S2 r => .rt S2 r
  | .ex S2 x => .ex env S2 x
  | .no => .no
theorem kRet_ {fe : FE} : kRet fe env S = retR env (fe env S) := rfl
theorem retR_ok {r : Rt} : retR env (.ok S r) = .rt S r := rfl
theorem retR_ex {x : Xn} : retR env (.ex S x) = .ex env S x := rfl
theorem kRetN_ : kRetN env S = .rt S (.val (.d .non)) := rfl
theorem kNext_ : kNext env S = .nx env S := rfl
theorem kIf_ {ft : FT} {a b : FS} : kIf ft a b env S = (sBW env (ft env S) (fun S1 t => if t then a env S1 else b env S1) ⟨⟩) := rfl
theorem kExpr_ {fe : FE} : kExpr fe env S = (sBW env (fe env S) (fun S1 _ => .nx env S1) ⟨⟩) := rfl
theorem kSet_ {i : Nat} {fe : FE} : kSet i fe env S = (sVW env (fe env S) (fun S1 v => .nx (env.set i (.v v)) S1) ⟨⟩) := rfl
def setC (i : Nat) (env : Env) (r : R Rt) : RS := match r with
  | .ok S1 (.val v) => .nx (env.set i (.v v)) S1
  | .ok S1 (.new c) => .nx (env.set i (.v (.r S1.length))) (S1 ++ [c])
  | .ex S1 x => .ex env S1 x
  | .no => .no
theorem kSetC_ {i : Nat} {fe : FE} : kSetC i fe env S = setC i env (fe env S) := rfl
theorem setC_val {i : Nat} {v : Vr} : setC i env (.ok S (.val v)) = .nx (env.set i (.v v)) S := rfl
theorem setC_new {i : Nat} {c : Cell} : setC i env (.ok S (.new c)) = .nx (env.set i (.v (.r S.length))) (S ++ [c]) := rfl
def asgR (f : FG) (env : Env) (S1 : Sto) (v : Vr) : RS := match v with
  | .d d => match f d env with
    | some env' => .nx env' S1
    | none => .no
  | .r _ => .no
theorem kAsg_ {f : FG} {fe : FE} : kAsg f fe env S = (sVW env (fe env S) (fun S1 v => asgR f env S1 v) ⟨⟩) := rfl
def asgO (o : Option Env) (S : Sto) : RS := match o with
  | some env' => .nx env' S
  | none => .no
theorem asgR_d {f : FG} {d : Dv} : asgR f env S (.d d) = asgO (f d env) S := rfl
theorem asgO_ {env' : Env} : asgO (some env') S = .nx env' S := rfl
theorem tgN_ {i : Nat} {d : Dv} : tgN i d env = some (env.set i (.v (.d d))) := rfl
theorem tgNil_ : tgNil [] env = some env := rfl
def tgO (o : Option Env) (fs : FGs) (l : List Dv) : Option Env := match o with
  | some e => fs l e
  | none => none
theorem tgCons_ {f : FG} {fs : FGs} {d : Dv} {l : List Dv} : tgCons f fs (d :: l) env = tgO (f d env) fs l := by
  cases h : f d env <;> simp [tgCons, tgO, h]
theorem tgO_ {fs : FGs} {l : List Dv} : tgO (some env) fs l = fs l env := rfl
theorem tgT_ {fs : FGs} {l : List Dv} : tgT fs (.tup l) env = fs l env := rfl
def parR (i j : Nat) (env : Env) (S1 : Sto) (l : List Vr) : RS := match l with
  | [v, w] => .nx ((env.set i (.v v)).set j (.v w)) S1
  | _ => .no
theorem kPar_ {i j : Nat} {fa : FA} : kPar i j fa env S = (sBW env (fa env S) (fun S1 l => parR i j env S1 l) ⟨⟩) := rfl
theorem parR_ {i j : Nat} {v w : Vr} : parR i j env S [v, w] = .nx ((env.set i (.v v)).set j (.v w)) S := rfl
theorem kSub_ {fo fi fv : FE} : kSub fo fi fv env S = (sVW env (fv env S) (fun S1 v => (sVW env (fo env S1) (fun S2 o => (sVW env (fi env S2) (fun S3 i => setIx env S3 o i v) ⟨⟩)) ⟨⟩)) ⟨⟩) := rfl
theorem kFld_ {cs : List String} {f : Str} {fo fv : FE} : kFld cs f fo fv env S = (sVW env (fv env S) (fun S1 v => (sVW env (fo env S1) (fun S2 o => setFd cs f env S2 o v) ⟨⟩)) ⟨⟩) := rfl
def loopR (r : RS) (k : Env → Sto → RS) (_ : Fx k) : RS := match r with
  | .nx e S => k e S
  | .ct e S => k e S
  | .bk e S => .nx e S
  | r => r
theorem loopR_nx {k : Env → Sto → RS} {u : Fx k} : loopR (.nx env S) k u = k env S := rfl
theorem loopR_ct {k : Env → Sto → RS} {u : Fx k} : loopR (.ct env S) k u = k env S := rfl
theorem loopR_bk {k : Env → Sto → RS} {u : Fx k} : loopR (.bk env S) k u = .nx env S := rfl
theorem loopR_rt {k : Env → Sto → RS} {r : Rt} {u : Fx k} : loopR (.rt S r) k u = .rt S r := rfl
def forO (o : Option Env) (S : Sto) (body : FS) (k : Env → Sto → RS) (u : Fx k) : RS := match o with
  | some e => loopR (body e S) k u
  | none => .no
theorem forO_ {body : FS} {k : Env → Sto → RS} {u : Fx k} : forO (some env) S body k u = loopR (body env S) k u := rfl
theorem forGo_c {l t : List Dv} {d : Dv} {tg : FG} {body : FS} : forGo (t, none) tg body (d :: l) env S = forO (tg d env) S body (fun e2 S2 => forGo (t, none) tg body l e2 S2) ⟨⟩ := by
  have hk : lockOk (t, none) S = true := rfl
  simp only [forGo, hk, if_true]
  cases tg d env with
  | none => rfl
  | some e => simp only [forO]; cases body e S <;> rfl
theorem forGo_n {t : List Dv} {tg : FG} {body : FS} : forGo (t, none) tg body [] env S = .nx env S := rfl
theorem iVal_ {fa : FE} : iVal fa env S = (bindW (fa env S) (fun S1 a => itOf S1 a) ⟨⟩) := rfl
theorem itOf_lst {l : List Dv} : itOf S (.d (.lst l)) = .ok S (l, none) := rfl
theorem itOf_tup {l : List Dv} : itOf S (.d (.tup l)) = .ok S (l, none) := rfl
def varR (o : Option Sl) (S : Sto) : R Rt := match o with
  | some (.v d) => .ok S (.val d)
  | _ => .no
theorem fVar_ {i : Nat} : fVar i env S = varR env[i]? S := rfl
theorem varR_ {d : Vr} : varR (some (.v d)) S = .ok S (.val d) := rfl
theorem fC_ {d : Dv} : fC d env S = .ok S (.val (.d d)) := rfl
theorem fOp_ {g : Dv → Dv → Option Rt} {fa fb : FE} : fOp g fa fb env S = (bindW (fa env S) (fun S1 a => (bindW (fb env S1) (fun S2 b => g2 S2 a b g) ⟨⟩)) ⟨⟩) := rfl
def g2o (S : Sto) (x y : Option Dv) (g : Dv → Dv → Option Rt) : R Rt := match x, y with
  | some x, some y => R.of S (g x y)
  | _, _ => .no
theorem g2_ {a b : Vr} {g : Dv → Dv → Option Rt} : g2 S a b g = g2o S (snap S a) (snap S b) g := rfl
theorem g2o_ {x y : Dv} {g : Dv → Dv → Option Rt} : g2o S (some x) (some y) g = R.of S (g x y) := rfl
theorem fUn_ {g : Dv → Option Rt} {fa : FE} : fUn g fa env S = (bindW (fa env S) (fun S1 a => g1 S1 a g) ⟨⟩) := rfl
def g1o (S : Sto) (x : Option Dv) (g : Dv → Option Rt) : R Rt := match x with
  | some x => R.of S (g x)
  | _ => .no
theorem g1_ {a : Vr} {g : Dv → Option Rt} : g1 S a g = g1o S (snap S a) g := by unfold g1 g1o; cases snap S a <;> rfl
theorem g1o_ {x : Dv} {g : Dv → Option Rt} : g1o S (some x) g = R.of S (g x) := rfl
theorem of_some {b : β} : R.of S (some b) = .ok S b := rfl
theorem snap_d {d : Dv} : snap S (.d d) = some d := rfl
def snapC : Option Cell → Option Dv
  | some (.lst l) => some (.lst l)
  | some (.ob c l) => some (.obj c l)
  | some (.dc t ks vs) => some (.dic t ks vs)
  | _ => none
theorem snap_r {n : Nat} : snap S (.r n) = snapC S[n]? := by
  cases q : S[n]? with
  | none => simp [snap, q, snapC]
  | some c => cases c <;> simp [snap, q, snapC]
theorem snapC_lst {l : List Dv} : snapC (some (.lst l)) = some (.lst l) := rfl
theorem snapC_ob {c : String} {l : List Dv} : snapC (some (.ob c l)) = some (.obj c l) := rfl
theorem fNil_ : fNil env S = .ok S [] := rfl
theorem fCons_ {fa : FE} {fr : FA} : fCons fa fr env S = (bindW (fa env S) (fun S1 a => (bindX (fr env S1) (fun S2 l => .ok S2 (a :: l)) ⟨⟩)) ⟨⟩) := rfl
theorem fTup_ {fa : FA} : fTup fa env S = (bindX (fa env S) (fun S1 l => R.of S1 (gTupD l)) ⟨⟩) := rfl
theorem fLst_ {fa : FA} : fLst fa env S = (bindX (fa env S) (fun S1 l => R.of S1 (gLstD l)) ⟨⟩) := rfl
theorem allD_n : allD [] = some [] := rfl
def allC (x : Dv) : Option (List Dv) → Option (List Dv)
  | some r => some (x :: r)
  | none => none
theorem allD_c {x : Dv} {l : List Vr} : allD (.d x :: l) = allC x (allD l) := rfl
theorem allC_ {x : Dv} {l : List Dv} : allC x (some l) = some (x :: l) := rfl
def tupO : Option (List Dv) → Option Rt
  | some r => if r.length ≤ 100000 then some (.val (.d (.tup r))) else none
  | none => none
def lstO : Option (List Dv) → Option Rt
  | some r => if r.length ≤ 100000 then some (.new (.lst r)) else none
  | none => none
theorem gTupD_ {l : List Vr} : gTupD l = tupO (allD l) := rfl
theorem gLstD_ {l : List Vr} : gLstD l = lstO (allD l) := rfl
theorem tupO_0 : tupO (some []) = some (.val (.d (.tup []))) := by simp only [tupO, lstO]; exact if_pos (show (0 : Nat) ≤ 100000 by decide)
theorem lstO_0 : lstO (some []) = some (.new (.lst [])) := by simp only [tupO, lstO]; exact if_pos (show (0 : Nat) ≤ 100000 by decide)
theorem tupO_1 {a : Dv} : tupO (some [a]) = some (.val (.d (.tup [a]))) := by simp only [tupO, lstO]; exact if_pos (show (1 : Nat) ≤ 100000 by decide)
theorem lstO_1 {a : Dv} : lstO (some [a]) = some (.new (.lst [a])) := by simp only [tupO, lstO]; exact if_pos (show (1 : Nat) ≤ 100000 by decide)
theorem tupO_2 {a b : Dv} : tupO (some [a, b]) = some (.val (.d (.tup [a, b]))) := by simp only [tupO, lstO]; exact if_pos (show (2 : Nat) ≤ 100000 by decide)
theorem lstO_2 {a b : Dv} : lstO (some [a, b]) = some (.new (.lst [a, b])) := by simp only [tupO, lstO]; exact if_pos (show (2 : Nat) ≤ 100000 by decide)
theorem tupO_3 {a b c : Dv} : tupO (some [a, b, c]) = some (.val (.d (.tup [a, b, c]))) := by simp only [tupO, lstO]; exact if_pos (show (3 : Nat) ≤ 100000 by decide)
theorem lstO_3 {a b c : Dv} : lstO (some [a, b, c]) = some (.new (.lst [a, b, c])) := by simp only [tupO, lstO]; exact if_pos (show (3 : Nat) ≤ 100000 by decide)
theorem tupO_4 {a b c d : Dv} : tupO (some [a, b, c, d]) = some (.val (.d (.tup [a, b, c, d]))) := by simp only [tupO, lstO]; exact if_pos (show (4 : Nat) ≤ 100000 by decide)
theorem lstO_4 {a b c d : Dv} : lstO (some [a, b, c, d]) = some (.new (.lst [a, b, c, d])) := by simp only [tupO, lstO]; exact if_pos (show (4 : Nat) ≤ 100000 by decide)
theorem tupO_5 {a b c d e : Dv} : tupO (some [a, b, c, d, e]) = some (.val (.d (.tup [a, b, c, d, e]))) := by simp only [tupO, lstO]; exact if_pos (show (5 : Nat) ≤ 100000 by decide)
theorem lstO_5 {a b c d e : Dv} : lstO (some [a, b, c, d, e]) = some (.new (.lst [a, b, c, d, e])) := by simp only [tupO, lstO]; exact if_pos (show (5 : Nat) ≤ 100000 by decide)
theorem tupO_6 {a b c d e f : Dv} : tupO (some [a, b, c, d, e, f]) = some (.val (.d (.tup [a, b, c, d, e, f]))) := by simp only [tupO, lstO]; exact if_pos (show (6 : Nat) ≤ 100000 by decide)
theorem lstO_6 {a b c d e f : Dv} : lstO (some [a, b, c, d, e, f]) = some (.new (.lst [a, b, c, d, e, f])) := by simp only [tupO, lstO]; exact if_pos (show (6 : Nat) ≤ 100000 by decide)
theorem tupO_7 {a b c d e f g : Dv} : tupO (some [a, b, c, d, e, f, g]) = some (.val (.d (.tup [a, b, c, d, e, f, g]))) := by simp only [tupO, lstO]; exact if_pos (show (7 : Nat) ≤ 100000 by decide)
theorem lstO_7 {a b c d e f g : Dv} : lstO (some [a, b, c, d, e, f, g]) = some (.new (.lst [a, b, c, d, e, f, g])) := by simp only [tupO, lstO]; exact if_pos (show (7 : Nat) ≤ 100000 by decide)
theorem fAnd_ {fa fb : FE} : fAnd fa fb env S = (bindW (fa env S) (fun S1 a => (onBW S1 a (fun b => if b then fb env S1 else .ok S1 (.val (.d (.bl false)))) ⟨⟩)) ⟨⟩) := rfl
theorem fOr_ {fa fb : FE} : fOr fa fb env S = (bindW (fa env S) (fun S1 a => (onBW S1 a (fun b => if b then .ok S1 (.val (.d (.bl true))) else fb env S1) ⟨⟩)) ⟨⟩) := rfl
theorem fNot_ {fa : FE} : fNot fa env S = (bindW (fa env S) (fun S1 a => (onBW S1 a (fun b => .ok S1 (.val (.d (.bl (!b))))) ⟨⟩)) ⟨⟩) := rfl
theorem fIf_ {ft : FT} {fa fb : FE} : fIf ft fa fb env S = (bindX (ft env S) (fun S1 b => if b then fa env S1 else fb env S1) ⟨⟩) := rfl
theorem onB_ {b : Bool} {f : Bool → R β} {u : Fx f} : onBW S (.d (.bl b)) f u = f b := rfl
theorem kVal_ {fa : FE} : kVal fa env S = (bindW (fa env S) (fun S1 a => (onBW S1 a (fun b => .ok S1 b) ⟨⟩)) ⟨⟩) := rfl
theorem kAnd_ {ta tb : FT} : kAnd ta tb env S = (bindX (ta env S) (fun S1 b => if b then tb env S1 else .ok S1 false) ⟨⟩) := rfl
theorem kOr_ {ta tb : FT} : kOr ta tb env S = (bindX (ta env S) (fun S1 b => if b then .ok S1 true else tb env S1) ⟨⟩) := rfl
theorem kNot_ {ta : FT} : kNot ta env S = (bindX (ta env S) (fun S1 b => .ok S1 (!b)) ⟨⟩) := rfl
theorem kYes_ : kYes env S = .ok S true := rfl
theorem fCall_ {g : List Dv → Option Rt} {fa : FA} : fCall g fa env S = (bindX (fa env S) (fun S1 l => gA S1 l g) ⟨⟩) := rfl
def gAo (S : Sto) (x : Option (List Dv)) (g : List Dv → Option Rt) : R Rt := match x with
  | some x => R.of S (g x)
  | _ => .no
theorem gA_ {l : List Vr} {g : List Dv → Option Rt} : gA S l g = gAo S (snaps S l) g := by unfold gA gAo; cases snaps S l <;> rfl
theorem gAo_ {l : List Dv} {g : List Dv → Option Rt} : gAo S (some l) g = R.of S (g l) := rfl
def snapsC : Option Dv → Option (List Dv) → Option (List Dv)
  | some d, some m => some (d :: m)
  | _, _ => none
theorem snaps_n : snaps S [] = some [] := rfl
theorem snaps_c {r : Vr} {l : List Vr} : snaps S (r :: l) = snapsC (snap S r) (snaps S l) := by
  unfold snapsC
  show (match snap S r, snaps S l with | some d, some m => some (d :: m) | _, _ => none) = _
  cases snap S r <;> cases snaps S l <;> rfl
theorem snapsC_ {d : Dv} {l : List Dv} : snapsC (some d) (some l) = some (d :: l) := rfl
theorem arg1_ {f : Dv → Option Rt} {x : Dv} : arg1 f [x] = f x := rfl
theorem arg12_1 {f : Dv → Option Rt} {g : Dv → Dv → Option Rt} {x : Dv} : arg12 f g [x] = f x := rfl
theorem arg12_2 {f : Dv → Option Rt} {g : Dv → Dv → Option Rt} {x y : Dv} : arg12 f g [x, y] = g x y := rfl
theorem arg2_ {f : Dv → Dv → Option Rt} {x y : Dv} : arg2 f [x, y] = f x y := rfl
theorem onlyIf_t {r : Option Rt} : onlyIf true r = r := rfl
theorem fCallD_ {m : Nat} {D : FD} {fa : FA} : fCallD m D fa env S = (bindX (fa env S) (fun S1 l => if l.length = m then D l S1 else .no) ⟨⟩) := rfl
theorem fMeth_ {T : String} {g : Dv → List Dv → Option Rt} {fo : FE} {fa : FA} : fMeth T g fo fa env S = (bindW (fo env S) (fun S1 a => onT T S1 a ((bindX (fa env S1) (fun S2 l => gM S2 a l g) ⟨⟩))) ⟨⟩) := rfl
def onTo (T : String) (x : Option Dv) (r : R β) : R β := match x with
  | some d => if isT T d then r else .no
  | none => .no
theorem onT_ {T : String} {a : Vr} {r : R β} : onT T S a r = onTo T (snap S a) r := rfl
theorem onTo_ {T : String} {d : Dv} {r : R β} : onTo T (some d) r = if isT T d then r else .no := rfl
def gMo (S : Sto) (x : Option Dv) (l : Option (List Dv)) (g : Dv → List Dv → Option Rt) : R Rt := match x, l with
  | some d, some ds => R.of S (g d ds)
  | _, _ => .no
theorem gM_ {a : Vr} {l : List Vr} {g : Dv → List Dv → Option Rt} : gM S a l g = gMo S (snap S a) (snaps S l) g := rfl
theorem gMo_ {d : Dv} {l : List Dv} {g : Dv → List Dv → Option Rt} : gMo S (some d) (some l) g = R.of S (g d l) := rfl
def clsC : Option Cell → Option String
  | some (.ob c _) => some c
  | _ => none
theorem clsV_r {n : Nat} : clsV S (.r n) = clsC S[n]? := by
  cases q : S[n]? with
  | none => simp [clsV, q, clsC]
  | some c => cases c <;> simp [clsV, q, clsC]
theorem clsC_lst {l : List Dv} : clsC (some (.lst l)) = none := rfl
theorem clsC_ob {c : String} {l : List Dv} : clsC (some (.ob c l)) = some c := rfl
theorem clsV_obj {c : String} {l : List Dv} : clsV S (.d (.obj c l)) = some c := rfl
theorem clsV_int {i : Int} : clsV S (.d (.int i)) = none := rfl
theorem clsV_bl {i : Bool} : clsV S (.d (.bl i)) = none := rfl
theorem clsV_str {i : Str} : clsV S (.d (.str i)) = none := rfl
theorem clsV_non : clsV S (.d .non) = none := rfl
theorem clsV_lst {l : List Dv} : clsV S (.d (.lst l)) = none := rfl
theorem clsV_tup {l : List Dv} : clsV S (.d (.tup l)) = none := rfl
theorem clsV_scr {l : List Int} : clsV S (.d (.scr l)) = none := rfl
theorem fLenD_ {T : MT} {fa : FA} : fLenD T fa env S = (bindX (fa env S) (fun S1 l => lenR T S1 l) ⟨⟩) := rfl
def lenC (k : Option String) (T : MT) (S : Sto) (o : Vr) : R Rt := match k with
  | some c => onlyV pInt (askT T c [o] S)
  | none => gA S [o] gLen
theorem lenR_ {T : MT} {o : Vr} : lenR T S [o] = lenC (clsV S o) T S o := rfl
theorem lenC_n {T : MT} {o : Vr} : lenC none T S o = gA S [o] gLen := rfl
theorem lenC_s {T : MT} {o : Vr} {c : String} : lenC (some c) T S o = onlyV pInt (askT T c [o] S) := rfl
theorem fIxD_ {T : MT} {fa fb : FE} : fIxD T fa fb env S = (bindW (fa env S) (fun S1 a => (bindW (fb env S1) (fun S2 b => ixR T S2 a b) ⟨⟩)) ⟨⟩) := rfl
def ixC (k : Option String) (T : MT) (S : Sto) (a b : Vr) : R Rt := match k with
  | some c => okR (askT T c [a, b] S)
  | none => g2 S a b gIx
theorem ixR_ {T : MT} {a b : Vr} : ixR T S a b = ixC (clsV S a) T S a b := rfl
theorem ixC_n {T : MT} {a b : Vr} : ixC none T S a b = g2 S a b gIx := rfl
theorem ixC_s {T : MT} {a b : Vr} {c : String} : ixC (some c) T S a b = okR (askT T c [a, b] S) := rfl
theorem fEqD_ {cs : List String} {T : MT} {neg : Bool} {fa fb : FE} : fEqD cs T neg fa fb env S = (bindW (fa env S) (fun S1 a => (bindW (fb env S1) (fun S2 b => eqR cs T neg S2 a b) ⟨⟩)) ⟨⟩) := rfl
theorem fPropD_ {t : MT} {fo : FE} : fPropD t fo env S = (bindW (fo env S) (fun S1 o => fAsk1 t S1 o) ⟨⟩) := rfl
theorem fMakeD_ {c : String} {dl : List Dv} {n : Nat} {D : FD} {fa : FA} : fMakeD c dl n D fa env S = (bindX (fa env S) (fun S1 l =>
  if (Vr.r S1.length :: (l ++ dl.map .d)).length = n then makeR S1.length (D (.r S1.length :: (l ++ dl.map .d)) (S1 ++ [.ob c []])) else .no) ⟨⟩) := rfl
theorem isi_int_int {cs : List String} {i : Int} : gIsi cs (.int i) (.ty "int") = vB true := rfl
theorem isi_int_bool {cs : List String} {i : Int} : gIsi cs (.int i) (.ty "bool") = vB false := rfl
theorem isi_int_str {cs : List String} {i : Int} : gIsi cs (.int i) (.ty "str") = vB false := rfl
theorem isi_str_str {cs : List String} {i : Str} : gIsi cs (.str i) (.ty "str") = vB true := rfl
theorem isi_str_int {cs : List String} {i : Str} : gIsi cs (.str i) (.ty "int") = vB false := rfl
theorem isi_lst_lst {cs : List String} {i : List Dv} : gIsi cs (.lst i) (.ty "list") = vB true := rfl
theorem isi_lst_str {cs : List String} {i : List Dv} : gIsi cs (.lst i) (.ty "str") = vB false := rfl
theorem isi_tup_str {cs : List String} {i : List Dv} : gIsi cs (.tup i) (.ty "str") = vB false := rfl
theorem isi_tup_tup {cs : List String} {i : List Dv} : gIsi cs (.tup i) (.ty "tuple") = vB true := rfl
theorem isi_lst_lt {cs : List String} {i : List Dv} : gIsi cs (.lst i) (.tup [.ty "list", .ty "tuple"]) = vB true := rfl
theorem isi_tup_lt {cs : List String} {i : List Dv} : gIsi cs (.tup i) (.tup [.ty "list", .ty "tuple"]) = vB true := rfl
theorem isi_str_lt {cs : List String} {i : Str} : gIsi cs (.str i) (.tup [.ty "list", .ty "tuple"]) = vB false := rfl
theorem vB_ {b : Bool} : vB b = some (.val (.d (.bl b))) := rfl
theorem vI_ {b : Int} : vI b = some (.val (.d (.int b))) := rfl
theorem vS_ {b : Str} : vS b = some (.val (.d (.str b))) := rfl
theorem vT_ {b : List Dv} : vT b = some (.val (.d (.tup b))) := rfl
theorem nL_ {b : List Dv} : nL b = some (.new (.lst b)) := rfl
theorem vD_ {b : Dv} : vD b = some (.val (.d b)) := rfl
theorem startE_ {n : Nat} {args : List Vr} : startE n args = args.map .v ++ List.replicate (n - args.length) .u := rfl
theorem outS_nx : outS (.nx env S) = .ok S (.val (.d .non)) := rfl
theorem outS_rt {r : Rt} : outS (.rt S r) = .ok S r := rfl
theorem outS_ex {x : Xn} : outS (.ex env S x) = .ex S x := rfl
def methP (p : Option (Nat × FD)) (o : Vr) (r : R (List Vr)) : R Rt := match p with
  | some (n, D) => r.bind fun S2 l => if (o :: l).length = n then D (o :: l) S2 else .no
  | none => .no
def methR (k : Option String) (t : MT) (o : Vr) (r : R (List Vr)) : R Rt := match k with
  | some c => methP (t.at c) o r
  | none => .no
theorem fMethD_ {t : MT} {fo : FE} {fa : FA} : fMethD t fo fa env S = (bindW (fo env S) (fun S1 o => methR (clsV S1 o) t o (fa env S1)) ⟨⟩) := by
  unfold fMethD methR methP
  congr 1
theorem methR_ {c : String} {t : MT} {o : Vr} {r : R (List Vr)} : methR (some c) t o r = methP (t.at c) o r := rfl
theorem methP_ {n : Nat} {D : FD} {o : Vr} {r : R (List Vr)} : methP (some (n, D)) o r = (bindX r (fun S2 l => if (o :: l).length = n then D (o :: l) S2 else .no) ⟨⟩) := rfl
def askP (p : Option (Nat × FD)) (l : List Vr) (S : Sto) : R Rt := match p with
  | some (n, D) => if l.length = n then D l S else .no
  | none => .no
theorem askT_ {t : MT} {c : String} {l : List Vr} : askT t c l S = askP (t.at c) l S := rfl
theorem askP_ {n : Nat} {D : FD} {l : List Vr} : askP (some (n, D)) l S = if l.length = n then D l S else .no := rfl
def ask1P (p : Option (Nat × FD)) (o : Vr) (S : Sto) : R Rt := match p with
  | some (n, D) => if [o].length = n then okR (D [o] S) else .no
  | none => .no
def ask1R (k : Option String) (t : MT) (o : Vr) (S : Sto) : R Rt := match k with
  | some c => ask1P (t.at c) o S
  | none => .no
theorem fAsk1_ {t : MT} {o : Vr} : fAsk1 t S o = ask1R (clsV S o) t o S := rfl
theorem ask1R_ {c : String} {t : MT} {o : Vr} : ask1R (some c) t o S = ask1P (t.at c) o S := rfl
theorem ask1P_ {n : Nat} {D : FD} {o : Vr} : ask1P (some (n, D)) o S = if [o].length = n then okR (D [o] S) else .no := rfl
theorem at_cons {b c : String} {p : Nat × FD} {r : MT} : MT.at ((b, p) :: r) c = if b == c then some p else MT.at r c := rfl
theorem eqR_int {cs : List String} {T : MT} {neg : Bool} {i : Int} {b : Vr} : eqR cs T neg S (.d (.int i)) b = g2 S (.d (.int i)) b (if neg then gNe else gEq) := rfl
theorem eqR_bl {cs : List String} {T : MT} {neg : Bool} {i : Bool} {b : Vr} : eqR cs T neg S (.d (.bl i)) b = g2 S (.d (.bl i)) b (if neg then gNe else gEq) := rfl
theorem eqR_str {cs : List String} {T : MT} {neg : Bool} {i : Str} {b : Vr} : eqR cs T neg S (.d (.str i)) b = g2 S (.d (.str i)) b (if neg then gNe else gEq) := rfl
theorem eqR_lst {cs : List String} {T : MT} {neg : Bool} {i : List Dv} {b : Vr} : eqR cs T neg S (.d (.lst i)) b = g2 S (.d (.lst i)) b (if neg then gNe else gEq) := rfl
theorem eqR_tup {cs : List String} {T : MT} {neg : Bool} {i : List Dv} {b : Vr} : eqR cs T neg S (.d (.tup i)) b = g2 S (.d (.tup i)) b (if neg then gNe else gEq) := rfl
theorem eqR_non {cs : List String} {T : MT} {neg : Bool} {b : Vr} : eqR cs T neg S (.d .non) b = g2 S (.d .non) b (if neg then gNe else gEq) := rfl
theorem onlyV_bl {neg b : Bool} : onlyV (pBl neg) (.ok S (.val (.d (.bl b)))) = .ok S (.val (.d (.bl (if neg then !b else b)))) := rfl
theorem onlyV_str {s : Str} : onlyV pStr (.ok S (.val (.d (.str s)))) = .ok S (.val (.d (.str s))) := rfl
theorem fStrD_ {T : MT} {fa : FA} : fStrD T fa env S = (bindX (fa env S) (fun S1 l => strR T S1 l) ⟨⟩) := rfl
def strC (k : Option String) (T : MT) (S : Sto) (o : Vr) : R Rt := match k with
  | some c => onlyV pStr (askT T c [o] S)
  | none => gA S [o] gStr
theorem strR_ {T : MT} {o : Vr} : strR T S [o] = strC (clsV S o) T S o := rfl
theorem strC_n {T : MT} {o : Vr} : strC none T S o = gA S [o] gStr := rfl
theorem strC_s {T : MT} {o : Vr} {c : String} : strC (some c) T S o = onlyV pStr (askT T c [o] S) := rfl
theorem fChain_ {g g' : Dv → Dv → Option Rt} {fa fb fc : FE} : fChain g g' fa fb fc env S = (bindW (fa env S) (fun S1 a => (bindW (fb env S1) (fun S2 b => (bindW (g2 S2 a b g) (fun S3 k => (onBW S3 k (fun t =>
  if t then (bindW (fc env S3) (fun S4 c => g2 S4 b c g') ⟨⟩) else .ok S3 (.val (.d (.bl false)))) ⟨⟩)) ⟨⟩)) ⟨⟩)) ⟨⟩) := rfl
theorem fSl_ {fa : FE} {lo hi : FO} : fSl fa lo hi env S = (bindW (fa env S) (fun S1 a => (bindX (lo env S1) (fun S2 l => (bindX (hi env S2) (fun S3 h => g1 S3 a (gSl l h)) ⟨⟩)) ⟨⟩)) ⟨⟩) := rfl
theorem fNoPart_ : fNoPart env S = .ok S none := rfl
def partR (S : Sto) (a : Vr) : R (Option Int) := match a with
  | .d (.int i) => .ok S (some i)
  | _ => .no
theorem fPart_ {fa : FE} : fPart fa env S = (bindW (fa env S) (fun S1 a => partR S1 a) ⟨⟩) := rfl
theorem partR_ {i : Int} : partR S (.d (.int i)) = .ok S (some i) := rfl
theorem fDisp_ {ks vs : List Dv} : fDisp ks vs env S = .ok S (.new (.dc false ks vs)) := rfl
theorem gSl_lst {l : List Dv} {lo hi : Option Int} : gSl lo hi (.lst l) = nL (cutL l lo hi) := rfl
theorem gSl_tup {l : List Dv} {lo hi : Option Int} : gSl lo hi (.tup l) = vT (cutL l lo hi) := rfl
theorem fMut_ {g : List Dv → List Dv → Option (List Dv × Dv)} {fo : FE} {fa : FA} : fMut g fo fa env S = (bindW (fo env S) (fun S1 a => onT "list" S1 a ((bindX (fa env S1) (fun S2 l => gMu S2 a l g) ⟨⟩))) ⟨⟩) := rfl
def muC (n : Nat) (o : Option Cell) (S : Sto) (ds : Option (List Dv)) (g : List Dv → List Dv → Option (List Dv × Dv)) : R Rt := match ds, o with
  | some ds, some (.lst l0) => muP n S (g l0 ds)
  | _, _ => .no
where muP (n : Nat) (S : Sto) (p : Option (List Dv × Dv)) : R Rt := match p with
  | some (l1, res) => .ok (S.set n (.lst l1)) (.val (.d res))
  | none => .no
theorem gMu_ {n : Nat} {l : List Vr} {g : List Dv → List Dv → Option (List Dv × Dv)} : gMu S (.r n) l g = muC n S[n]? S (allD l) g := by
  unfold gMu muC muC.muP
  cases q : allD l with
  | none => rfl
  | some ds =>
    cases q2 : S[n]? with
    | none => simp only [q2]
    | some c => cases c <;> simp only [q2] <;> rfl
theorem muC_ {n : Nat} {ds l0 : List Dv} {g : List Dv → List Dv → Option (List Dv × Dv)} : muC n (some (.lst l0)) S (some ds) g = muC.muP n S (g l0 ds) := rfl
theorem muP_ {n : Nat} {l1 : List Dv} {res : Dv} : muC.muP n S (some (l1, res)) = .ok (S.set n (.lst l1)) (.val (.d res)) := rfl
theorem isT_str {s : Str} : isT "str" (.str s) = true := rfl
theorem isT_lst {s : List Dv} : isT "list" (.lst s) = true := rfl
theorem gClear_ {l : List Dv} : gClear l [] = some ([], .non) := rfl
def cmR (c : String) (n : Nat) (D : FD) (o : Vr) (r : R (List Vr)) : R Rt := match o with
  | .d (.cls b) => if b == c then r.bind fun S2 l => if (Vr.d (.cls c) :: l).length = n then D (.d (.cls c) :: l) S2 else .no else .no
  | _ => .no
theorem fCMeth_ {c : String} {n : Nat} {D : FD} {fo : FE} {fa : FA} : fCMeth c n D fo fa env S = (bindW (fo env S) (fun S1 o => cmR c n D o (fa env S1)) ⟨⟩) := by
  unfold fCMeth cmR
  congr 1
theorem cmR_ {c : String} {n : Nat} {D : FD} {r : R (List Vr)} : cmR c n D (.d (.cls c)) r = (bindX r (fun S2 l => if (Vr.d (.cls c) :: l).length = n then D (.d (.cls c) :: l) S2 else .no) ⟨⟩) := by
  unfold cmR bindX
  simp
theorem makeR_ok {c : String} {l : List Dv} : makeR (List.length S) (.ok (S ++ [.ob c l]) (.val (.d .non))) = .ok S (.new (.ob c l)) := by
  unfold makeR
  simp
def mkLR (c : String) (o : Option Sl) (r : R Rt) : R Rt := match o with
  | some (.v (.d (.cls b))) => if b == c then r else .no
  | _ => .no
theorem fMakeL_ {i n : Nat} {c : String} {D : FD} {fa : FA} : fMakeL i c n D fa env S = mkLR c env[i]? (fMakeD c [] n D fa env S) := by
  unfold fMakeL mkLR
  rfl
theorem mkLR_ {c : String} {r : R Rt} : mkLR c (some (.v (.d (.cls c)))) r = r := by
  unfold mkLR
  simp
end
end DN
local macro_rules | `(tactic| simp_arith [$ls,*]) => `(tactic| simp -dsimp only [↓reduceIte, DN.bindV_val, DN.bindV_lst, DN.bindV_ob, DN.bindV_dc, DN.bindV_no, DN.bindV_ex, DN.bind_ok, DN.bind_no, DN.bind_ex, DN.sV_val, DN.sV_lst, DN.sV_ob, DN.sV_dc, DN.sV_ex, DN.sB_ok, DN.sB_ex, DN.kSeq_, DN.seqR_nx, DN.seqR_rt, DN.seqR_ex, DN.seqR_no, DN.kRet_, DN.retR_ok, DN.retR_ex, DN.kRetN_, DN.kNext_, DN.loopR_nx, DN.loopR_ct, DN.loopR_bk, DN.loopR_rt, DN.forGo_c, DN.forO_, DN.forGo_n, DN.iVal_, DN.itOf_lst, DN.itOf_tup, DN.kIf_, DN.kExpr_, DN.kSet_, DN.kSetC_, DN.setC_val, DN.setC_new, DN.kAsg_, DN.asgR_d, DN.asgO_, DN.tgN_, DN.tgNil_, DN.tgCons_, DN.tgO_, DN.tgT_, DN.kPar_, DN.parR_, DN.kSub_, DN.kFld_, DN.fVar_, DN.varR_, DN.fC_, DN.fOp_, DN.g2_, DN.g2o_, DN.fUn_, DN.g1_, DN.g1o_, DN.of_some, DN.snap_d, DN.snap_r, DN.snapC_lst, DN.snapC_ob, DN.fNil_, DN.fCons_, DN.fTup_, DN.fLst_, DN.allD_n, DN.allD_c, DN.allC_, DN.gTupD_, DN.gLstD_, DN.tupO_0, DN.lstO_0, DN.tupO_1, DN.lstO_1, DN.tupO_2, DN.lstO_2, DN.tupO_3, DN.lstO_3, DN.tupO_4, DN.lstO_4, DN.tupO_5, DN.lstO_5, DN.tupO_6, DN.lstO_6, DN.tupO_7, DN.lstO_7, DN.fAnd_, DN.fOr_, DN.fNot_, DN.fIf_, DN.onB_, DN.kVal_, DN.kAnd_, DN.kOr_, DN.kNot_, DN.kYes_, DN.fCall_, DN.gA_, DN.gAo_, DN.snaps_n, DN.snaps_c, DN.snapsC_, DN.arg1_, DN.arg12_1, DN.arg12_2, DN.arg2_, DN.onlyIf_t, DN.fCallD_, DN.fMeth_, DN.onT_, DN.onTo_, DN.gM_, DN.gMo_, DN.clsV_r, DN.clsC_lst, DN.clsC_ob, DN.clsV_obj, DN.clsV_int, DN.clsV_bl, DN.clsV_str, DN.clsV_non, DN.clsV_lst, DN.clsV_tup, DN.clsV_scr, DN.fLenD_, DN.lenR_, DN.lenC_n, DN.lenC_s, DN.fIxD_, DN.ixR_, DN.ixC_n, DN.ixC_s, DN.okR_ok, DN.fEqD_, DN.fMethD_, DN.fPropD_, DN.fMakeD_, DN.isi_int_int, DN.isi_int_bool, DN.isi_int_str, DN.isi_str_str, DN.isi_str_int, DN.isi_lst_lst, DN.isi_lst_str, DN.isi_tup_str, DN.isi_tup_tup, DN.isi_lst_lt, DN.isi_tup_lt, DN.isi_str_lt, DN.methR_, DN.methP_, DN.askT_, DN.askP_, DN.fAsk1_, DN.ask1R_, DN.ask1P_, DN.at_cons, beq_self_eq_true, DN.eqR_int, DN.eqR_bl, DN.eqR_str, DN.eqR_lst, DN.eqR_tup, DN.eqR_non, DN.onlyV_bl, DN.onlyV_str, DN.fStrD_, DN.strR_, DN.strC_n, DN.strC_s, DN.fChain_, DN.fSl_, DN.fNoPart_, DN.fPart_, DN.partR_, DN.fDisp_, DN.gSl_lst, DN.gSl_tup, DN.fMut_, DN.gMu_, DN.muC_, DN.muP_, DN.isT_str, DN.isT_lst, DN.gClear_, DN.fCMeth_, DN.cmR_, DN.fMakeL_, DN.mkLR_, DN.makeR_ok, List.append_nil, DN.vB_, DN.vI_, DN.vS_, DN.vT_, DN.nL_, DN.vD_, DN.startE_, DN.outS_nx, DN.outS_rt, DN.outS_ex, List.map, List.nil_append, List.cons_append, List.length_cons, List.length_nil, List.replicate, List.getElem?_cons_zero, List.getElem?_cons_succ, List.getElem?_nil, List.set_cons_zero, List.set_cons_succ, if_true, if_false, ite_true, ite_false, Bool.not_true, Bool.not_false, Bool.false_eq_true, Bool.and_true, Bool.true_and, Bool.or_false, Bool.false_or, Nat.add_sub_cancel, Nat.zero_add, Nat.reduceSub, Nat.reduceAdd, $ls,*])
namespace DN
open PySem L2
/-- a comprehension that changes nothing, all items kept -/
theorem fLc_map {fi : FI} {i : Nat} {fe : FE} {vs : List Nat} {env : Env} {S : Sto} {t : Its} (g : Dv → Dv) (hi : fi env S = .ok S t) (hk : lockOk t S = true) (hl : t.1.length ≤ 100000)
    (h : ∀ d ∈ t.1, Got (fe ((wipeE env vs).set i (.v (.d d))) S) S (.d (g d))) : fLc fi (tgN i) kYes fe vs env S = .ok S (.new (.lst (t.1.map g))) := by
  have := fLc_pure (fi := fi) (tg := tgN i) (ft := kYes) (fe := fe) (vs := vs) (env := env) (p := fun _ => true) g hi hk hl fun d hd => ⟨_, rfl, rfl, fun _ => h d hd⟩
  rw [this, List.filter_eq_self.mpr fun _ _ => rfl]
theorem strs_map : ∀ (ws : List Str), strs? (ws.map .str) = some ws
  | [] => rfl
  | w :: ws => by simp only [List.map, strs?, strs_map ws]
theorem okN_str {n : Nat} {s : Str} : okN n (.str s) = PyData.strOk s := by cases n <;> rfl
theorem okN_int {n : Nat} {s : Int} : okN n (.int s) = true := by cases n <;> rfl
mutual
theorem eqD_refl : ∀ {n : Nat} {d : Dv}, okN n d = true → eqD d d = true
  | _, .non, _ => rfl
  | _, .bl _, _ => by simp [eqD]
  | _, .int _, _ => by simp [eqD]
  | _, .str _, _ => by simp [eqD]
  | n + 1, .lst l, h => by simp only [eqD]; exact eqDs_refl (n := n) h
  | n + 1, .tup l, h => by simp only [eqD]; exact eqDs_refl (n := n) h
  | 0, .lst l, h => by simp [okN] at h
  | 0, .tup l, h => by simp [okN] at h
  | n, .ty _, h => by cases n <;> simp [okN] at h
  | n, .cls _, h => by cases n <;> simp [okN] at h
  | n, .obj _ _, h => by cases n <;> simp [okN] at h
  | n, .dic _ _ _, h => by cases n <;> simp [okN] at h
  | n, .scr _, h => by cases n <;> simp [okN] at h
  | n, .ktp _, h => by cases n <;> simp [okN] at h
theorem eqDs_refl : ∀ {n : Nat} {l : List Dv}, okNs n l = true → eqDs l l = true
  | _, [], _ => rfl
  | n, d :: l, h => by
    have h' : okN n d = true ∧ okNs n l = true := by simpa [okNs] using h
    simp only [eqDs]
    rw [eqD_refl h'.1, eqDs_refl h'.2]; rfl
end
theorem gEq_refl {d : Dv} (h : okN 60 d = true) : gEq d d = vB true := by
  unfold gEq
  rw [h, eqD_refl h]; rfl
theorem gNe_refl {d : Dv} (h : okN 60 d = true) : gNe d d = vB false := by
  unfold gNe
  rw [h, eqD_refl h]; rfl
theorem gEq_int {i j : Int} : gEq (.int i) (.int j) = vB (decide (i = j)) := by
  show onlyIf (okN 60 (.int i) && okN 60 (.int j)) (vB (i == j)) = _
  rw [okN_int, okN_int]
  by_cases h : i = j
  · simp [onlyIf, h]
  · simp [onlyIf, h, beq_false_of_ne h]
theorem atI_nat {β : Type} {l : List β} {i : Nat} {x : β} (h : l[i]? = some x) : atI l (i : Int) = some x := by
  have hl := (List.getElem?_eq_some_iff.mp h).1
  have : ixN l.length (i : Int) = some i := by
    unfold ixN
    rw [if_pos (by omega), if_pos (by omega)]
    simp
  unfold atI
  rw [this]
  exact h
theorem gIx_lst {l : List Dv} {i : Nat} {x : Dv} (h : l[i]? = some x) : gIx (.lst l) (.int i) = vD x := by
  show (match atI l (i : Int) with | some d => vD d | none => none) = _
  rw [atI_nat h]
theorem gIx_tup {l : List Dv} {i : Nat} {x : Dv} (h : l[i]? = some x) : gIx (.tup l) (.int i) = vD x := by
  show (match atI l (i : Int) with | some d => vD d | none => none) = _
  rw [atI_nat h]
theorem gIx_scr {l : List Int} {i : Nat} {x : Int} (h : l[i]? = some x) : gIx (.scr l) (.int i) = vI x := by
  show (match atI l (i : Int) with | some d => vI d | none => none) = _
  rw [atI_nat h]
theorem gIx_str {s : Str} {i : Nat} {c : Nat} (hl : s.length ≤ 100000) (h : s.cps.toList[i]? = some c) : gIx (.str s) (.int i) = vS ⟨#[c]⟩ := by
  show (if s.length ≤ 100000 then (match atI s.cps.toList (i : Int) with | some c => vS ⟨#[c]⟩ | none => none) else none) = _
  rw [if_pos hl, atI_nat h]
theorem gLen_scr {l : List Int} : gLen [.scr l] = vI l.length := rfl
theorem gLt_ {i j : Int} : gLt (.int i) (.int j) = vB (decide (i < j)) := rfl
theorem gGt_ {i j : Int} : gGt (.int i) (.int j) = vB (decide (i > j)) := rfl
theorem gAdd_ {i j : Int} : gAdd (.int i) (.int j) = vI (i + j) := rfl
theorem gSub_ {i j : Int} : gSub (.int i) (.int j) = vI (i - j) := rfl
theorem gInt_ {i : Int} : gInt [.int i] = vI i := rfl
theorem gMax2_ {i j : Int} : gMax [.int i, .int j] = gMax2 (.int i) (.int j) := rfl
theorem gMin2_ {i j : Int} : gMin [.int i, .int j] = gMin2 (.int i) (.int j) := rfl
theorem iRange1_ {fa : FA} {env : Env} {S : Sto} {n : Nat} (h : fa env S = .ok S [.d (.int n)]) (hn : n ≤ 1000000) : iRange1 fa env S = .ok S ((List.range n).map fun i : Nat => Dv.int i, none) := by
  unfold iRange1
  rw [h]
  show rng1 S (some (n : Int)) = _
  unfold rng1
  have : smallR (n : Int) = true := by unfold smallR; rw [decide_eq_true (by omega), decide_eq_true (by omega)]; rfl
  simp only [this, if_true]
  unfold rangeD
  congr 2
  simp
end DN
namespace DN
open PySem L2
abbrev box (a b c : Int) : Cell := .lst [.int a, .int b, .int c]
theorem ix_0 {x : Dv} {l : List Dv} : gIx (.lst (x :: l)) (.int 0) = vD x := gIx_lst (i := 0) rfl
theorem ix_1 {x y : Dv} {l : List Dv} : gIx (.lst (x :: y :: l)) (.int 1) = vD y := gIx_lst (i := 1) rfl
theorem ix_2 {x y z : Dv} {l : List Dv} : gIx (.lst (x :: y :: z :: l)) (.int 2) = vD z := gIx_lst (i := 2) rfl
theorem gMod_ {i j : Int} (h : 0 < j) : gMod (.int i) (.int j) = vI (i.fmod j) := by
  show onlyIf (decide (j ≠ 0)) _ = _
  rw [decide_eq_true (by omega)]; rfl
theorem gDiv_ {i j : Int} (h : 0 < j) (h2 : j < 1073741824) : gDiv (.int i) (.int j) = vI (i.fdiv j) := by
  show onlyIf (decide (j ≠ 0) && decide (j.natAbs < 1073741824)) _ = _
  rw [decide_eq_true (by omega), decide_eq_true (by omega)]; rfl
theorem gMul_ {i j : Int} (h : -(2 ^ 64) < i) (h2 : i < 2 ^ 64) : gMul (.int i) (.int j) = vI (i * j) := by
  show onlyIf (small64 i || small64 j) _ = _
  have : small64 i = true := by unfold small64; rw [decide_eq_true h, decide_eq_true h2]; rfl
  rw [this]; rfl
theorem gPow_ {i : Int} {j : Nat} (h : i.natAbs < 2 ^ 64) (h2 : j ≤ 1000000) : gPow (.int i) (.int j) = vI (i ^ j) := by
  show onlyIf (decide (0 ≤ (j : Int)) && decide ((j : Int) ≤ 1000000) && decide (i.natAbs < 2 ^ 64)) _ = _
  rw [decide_eq_true (by omega), decide_eq_true (by omega), decide_eq_true h]; rfl
theorem exit_d {k : Nat} {S : Sto} {d : Dv} : exitR k (.ok S (.val (.d d))) = .ok (S.take k) (.val (.d d)) := rfl
theorem set_ix {T : Sto} {n k : Nat} {l : List Dv} {v : Dv} {env : Env} (h : T[n]? = some (.lst l)) (hk : k < l.length) : setIx env T (.r n) (.d (.int k)) (.d v) = .nx env (T.set n (.lst (l.set k v))) := by
  have e : ixN l.length (k : Int) = some k := by
    unfold ixN
    rw [if_pos (by omega), if_pos (by omega)]
    simp
  show (match T[n]? with | some c => (match putC c (.int k) v with | some c2 => RS.nx env (T.set n c2) | none => .no) | none => .no) = _
  rw [h]
  show (match (match ixN l.length (k : Int) with | some j => some (Cell.lst (l.set j v)) | none => none) with | some c2 => RS.nx env (T.set n c2) | none => .no) = _
  rw [e]
theorem set_ix0 {T : Sto} {n : Nat} {x v : Dv} {l : List Dv} {env : Env} (h : T[n]? = some (.lst (x :: l))) : setIx env T (.r n) (.d (.int 0)) (.d v) = .nx env (T.set n (.lst (v :: l))) := set_ix (k := 0) h (by simp)
theorem set_ix2 {T : Sto} {n : Nat} {x y z v : Dv} {l : List Dv} {env : Env} (h : T[n]? = some (.lst (x :: y :: z :: l))) : setIx env T (.r n) (.d (.int 2)) (.d v) = .nx env (T.set n (.lst (x :: y :: v :: l))) := set_ix (k := 2) h (by simp)
theorem take_set {T : Sto} {n : Nat} {c : Cell} : (T.set n c).take T.length = T.set n c := List.take_of_length_le (by simp)
theorem get_set {T : Sto} {n : Nat} {c d : Cell} (h : T[n]? = some d) : (T.set n c)[n]? = some c := List.getElem?_set_self (List.getElem?_eq_some_iff.mp h).1
/-- the box at cell n, after at most m turns of the small numbers -/
def BxC (B : Int) (m : Nat) (k : Cell) : Prop := ∃ a b c : Int, k = box a b c ∧ 0 ≤ b ∧ b < B ∧ 0 ≤ c ∧ c ≤ m
theorem BxC.le {B : Int} {n m : Nat} {k : Cell} (h : BxC B n k) (l : n ≤ m) : BxC B m k := by
  obtain ⟨a, b, c, rfl, h1, h2, h3, h4⟩ := h
  exact ⟨a, b, c, rfl, h1, h2, h3, by omega⟩
section
variable {fa : FE} {fl : FA} {ft : FT} {fe : FE} {vs : List Nat} {env : Env} {S : Sto} {i n : Nat}
theorem range_1 (h : fl env S = .ok S [.d (.int n)]) (hn : n ≤ 100000) : iRange1 fl env S = .ok S ((List.range n).map fun i : Nat => Dv.int i, none) := iRange1_ h (by omega)
theorem fLc_rg (g : Nat → Dv) (h1 : fl env S = .ok S [.d (.int n)]) (hn : n ≤ 100000)
    (h : ∀ k, k < n → Got (fe ((wipeE env vs).set i (.v (.d (.int k)))) S) S (.d (g k))) : fLc (iRange1 fl) (tgN i) kYes fe vs env S = .ok S (.new (.lst ((List.range n).map g))) := by
  have := fLc_map (fi := iRange1 fl) (fe := fe) (vs := vs) (env := env) (S := S) (i := i) (fun d => match d with | .int s => g s.toNat | _ => .non) (range_1 h1 hn) rfl (by simpa using hn) (fun x hx => by
    obtain ⟨s, hs, rfl⟩ := List.mem_map.mp hx
    exact h s (List.mem_range.mp hs))
  rw [this, List.map_map]
  rfl
end
theorem lc_ix {t : Its} {tg : FG} {ft : FT} {fe : FE} {env : Env} (I : Nat → Sto → Prop) (P : Nat → Dv → Prop) (ht : t.2 = none) : ∀ {l acc : List Dv} {i : Nat} {S : Sto}, I i S →
    (∀ k d S, l[k]? = some d → I (i + k) S → ∃ env' S' y, tg d env = some env' ∧ ft env' S = .ok S true ∧ Got (fe env' S) S' (.d y) ∧ I (i + k + 1) S' ∧ P (i + k) y) → acc.length + l.length ≤ 100000 →
    ∃ S' ys, lcGo t tg ft fe env l S acc = .ok S' (acc ++ ys) ∧ I (i + l.length) S' ∧ ys.length = l.length ∧ ∀ k y, ys[k]? = some y → P (i + k) y
  | [], acc, i, S, hI, h, hl => ⟨S, [], by
      have : lockOk t S = true := by unfold lockOk; rw [ht]
      simp [lcGo, this], hI, rfl, fun k y h => by simp at h⟩
  | d :: l, acc, i, S, hI, h, hl => by
    have hk : lockOk t S = true := by unfold lockOk; rw [ht]
    obtain ⟨env', S1, y, h1, h2, h3, h4, h5⟩ := h 0 d S rfl hI
    have hl' : acc.length + l.length + 1 ≤ 100000 := by simpa [Nat.add_assoc] using hl
    obtain ⟨S2, ys, e1, e2, e3, e4⟩ := lc_ix I P ht (l := l) (acc := acc ++ [y]) (i := i + 1) (S := S1) h4 (fun k x S hx hi => by
      have := h (k + 1) x S (by simpa using hx) (by rw [show i + (k + 1) = i + 1 + k by omega]; exact hi)
      rw [show i + (k + 1) + 1 = i + 1 + k + 1 by omega, show i + (k + 1) = i + 1 + k by omega] at this
      exact this) (by simp; omega)
    refine ⟨S2, y :: ys, ?_, by rw [List.length_cons, show i + (l.length + 1) = i + 1 + l.length by omega]; exact e2, by rw [List.length_cons, List.length_cons, e3], fun k z hz => ?_⟩
    · simp only [lcGo, hk, if_true, h1, h2, noex_ok, R.bind]
      have e : (fe env' S).noex.bindV (fun S2 v => onD v fun y => if acc.length < 100000 then lcGo t tg ft fe env l S2 (acc ++ [y]) else .no) = lcGo t tg ft fe env l S1 (acc ++ [y]) := by
        generalize fe env' S = r at h3
        cases h3 with
        | val =>
          simp only [noex_ok, R.bindV, onD]
          rw [if_pos (by omega)]
        | new S c d' hc => rw [noex_ok, bindV_new hc]; simp only [onD]; rw [if_pos (by omega)]
      rw [e, e1]
      simp
    · cases k with
      | zero => simp at hz; subst hz; exact h5
      | succ k =>
        have := e4 k z (by simpa using hz)
        rw [show i + (k + 1) = i + 1 + k by omega]
        exact this
/-- a comprehension over a range that draws -/
theorem fLc_draw {fl : FA} {fe : FE} {vs : List Nat} {env : Env} {S : Sto} {i n : Nat} (I : Nat → Sto → Prop) (P : Nat → Dv → Prop) (h1 : fl env S = .ok S [.d (.int n)]) (hn : n ≤ 100000) (hI : I 0 S)
    (h : ∀ k S, k < n → I k S → ∃ S' y, Got (fe ((wipeE env vs).set i (.v (.d (.int k)))) S) S' (.d y) ∧ I (k + 1) S' ∧ P k y) :
    ∃ S' ys, fLc (iRange1 fl) (tgN i) kYes fe vs env S = .ok S' (.new (.lst ys)) ∧ I n S' ∧ ys.length = n ∧ ∀ k y, ys[k]? = some y → P k y := by
  obtain ⟨S', ys, e1, e2, e3, e4⟩ := lc_ix (t := ((List.range n).map fun i : Nat => Dv.int i, none)) (tg := tgN i) (ft := kYes) (fe := fe) (env := wipeE env vs) I P rfl (l := (List.range n).map fun i : Nat => Dv.int i) (acc := []) (i := 0) hI (fun k d T hd hi => by
    rw [List.getElem?_map] at hd
    cases q : (List.range n)[k]? with
    | none => rw [q] at hd; cases hd
    | some x =>
      rw [q] at hd
      have hx := List.getElem?_eq_some_iff.mp q
      have : x = k := by rw [← hx.2]; simp
      subst this
      cases hd
      have hxn : x < n := by simpa using hx.1
      rw [Nat.zero_add] at hi ⊢
      obtain ⟨S', y, h2, h3, h4⟩ := h x T hxn hi
      exact ⟨_, S', y, rfl, rfl, h2, h3, h4⟩) (by simpa using hn)
  refine ⟨S', ys, ?_, by simpa using e2, by simpa using e3, fun k y hy => by simpa using e4 k y hy⟩
  unfold fLc
  rw [range_1 h1 hn]
  simp only [R.bind]
  rw [e1]
  rfl
theorem all_of_ix {ys : List Dv} {P : Dv → Prop} (h : ∀ (k : Nat) y, ys[k]? = some y → P y) : ∀ y ∈ ys, P y := fun y hy => by
  obtain ⟨k, hk, rfl⟩ := List.mem_iff_getElem.mp hy
  exact h k _ (List.getElem?_eq_getElem hk)
/-- a loop over items that do not change, by an invariant; it runs to its end -/
theorem for_inv {t : Its} {tg : FG} {body : FS} (ht : t.2 = none) : ∀ {l : List Dv} {env : Env} {S : Sto} (I : Nat → Env → Sto → Prop) (j : Nat), I j env S →
    (∀ k d env S, l[k]? = some d → I (j + k) env S → ∃ env1 env' S', tg d env = some env1 ∧ body env1 S = .nx env' S' ∧ I (j + k + 1) env' S') → ∃ env' S', forGo t tg body l env S = .nx env' S' ∧ I (j + l.length) env' S'
  | [], env, S, I, j, hI, _ => ⟨env, S, by
      have : lockOk t S = true := by unfold lockOk; rw [ht]
      simp [forGo, this], hI⟩
  | d :: l, env, S, I, j, hI, h => by
    have hk : lockOk t S = true := by unfold lockOk; rw [ht]
    obtain ⟨env1, env', S', h1, h2, h3⟩ := h 0 d env S rfl hI
    obtain ⟨e2, S2, h4, h5⟩ := for_inv ht (l := l) I (j + 1) h3 (fun k d' e S hd hi => by
      have := h (k + 1) d' e S (by simpa using hd) (by rw [show j + (k + 1) = j + 1 + k by omega]; exact hi)
      rw [show j + (k + 1) + 1 = j + 1 + k + 1 by omega] at this
      exact this)
    refine ⟨e2, S2, ?_, by rw [List.length_cons, show j + (l.length + 1) = j + 1 + l.length by omega]; exact h5⟩
    simp only [forGo, hk, if_true, h1, h2, h4]
/-- over a range -/
theorem for_rg {fl : FA} {body : FS} {env : Env} {S : Sto} {i n : Nat} (I : Nat → Env → Sto → Prop) (h1 : fl env S = .ok S [.d (.int n)]) (hn : n ≤ 100000) (h0 : I 0 env S)
    (h : ∀ k env S, k < n → I k env S → ∃ env' S', body (env.set i (.v (.d (.int k)))) S = .nx env' S' ∧ I (k + 1) env' S') : ∃ env' S', kFor (iRange1 fl) (tgN i) body env S = .nx env' S' ∧ I n env' S' := by
  obtain ⟨e, S', h2, h3⟩ := for_inv (t := ((List.range n).map fun i : Nat => Dv.int i, none)) (tg := tgN i) (body := body) rfl (l := (List.range n).map fun i : Nat => Dv.int i) (env := env) (S := S) I 0 h0 (fun k d e T hd hi => by
    rw [List.getElem?_map] at hd
    cases q : (List.range n)[k]? with
    | none => rw [q] at hd; cases hd
    | some x =>
      rw [q] at hd
      have hx := List.getElem?_eq_some_iff.mp q
      have : x = k := by rw [← hx.2]; simp
      subst this
      cases hd
      have hxn : x < n := by simpa using hx.1
      rw [Nat.zero_add] at hi ⊢
      obtain ⟨e', T', h4, h5⟩ := h x e T hxn hi
      exact ⟨_, e', T', rfl, h4, h5⟩)
  refine ⟨e, S', ?_, by simpa using h3⟩
  unfold kFor
  rw [range_1 h1 hn]
  exact h2
theorem get_last {S : Sto} {c : Cell} : (S ++ [c])[List.length S]? = some c := by simp
theorem set_last {S : Sto} {c d : Cell} : (S ++ [c]).set (List.length S) d = S ++ [d] := by
  rw [List.set_append_right _ _ (Nat.le_refl _), Nat.sub_self]
  rfl
/-- a is a list or a tuple of the items ds, in the state S -/
structure Sq (S : Sto) (a : Vr) (ds : List Dv) : Prop where
  it : ∃ t, itOf S a = .ok S t ∧ t.1 = ds ∧ lockOk t S = true
  sn : ∃ d, snap S a = some d ∧ (∀ cs, gIsi cs d (.tup [.ty "list", .ty "tuple"]) = vB true) ∧ gLen [d] = vI ds.length ∧ gTuple [d] = vT ds ∧ gList [d] = nL ds ∧ ∀ i : Nat, ∀ x, ds[i]? = some x → gIx d (.int i) = vD x
  cl : clsV S a = none
theorem Sq.lst {S : Sto} {ds : List Dv} : Sq S (.d (.lst ds)) ds := ⟨⟨(ds, none), rfl, rfl, rfl⟩, ⟨.lst ds, rfl, fun _ => rfl, rfl, rfl, rfl, fun i x h => gIx_lst h⟩, rfl⟩
theorem Sq.tup {S : Sto} {ds : List Dv} : Sq S (.d (.tup ds)) ds := ⟨⟨(ds, none), rfl, rfl, rfl⟩, ⟨.tup ds, rfl, fun _ => rfl, rfl, rfl, rfl, fun i x h => gIx_tup h⟩, rfl⟩
theorem Sq.cell {S : Sto} {n : Nat} {ds : List Dv} (h : S[n]? = some (.lst ds)) : Sq S (.r n) ds := by
  refine ⟨⟨(ds, some n), ?_, rfl, ?_⟩, ⟨.lst ds, ?_, fun _ => rfl, rfl, rfl, rfl, fun i x h => gIx_lst h⟩, ?_⟩
  · simp [itOf, h]
  · simp [lockOk, h, beqDs_refl]
  · simp [snap, h]
  · simp [clsV, h]
theorem app_tl (a b : Str) : (a ++ b).cps.toList = a.cps.toList ++ b.cps.toList := by
  show (a.cps ++ b.cps).toList = _
  simp
theorem str_ext {a b : Str} (h : a.cps.toList = b.cps.toList) : a = b := by
  cases a; cases b
  congr
  exact Array.toList_inj.mp h
end DN
namespace DN
open PySem PySem.Spec PyProof.Rows L2 Evl
end DN
namespace DN
open PySem PySem.Spec PyProof.Rows L2 Evl
end DN
namespace DN
open PySem PySem.Spec PyProof.Rows L2 Evl
def cd2 (p : Int × Int) : Int := p.1 * 64 + p.2
section
variable {Z : Zx} {X : Cx} {Ew : L2.St → XK} {S : Sto} {G H : Hp} {α : List Addr} {Q : VK} {E : XK}
def rSetQ (K : PySem.W.Frag) (P : Program) (w : World) : List V → Hp → VK → Prop := fun xs H Q => ∃ (l : Addr) (ks : List (Addr × List Int)), xs = [V.ref l] ∧ (SqL K H l (ks.map fun p => V.ref p.1) ∨ SqT K H l (ks.map fun p => V.ref p.1)) ∧ (∀ p ∈ ks, SqT K H p.1 (p.2.map V.int)) ∧ ks.length < 64 ∧
  ∀ a L, H a = none → (∀ p ∈ L, p ∈ ks) → (∀ p ∈ ks, p.2 ∈ L.map (·.2)) → Q (.ref a) (upd H a (SetTO P w a L))
theorem rSetQ.imp {xs : List V} {Q Q' : VK} {K : PySem.W.Frag} {P : Program} {w : World} (h : rSetQ K P w xs H Q) (k : ∀ v H, Q v H → Q' v H) : rSetQ K P w xs H Q' := by
  obtain ⟨l, ks, h1, h2, h3, h4, h5⟩ := h
  exact ⟨l, ks, h1, h2, h3, h4, fun a L x y z => k _ _ (h5 a L x y z)⟩
end
end DN
namespace DN
open PySem PySem.Spec PyProof.Rows L2 Evl
end DN
namespace DN
open PySem PySem.Spec PyProof.Rows L2 Evl
section
variable {Z : Zx} {X : Cx} {Ew : L2.St → XK} {S : Sto} {G H : Hp} {α : List Addr} {Q : VK} {E : XK}
theorem tkey_on {d : Dv} {κ : List Key} {x : V} (h : tkey? d = some κ) (o : On Z G d x) : ∃ b, x = .ref b ∧ G b = some (.tup (κ.map kV)) := by
  cases d with
  | tup l =>
    unfold On at o
    obtain ⟨b, xs, rfl, h1, h2⟩ := o
    have ex := keys_on h2 h
    subst ex
    exact ⟨b, rfl, h1⟩
  | _ => cases h
end
end DN
namespace DN
open PySem PySem.Spec PyProof.Rows L2 Evl
end DN
namespace DN
open PySem PySem.Spec PyProof.Rows L2 Evl
end DN
namespace DN
open PySem PySem.Spec PyProof.Rows L2 Evl
section
variable {Z : Zx} {W : WX} {X : Cx} {Ew : L2.St → XK} {G H G2 H2 : Hp} {α α2 : List Addr} {S : Sto}
/-- rows of ours -/
structure Rws (Z : Zx) (G : Hp) (α : List Addr) (H0 H : Hp) (bs : List Addr) (rows : List (List Dv)) : Prop where
  len : bs.length = rows.length
  nd : bs.Nodup
  at_ : ∀ (k : Nat) row, rows[k]? = some row → ∃ b ys, bs[k]? = some b ∧ G b = none ∧ b ∉ α ∧ H0 b = none ∧ H b = some (.lst ys) ∧ OnL Z G row ys
theorem Rws.mem {H0 : Hp} {bs : List Addr} {rows : List (List Dv)} (h : Rws Z G α H0 H bs rows) {b : Addr} (hb : b ∈ bs) : G b = none ∧ b ∉ α ∧ H0 b = none ∧ H b ≠ none := by
  obtain ⟨k, hk, rfl⟩ := List.mem_iff_getElem.mp hb
  have hk' : k < rows.length := by rw [← h.len]; exact hk
  obtain ⟨c, ys, h1, h2, h3, h4, h5, _⟩ := h.at_ k rows[k] (List.getElem?_eq_getElem hk')
  rw [List.getElem?_eq_getElem hk] at h1
  cases h1
  exact ⟨h2, h3, h4, by rw [h5]; exact fun e => nomatch e⟩
end
end DN
namespace DN
open PySem PySem.Spec PyProof.Rows L2 Evl
end DN
namespace DN
open PySem PySem.Spec PyProof.Rows L2 Evl
section
variable {Z : Zx} {X : Cx} {Ew : L2.St → XK} {S : Sto} {G H : Hp} {α : List Addr} {Q : VK} {E : XK}
def fDNew (t : Bool) : FE := fun _ S => .ok S (.new (.dc t [] []))
theorem pf_dnewK {pos : Pos} : PF Z Ew X (.Dict [] [] pos) (fDNew false) := ⟨_, pe_dnewK, fun env σ G α S H Q hd oe w p hp => Wk.fresh (c := .dc false [] []) w hd hp ⟨[], ⟨[], rfl, rfl⟩, rfl, OnL.nil'⟩⟩
end
def hits (t : Bool) (k : Dv) (ks : List Dv) : Bool := ks.any fun a => kHit t a k
def dPutK (t : Bool) (k : Dv) (ks : List Dv) : List Dv := if hits t k ks then ks else ks ++ [k]
def dPutV (t : Bool) (k v : Dv) (ks vs : List Dv) : List Dv := if hits t k ks then List.zipWith (fun a w => if kHit t a k then v else w) ks vs else vs ++ [v]
def setDx (env : Env) (S : Sto) (o i v : Vr) : RS := match o, i, v with
  | .r n, .d k, .d v => (match S[n]? with
    | some (.dc t ks vs) => if isKey t k = true ∧ ks.length < 100000 then .nx env (S.set n (.dc t (dPutK t k ks) (dPutV t k v ks vs))) else .no
    | _ => .no)
  | _, _, _ => .no
def kDPut (fo fi fv : FE) : FS := fun env S => sV env (fv env S) fun S1 v => sV env (fo env S1) fun S2 o => sV env (fi env S2) fun S3 i => setDx env S3 o i v
theorem put_zip {κ : Type} [DecidableEq κ] {k : κ} {v : V} : ∀ {kk : List κ} {ws : List V}, kk.length = ws.length →
    putK (kk.zip ws) k v = (if (kk.any fun a => decide (a = k)) then kk else kk ++ [k]).zip (if (kk.any fun a => decide (a = k)) then List.zipWith (fun a w => if a = k then v else w) kk ws else ws ++ [v]) := by
  intro kk ws hl
  have e : ((kk.zip ws).any fun kv => decide (kv.1 = k)) = kk.any fun a => decide (a = k) := by
    rw [show (fun kv : κ × V => decide (kv.1 = k)) = (fun a => decide (a = k)) ∘ Prod.fst from rfl, ← List.any_map, List.map_fst_zip (by omega)]
  unfold putK
  rw [e]
  by_cases c : (kk.any fun a => decide (a = k)) = true
  · rw [if_pos c, if_pos c, if_pos c]
    clear e c
    induction kk generalizing ws with
    | nil => simp
    | cons a kk ih =>
      cases ws with
      | nil => simp at hl
      | cons w ws =>
        simp only [List.zip_cons_cons, List.map_cons, List.zipWith_cons_cons]
        rw [ih (by simpa using hl)]
        by_cases q : a = k <;> simp [q]
  · rw [if_neg c, if_neg c, if_neg c, List.zip_append hl]
    rfl
section
variable {Z : Zx} {G : Hp}
theorem hits_any {κ : Type} [DecidableEq κ] {f : Dv → Option κ} {k : Dv} {k' : κ} {t : Bool} (hg : ∀ a b, f a = some b → kHit t a k = decide (b = k')) : ∀ {ks : List Dv} {kk : List κ}, ks.map f = kk.map some → hits t k ks = kk.any fun a => decide (a = k')
  | [], kk, e => by
    cases kk with
    | nil => rfl
    | cons k kk => cases e
  | d :: ks, kk, e => by
    cases kk with
    | nil => cases e
    | cons b kk =>
      rw [List.map_cons, List.map_cons] at e
      injection e with e1 e2
      have ih := hits_any hg e2
      unfold hits at ih ⊢
      rw [List.any_cons, List.any_cons, hg d b e1, ih]
theorem zipW_on {κ : Type} [DecidableEq κ] {f : Dv → Option κ} {k v : Dv} {x : V} {k' : κ} {t : Bool} (hg : ∀ a b, f a = some b → kHit t a k = decide (b = k')) (hv : On Z G v x) : ∀ {ks : List Dv} {kk : List κ} {vs : List Dv} {ws : List V}, ks.map f = kk.map some → OnL Z G vs ws →
    OnL Z G (List.zipWith (fun a w => if kHit t a k then v else w) ks vs) (List.zipWith (fun a w => if a = k' then x else w) kk ws)
  | [], kk, vs, ws, e, o => by
    cases kk with
    | nil => simp; exact OnL.nil'
    | cons k kk => cases e
  | d :: ks, kk, vs, ws, e, o => by
    cases kk with
    | nil => cases e
    | cons b kk =>
      rw [List.map_cons, List.map_cons] at e
      injection e with e1 e2
      cases vs with
      | nil => rw [OnL.nil.mp o]; simp; exact OnL.nil'
      | cons u vs =>
        obtain ⟨y, ys, rfl, o1, o2⟩ := OnL.cons.mp o
        have ih := zipW_on hg hv e2 o2
        rw [List.zipWith_cons_cons, List.zipWith_cons_cons, hg d b e1]
        refine OnL.cons' ?_ ih
        by_cases q : b = k'
        · rw [decide_eq_true q, if_pos rfl, if_pos q]; exact hv
        · rw [decide_eq_false q, if_neg Bool.false_ne_true, if_neg q]; exact o1
theorem putV_on {κ : Type} [DecidableEq κ] {f : Dv → Option κ} {k v : Dv} {x : V} {k' : κ} {t : Bool} (hg : ∀ a b, f a = some b → kHit t a k = decide (b = k')) (hk : f k = some k') (hv : On Z G v x) {ks : List Dv} {kk : List κ} {vs : List Dv} {ws : List V} (e : ks.map f = kk.map some) (o : OnL Z G vs ws) (hl : kk.length = ws.length) :
    ∃ (kk' : List κ) (ws' : List V), (dPutK t k ks).map f = kk'.map some ∧ OnL Z G (dPutV t k v ks vs) ws' ∧ kk'.length = ws'.length ∧ putK (kk.zip ws) k' x = kk'.zip ws' := by
  have eh := hits_any hg e
  unfold dPutK dPutV
  rw [eh, put_zip hl]
  by_cases c : (kk.any fun a => decide (a = k')) = true
  · rw [c, if_pos rfl, if_pos rfl, if_pos rfl, if_pos rfl]
    exact ⟨_, _, e, zipW_on hg hv e o, by simp [hl], rfl⟩
  · rw [Bool.not_eq_true] at c
    rw [c, if_neg Bool.false_ne_true, if_neg Bool.false_ne_true, if_neg Bool.false_ne_true, if_neg Bool.false_ne_true]
    exact ⟨_, _, by rw [List.map_append, List.map_append, e, List.map_cons, hk]; rfl, o.app (OnL.cons' hv OnL.nil'), by simp [hl], rfl⟩
end
section
variable {Z : Zx} {W : WX} {X : Cx} {pos p' : Pos} {o i e : Expr} {fo fi fe : FE}
theorem psf_dput (hu : X.A.units + 1 < cLine) (ho : PF Z (WE W) X o fo) (hi : PF Z (WE W) X i fi) (he : PF Z (WE W) X e fe) (hs : swapsWith e (some (.Subscript o i p')) pos.line X.env = pure false := by rfl) : PSF Z W X (.Assign [.Subscript o i p'] e pos) (kDPut fo fi fe) := by
  refine .of (ps_dput hu ho.pe hi.pe he.pe hs) fun env σ G α S H D hd oe w => se_tF.bindS hd oe w fun S2 dv v H2 G2 α2 _ f2 hd2 oe2 ov w2 => ?_
  refine se_tF.bindS hd2 oe2 w2 fun S3 d3 o3 H3 G3 α3 _ f3 hd3 oe3 ov3 w3 => se_tF.bindS hd3 oe3 w3 fun S4 d4 i4 H4 G4 α4 _ f4 hd4 oe4 ov4 w4 => ?_
  cases d3 with
  | d _ => exact w4.elim
  | r n =>
    cases d4 with
    | r _ => exact w4.elim
    | d k =>
      cases dv with
      | r _ => exact w4.elim
      | d dv =>
        obtain ⟨a, rfl, ha3⟩ := ov3
        have ha4 := f4.a.get ha3
        have ovv : On Z G4 dv v := (On.up f3.g (show On Z G2 dv v from ov)).up f4.g
        have ok4 : On Z G4 k i4 := ov4
        cases q : S4[n]? with
        | none => simp only [setDx, q] at w4; exact w4.elim
        | some c =>
          cases c with
          | dc t ks vs =>
            simp only [setDx, q] at w4
            by_cases hc : isKey t k = true ∧ ks.length < 100000
            · rw [if_pos hc] at w4
              have w4 : WkS Z (RS.nx env (S4.set n (.dc t (dPutK t k ks) (dPutV t k dv ks vs)))) G4 α4 H4 D W := w4
              obtain ⟨ws, e1, e2, e3⟩ := (show CellAt Z G4 (.dc t ks vs) (H4 a) from (hd4.at_ n a _ ha4 q).2)
              have hz : ∀ m, m = ks.length → m < sizeLine := fun m e => by rw [e, sizeLine_eq]; omega
              cases t with
              | false =>
                obtain ⟨kk, g1, g2⟩ := e1
                have lk : kk.length = ks.length := by have := congrArg List.length g1; simpa using this.symm
                cases qk : key? k with
                | none => simp [isKey, qk] at hc
                | some κ =>
                  have ei : i4 = kV κ := key_on (H := H4) (ok4.h hd4.ex) qk
                  subst ei
                  obtain ⟨kk', ws', p1, p2, p3, p4⟩ := putV_on (t := false) (f := key?) (fun a b e => by
                    show decide (key? a = key? k) = _
                    rw [e, qk, decide_eq_decide, Option.some.injEq]) qk ovv g1 e3 (by omega)
                  obtain ⟨hd5, f5⟩ := hd4.put (c2 := .dc false (dPutK false k ks) (dPutV false k dv ks vs)) (o := .dK (kk'.zip ws')) ha4 q (fun c => nomatch c) ⟨ws', ⟨kk', p1, rfl⟩, by have := congrArg List.length p1; simp only [List.length_map] at this; omega, p2⟩
                  refine ⟨a, _, rfl, DPut.k g2 (by rw [List.length_zip]; exact hz _ (by omega)), ?_⟩
                  rw [p4]
                  exact w4 _ _ _ _ f5 hd5 (oe4.up f5.g f5.a)
              | true =>
                obtain ⟨kk, g1, g2⟩ := e1
                have lk : kk.length = ks.length := by have := congrArg List.length g1; simpa using this.symm
                cases qk : tkey? k with
                | none => simp [isKey, qk] at hc
                | some κ =>
                  obtain ⟨b, rfl, hb⟩ := tkey_on qk ok4
                  obtain ⟨kk', ws', p1, p2, p3, p4⟩ := putV_on (t := true) (f := tkey?) (fun a b e => by
                    show decide (tkey? a = tkey? k) = _
                    rw [e, qk, decide_eq_decide, Option.some.injEq]) qk ovv g1 e3 (by omega)
                  obtain ⟨hd5, f5⟩ := hd4.put (c2 := .dc true (dPutK true k ks) (dPutV true k dv ks vs)) (o := .dT (kk'.zip ws')) ha4 q (fun c => nomatch c) ⟨ws', ⟨kk', p1, rfl⟩, by have := congrArg List.length p1; simp only [List.length_map] at this; omega, p2⟩
                  refine ⟨a, _, rfl, DPut.t g2 (hd4.ex _ _ hb) (by rw [List.length_zip]; exact hz _ (by omega)), ?_⟩
                  rw [p4]
                  exact w4 _ _ _ _ f5 hd5 (oe4.up f5.g f5.a)
            · rw [if_neg hc] at w4; exact w4.elim
          | lst l => simp only [setDx, q] at w4; exact w4.elim
          | ob c l => simp only [setDx, q] at w4; exact w4.elim
          | dead => simp only [setDx, q] at w4; exact w4.elim
          | tab l => simp only [setDx, q] at w4; exact w4.elim
end
end DN
namespace DN
open PySem PySem.Spec PyProof.Rows L2 Evl
end DN
namespace DN
open PySem PySem.Spec PyProof.Rows L2 Evl
end DN
namespace DN
open PySem PySem.Spec PyProof.Rows L2 Evl
open Sem (wp)
abbrev EnX (h : Heap) (e it : Addr) (i : Int) (old : Value) (a : Addr) (f : Bool) : Prop :=
  h.get? e = some { cls := .type "enumerate", dict := none, data := .fields #[rawInt a, .bool f, .ref it, rawInt i, .none, old], slots := #[] }
section
variable {prog : Program} {w : World} {A : Around} {E : Value → Shared → Prop} {s : Shared}
/-- where the walk stands -/
def EnSt (h : Heap) (e it S : Addr) (i : Nat) : Prop := (i = 0 ∧ ∃ old, IsEnum h e it 0 old) ∨ ∃ old a f oa, EnX h e it i old a f ∧ h.get? a = some oa ∧ a ≠ e ∧ a ≠ it ∧ a ≠ S
theorem EnSt.keep {h h' : Heap} {e it S : Addr} {i : Nat} (x : EnSt h e it S i) (hk : ∀ b o, b ≠ S → h.get? b = some o → h'.get? b = some o) (he : e ≠ S) : EnSt h' e it S i := by
  rcases x with ⟨e1, old, hit⟩ | ⟨old, a, f, oa, hit, ha, h1, h2, h3⟩
  · exact .inl ⟨e1, old, hk _ _ he hit⟩
  · exact .inr ⟨old, a, f, oa, hk _ _ he hit, hk _ _ h3 ha, h1, h2, h3⟩
structure EnG (items : Array Value) (lo : Addr) (h : Heap) (as : List Addr) : Prop where
  rise : as.Pairwise (· < ·)
  above : ∀ a ∈ as, lo < a
  pairs : ∀ (j : Nat) (a : Addr), as[j]? = some a → ∃ t x, items[j]? = some x ∧ h.get? a = some { cls := .type "tuple", data := .seq #[.int j t, x] }
theorem EnG.there {items : Array Value} {lo : Addr} {h : Heap} {as : List Addr} (g : EnG items lo h as) {a : Addr} (ha : a ∈ as) : a < h.objs.size := by
  obtain ⟨j, hj⟩ := List.mem_iff_getElem?.mp ha
  obtain ⟨_, _, _, e⟩ := g.pairs j a hj
  exact Heap.lt_size e
end
end DN
namespace DN
open PySem PySem.Spec PyProof.Rows L2 Evl
end DN
namespace DN
open PySem PySem.Spec PyProof.Rows L2 Evl
end DN
namespace DN
open PySem PySem.Spec PyProof.Rows L2 Evl
end DN
namespace DN
open PySem PySem.Spec PyProof.Rows L2 Evl OP
end DN
namespace DN
open PySem PySem.Spec PyProof.Rows L2 Evl OP
end DN
namespace DN
open PySem PySem.Spec PyProof.Rows L2 Evl OP
end DN
namespace DN
open PySem PySem.Spec PyProof.Rows L2
/-- a clause: its class, the slot of its name, its suite -/
abbrev ClA := Value × Option Nat × (Addr → Value → Option Addr → TS)
/-- behind the suite the name is gone -/
def goneE (D : Ends) (i : Nat) : Ends := { nx := fun σ' H' => D.nx (σ'.set i none) H', rt := D.rt, bk := fun σ' H' => D.bk (σ'.set i none) H', ct := fun σ' H' => D.ct (σ'.set i none) H' }
def wClA (D : Ends) (o : Option Nat) (ts : Addr → Value → Option Addr → TS) : WX := fun cls d σ H => ∀ a, H a = none → match o with
  | none => ts a cls d D σ H
  | some i => ts a cls d (goneE D i) (σ.set i (some (.ref a))) H
def wManyA (K : PySem.W.Frag) (Wout : WX) (D : Ends) : List ClA → WX
  | [] => Wout
  | (c, o, ts) :: r => fun cls d σ H => ∃ b, PySem.W.exmOne K cls c = some b ∧ (b = true → wClA D o ts cls d σ H) ∧ (b = false → wManyA K Wout D r cls d σ H)
/-- the clause's name -/
inductive NameA (X : Cx) : Option Str → Option Nat → Prop
  | no : NameA X none none
  | as {n : Str} {i : Nat} (hi : X.N[i]? = some n) (hln : X.env.kindOf n = some .local) : NameA X (some n) (some i)
inductive HdsA (X : Cx) : List ExceptHandler → List ClA → Prop
  | nil : HdsA X [] []
  | cons {x : Str} {c : Value} {nm : Option Str} {o : Option Nat} {ts : Addr → Value → Option Addr → TS} {b₀ : Stmt} {suite : List Stmt} {np pos' : Pos} {hds : List ExceptHandler} {l : List ClA} (hc : Names X x c) (hn : NameA X nm o)
      (hsu : ∀ (a : Addr) (oe : Obj) (cls : Value) (d : Option Addr) (pn : List (Addr × Obj)), L2N.Zn cls d oe → (∃ vs, oe.data = .fields vs) → PSs (X.suite a ((a, oe) :: pn)) (b₀ :: suite) (ts a cls d)) (r : HdsA X hds l) :
      HdsA X (.ExceptHandler (some (.Name x np)) nm (b₀ :: suite) pos' :: hds) ((c, o, ts) :: l)
section
variable {X : Cx} {body : List Stmt} {h₀ : ExceptHandler} {hds : List ExceptHandler} {l : List ClA} {pos : Pos} {tb : WX → TS} {Wout : WX}
theorem ps_try_manyA (hs : X.stack = X.env :: X.outer) (hf : X.env.frame = some X.env.locals) (hN : X.N.Nodup) (tk : Takes X Wout)
    (hb : ∀ (W : WX) (pn : List (Addr × Obj)) (xe : Value → Shared → Prop), Takes (X.tr pn xe) W → PassesOwn (model X.prog X.w) X.A X.env xe → PSs (X.tr pn xe) body (tb W))
    (hh : HdsA X (h₀ :: hds) l) : PS X (.Try body (h₀ :: hds) [] [] pos) (fun D σ H => tb (wManyA X.K Wout D l) D σ H) := by
  refine ⟨fun pins s σ H D I h => ?_⟩
  have ok := I.ok
  have hfr : X.A.frames = some (X.env :: X.outer) := by rw [ok.frames, hs]
  refine wpAny_Try_except ?_
  refine wpAny_mono ((hb (wManyA X.K Wout D l) (X.pn ++ pins) (fun e s₁ => wpAny (model X.prog X.w) X.A (noteFrame e X.env) (fun _ s₂ => wpAny (model X.prog X.w) X.A (setFlight e none) (fun _ s₃ =>
    wpAny (model X.prog X.w) X.A (handleBy e X.env (h₀ :: hds)) (SP X pins D) X.xe s₃) X.xe s₂) X.xe s₁) (fun u s' xx => ?_) PassesOwn.looking).run [] s σ H D (I.toTry _) h) (fun f s1 hsp => ?_) (fun e s1 he => he)
  · obtain ⟨a, B, sI, pins', σ', H', cls, d, rfl, J', nb, up, sky, na, os, ag, w⟩ := xx
    have J : Inv X pins σ' H' sI := J'.ofTry ok
    have sky' : Sky B (X.env :: X.outer) a (L2N.Zn cls d) X.env.locals s'.heap := by rw [← hs]; exact sky
    show wpAny (model X.prog X.w) X.A (noteFrame (.ref a) X.env) _ _ _
    refine L2N.Sky.land L2N.Zn.steady hfr hf sky' fun h3 fl3 up3 => ?_
    have J3 : Inv X pins σ' H' { s' with heap := h3 } := J.landed nb fl3.1 (up.trans up3) os ag
    obtain ⟨oe3, vs3, he3, hz3, hd3⟩ := fl3.there
    have nfr : a ∉ frs (X.env :: X.outer) := fun hm => by
      obtain ⟨_, o', e', hnf⟩ := fl3.2.2.1.mem hm
      rw [he3] at e'; cases e'
      exact hnf _ hd3
    have nL : a ≠ X.env.locals := fun z => nfr (List.mem_filterMap.mpr ⟨X.env, List.mem_cons_self, by rw [hf, z]⟩)
    have nF : a ∉ X.fs := fun hm => by
      obtain ⟨e, he, q⟩ := List.mem_filterMap.mp hm
      exact nfr (List.mem_filterMap.mpr ⟨e, List.mem_cons_of_mem _ he, q⟩)
    have S3 := J3.suite he3 hd3 na nL nF
    have go : ∀ {hds' : List ExceptHandler} {l' : List ClA}, HdsA X hds' l' → wManyA X.K Wout D l' cls d σ' H' →
        wpAny (model X.prog X.w) X.A (handleBy (.ref a) X.env hds') (SP X pins D) X.xe { s' with heap := h3 } := by
      intro hds' l' hk
      induction hk with
      | nil =>
        intro w
        refine wpAny_handleBy_nil ?_
        obtain ⟨k1, k2, k3, oe, vs, T, oT, ts', he, hz, hd, h1, hr⟩ := id fl3
        unfold PySem.passOn
        refine wpAny_bind (wpAny_field he hd h1 ?_)
        rw [if_neg (show ¬ ((Value.ref T == Value.none) = true) from by simp)]
        have fin : wpAny (model X.prog X.w) X.A (setFlight (.ref a) X.env.frame) (fun _ s4 => wpAny (model X.prog X.w) X.A (throw (.ref a) : Sem Flow) (SP X pins D) X.xe s4) X.xe { s' with heap := h3 } := by
          rw [hf]
          refine HandSPX.setFlight_upZ fl3 fun h4 hh4 up4 => wpAny_throw (tk _ _ ?_)
          exact ⟨a, B, sI, pins, σ', H', cls, d, rfl, J, nb, (up.trans up3).trans up4, .inr (.inr (by rw [hs]; exact hh4)), na, os, ag, w⟩
        first
          | exact wpAny_bind (wpAny_pure (wpAny_bind fin))
          | exact wpAny_bind fin
      | @cons x c nm o ts b₀ suite np pos' hds2 l2 hc hn hsu r ih =>
        intro w
        obtain ⟨b, hb1, hyes, hno⟩ := w
        refine wpAny_handleBy_cons (codeAny_handlers_test ?_) (by intro q; cases q)
        have LT : PySem.W.Looks (model X.prog X.w) h3 (typeOf (.ref a)) cls := fun A Q E s k q => wpAny_typeOf_ref (k _ _ he3) (by rw [hz3.1]; exact q)
        have LM := PySem.W.exm_one (M := model X.prog X.w) (J3.kIn) LT hb1
        have test : ∀ {Q : Value → Shared → Prop} {E : Value → Shared → Prop}, Q c { s' with heap := h3 } → wpAny (model X.prog X.w) (X.A.mark (some (.ref a))) (eval (.Name x np) X.env) Q E { s' with heap := h3 } := fun {Q E} q => by
          obtain ⟨hg, hdbg, hm | ⟨hm, hv, hnn⟩⟩ := hc
          · exact ld_glob (X := X.suite a ((a, oe3) :: (X.pn ++ pins))) S3 hg hm q hdbg
          · exact ld_blt (X := X.suite a ((a, oe3) :: (X.pn ++ pins))) S3 hg hm hv q hnn hdbg
        refine test (LM.here ?_)
        cases b with
        | true =>
          have wy := hyes rfl a na
          cases hn with
          | no =>
            refine codeAny_handlers_suite ?_
            refine HandSPX.lands_againZ fl3 fun h4 fl4 up4 => ?_
            have J4 : Inv X pins σ' H' { s' with heap := h4 } := J.landed nb fl4.1 ((up.trans up3).trans up4) os ag
            obtain ⟨oe4, vs4, he4, hz4, hd4⟩ := fl4.there
            have S4 := J4.suite he4 hd4 na nL nF
            refine wpAny_mono ((hsu a oe4 cls d (X.pn ++ pins) hz4 ⟨_, hd4⟩).run [] _ _ H' _ S4 wy) (fun f s6 hsp => ?_) (fun _ _ z => False.elim z)
            cases f with
            | next =>
              obtain ⟨σ6, H6, S6, q6⟩ := hsp
              exact ⟨_, _, S6.unsuite ok, q6⟩
            | brk =>
              obtain ⟨σ6, H6, S6, q6⟩ := hsp
              exact ⟨_, _, S6.unsuite ok, q6⟩
            | cont =>
              obtain ⟨σ6, H6, S6, q6⟩ := hsp
              exact ⟨_, _, S6.unsuite ok, q6⟩
            | ret u =>
              obtain ⟨v6, σ6, H6, S6, r6, q6⟩ := hsp
              exact ⟨_, _, _, S6.unsuite ok, r6, q6⟩
          | @as n i hi hln =>
            refine codeAny_handlers_suite_as ?_
            refine HandSPX.lands_againZ fl3 fun h4 fl4 up4 => ?_
            have J4 : Inv X pins σ' H' { s' with heap := h4 } := J.landed nb fl4.1 ((up.trans up3).trans up4) os ag
            obtain ⟨oe4, vs4, he4, hz4, hd4⟩ := fl4.there
            have S4 := J4.suite he4 hd4 na nL nF
            refine store_ok (X := X.suite a ((a, oe4) :: (X.pn ++ pins))) (v := .ref a) S4 hN hi (.inl hln) rfl (fun s5 S5 => ?_) (.inr hln)
            refine wpAny_mono ((hsu a oe4 cls d (X.pn ++ pins) hz4 ⟨_, hd4⟩).run [] s5 _ H' _ S5 wy) (fun f s6 hsp => ?_) (fun _ _ z => False.elim z)
            have end_ : ∀ {σ6 : L2.St} {H6 : Hp} {Q : Shared → Prop}, Inv (X.suite a ((a, oe4) :: (X.pn ++ pins))) [] σ6 H6 s6 → (∀ s7, Inv X pins (σ6.set i none) H6 s7 → Q s7) →
                wpAny (model X.prog X.w) X.A (do bindName X.env n .none; unbindBehindTheSuite X.env n pos') (fun _ s7 => Q s7) X.xe s6 := fun {σ6 H6 Q} S6 hq => gone_ok (S6.unsuite ok) hN hi hln hq
            cases f with
            | next =>
              obtain ⟨σ6, H6, S6, q6⟩ := hsp
              exact end_ S6 fun s7 J7 => ⟨_, _, J7, q6⟩
            | brk =>
              obtain ⟨σ6, H6, S6, q6⟩ := hsp
              exact end_ S6 fun s7 J7 => ⟨_, _, J7, q6⟩
            | cont =>
              obtain ⟨σ6, H6, S6, q6⟩ := hsp
              exact end_ S6 fun s7 J7 => ⟨_, _, J7, q6⟩
            | ret u =>
              obtain ⟨v6, σ6, H6, S6, r6, q6⟩ := hsp
              exact end_ S6 fun s7 J7 => ⟨_, _, _, J7, r6, q6⟩
        | false =>
          show wpAny _ X.A (handleBy (.ref a) X.env hds2) _ _ _
          exact ih (hno rfl)
    exact go hh w
  · cases f with
    | next =>
      obtain ⟨σ', H', J', q⟩ := hsp
      exact wpAny_execs_nil ⟨σ', H', J'.ofTry ok, q⟩
    | brk =>
      obtain ⟨σ', H', J', q⟩ := hsp
      exact ⟨σ', H', J'.ofTry ok, q⟩
    | cont =>
      obtain ⟨σ', H', J', q⟩ := hsp
      exact ⟨σ', H', J'.ofTry ok, q⟩
    | ret u =>
      obtain ⟨v, σ', H', J', r, q⟩ := hsp
      exact ⟨v, σ', H', J'.ofTry ok, r, q⟩
end
end DN
namespace DN
open PySem PySem.Spec PyProof.Rows L2 Evl
section
variable {Z : Zx} {W : WX} {X : Cx} {S : Sto} {G H : Hp} {α : List Addr} {e : Expr} {fe : FE} {pos pos' p : Pos}
def kRaise (c : String) (fe : FE) : FS := fun env S => sV env (fe env S) fun S1 v => .ex env S1 (.own c v)
theorem psf_raise {b : Bool} {x : Str} {c : String} {fI D : Addr} {k : Nat} {fd : FuncData} {ps : List Str} (hc : X.calm = true) (tk : Takes X W) (O : OP.OpenC X.K D (Z.cm c)) (iC : PySem.W.findIn X.K (.ref (Z.cm c)) "__init__" = some (some (.ref fI))) (tI : PySem.W.typeIn X.K (.ref fI) = some (.type "function"))
    (F1 : FnOk X.prog X.w X.K X.mg X.base (L2N.CX X.prog X.w) k fI fd ps (OP.spInit X.K D)) (hr : RoomG b (k + 1) X.A) (hb : Binds X.K fd ps []) (hg : Gl X x) (hm : X.mg x = some (.ref (Z.cm c))) (h : PF Z (WE W) X e fe)
    (hdb : (x == ("__debug__" : Str)) = false := by decide) (he : starEach [e] X.env = [(false, eval e X.env)] := by rfl) (hpl : (backTo pos (starEach ([] : List Expr) X.env)).any (·.1) = false := by rfl) :
    PSF Z W X (.Raise (some (.Call (.Name x p) [e] [] pos)) none pos') (kRaise c fe) := by
  refine .of (L2N.ps_raise hc tk (pmk_oexN O.ox iC tI F1 hr.toRoom hb .nil (passes_call tk fun _ _ _ _ z => z.elim) hg hm (pa_cons h.pe pa_nil he) hdb he hpl)) fun env σ G α S H D' hd oe w => ?_
  refine se_tF.bindS hd oe w fun S2 d v H2 G2 α2 _ f2 hd2 oe2 ov w2 => ?_
  refine ⟨by simp, fun a ha => ⟨a, Z.cm c, v, rfl, O, upd_same, fun dx hdx hne => ⟨rfl, dx, [("value", v)], upd_same, ?_, ?_, ?_⟩⟩⟩
  · rw [upd_ne hne, upd_same]
  · rw [upd_ne hne] at hdx
    exact hdx
  · rw [upd_ne hne] at hdx
    have e1 : upd (del (upd (upd (upd H2 a (exo a (Z.cm c) none)) dx (exd dx [("value", v)])) a (exo a (Z.cm c) (some dx))) a) dx (.xd [("value", v)]) = upd H2 dx (.xd [("value", v)]) := by
      funext b
      by_cases h1 : b = dx
      · subst h1
        rw [upd_same, upd_same]
      · rw [upd_ne h1, upd_ne h1]
        by_cases h2 : b = a
        · subst h2
          rw [del_same, ha]
        · rw [del_ne h2, upd_ne h2, upd_ne h1, upd_ne h2]
    rw [e1]
    obtain ⟨h1, h2⟩ := hd2.know (o := .xd [("value", v)]) hdx
    exact w2 σ _ _ _ _ _ h2 h1 (oe2.up h2.g h2.a) ⟨rfl, dx, v, rfl, upd_same, ov.up h2.g h2.a⟩
end
end DN
namespace DN
open PySem PySem.Spec PyProof.Rows L2 Evl
section
variable {Z : Zx} {W : WX} {X : Cx} {S : Sto} {G H : Hp} {α : List Addr} {e : Expr} {fe : FE} {pos pos' p : Pos} {env : Env} {σ : L2.St} {D : Ends}
/-- in a suite nothing is raised -/
abbrev W0 : WX := fun _ _ _ _ => False
abbrev Zx.at (Z : Zx) (a : Addr) (cls : Value) (d : Option Addr) : Zx := ⟨Z.toZt, some (a, cls, d)⟩
def noX (env : Env) : Bool := env.all fun s => match s with | .x _ _ => false | _ => true
theorem noX_at {i : Nat} {c : String} {r : Vr} (h : noX env = true) : env[i]? ≠ some (.x c r) := fun e => by
  have := List.all_eq_true.mp h _ (List.mem_of_getElem? e)
  cases this
theorem OnE.plain {a : Addr} {cls : Value} {d : Option Addr} (h : OnE (Z.at a cls d) G α env σ) (hn : noX env = true) : OnE Z G α env σ := ⟨h.len, h.at_, fun i c r e => absurd e (noX_at hn)⟩
theorem OnE.hot {a : Addr} {cls : Value} {d : Option Addr} (h : OnE Z G α env σ) (hz : Z.xc = none) : OnE (Z.at a cls d) G α env σ := ⟨h.len, h.at_, fun i c r e => by
  obtain ⟨_, _, _, q, _⟩ := h.xs i c r e
  rw [hz] at q
  cases q⟩
theorem OnE.hotSet {a dd : Addr} {c : String} {v : Vr} {w : V} (i : Nat) (h : OnE Z G α env σ) (hz : Z.xc = none) (hd : G dd = some (.xd [(("value" : Str), w)])) (hv : OnR Z G α v w) : OnE (Z.at a (.ref (Z.cm c)) (some dd)) G α (env.set i (.x c v)) (σ.set i (some (.ref a))) := by
  refine ⟨by rw [List.length_set, List.length_set]; exact h.len, fun j e he => ?_, fun j c' r he => ?_⟩
  · by_cases q : i = j
    · subst q
      by_cases hl : i < env.length
      · rw [List.getElem?_set_self hl] at he
        cases he
      · rw [List.getElem?_eq_none (by rw [List.length_set]; omega)] at he
        cases he
    · rw [List.getElem?_set_ne q] at he ⊢
      exact h.at_ j e he
  · by_cases q : i = j
    · subst q
      by_cases hl : i < env.length
      · rw [List.getElem?_set_self hl] at he
        cases he
        exact ⟨a, dd, w, rfl, List.getElem?_set_self (by rw [← h.len]; exact hl), hd, hv⟩
      · rw [List.getElem?_eq_none (by rw [List.length_set]; omega)] at he
        cases he
    · rw [List.getElem?_set_ne q] at he
      obtain ⟨_, _, _, q2, _⟩ := h.xs j c' r he
      rw [hz] at q2
      cases q2
theorem AllC.imp {P Q : String → Prop} (h : ∀ c, P c → Q c) : ∀ {cs : List String}, AllC P cs → AllC Q cs
  | [], _ => trivial
  | _ :: _, ⟨h1, h2⟩ => ⟨h _ h1, AllC.imp h h2⟩
theorem CsOk.hot {cs : List String} {a : Addr} {cls : Value} {d : Option Addr} (h : CsOk Z cs) : CsOk (Z.at a cls d) cs := ⟨h.all.imp fun c x => ⟨x.cl, x.it, x.kc, x.kb⟩, h.two⟩
def fXv (errs : List String) (i : Nat) : FE := fun env S => match env[i]? with
  | some (.x c r) => if errs.contains c then .ok S (.val r) else .no
  | _ => .no
theorem pf_xv {errs : List String} {i : Nat} {x : Str} {a : Addr} {oe : Obj} {cls : Value} {d : Option Addr} {pn : List (Addr × Obj)} {Ew : L2.St → XK} (T : AllC (fun c => XfC X.K (Z.cm c) ∧ PySem.W.findIn X.K (.ref (Z.cm c)) "value" = some none) errs) (hz : L2N.Zn cls d oe) (hf : ∃ vs, oe.data = .fields vs)
    (hN : X.N[i]? = some x := by rfl) (hv : Vis X.env.scope x := by first | exact Or.inl rfl | exact Or.inr (Or.inl rfl) | exact Or.inr (Or.inr rfl)) (hd : (x == ("__debug__" : Str)) = false := by decide)
    (hcd : (x == ("__classdict__" : Str)) = false := by decide) (hb : attributeBase (.Name x p) "value" X.env (eval (.Name x p) X.env) = eval (.Name x p) X.env := by rfl) : PF (Z.at a cls d) Ew (X.suite a ((a, oe) :: pn)) (.Attribute (.Name x p) "value" pos) (fXv errs i) := by
  refine ⟨fun σ H Q => ∃ c ∈ errs, tXf a cls d (Z.cm c) "value" (tVar i) σ H Q, ⟨fun pins s σ H Q I h => ?_⟩, fun env σ G α S H Q hd oe w => ?_⟩
  · obtain ⟨c, hc, h⟩ := h
    obtain ⟨t1, t2⟩ := T.mem (by simpa using hc)
    exact (pe_xf (X := X) t1 t2 hz.zc hf (pe_var (X := X.suite a ((a, oe) :: pn)) hN hv hd hcd) hb).run pins s σ H Q I h
  · unfold fXv at w
    cases q : env[i]? with
    | none => rw [q] at w; exact w.elim
    | some s =>
      rw [q] at w
      cases s with
      | u => exact w.elim
      | v r => exact w.elim
      | x c r =>
        simp only at w
        by_cases hc : errs.contains c = true
        · rw [if_pos hc] at w
          obtain ⟨a', dd, v, h1, h2, h3, h4⟩ := oe.xs i c r q
          have h1 : some (a, cls, d) = some (a', Value.ref (Z.cm c), some dd) := h1
          simp only [Option.some.injEq, Prod.mk.injEq] at h1
          obtain ⟨rfl, rfl, rfl⟩ := h1
          exact ⟨c, by simpa using hc, _, h2, rfl, rfl, dd, _, v, rfl, hd.ex _ _ h3, by simp [List.lookup], w H G α (Fr.refl _ _ _) hd v h4⟩
        · rw [if_neg hc] at w
          exact w.elim
abbrev Cl := String × Option Nat × FS
def pick (b : String) (cl : List Cl) (c : String) : Option (Option Nat × FS) := (cl.find? fun k => k.1 == c || k.1 == b).map (·.2)
def ckX (r : RS) : RS := match r with
  | .nx env S => if noX env then .nx env S else .no
  | .bk env S => if noX env then .bk env S else .no
  | .ct env S => if noX env then .ct env S else .no
  | .rt S r => .rt S r
  | _ => .no
def goneS (i : Nat) (r : RS) : RS := match r with
  | .nx env S => .nx (env.set i .u) S
  | .bk env S => .bk (env.set i .u) S
  | .ct env S => .ct (env.set i .u) S
  | r => r
def goneR (i : Nat) (r : RS) : RS := ckX (goneS i r)
def runCl (o : Option (Option Nat × FS)) (c : String) (v : Vr) (env : Env) (S : Sto) : RS := match o with
  | none => .ex env S (.own c v)
  | some (none, f) => ckX (f env S)
  | some (some i, f) => goneR i (f (env.set i (.x c v)) S)
def kTry (b : String) (errs : List String) (cl : List Cl) (fb : FS) : FS := fun env S => match fb env S with
  | .ex e2 S2 (.own c v) => if errs.contains c then runCl (pick b cl c) c v e2 S2 else .no
  | .ex _ _ (.blt _) => .no
  | r => r
theorem ckX_ok {r : RS} {a : Addr} {cls : Value} {d : Option Addr} (w : WkS Z (ckX r) G α H D W) : WkS (Z.at a cls d) r G α H D W0 := by
  cases r with
  | nx env S =>
    unfold ckX at w
    by_cases h : noX env = true
    · simp only [h, if_true] at w
      exact fun σ2 H2 G2 α2 f hd oe => w σ2 H2 G2 α2 f hd (oe.plain h)
    · simp only [h, if_false] at w
      exact w.elim
  | bk env S =>
    unfold ckX at w
    by_cases h : noX env = true
    · simp only [h, if_true] at w
      exact fun σ2 H2 G2 α2 f hd oe => w σ2 H2 G2 α2 f hd (oe.plain h)
    · simp only [h, if_false] at w
      exact w.elim
  | ct env S =>
    unfold ckX at w
    by_cases h : noX env = true
    · simp only [h, if_true] at w
      exact fun σ2 H2 G2 α2 f hd oe => w σ2 H2 G2 α2 f hd (oe.plain h)
    · simp only [h, if_false] at w
      exact w.elim
  | rt S r =>
    have w : Wk Z (.ok S r) G α H (pRt Z D.rt) E0 := w
    show Wk (Z.at a cls d) (.ok S r) G α H (pRt (Z.at a cls d) D.rt) E0
    intro H2 G2 α2 f hd
    have := w H2 G2 α2 f hd
    cases r with
    | val v => exact this
    | new c => exact fun p n => this p ⟨n.h, n.g, n.a, n.c⟩
  | ex env S x => exact w.elim
  | no => exact w.elim
theorem goneR_ok {r : RS} {i : Nat} {a : Addr} {cls : Value} {d : Option Addr} (w : WkS Z (goneR i r) G α H D W) : WkS (Z.at a cls d) r G α H (goneE D i) W0 := by
  have w' : WkS (Z.at a cls d) (goneS i r) G α H D W0 := ckX_ok w
  cases r with
  | nx env S => exact fun σ2 H2 G2 α2 f hd oe => w' (σ2.set i none) H2 G2 α2 f hd (oe.forget i)
  | bk env S => exact fun σ2 H2 G2 α2 f hd oe => w' (σ2.set i none) H2 G2 α2 f hd (oe.forget i)
  | ct env S => exact fun σ2 H2 G2 α2 f hd oe => w' (σ2.set i none) H2 G2 α2 f hd (oe.forget i)
  | rt S r => exact w'
  | ex env S x => exact w'
  | no => exact w'.elim
inductive HdF (Z : Zx) (X : Cx) : List ExceptHandler → List Cl → Prop
  | nil : HdF Z X [] []
  | cons {x : Str} {c : String} {nm : Option Str} {o : Option Nat} {f : FS} {b₀ : Stmt} {suite : List Stmt} {np pos' : Pos} {hds : List ExceptHandler} {l : List Cl} (hc : Names X x (.ref (Z.cm c))) (hn : NameA X nm o)
      (hsu : ∀ (a : Addr) (oe : Obj) (cls : Value) (d : Option Addr) (pn : List (Addr × Obj)), L2N.Zn cls d oe → (∃ vs, oe.data = .fields vs) → PSsF (Z.at a cls d) W0 (X.suite a ((a, oe) :: pn)) (b₀ :: suite) f) (r : HdF Z X hds l) :
      HdF Z X (.ExceptHandler (some (.Name x np)) nm (b₀ :: suite) pos' :: hds) ((c, o, f) :: l)
abbrev clA (Z : Zx) (k : Cl) : ClA := (.ref (Z.cm k.1), k.2.1, fun a cls d => tS (Z.at a cls d) W0 k.2.2)
theorem HdF.a : ∀ {hds : List ExceptHandler} {l : List Cl}, HdF Z X hds l → HdsA X hds (l.map (clA Z))
  | _, _, .nil => .nil
  | _, _, .cons hc hn hsu r => .cons hc hn (fun a oe cls d pn h1 h2 => (hsu a oe cls d pn h1 h2).ps) r.a
theorem many_ok {K : PySem.W.Frag} {b c : String} {v : Vr} {e2 : Env} {S2 : Sto} {dd : Addr} {w0 : V} (hz : Z.xc = none) (hd : Hd Z G α S2 H) (oe : OnE Z G α e2 σ) (h1 : G dd = some (.xd [(("value" : Str), w0)])) (h2 : OnR Z G α v w0) : ∀ {cl : List Cl},
    (∀ k ∈ cl, PySem.W.exmOne K (.ref (Z.cm c)) (.ref (Z.cm k.1)) = some (k.1 == c || k.1 == b)) → WkS Z (runCl (pick b cl c) c v e2 S2) G α H D W → wManyA K W D (cl.map (clA Z)) (.ref (Z.cm c)) (some dd) σ H
  | [], _, w => w σ _ _ H G α (Fr.refl _ _ _) hd oe ⟨rfl, dd, w0, rfl, h1, h2⟩
  | k :: cl, hx, w => by
    refine ⟨_, hx k (by simp), fun hb => ?_, fun hb => ?_⟩
    · have e : pick b (k :: cl) c = some k.2 := by unfold pick; rw [List.find?_cons_of_pos (by simpa using hb)]; rfl
      rw [e] at w
      obtain ⟨kc, ko, kf⟩ := k
      intro a ha
      cases ko with
      | none => exact ⟨e2, G, α, S2, hd, oe.hot hz, ckX_ok w⟩
      | some i => exact ⟨e2.set i (.x c v), G, α, S2, hd, oe.hotSet i hz h1 h2, goneR_ok w⟩
    · have e : pick b (k :: cl) c = pick b cl c := by unfold pick; rw [List.find?_cons_of_neg (by rw [hb]; decide)]
      rw [e] at w
      exact many_ok hz hd oe h1 h2 (fun k hk => hx k (List.mem_cons_of_mem _ hk)) w
theorem psf_try {b : String} {errs : List String} {cl : List Cl} {fb : FS} {body : List Stmt} {h₀ : ExceptHandler} {hds : List ExceptHandler} (hz : Z.xc = none) (hs : X.stack = X.env :: X.outer) (hf : X.env.frame = some X.env.locals) (hN : X.N.Nodup) (tk : Takes X W)
    (hb : ∀ (W' : WX) (pn : List (Addr × Obj)) (xe : Value → Shared → Prop), Takes (X.tr pn xe) W' → PassesOwn (model X.prog X.w) X.A X.env xe → PSsF Z W' (X.tr pn xe) body fb)
    (hx : AllC (fun c => AllC (fun n => PySem.W.exmOne X.K (.ref (Z.cm c)) (.ref (Z.cm n)) = some (n == c || n == b)) (cl.map (·.1))) errs)
    (hh : HdF Z X (h₀ :: hds) cl) : PSF Z W X (.Try body (h₀ :: hds) [] [] pos) (kTry b errs cl fb) := by
  refine .of (ps_try_manyA (tb := fun W' => tS Z W' fb) hs hf hN tk (fun W' pn xe t1 t2 => (hb W' pn xe t1 t2).ps) hh.a) fun env σ G α S H D hd oe w => ⟨env, G, α, S, hd, oe, ?_⟩
  unfold kTry at w
  cases q : fb env S with
  | nx e2 S2 => rw [q] at w; exact w
  | bk e2 S2 => rw [q] at w; exact w
  | ct e2 S2 => rw [q] at w; exact w
  | rt S2 r => rw [q] at w; exact w
  | no => rw [q] at w; exact w.elim
  | ex e2 S2 x =>
    rw [q] at w
    cases x with
    | blt n => exact w.elim
    | own c v =>
      simp only at w
      by_cases hc : errs.contains c = true
      · rw [if_pos hc] at w
        intro σ2 cls d H2 G2 α2 f2 hd2 oe2 ox
        obtain ⟨rfl, dd, w0, rfl, h1, h2⟩ := ox
        exact many_ok hz hd2 oe2 h1 h2 (fun k hk => (hx.mem hc).mem (by simp only [List.contains_eq_mem, decide_eq_true_eq]; exact List.mem_map.mpr ⟨k, hk, rfl⟩)) (w.later f2)
      · rw [if_neg hc] at w
        exact w.elim
end
end DN
namespace DN
open PySem PySem.Spec PyProof.Rows L2 Evl
/-- the library's datum -/
def kpd : Key → PyData
  | .inl i => .int i
  | .inr s => .str s
mutual
def pd : Dv → Option PyData
  | .non => some .none
  | .bl b => some (.bool b)
  | .int i => some (.int i)
  | .str s => some (.str s)
  | .lst l => match pds l with | some m => some (.list m) | none => none
  | .tup l => match pds l with | some m => some (.tuple m) | none => none
  | .ktp l => match pds l with | some m => some (.tuple m) | none => none
  | .dic false ks vs => match ks.mapM key?, pds vs with | some a, some b => some (.dict ((a.map kpd).zip b)) | _, _ => none
  | .dic true ks vs => match ks.mapM tkey?, pds vs with | some a, some b => some (.dict ((a.map fun k => PyData.tuple (k.map kpd)).zip b)) | _, _ => none
  | _ => none
def pds : List Dv → Option (List PyData)
  | [] => some []
  | d :: l => match pd d, pds l with | some a, some b => some (a :: b) | _, _ => none
end
theorem mapM_some {α β : Type} {f : α → Option β} : ∀ {l : List α} {m : List β}, l.map f = m.map some → l.mapM f = some m
  | [], [], _ => rfl
  | [], b :: m, h => by cases h
  | a :: l, [], h => by cases h
  | a :: l, b :: m, h => by
    injection h with h1 h2
    rw [List.mapM_cons, h1, mapM_some h2]
    rfl
theorem rel_key {k : Key} {u : Value} (h : keyIs k u = true) {h0 : Heap} : Reads h0 u (kpd k) [] := by
  rcases keyIs_shape h with ⟨i, t, rfl, rfl⟩ | ⟨x, t, rfl, rfl⟩
  · exact .int i t
  · exact .str x t
theorem kV_reads {k : Key} {u : Value} (h : RelV (kV k) u) {h0 : Heap} : Reads h0 u (kpd k) [] := by
  cases k with
  | inl i => obtain ⟨t, rfl⟩ := h; exact .int i t
  | inr x => obtain ⟨t, rfl⟩ := h; exact .str x t
theorem kVs_reads {h0 : Heap} : ∀ {k : List Key} {us : List Value}, Vals (k.map kV) us → ReadsAll h0 us (k.map kpd) []
  | [], _, h => by cases h; exact .nil
  | a :: k, _, h => by
    cases h with
    | cons h1 h2 => exact .cons (as := []) (kV_reads h1) (kVs_reads h2)
section
variable {X : Cx} {Z : Zt} {pins : List (Addr × Obj)} {σ : L2.St} {G H : Hp} {s : Shared}
theorem pairs_read {P : Program} {w : World} {h0 : Heap} : ∀ {es : List DictEntry} {kvs : List (Key × Value)}, Pairs (mixKind P w) es kvs → ReadsAll h0 (es.map (·.key)) ((kvs.map (·.1)).map kpd) [] ∧ es.map (·.val) = kvs.map (·.2)
  | _, _, .nil => ⟨.nil, rfl⟩
  | _, _, .cons h1 h2 h3 => by
    obtain ⟨a, b⟩ := pairs_read h3
    exact ⟨.cons (as := []) (rel_key h1) a, by rw [List.map_cons, List.map_cons, h2, b]⟩
theorem kv_split {κ : Type} : ∀ {kvs : List (κ × V)} {vs : List (κ × Value)}, KV kvs vs → kvs.map (·.1) = vs.map (·.1) ∧ Vals (kvs.map (·.2)) (vs.map (·.2))
  | _, _, .nil => ⟨rfl, .nil⟩
  | _, _, .cons h t => by
    obtain ⟨a, b⟩ := kv_split t
    exact ⟨by rw [List.map_cons, List.map_cons, h.1, a], .cons h.2 b⟩
theorem zip_fst {α β : Type} : ∀ {l : List α} {m : List β}, l.length = m.length → (l.zip m).map (·.1) = l
  | [], _, _ => by simp
  | a :: l, [], h => by cases h
  | a :: l, b :: m, h => by rw [List.zip_cons_cons, List.map_cons, zip_fst (by simpa using h)]
theorem zip_snd {α β : Type} : ∀ {l : List α} {m : List β}, l.length = m.length → (l.zip m).map (·.2) = m
  | [], m, h => by cases m with | nil => rfl | cons b m => cases h
  | a :: l, [], h => by cases h
  | a :: l, b :: m, h => by rw [List.zip_cons_cons, List.map_cons, zip_snd (by simpa using h)]
theorem readsAll_len {h0 : Heap} : ∀ {us : List Value} {ps : List PyData} {as : List Addr}, ReadsAll h0 us ps as → us.length = ps.length
  | _, _, _, .nil => rfl
  | _, _, _, .cons _ h => by rw [List.length_cons, List.length_cons, readsAll_len h]
theorem tkeys_read {P : Program} {w : World} (I : Inv X pins σ H s) : ∀ {kvs : List (List Key × V)} {xs : List (List Key × Addr × Value)},
    Paired (fun (p : List Key × V) (q : List Key × Addr × Value) => p.1 = q.1 ∧ H q.2.1 = some (.tup (p.1.map kV)) ∧ RelV p.2 q.2.2) kvs xs →
      ReadsAll s.heap ((xs.map (entryOfKey (tupleKind (mixKind P w)))).map (·.key)) ((kvs.map (·.1)).map fun k => PyData.tuple (k.map kpd)) [] ∧ Vals (kvs.map (·.2)) ((xs.map (entryOfKey (tupleKind (mixKind P w)))).map (·.val))
  | _, _, .nil => ⟨.nil, .nil⟩
  | _, _, .cons (a := p) (b := q) h t => by
    obtain ⟨a, b⟩ := tkeys_read I t
    obtain ⟨its, rv, ⟨o, ho, hc, n, hd⟩, _⟩ := I.tuple (SqT.of h.2.1)
    exact ⟨.cons (as := []) (.tuple ho hc hd (kVs_reads rv)) a, .cons h.2.2 b⟩
mutual
/-- what stands for d is read as the datum -/
theorem on_reads (I : Inv X pins σ H s) (hK : Z.K = X.K) (e : Ex G H) : ∀ {d : Dv} {v : V} {u : Value} {p : PyData}, On Z G d v → pd d = some p → RelV v u → ∃ as, Reads s.heap u p as ∧ ∀ b ∈ as, H b ≠ none
  | .non, v, u, p, h, q, r => by
    unfold On at h
    unfold pd at q
    cases q
    subst h
    cases r
    exact ⟨_, .none, fun b hb => absurd hb (by simp)⟩
  | .bl c, v, u, p, h, q, r => by
    unfold On at h
    unfold pd at q
    cases q
    subst h
    cases r
    exact ⟨_, .bool c, fun b hb => absurd hb (by simp)⟩
  | .int i, v, u, p, h, q, r => by
    unfold On at h
    unfold pd at q
    cases q
    subst h
    obtain ⟨t, rfl⟩ := r
    exact ⟨_, .int i t, fun b hb => absurd hb (by simp)⟩
  | .str x, v, u, p, h, q, r => by
    unfold On at h
    unfold pd at q
    cases q
    subst h
    obtain ⟨t, rfl⟩ := r
    exact ⟨_, .str x t, fun b hb => absurd hb (by simp)⟩
  | .lst l, v, u, p, h, q, r => by
    unfold On at h
    unfold pd at q
    obtain ⟨a, xs, rfl, h2, h3⟩ := h
    cases z : pds l with
    | none => rw [z] at q; cases q
    | some m =>
      rw [z] at q
      cases q
      cases r
      have hH := e _ _ h2
      obtain ⟨its, rv, ⟨o, n, ho, hc, _, hd⟩, _⟩ := I.list (SqL.of hH)
      obtain ⟨as, ra, ia⟩ := onL_reads I hK e h3 z rv
      refine ⟨_, .list ho hc hd ra, fun b hb => ?_⟩
      rcases List.mem_cons.mp hb with rfl | hb
      · rw [hH]; exact fun z => nomatch z
      · exact ia b hb
  | .tup l, v, u, p, h, q, r => by
    unfold On at h
    unfold pd at q
    obtain ⟨a, xs, rfl, h2, h3⟩ := h
    cases z : pds l with
    | none => rw [z] at q; cases q
    | some m =>
      rw [z] at q
      cases q
      cases r
      obtain ⟨its, rv, ⟨o, ho, hc, n, hd⟩, _⟩ := I.tuple (SqT.of (e _ _ h2))
      obtain ⟨as, ra, ia⟩ := onL_reads I hK e h3 z rv
      exact ⟨_, .tuple ho hc hd ra, ia⟩
  | .ktp l, v, u, p, h, q, r => by
    unfold On at h
    unfold pd at q
    obtain ⟨a, xs, rfl, h2, h3⟩ := h
    cases z : pds l with
    | none => rw [z] at q; cases q
    | some m =>
      rw [z] at q
      cases q
      cases r
      rw [hK] at h2
      have h4 : SqT X.K H a xs := h2.sq e
      obtain ⟨its, rv, ⟨o, ho, hc, n, hd⟩, _⟩ := I.tuple h4
      obtain ⟨as, ra, ia⟩ := onL_reads I hK e h3 z rv
      exact ⟨_, .tuple ho hc hd ra, ia⟩
  | .dic false ks vs, v, u, p, h, q, r => by
    unfold On at h
    obtain ⟨a, ws, rfl, ⟨kk, hk, hg⟩, hl, h3⟩ := h
    unfold pd at q
    rw [mapM_some hk] at q
    cases z : pds vs with
    | none => simp only [z] at q; cases q
    | some m =>
      simp only [z] at q
      cases q
      cases r
      have hH := e _ _ hg
      obtain ⟨_, _, us, rel, o, es, ep, ho, hx, hd, _, pr, _⟩ := dk_of I.hok hH
      obtain ⟨e1, e2⟩ := kv_split rel
      have n1 : kk.length = ws.length := by
        have := congrArg List.length hk
        rw [List.length_map, List.length_map] at this
        rw [← this]; exact hl
      rw [zip_fst n1] at e1
      rw [zip_snd n1] at e2
      obtain ⟨r1, r2⟩ := pairs_read (h0 := s.heap) pr
      rw [← e1] at r1
      rw [← r2] at e2
      obtain ⟨as, ra, ia⟩ := onL_reads I hK e h3 z e2
      have n2 : (kk.map kpd).length = m.length := by
        rw [← readsAll_len r1, ← readsAll_len ra, List.length_map, List.length_map]
      refine ⟨_, .dict (kvs := (kk.map kpd).zip m) ho hx.1 hd (by rw [zip_fst n2]; exact r1) (by rw [zip_snd n2]; exact ra), fun b hb => ?_⟩
      rcases List.mem_cons.mp hb with rfl | hb
      · rw [hH]; exact fun z => nomatch z
      · exact ia b (by simpa using hb)
  | .dic true ks vs, v, u, p, h, q, r => by
    unfold On at h
    obtain ⟨a, ws, rfl, ⟨kk, hk, hg⟩, hl, h3⟩ := h
    unfold pd at q
    rw [mapM_some hk] at q
    cases z : pds vs with
    | none => simp only [z] at q; cases q
    | some m =>
      simp only [z] at q
      cases q
      cases r
      have hH := e _ _ hg
      obtain ⟨_, _, xs, rel, o, es, ep, ho, hx, hd, he, _⟩ := dt_of I.hok hH
      obtain ⟨r1, e2⟩ := tkeys_read I rel
      have n1 : kk.length = ws.length := by
        have := congrArg List.length hk
        rw [List.length_map, List.length_map] at this
        rw [← this]; exact hl
      rw [zip_fst n1] at r1
      rw [zip_snd n1] at e2
      rw [← he] at r1 e2
      obtain ⟨as, ra, ia⟩ := onL_reads I hK e h3 z e2
      have n2 : (kk.map fun k => PyData.tuple (k.map kpd)).length = m.length := by
        rw [← readsAll_len r1, ← readsAll_len ra, List.length_map, List.length_map]
      refine ⟨_, .dict (kvs := (kk.map fun k => PyData.tuple (k.map kpd)).zip m) ho hx.1 hd (by rw [zip_fst n2]; exact r1) (by rw [zip_snd n2]; exact ra), fun b hb => ?_⟩
      rcases List.mem_cons.mp hb with rfl | hb
      · rw [hH]; exact fun z => nomatch z
      · exact ia b (by simpa using hb)
  | .ty _, _, _, _, _, q, _ => by unfold pd at q; cases q
  | .cls _, _, _, _, _, q, _ => by unfold pd at q; cases q
  | .obj _ _, _, _, _, _, q, _ => by unfold pd at q; cases q
  | .scr _, _, _, _, _, q, _ => by unfold pd at q; cases q
theorem onL_reads (I : Inv X pins σ H s) (hK : Z.K = X.K) (e : Ex G H) : ∀ {l : List Dv} {vs : List V} {us : List Value} {ps : List PyData}, OnL Z G l vs → pds l = some ps → Vals vs us → ∃ as, ReadsAll s.heap us ps as ∧ ∀ b ∈ as, H b ≠ none
  | [], vs, us, ps, h, q, r => by
    unfold OnL at h
    unfold pds at q
    cases q
    subst h
    cases r
    exact ⟨_, .nil, fun b hb => absurd hb (by simp)⟩
  | d :: l, vs, us, ps, h, q, r => by
    unfold OnL at h
    obtain ⟨y, ys, rfl, h1, h2⟩ := h
    unfold pds at q
    cases z1 : pd d with
    | none => simp only [z1] at q; cases q
    | some a =>
      cases z2 : pds l with
      | none => simp only [z1, z2] at q; cases q
      | some m =>
        simp only [z1, z2] at q
        cases q
        cases r with
        | cons r1 r2 =>
          obtain ⟨as, ra, ia⟩ := on_reads I hK e h1 z1 r1
          obtain ⟨bs, rb, ib⟩ := onL_reads I hK e h2 z2 r2
          exact ⟨_, .cons ra rb, fun b hb => (List.mem_append.mp hb).elim (ia b) (ib b)⟩
end
end
/-- what may be shown: the text and the depth are small -/
def okShow (p : PyData) : Bool := p.showable && (decide (p.shown.length ≤ sizeLine) && decide (p.depth ≤ 40))
section
variable {Z : Zx} {X : Cx} {Ew : L2.St → XK} {S : Sto} {G H : Hp} {α : List Addr} {Q : VK} {E : XK}
/-- sys.modules is known, by the text's objects or by the base -/
def SmX (X : Cx) : Prop := (X.K.lookup sysModules).isSome = true ∨ (X.base.get? sysModules).isSome = true
theorem sm_out {pins : List (Addr × Obj)} {σ : L2.St} {s : Shared} (sm : SmX X) (I : Inv X pins σ H s) {as : List Addr} (h : ∀ b ∈ as, H b ≠ none) : sysModules ∉ as := fun hm => by
  rcases sm with sm | sm
  · obtain ⟨o, ho⟩ := Option.isSome_iff_exists.mp sm
    exact h _ hm (I.bs _ _ (I.ok.mod.kin _ _ ho)).2
  · obtain ⟨o, ho⟩ := Option.isSome_iff_exists.mp sm
    exact h _ hm (I.bs _ _ ho).2
variable {e : Expr} {fe : FE} {pos : Pos}
end
end DN
namespace DN
open PySem PySem.Spec PyProof.Rows L2 Evl OP
section
variable {Z : Zx} {X : Cx} {Ew : L2.St → XK} {G H : Hp} {α : List Addr} {ei : Expr} {es : List Expr} {fi : FE} {fa : FA} {pos p1 : Pos}
theorem onA_len : ∀ {l : List Vr} {vs : List V}, OnA Z G α l vs → vs.length = l.length
  | [], _, h => by cases (show _ = [] from h); rfl
  | a :: l, _, h => by
    obtain ⟨y, ys, rfl, _, h2⟩ := h
    rw [List.length_cons, List.length_cons, onA_len h2]
theorem onA_get : ∀ {l : List Vr} {vs : List V} {k : Nat} {v : Vr}, OnA Z G α l vs → l[k]? = some v → ∃ x, vs[k]? = some x ∧ OnR Z G α v x
  | [], _, k, _, _, e => by simp at e
  | a :: l, _, 0, v, h, e => by
    obtain ⟨y, ys, rfl, h1, _⟩ := h
    cases e
    exact ⟨y, rfl, h1⟩
  | a :: l, _, k + 1, v, h, e => by
    obtain ⟨y, ys, rfl, _, h2⟩ := h
    exact onA_get (k := k) h2 e
def pickR (l : List Vr) (S : Sto) (i : Vr) : R Rt := match i with
  | .d (.int i) => (match atI l i with
    | some v => .ok S (.val v)
    | none => .no)
  | _ => .no
end
end DN
namespace DN
open PySem PySem.Spec PyProof.Rows L2 Evl OP
section
variable {Z : Zx} {X : Cx} {Ew : L2.St → XK} {S : Sto} {G H : Hp} {α : List Addr} {Q : VK} {E : XK} {a b : Expr} {fl : FA} {elts : List Expr} {kk : Nat} {p pos tpos : Pos}
theorem ex_upd {a : Addr} {o : HO} (hg : G a = none) : Ex G (upd G a o) := fun b q hb => by
  have : b ≠ a := fun e => by subst e; rw [hg] at hb; cases hb
  rw [upd_ne this]
  exact hb
end
end DN
namespace DN
open PySem PySem.Spec PyProof.Rows L2 Evl
section
variable {Z : Zx} {G H : Hp} {α : List Addr} {S : Sto}
theorem onA_lt {Z : Zt} : ∀ {l : List Vr} {xs : List V}, OnA Z G α l xs → ∀ m, Vr.r m ∈ l → m < α.length
  | [], _, _, m, hm => absurd hm (by simp)
  | d :: l, xs, h, m, hm => by
    obtain ⟨y, ys, _, h2, h3⟩ := h
    rcases List.mem_cons.mp hm with e | hm
    · subst e
      obtain ⟨a, _, e⟩ := h2
      exact (List.getElem?_eq_some_iff.mp e).1
    · exact onA_lt h3 m hm
/-- it becomes a cell, told by the cells ahead of it -/
theorem Hd.pushI {Z : Zt} {p : Addr} {c : Cell} (h : Hd Z G α S H) (hG : G p = none) (hn : p ∉ α) (hc : CellIn Z G H (α ++ [p]) (S ++ [c]) α.length p c) : Hd Z G (α ++ [p]) (S ++ [c]) H := by
  refine ⟨h.ex, by rw [List.length_append, List.length_append, h.len]; rfl, ?_, fun n a d h1 h2 => ?_⟩
  · rw [List.nodup_append]
    exact ⟨h.nd, by simp, fun a ha b hb => by rw [List.mem_singleton.mp hb]; exact fun c => hn (c ▸ ha)⟩
  · by_cases hl : n < α.length
    · rw [List.getElem?_append_left hl] at h1
      rw [List.getElem?_append_left (by rw [← h.len]; exact hl)] at h2
      obtain ⟨h3, h4⟩ := h.at_ n a d h1 h2
      refine ⟨h3, h4.move (Ex.refl G) rfl (fun m b hm q => by rw [List.getElem?_append_left (by omega)]; exact q) fun m b hm q1 q2 q3 => ⟨?_, ?_, q3, fun o ho => ho⟩⟩
      · rw [List.getElem?_append_left (by omega)]; exact q1
      · rw [List.getElem?_append_left (by rw [← h.len]; omega)]; exact q2
    · have hn1 : n = α.length := by
        have := (List.getElem?_eq_some_iff.mp h1).1
        rw [List.length_append] at this
        simp only [List.length_singleton] at this
        omega
      subst hn1
      rw [List.getElem?_append_right (Nat.le_refl _), Nat.sub_self] at h1
      rw [h.len, List.getElem?_append_right (Nat.le_refl _), Nat.sub_self] at h2
      cases h1
      cases h2
      exact ⟨fun _ => hG, hc⟩
theorem Hd.layV {Z : Zt} {p : Addr} {l : List Vr} {xs : List V} (h : Hd Z G α S H) (ol : OnA Z G α l xs) (hp : H p = none) : Hd Z G (α ++ [p]) (S ++ [.tab (.vl l)]) (upd H p (.lst xs)) ∧ Fr G α H G (α ++ [p]) (upd H p (.lst xs)) := by
  have e := Ex.new (o := .lst xs) hp
  have hg := h.grow e
  have hpa : p ∉ α := fun hm => h.live hm hp
  have hG : G p = none := fresh_back h.ex hp
  refine ⟨hg.pushI hG hpa ⟨fun m hm => onA_lt ol m hm, xs, upd_same, ol.up (Ex.refl G) ⟨[p], rfl⟩⟩, (Fr.grow h e).push hp⟩
end
section
variable {Z : Zx} {W : WX} {X : Cx} {G H : Hp} {α : List Addr} {S : Sto} {D : Ends} {env : Env} {σ : L2.St} {e : Expr} {es : List Expr} {pos pl p1 p2 : Pos} {fa : FA} {fi : FE} {Ew : L2.St → XK} {Q : VK}
/-- what a cell of the kind says -/
theorem vl_at {q : Nat} {a : Addr} {l : List Vr} (hd : Hd Z G α S H) (ha : α[q]? = some a) (hs : S[q]? = some (.tab (.vl l))) : ∃ xs, H a = some (.lst xs) ∧ OnA Z G α l xs := by
  obtain ⟨_, _, xs, h1, h2⟩ := hd.at_ q a _ ha hs
  exact ⟨xs, h1, h2⟩
def ixV (S : Sto) (o k : Vr) : R Rt := match o with
  | .r q => (match S[q]? with
    | some (.tab (.vl l)) => DN.pickR l S k
    | _ => .no)
  | _ => .no
def fVx (j : Nat) (fi : FE) : FE := fun env S => (fVar j env S).bindV fun S1 o => (fi env S1).bindV fun S2 k => ixV S2 o k
theorem pf_vx {j : Nat} {y : Str} {ei : Expr} (hK : X.K = Z.K) (hy : PF Z Ew X (.Name y p1) (fVar j)) (hi : PF Z Ew X ei fi) (hs : PlainIx ei := by exact fun _ _ => rfl) : PF Z Ew X (.Subscript (.Name y p1) ei pos) (fVx j fi) := by
  obtain ⟨ty, y1, y2⟩ := hy.ex
  obtain ⟨ti, h3, h4⟩ := hi.ex
  refine ⟨_, pe_ix ix_list y1 h3 hs, fun env σ G α S H Q hd oe w => y2.bind hd oe w fun S2 d v H2 G2 α2 f2 hd2 oe2 ov w2 => h4.bind hd2 oe2 w2 fun S3 k x H3 G3 α3 f3 hd3 oe3 ox w3 => ?_⟩
  unfold ixV at w3
  cases d with
  | d d => exact w3.elim
  | r q =>
    obtain ⟨a, rfl, ha2⟩ := ov
    have ha3 := f3.a.get ha2
    simp only at w3
    cases e : S3[q]? with
    | none => rw [e] at w3; exact w3.elim
    | some c =>
      rw [e] at w3
      cases c with
      | tab t =>
        cases t with
        | rows r => exact w3.elim
        | vt _ => exact w3.elim
        | xv _ _ => exact w3.elim
        | vl l =>
          obtain ⟨vs, e1, ol⟩ := vl_at hd3 ha3 e
          simp only at w3
          unfold DN.pickR at w3
          cases k with
          | r n => exact w3.elim
          | d d =>
            cases d with
            | int i =>
              have ox : On Z G3 (.int i) x := ox
              unfold On at ox
              subst ox
              simp only at w3
              cases q : atI l i with
              | none => rw [q] at w3; exact w3.elim
              | some v =>
                rw [q] at w3
                have hlen := onA_len ol
                have q2 : ∃ z, atI vs i = some z ∧ OnR Z G3 α3 v z := by
                  unfold atI at q ⊢
                  rw [hlen]
                  cases e2 : ixN l.length i with
                  | none => rw [e2] at q; cases q
                  | some j =>
                    rw [e2] at q
                    obtain ⟨z, z1, z2⟩ := onA_get ol q
                    exact ⟨z, z1, z2⟩
                obtain ⟨z, z1, z2⟩ := q2
                exact ⟨a, vs, i, z, rfl, rfl, SqL.of e1, z1, w3.dat hd3 z2⟩
            | _ => exact w3.elim
      | _ => exact w3.elim
end
end DN
namespace DN
open PySem PySem.Spec PyProof.Rows L2 Evl
def exitL (k : Nat) (r : R Rt) : R Rt := match r with
  | .ex S x => cutX k S x
  | r => r
def defL (n : Nat) (body : FS) : FD := fun args S => exitL S.length (outS (body (startE n args) S))
section
variable {Z : Zx} {G H G2 H2 : Hp} {α α2 : List Addr} {S : Sto} {Q : VK} {E : XK}
theorem exitL_ok {r : R Rt} (hd : Hd Z G α S H) (w : Wk Z (exitL S.length r) G α H (pRt Z Q) E) : Wk Z r G α H (pRt Z Q) E := by
  rw [← hd.len] at w
  cases r with
  | no => exact w.elim
  | ex S2 x => exact cutX_ok w
  | ok S2 b => exact w
end
theorem fn_dL {Z : Zx} {P : Program} {w : World} {K : PySem.W.Frag} {mg : Str → Option Value} {base : Heap} {b : Bool} {x qual : Str} {st : Stmt} {f : Addr} {fd : FuncData} {N ps : List Str} {k : Nat} {fb : FS} (F : FunD K x qual st f fd) (sc : FnScope N ps (defScope st))
    (hb : ∀ (cdv : Value) (A : Around) (outer : List PySem.Env) (s : Shared) (H : Hp) (E : XK), RoomG b k (A.deeper (envOfC qual (defScope st) s.heap.objs.size f cdv)) →
      PSsF Z (WD E) (cxOf (L2N.CX P w) P w K mg base N qual (defScope st) f cdv A outer s H E) (defBody st) fb) : FnG b P w K mg base (L2N.CX P w) (k + 1) f fd ps (spD Z ps.length (defL N.length fb)) := by
  obtain ⟨oc, od, dV, kV, doc, pm, an, cdv, ct, osl, rfl, lk, hcd⟩ := F.ex
  refine fn_ofG lk hcd sc (fun vs H Q E h => ?_) fun A outer s H vs Q E hr h => ?_
  · obtain ⟨G, α, S, args, _, h1, h2, _⟩ := h
    rw [h1.len, h2]
  · obtain ⟨G, α, S, args, hd, oa, hl, w'⟩ := h
    refine ⟨_, (hb cdv A outer s H E hr).ps, startE N.length args, G, α, S, hd, start_on oa, ?_⟩
    have w2 := exitL_ok hd w'
    cases q : fb (startE N.length args) S with
    | nx e2 S2 =>
      rw [q] at w2
      exact fun σ2 H2 G2 α2 f2 hd2 oe2 => w2 H2 G2 α2 f2 hd2 _ (or_non Z G2 α2)
    | rt S2 r =>
      rw [q] at w2
      show Wk Z (.ok S2 r) G α H (pRt Z Q) E0
      cases r <;> exact w2
    | ex e2 S2 x =>
      rw [q] at w2
      exact fun σ2 cls d H2 G2 α2 f2 hd2 oe2 ox => w2 cls d H2 G2 α2 f2 hd2 ox
    | bk e2 S2 => rw [q] at w2; exact w2.elim
    | ct e2 S2 => rw [q] at w2; exact w2.elim
    | no => rw [q] at w2; exact w2.elim
section
variable {Z : Zx} {W : WX} {X : Cx} {G H : Hp} {α : List Addr} {S : Sto} {D : Ends} {env : Env} {σ : L2.St} {e : Expr} {es : List Expr} {pos pl p1 p2 : Pos} {fa : FA} {fe fi : FE} {Ew : L2.St → XK} {Q : VK} {E : XK}
def layR (S : Sto) (l : List Vr) : R Rt := if l.length ≤ 100000 then .ok (S ++ [.tab (.vl l)]) (.val (.r S.length)) else .no
def fLstV (fa : FA) : FE := fun env S => (fa env S).bind fun S1 l => layR S1 l
theorem layR_ok {l : List Vr} {xs : List V} (hd : Hd Z G α S H) (ol : OnA Z G α l xs) (w : Wk Z (layR S l) G α H (pRt Z Q) E) : xs.length ≤ sizeLine ∧ ∀ p, H p = none → Q (.ref p) (upd H p (.lst xs)) := by
  unfold layR at w
  by_cases hl : l.length ≤ 100000
  · rw [if_pos hl] at w
    refine ⟨sz_of (by rw [ol.len]; exact hl), fun p hp => ?_⟩
    obtain ⟨h1, f1⟩ := hd.layV ol hp
    refine w _ _ _ f1 h1 _ ⟨p, rfl, ?_⟩
    rw [← hd.len, List.getElem?_append_right (Nat.le_refl _), Nat.sub_self]
    rfl
  · rw [if_neg hl] at w
    exact w.elim
theorem pf_lstV {fr : FA} (h : PAF Z Ew X es fr) : PF Z Ew X (.List es pos) (fLstV fr) := by
  obtain ⟨ta, h1, h2⟩ := h.ex
  exact ⟨_, pe_lst h1, fun env σ G α S H Q hd oe w => h2.bind hd oe w fun S2 l vs H2 G2 α2 f2 hd2 oe2 ol w2 => layR_ok hd2 ol w2⟩
end
end DN
namespace DN
open PySem PySem.Spec PyProof.Rows L2 Evl
section
variable {Z : Zx} {W : WX} {X : Cx} {G H G2 H2 : Hp} {α α2 : List Addr} {S : Sto} {D : Ends} {env : Env} {σ : L2.St} {e : Expr} {es : List Expr} {pos pl p p1 p2 : Pos} {fa : FA} {fe fi : FE} {Ew : L2.St → XK} {Q : VK} {E : XK}
theorem onR_lt {v : Vr} {w : V} (h : OnR Z G α v w) : ∀ m, v = Vr.r m → m < α.length := fun m e => by
  subst e
  obtain ⟨a, _, h⟩ := h
  exact (List.getElem?_eq_some_iff.mp h).1
def fExcV (c : String) (fe : FE) : FE := fun env S => (fe env S).bindV fun S1 v => .ok (S1 ++ [.tab (.xv c v)]) (.val (.r S1.length))
theorem pf_excV {b : Bool} {CX : CXT} {x : Str} {c : String} {D fI : Addr} {k : Nat} {fd : FuncData} (T : OP.OpenC X.K D (Z.cm c)) (iC : PySem.W.findIn X.K (.ref (Z.cm c)) "__init__" = some (some (.ref fI))) (tI : PySem.W.typeIn X.K (.ref fI) = some (.type "function"))
    (F1 : FnOk X.prog X.w X.K X.mg X.base CX k fI fd ["self", "value"] (OP.spInit X.K D)) (hr : RoomG b (k + 1) X.A) (hb : Binds X.K fd ["self", "value"] []) (hx : Passes CX X (fun _ _ _ => False)) (hg : Gl X x) (hm : X.mg x = some (.ref (Z.cm c))) (h : PF Z Ew X e fe)
    (hdb : (x == ("__debug__" : Str)) = false := by decide) (hst : starEach [e] X.env = (false, eval e X.env) :: starEach [] X.env := by rfl) : PF Z Ew X (.Call (.Name x p) [e] [] pos) (fExcV c fe) := by
  obtain ⟨te, h1, h2⟩ := h.ex
  refine ⟨_, OP.pe_excV T iC tI F1 hr.toRoom hb hx hg hm h1 hdb hst, fun env σ G α S H Q hd oe w => h2.bind hd oe w fun S2 v x H2 G2 α2 f2 hd2 oe2 ov w2 => fun a d ha hd' hne => ?_⟩
  obtain ⟨k1, k2⟩ := hd2.know (o := exd d [("value", x)]) hd'
  have ha3 : upd H2 d (exd d [("value", x)]) a = none := by rw [upd_ne (fun z => hne z.symm)]; exact ha
  have ex := Ex.new (o := exo a (Z.cm c) (some d)) ha3
  have hg := k1.grow ex
  have hpa : a ∉ α2 := fun hm => k1.live hm ha3
  have hG : upd G2 d (exd d [("value", x)]) a = none := fresh_back k1.ex ha3
  have ov2 := ov.up k2.g k2.a
  have h5 := hg.pushI (p := a) (c := .tab (.xv c v)) hG hpa ⟨onR_lt ov2, d, x, upd_same, upd_same, ov2.up (Ex.refl _) ⟨[a], rfl⟩⟩
  have f5 := k2.trans ((Fr.grow k1 ex).push ha3)
  refine w2 _ _ _ f5 h5 _ ⟨a, rfl, ?_⟩
  rw [← hd2.len, List.getElem?_append_right (Nat.le_refl _), Nat.sub_self]
  rfl
def fTupV (fa : FA) : FE := fun env S => (fa env S).bind fun S1 l => if l.length ≤ 100000 then .ok (S1 ++ [.tab (.vt l)]) (.val (.r S1.length)) else .no
theorem pf_tupV {x1} (h : PAF Z Ew X es fa) : PF Z Ew X (.Tuple es x1 pos) (fTupV fa) := by
  obtain ⟨ta, h1, h2⟩ := h.ex
  refine ⟨_, pe_tup h1, fun env σ G α S H Q hd oe w => h2.bind hd oe w fun S2 l vs H2 G2 α2 f2 hd2 oe2 ol w2 => ?_⟩
  by_cases hl : l.length ≤ 100000
  · rw [if_pos hl] at w2
    refine ⟨sz_of (by rw [ol.len]; exact hl), fun a ha => ?_⟩
    have ex := Ex.new (o := .tup vs) ha
    have hg := hd2.grow ex
    have h5 := hg.pushI (p := a) (c := .tab (.vt l)) (fresh_back hd2.ex ha) (fun hm => hd2.live hm ha) ⟨fun m hm => onA_lt ol m hm, vs, upd_same, ol.up (Ex.refl _) ⟨[a], rfl⟩⟩
    refine w2 _ _ _ ((Fr.grow hd2 ex).push ha) h5 _ ⟨a, rfl, ?_⟩
    rw [← hd2.len, List.getElem?_append_right (Nat.le_refl _), Nat.sub_self]
    rfl
  · rw [if_neg hl] at w2
    exact w2.elim
theorem vt_at {q : Nat} {a : Addr} {l : List Vr} (hd : Hd Z G α S H) (ha : α[q]? = some a) (hs : S[q]? = some (.tab (.vt l))) : ∃ xs, H a = some (.tup xs) ∧ OnA Z G α l xs := by
  obtain ⟨_, _, xs, h1, h2⟩ := hd.at_ q a _ ha hs
  exact ⟨xs, h1, h2⟩
theorem xv_in {q : Nat} {a : Addr} {c : String} {v : Vr} (hd : Hd Z G α S H) (ha : α[q]? = some a) (hs : S[q]? = some (.tab (.xv c v))) : ∃ d w, H a = some (exo a (Z.cm c) (some d)) ∧ H d = some (exd d [("value", w)]) ∧ OnR Z G α v w := by
  obtain ⟨_, _, d, w, h1, h2, h3⟩ := hd.at_ q a _ ha hs
  exact ⟨d, w, h1, hd.ex _ _ h2, h3⟩
/-- o[k], o a tuple that holds cells -/
def ixVt (S : Sto) (o k : Vr) : R Rt := match o with
  | .r q => (match S[q]? with
    | some (.tab (.vt l)) => DN.pickR l S k
    | _ => .no)
  | _ => .no
def fVti (fo fi : FE) : FE := fun env S => (fo env S).bindV fun S1 o => (fi env S1).bindV fun S2 k => ixVt S2 o k
theorem pf_vti {o ei : Expr} {fo : FE} (hK : X.K = Z.K) (hy : PF Z Ew X o fo) (hi : PF Z Ew X ei fi) (hs : PlainIx ei := by exact fun _ _ => rfl) : PF Z Ew X (.Subscript o ei pos) (fVti fo fi) := by
  obtain ⟨ty, y1, y2⟩ := hy.ex
  obtain ⟨ti, h3, h4⟩ := hi.ex
  refine ⟨_, pe_ix ix_tup y1 h3 hs, fun env σ G α S H Q hd oe w => y2.bind hd oe w fun S2 d v H2 G2 α2 f2 hd2 oe2 ov w2 => h4.bind hd2 oe2 w2 fun S3 k x H3 G3 α3 f3 hd3 oe3 ox w3 => ?_⟩
  unfold ixVt at w3
  cases d with
  | d d => exact w3.elim
  | r q =>
    obtain ⟨a, rfl, ha2⟩ := ov
    have ha3 := f3.a.get ha2
    simp only at w3
    cases e : S3[q]? with
    | none => rw [e] at w3; exact w3.elim
    | some c =>
      rw [e] at w3
      cases c with
      | tab t =>
        cases t with
        | vt l =>
          obtain ⟨vs, e1, ol⟩ := vt_at hd3 ha3 e
          simp only at w3
          unfold DN.pickR at w3
          cases k with
          | r n => exact w3.elim
          | d d =>
            cases d with
            | int i =>
              have ox : On Z G3 (.int i) x := ox
              unfold On at ox
              subst ox
              simp only at w3
              cases q : atI l i with
              | none => rw [q] at w3; exact w3.elim
              | some v =>
                rw [q] at w3
                have hlen := onA_len ol
                have q2 : ∃ z, atI vs i = some z ∧ OnR Z G3 α3 v z := by
                  unfold atI at q ⊢
                  rw [hlen]
                  cases e2 : ixN l.length i with
                  | none => rw [e2] at q; cases q
                  | some j =>
                    rw [e2] at q
                    obtain ⟨z, z1, z2⟩ := onA_get ol q
                    exact ⟨z, z1, z2⟩
                obtain ⟨z, z1, z2⟩ := q2
                exact ⟨a, vs, i, z, rfl, rfl, SqT.of e1, z1, w3.dat hd3 z2⟩
            | _ => exact w3.elim
        | _ => exact w3.elim
      | _ => exact w3.elim
def fCallV (g : Sto → List Vr → Option Dv) (fa : FA) : FE := fun env S => (fa env S).bind fun S1 l => match g S1 l with
  | some d => .ok S1 (.val (.d d))
  | none => .no
def rV (Z : Zx) (g : Sto → List Vr → Option Dv) : List V → Hp → VK → Prop := fun xs H Q => ∃ G α S l d, Hd Z G α S H ∧ OnA Z G α l xs ∧ g S l = some d ∧ Wk Z (R.of S (vD d)) G α H (pRt Z Q) E0
theorem pf_callV {x : Str} {id : String} {g : Sto → List Vr → Option Dv} (hc : CallR X (.builtin id) (rV Z g)) (hg : Gl X x) (hm : X.mg x = none) (hv : bootBuiltins x = some (.builtin id)) (ha : PAF Z Ew X (e :: es) fa) (hn : x ≠ "__name__" := by decide) (hdb : (x == ("__debug__" : Str)) = false := by decide)
    (he : starEach (e :: es) X.env = (false, eval e X.env) :: starEach es X.env := by rfl) (hpl : (backTo pos (starEach es X.env)).any (·.1) = false := by rfl) : PF Z Ew X (.Call (.Name x p) (e :: es) [] pos) (fCallV g fa) := by
  obtain ⟨ta, h1, h2⟩ := ha.ex
  refine ⟨_, pe_callB hc hg hm hv h1 hn hdb he hpl, fun env σ G α S H Q hd oe w => h2.bind hd oe w fun S2 l vs H2 G2 α2 f2 hd2 oe2 ol w2 => ?_⟩
  cases q : g S2 l with
  | none => rw [q] at w2; exact w2.elim
  | some d =>
    rw [q] at w2
    exact ⟨G2, α2, S2, l, d, hd2, ol, q, (show Wk Z (R.of S2 (vD d)) G2 α2 H2 (pRt Z Q) (Ew σ) from w2).any⟩
/-- all that stands in the cells, tuples that hold cells too -/
def snapD (S : Sto) : Vr → Option Dv
  | .r n => (match S[n]? with
    | some (.tab (.vt l)) => (match snaps S l with
      | some ds => some (.tup ds)
      | none => none)
    | _ => snap S (.r n))
  | v => snap S v
theorem onHA_on (e : Ex G H) : ∀ {l : List Dv} {xs : List V}, OnHA Z G H l xs → OnL Z.toZt H l xs
  | [], xs, h => by rw [show xs = [] from h]; exact OnL.nil'
  | d :: l, xs, h => by
    obtain ⟨y, ys, rfl, h1, h2⟩ := h
    exact OnL.cons' (h1.on e) (onHA_on e h2)
theorem snapD_on {v : Vr} {x : V} {d : Dv} (hd : Hd Z G α S H) (hr : OnR Z G α v x) (e : snapD S v = some d) : On Z.toZt H d x := by
  cases v with
  | d d' => exact (snap_on hd hr e).on hd.ex
  | r n =>
    unfold snapD at e
    cases q : S[n]? with
    | none => simp only [q] at e; exact (snap_on hd hr e).on hd.ex
    | some c =>
      simp only [q] at e
      cases c with
      | tab t =>
        cases t with
        | vt l =>
          simp only at e
          cases q2 : snaps S l with
          | none => rw [q2] at e; cases e
          | some ds =>
            rw [q2] at e
            cases e
            obtain ⟨a, rfl, ha⟩ := hr
            obtain ⟨xs, h1, h2⟩ := vt_at hd ha q
            unfold On
            exact ⟨a, xs, rfl, h1, onHA_on hd.ex (snaps_on hd h2 q2)⟩
        | _ => exact (snap_on hd hr e).on hd.ex
      | _ => exact (snap_on hd hr e).on hd.ex
def showD (d : Dv) : Option Dv := match pd d with
  | some p => if okShow p then some (.str p.shown) else none
  | none => none
def gShowV (S : Sto) : List Vr → Option Dv
  | [v] => (match snapD S v with
    | some d => showD d
    | none => none)
  | _ => none
theorem cd_showV (hr : X.A.guards = some [] ∧ X.A.units + 64 < cLine) (hK : Z.K = X.K) (sm : SmX X) : CallR X (.builtin "repr") (rV Z gShowV) := by
  intro pins s σ H xs us Q I r h
  obtain ⟨G, α, S, l, d, hd, ol, hg, wq⟩ := h
  obtain ⟨v, rfl⟩ : ∃ v, l = [v] := by
    cases l with
    | nil => cases hg
    | cons a l =>
      cases l with
      | nil => exact ⟨a, rfl⟩
      | cons b l => cases hg
  obtain ⟨y, ys, rfl, ov, hnil⟩ := ol
  cases (show ys = [] from hnil)
  obtain ⟨u, rfl, ru⟩ := vals1 r
  unfold gShowV at hg
  simp only at hg
  cases z0 : snapD S v with
  | none => rw [z0] at hg; cases hg
  | some x =>
    rw [z0] at hg
    simp only at hg
    unfold showD at hg
    cases z : pd x with
    | none => rw [z] at hg; cases hg
    | some p =>
      rw [z] at hg
      simp only at hg
      cases zs : okShow p with
      | false => rw [zs] at hg; cases hg
      | true =>
        rw [zs, if_pos rfl] at hg
        cases hg
        obtain ⟨h1, h2⟩ := Bool.and_eq_true_iff.mp zs
        obtain ⟨h2, h3⟩ := Bool.and_eq_true_iff.mp h2
        have h2 := of_decide_eq_true h2
        have h3 := of_decide_eq_true h3
        have hon : On Z.toZt H x y := snapD_on hd ov z0
        obtain ⟨as, ra, ia⟩ := on_reads I hK (Ex.refl H) hon z ru
        have wq : Q (.str p.shown) H := wS wq hd
        have fin : ∀ h' (t : Tok) tk, (∀ b o, s.heap.get? b = some o → h'.get? b = some o) → EP X pins σ Q (.str p.shown t) { s with heap := h', toks := tk } := fun h' t tk k => ⟨.str p.shown, H, I.kept k, ⟨t, rfl⟩, wq⟩
        have fin0 : EP X pins σ Q (.str p.shown s.toks) { s with toks := s.toks + 1 } := ⟨.str p.shown, H, I.tok _, ⟨_, rfl⟩, wq⟩
        cases ra with
        | none => exact PySem.P.repr_of_none (by simpa [PyData.shown] using fin0)
        | bool b => exact PySem.P.repr_of_bool (by simpa [PyData.shown] using fin0)
        | int i t => exact PySem.P.repr_of_int (by simpa [PyData.showable] using h1) (by simpa [PyData.shown] using fin0)
        | str v t => exact PySem.P.repr_of_str (by simpa [PyData.shown] using fin0) (by simpa [PyData.shown] using h2)
        | list a1 a2 a3 a4 => exact repr_of_reads' (.list a1 a2 a3 a4) h1 (fun _ => sm_out sm I ia) hr.1 (by have := hr.2; omega) (fun _ _ e => e) fin h2
        | tuple a1 a2 a3 a4 => exact repr_of_reads' (.tuple a1 a2 a3 a4) h1 (fun _ => sm_out sm I ia) hr.1 (by have := hr.2; omega) (fun _ _ e => e) fin h2
        | dict a1 a2 a3 a4 a5 => exact repr_of_reads' (.dict a1 a2 a3 a4 a5) h1 (fun _ => sm_out sm I ia) hr.1 (by have := hr.2; omega) (fun _ _ e => e) fin h2
/-- what the written part says of the classes of errors: c is one of n's -/
structure XvOk (Z : Zx) (errs : List String) (is : String → String → Bool) : Prop where
  ex : ∀ c ∈ errs, PySem.W.kitOne Z.K (.ref (Z.cm c)) (.type "ValueError") = some true ∧ L2.ExcC Z.K (Z.cm c)
  two : ∀ c ∈ errs, ∀ d ∈ errs, PySem.W.kitOne Z.K (.ref (Z.cm c)) (.ref (Z.cm d)) = some (is c d)
def gIsV (cs errs : List String) (is : String → String → Bool) (S : Sto) : List Vr → Option Dv
  | [.r q, .d t] => (match S[q]?, t with
    | some (.tab (.xv c _)), .cls d => if errs.contains c && errs.contains d then some (.bl (is c d)) else none
    | some (.tab (.xv c _)), .ty n => if errs.contains c && n == "ValueError" then some (.bl true) else none
    | some (.tab (.vt _)), .ty n => if TYS.contains n then some (.bl ("tuple" == n || ("tuple" == "bool" && n == "int"))) else none
    | _, _ => (match snap S (.r q) with
      | some d => (match gIsi cs d t with
        | some (.val (.d (.bl b))) => some (.bl b)
        | _ => none)
      | none => none))
  | [.d d, .d t] => (match gIsi cs d t with
    | some (.val (.d (.bl b))) => some (.bl b)
    | _ => none)
  | _ => none
theorem isV_std {cs : List String} (C : CsOk Z cs) (hK : X.K = Z.K) {pins : List (Addr × Obj)} {s : Shared} {v : Vr} {x y : V} {d t : Dv} {b : Bool} {us : List Value} (I : Inv X pins σ H s) (r : Vals [x, y] us) (hd : Hd Z G α S H) (ov : OnR Z G α v x) (ot : OnR Z G α (.d t) y) (e : snap S v = some d) (hg : gIsi cs d t = some (.val (.d (.bl b)))) (w : Wk Z (R.of S (vD (.bl b))) G α H (pRt Z Q) E0) :
    wpAny (model X.prog X.w) X.A (call (.builtin "isinstance") us) (EP X pins σ Q) X.xe s := by
  refine cd_isi C hK pins s σ H [x, y] us Q I r ⟨G, α, S, [d, t], hd, ⟨x, [y], rfl, snap_on hd ov e, y, [], rfl, snap_on (S := S) hd ot rfl, rfl⟩, ?_⟩
  show Wk Z (R.of S (gIsi cs d t)) G α H (pRt Z Q) E0
  rw [hg]
  exact w
theorem cd_isV {cs errs : List String} {is : String → String → Bool} (C : CsOk Z cs) (hK : X.K = Z.K) (T : XvOk Z errs is) : CallR X (.builtin "isinstance") (rV Z (gIsV cs errs is)) := by
  intro pins s σ H xs us Q I r h
  obtain ⟨G, α, S, l, d, hd, ol, hg, w⟩ := h
  have two : ∃ v t x y, l = [v, .d t] ∧ xs = [x, y] ∧ OnR Z G α v x ∧ OnR Z G α (.d t) y := by
    match l, ol, hg with
    | [v, .d t], ol, _ =>
      obtain ⟨x, xs1, rfl, o1, y, ys, rfl, o2, o3⟩ := ol
      cases (show ys = [] from o3)
      exact ⟨v, t, x, y, rfl, rfl, o1, o2⟩
    | [], _, hg => cases hg
    | [_], _, hg => unfold gIsV at hg; split at hg <;> simp_all
    | [_, .r _], _, hg => unfold gIsV at hg; split at hg <;> simp_all
    | _ :: _ :: _ :: _, _, hg => unfold gIsV at hg; split at hg <;> simp_all
  obtain ⟨v, t, x, y, rfl, rfl, ov, ot⟩ := two
  have std : ∀ {e : Dv}, snap S v = some e → (match gIsi cs e t with | some (.val (.d (.bl b))) => some (Dv.bl b) | _ => none) = some d → wpAny (model X.prog X.w) X.A (call (.builtin "isinstance") us) (EP X pins σ Q) X.xe s := fun {e} he h2 => by
    split at h2
    · rename_i b q
      cases h2
      exact isV_std C hK I r hd ov ot he q w
    · cases h2
  cases v with
  | d e => exact std rfl hg
  | r q =>
    have ov' := ov
    obtain ⟨a, rfl, ha⟩ := ov
    unfold gIsV at hg
    simp only at hg
    split at hg
    · rename_i c v0 n hs
      obtain ⟨dd, w0, h1, h2, _⟩ := xv_in hd ha hs
      split at hg
      · rename_i hc
        cases hg
        obtain ⟨hc1, hc2⟩ := Bool.and_eq_true_iff.mp hc
        have m1 : c ∈ errs := by simpa using hc1
        have m2 : n ∈ errs := by simpa using hc2
        have ot : On Z.toZt G (.cls n) y := ot
        unfold On at ot
        subst ot
        exact OP.call_isZ pins s σ H _ us Q I r ⟨.ref a, .ref (Z.cm n), _, _, is c n, rfl, .own _, .exc (hK ▸ (T.ex c m1).2) h1 h2, hK ▸ T.two c m1 n m2, wB w hd⟩
      · cases hg
    · rename_i c v0 n hs
      obtain ⟨dd, w0, h1, h2, _⟩ := xv_in hd ha hs
      split at hg
      · rename_i hc
        cases hg
        obtain ⟨hc1, hc2⟩ := Bool.and_eq_true_iff.mp hc
        have m1 : c ∈ errs := by simpa using hc1
        obtain rfl : n = "ValueError" := by simpa using hc2
        have ot : On Z.toZt G (.ty "ValueError") y := ot
        unfold On at ot
        subst ot
        exact OP.call_isZ pins s σ H _ us Q I r ⟨.ref a, .ty "ValueError", _, _, true, rfl, .ty _, .exc (hK ▸ (T.ex c m1).2) h1 h2, hK ▸ (T.ex c m1).1, wB w hd⟩
      · cases hg
    · rename_i l0 n hs
      obtain ⟨ys, h1, _⟩ := vt_at hd ha hs
      split at hg
      · rename_i hc
        cases hg
        have ot : On Z.toZt G (.ty n) y := ot
        unfold On at ot
        subst ot
        exact OP.call_isZ pins s σ H _ us Q I r ⟨.ref a, .ty n, _, _, _, rfl, .ty _, .x (.base (.tup h1)), hK ▸ kit_bb (n := "tuple") (by decide) hc, wB w hd⟩
      · cases hg
    · cases he : snap S (.r q) with
      | none => rw [he] at hg; cases hg
      | some e =>
        rw [he] at hg
        exact std he hg
/-- of which class an error is -/
def exIs (c d : String) : Bool := d == c || d == "OpenpostsError"
def kxB (K : PySem.W.Frag) (l : List (String × Addr)) : Bool := l.all fun p => decide (PySem.W.kitOne K (.ref p.2) (.type "ValueError") = some true) && l.all fun q => decide (PySem.W.kitOne K (.ref p.2) (.ref q.2) = some (exIs p.1 q.1))
theorem xvOk_of {Z : Zx} {errs : List String} (h : kxB Z.K (errs.map fun c => (c, Z.cm c)) = true) (hx : AllC (fun c => L2.ExcC Z.K (Z.cm c)) errs) : XvOk Z errs exIs := by
  unfold kxB at h
  rw [List.all_eq_true] at h
  have key : ∀ c ∈ errs, PySem.W.kitOne Z.K (.ref (Z.cm c)) (.type "ValueError") = some true ∧ ∀ d ∈ errs, PySem.W.kitOne Z.K (.ref (Z.cm c)) (.ref (Z.cm d)) = some (exIs c d) := fun c hc => by
    obtain ⟨h1, h2⟩ := Bool.and_eq_true_iff.mp (h (c, Z.cm c) (List.mem_map.mpr ⟨c, hc, rfl⟩))
    rw [List.all_eq_true] at h2
    exact ⟨of_decide_eq_true h1, fun d hd => of_decide_eq_true (h2 (d, Z.cm d) (List.mem_map.mpr ⟨d, hd, rfl⟩))⟩
  exact ⟨fun c hc => ⟨(key c hc).1, hx.mem (by simpa using hc)⟩, fun c hc d hd => (key c hc).2 d hd⟩
def fXval (errs : List String) (fo : FE) : FE := fun env S => (fo env S).bindV fun S1 o => match o with
  | .r q => (match S1[q]? with
    | some (.tab (.xv c v)) => if errs.contains c then .ok S1 (.val v) else .no
    | _ => .no)
  | _ => .no
theorem pf_xval {errs : List String} {o : Expr} {fo : FE} (hK : X.K = Z.K) (T : ∀ c ∈ errs, L2.XfC X.K (Z.cm c) ∧ PySem.W.findIn X.K (.ref (Z.cm c)) "value" = some none) (ho : PF Z Ew X o fo) (hb : attributeBase o "value" X.env (eval o X.env) = eval o X.env := by rfl) : PF Z Ew X (.Attribute o "value" pos) (fXval errs fo) := by
  obtain ⟨to, h1, h2⟩ := ho.ex
  refine ⟨fun σ H Q => to σ H fun x H1 => ∃ c a d v, c ∈ errs ∧ x = .ref a ∧ H1 a = some (exo a (Z.cm c) (some d)) ∧ H1 d = some (exd d [("value", v)]) ∧ Q v H1, ⟨fun pins s σ H Q I h => ?_⟩, fun env σ G α S H Q hd oe w => h2.bind hd oe w fun S2 v x H2 G2 α2 f2 hd2 oe2 ov w2 => ?_⟩
  · refine attr_of hb (thn (h1.run pins s σ H _ I h) fun u s1 hh => ?_)
    obtain ⟨x, H1, I1, rx, c, a, d, v, hc, rfl, ha, hd, q⟩ := hh
    obtain rfl : u = Value.ref a := rx
    obtain ⟨T1, T2⟩ := T c hc
    obtain ⟨t1, hx⟩ := exo_at I1.hok ha
    obtain ⟨mA, hns, hr⟩ := exd_at I1.hok hd
    obtain ⟨od, ho, hl⟩ := lookIn_ns hns
    obtain ⟨u, hu, ru⟩ := RelO.some_of (v := v) (o := mA "value") (by have := hr "value"; simpa [List.lookup] using this)
    have J : PySem.W.InstAt s1.heap a { cls := .ref (Z.cm c), dict := some d, data := .fields #[.ref t1, .none, .none, .none, .bool false, .none] } (Z.cm c) (some od) := ⟨hx, rfl, rfl, ho⟩
    exact PySem.HandSPX.exc_get I1.kIn J T1.ga T1.gg T1.exC (PySem.W.findObj_own T1.hdC T2 rfl (by rw [hl, hu])) (handed_of ru) ⟨v, H1, I1.tok _, ru, q⟩
  · cases v with
    | d d => exact w2.elim
    | r q =>
      simp only at w2
      cases e : S2[q]? with
      | none => rw [e] at w2; exact w2.elim
      | some c =>
        rw [e] at w2
        cases c with
        | tab t =>
          cases t with
          | xv c v =>
            simp only at w2
            by_cases hc : errs.contains c = true
            · rw [if_pos hc] at w2
              obtain ⟨a, rfl, ha⟩ := ov
              obtain ⟨d, w, k1, k2, k3⟩ := xv_in hd2 ha e
              exact ⟨c, a, d, w, by simpa using hc, rfl, k1, k2, w2.dat hd2 k3⟩
            · rw [if_neg hc] at w2
              exact w2.elim
          | _ => exact w2.elim
        | _ => exact w2.elim
end
end DN
namespace DN
open PySem PySem.Spec PyProof.Rows L2 Evl OP
theorem _root_.L2H.RoomH.u1 {k : Nat} {A : Around} (r : L2H.RoomH k A) : A.units + 1 < cLine := by have := r.un; omega
theorem _root_.L2H.RoomH.u64 {k : Nat} {A : Around} (r : L2H.RoomH k A) : A.units + 64 < cLine := by have := r.un; omega
/-- the suite of a clause bears the exception that is handled -/
theorem hotC_of {X : Cx} {a : Addr} {oe : Obj} {cls : Value} {d : Option Addr} {pn : List (Addr × Obj)} (hz : L2N.Zn cls d oe) (hf : ∃ vs, oe.data = .fields vs) : L2H.HotC (X.suite a ((a, oe) :: pn)) := by
  obtain ⟨vs, e⟩ := hf
  exact ⟨(a, oe), ⟨rfl, vs, e, hz.2.2 vs e⟩, List.mem_cons_self⟩
section
variable {Z : Zx} {X : Cx} {Ew : L2.St → XK} {G H : Hp} {α : List Addr} {S : Sto} {Q : VK} {E : XK} {cs : List String} {a b : Expr} {fx fy : FE} {pos : Pos}
theorem _root_.L2H.FnH.imp {P : Program} {w : World} {K : PySem.W.Frag} {mg : Str → Option Value} {base : Heap} {CX : CXT} {k : Nat} {f : Addr} {fd : FuncData} {ps : List Str} {sp sp' : Sp} (F : L2H.FnH P w K mg base CX k f fd ps sp) (h : ∀ vs H Q E, sp' vs H Q E → sp vs H Q E) : L2H.FnH P w K mg base CX k f fd ps sp' :=
  ⟨fun vs H Q E q => F.len vs H Q E (h _ _ _ _ q), fun A outer s H args us vs Q E p r hot pin e0 b v q => F.run A outer s H args us vs Q E p r hot pin e0 b v (h _ _ _ _ q)⟩
theorem passH {CX : CXT} {X : Cx} (h : ∀ o H s e s', CX o H s (fun _ _ _ => False) e s' → False) : Passes CX X E0 := fun _ _ _ _ _ _ _ c => (h _ _ _ _ _ c).elim
end
end DN
namespace DN
open PySem PySem.Spec PyProof.Rows L2 Evl OP
abbrev FDX := String → FD
def startX (n : Nat) (c : String) (args : List Vr) : Env := match args with
  | r :: l => .x c r :: startE (n - 1) l
  | [] => []
def defDX (n : Nat) (body : FS) : FDX := fun c args S => exitR S.length (outS (body (startX n c args) S))
/-- the promise: a the exception, its class, its dict -/
def spDX (Z : Zx) (m : Nat) (D : FDX) (a : Addr) (cls : Value) (d : Option Addr) : Sp := fun vs H Q _ => ∃ G α S c dd w r l ws, cls = .ref (Z.cm c) ∧ d = some dd ∧ G dd = some (.xd [(("value" : Str), w)]) ∧ OnR Z G α r w ∧
  Hd Z G α S H ∧ vs = .ref a :: ws ∧ OnA Z G α l ws ∧ l.length + 1 = m ∧ Wk (Z.at a cls d) (D c (r :: l) S) G α H (pRt (Z.at a cls d) Q) E0
/-- room where an exception is handled; if b, no repr is under way -/
structure RoomX (b : Bool) (k : Nat) (A : Around) : Prop extends L2H.RoomH k A where
  gd : b = true → A.guards = some []
theorem RoomX.mono {b : Bool} {j k : Nat} {A : Around} (r : RoomX b k A) (h : j ≤ k) : RoomX b j A := ⟨r.toRoomH.mono h, r.gd⟩
theorem RoomX.deeper {b : Bool} {k : Nat} {A : Around} (r : RoomX b (k + 1) A) (env : PySem.Env) : RoomX b k (A.deeper env) := ⟨r.toRoomH.deeper env, r.gd⟩
theorem RoomX.suite {b : Bool} {k : Nat} {X : Cx} {a : Addr} {pn : List (Addr × Obj)} (r : RoomG b k X.A) : RoomX b k (X.suite a pn).A := ⟨⟨r.dp, r.un⟩, r.gd⟩
structure FnHX (b : Bool) (P : Program) (w : World) (K : PySem.W.Frag) (mg : Str → Option Value) (base : Heap) (CX : CXT) (k : Nat) (f : Addr) (fd : FuncData) (ps : List Str) (sp : Addr → Value → Option Addr → Sp) : Prop where
  len : ∀ a cls d vs H Q E, sp a cls d vs H Q E → vs.length = ps.length
  run : ∀ (A : Around) (outer : List PySem.Env) (s : Shared) (H : Hp) (args : Args) (us : List Value) (vs : List V) (Q : VK) (E : XK) (p : Addr × Obj) (cls : Value) (d : Option Addr), RoomX b k A → L2H.Hot1 A p → L2N.Zn cls d p.2 → L2H.PinOk outer H s p →
    Env0 P w K mg base A outer s H → BindsTo s fd args (ps.zip us) → Vals vs us → sp p.1 cls d vs H Q E → codeAny (model P w) A (.call (.ref f) args) (CR CX outer P w H s Q E) s
section
open L2H
variable {b : Bool} {P : Program} {w : World} {K : PySem.W.Frag} {mg : Str → Option Value} {base : Heap} {CX : CXT} {j k : Nat} {f : Addr} {fd : FuncData} {ps : List Str} {sp : Addr → Value → Option Addr → Sp}
theorem FnHX.mono (F : FnHX b P w K mg base CX j f fd ps sp) (h : j ≤ k) : FnHX b P w K mg base CX k f fd ps sp := ⟨F.len, fun A o s H args us vs Q E p cls d r => F.run A o s H args us vs Q E p cls d (r.mono h)⟩
theorem fn_ofHX {name qual : Str} {params : Arguments} {body : List Stmt} {scope : Scope} {dV kV doc pm cdv ct oc : Value} {an od : Option Addr}
    {osl : Array (Option Value)} {N : List Str} (lk : K.lookup f = some ⟨oc, od, .func (PySem.W.fnOf name qual params body scope dV kV doc pm an cdv ct), osl⟩) (hcd : PySem.W.codeIn K cdv qual = true) (S : FnScope N ps scope)
    (len : ∀ a cls d vs H Q E, sp a cls d vs H Q E → vs.length = ps.length)
    (hbody : ∀ (A : Around) (outer : List PySem.Env) (s : Shared) (H : Hp) (vs : List V) (Q : VK) (E : XK) (p : Addr × Obj) (cls : Value) (d : Option Addr), Hot1 A p → L2N.Zn cls d p.2 → RoomX b k (A.deeper (envOfC qual scope s.heap.objs.size f cdv)) → sp p.1 cls d vs H Q E →
      ∃ t, PSs (cxH CX P w K mg base N qual scope f cdv A outer s H E p) body t ∧ t { nx := fun _ H' => Q .non H', rt := Q } (L2.start N vs) H) :
    FnHX b P w K mg base CX (k + 1) f (PySem.W.fnOf name qual params body scope dV kV doc pm an cdv ct) ps sp := by
  refine ⟨len, fun A outer s H args us vs Q E p cls d hr hot hz hpin e0 hb r hsp => ?_⟩
  have hl := len _ _ _ _ _ _ _ hsp
  have KX : K.In s.heap := e0.mod.kin.keeps fun b o e => (e0.bs b o e).1
  have lim : s.heap.NoLimit := e0.mod.nolimit.keeps fun b o e => (e0.bs b o e).1
  have hkind : ∀ y ∈ ps.zip us, scope.names.lookup y.1 = some .local ∨ (scope.names.lookup y.1 = some .cell ∧ ((cellsFrom (s.heap.objs.size + 1) scope.names []).lookup y.1).isSome = true) := fun ⟨n, v⟩ hy => by
    rcases S.par n (List.of_mem_zip hy).1 with q | q
    · exact .inl q
    · exact .inr ⟨q, PySem.W.cellsFrom_some _ _ _ (.inl q)⟩
  refine codeAny_call_function hr.toRoomH.depth (KX _ _ lk) rfl S.co S.gen rfl (PySem.W.codeRec_of KX hcd) (hb _ _ _ _ ?_)
  refine wpAny_newFunctionEnv_cells S.kind hkind fun env he s1 x => ?_
  subst he
  refine ⟨lim.keeps x.toInCall.keep, codeAny_func ?_⟩
  obtain ⟨t, ht, hq⟩ := hbody A outer s H vs Q E p cls d hot hz (hr.deeper _) hsp
  have I : Inv (cxH CX P w K mg base N qual scope f cdv A outer s H E p) [] (L2.start N vs) H s1 := inv_startH S hpin e0 hl r x
  refine wpAny_mono (ht.run [] s1 (L2.start N vs) H _ I hq) (fun fl s' hs => ?_) fun e s' hs => hs
  have fin : ∀ {σ' : L2.St} {H' : Hp} {v : V} {u : Value}, Inv (cxH CX P w K mg base N qual scope f cdv A outer s H E p) [] σ' H' s' → RelV v u → Q v H' → CE outer P w H s Q u s' :=
    fun {σ' H' v u} J rv q => ⟨v, H', J.os, J.bare, J.base, J.hok, rv, q⟩
  cases fl with
  | ret u =>
    obtain ⟨v, σ', H', J, rv, q⟩ := hs
    exact fin J rv q
  | next =>
    obtain ⟨σ', H', J, q⟩ := hs
    exact fin (v := V.non) (u := Value.none) J rfl q
  | brk =>
    obtain ⟨_, _, _, q⟩ := hs
    exact False.elim q
  | cont =>
    obtain ⟨_, _, _, q⟩ := hs
    exact False.elim q
end
theorem start_onX {Z : Zx} {G : Hp} {α : List Addr} {N : List Str} {c : String} {r : Vr} {l : List Vr} {ws : List V} {w : V} {a dd : Addr} {m : Nat} (hN : N.length = m + 1) (h : OnA Z G α l ws) (hd : G dd = some (.xd [(("value" : Str), w)])) (hr : OnR Z G α r w) :
    OnE (Z.at a (.ref (Z.cm c)) (some dd)) G α (startX N.length c (r :: l)) (L2.start N (.ref a :: ws)) := by
  have hl := h.len
  have e0 : startX N.length c (r :: l) = .x c r :: startE m l := by
    unfold startX
    rw [hN]
    rfl
  have e1 : L2.start N (.ref a :: ws) = some (.ref a) :: (ws.map some ++ List.replicate (m - ws.length) none) := by
    unfold L2.start
    rw [hN]
    simp
  rw [e0, e1]
  refine ⟨?_, fun i d e => ?_, fun i c' r' e => ?_⟩
  · unfold startE
    simp [hl]
  · cases i with
    | zero => cases e
    | succ i =>
      rw [List.getElem?_cons_succ] at e ⊢
      unfold startE at e
      by_cases hi : i < l.length
      · rw [List.getElem?_append_left (by rw [List.length_map]; exact hi), List.getElem?_map] at e
        cases q : l[i]? with
        | none => rw [q] at e; cases e
        | some a' =>
          rw [q] at e
          cases e
          obtain ⟨x, h1, h2⟩ := h.get q
          refine ⟨x, ?_, h2⟩
          rw [List.getElem?_append_left (by rw [List.length_map, hl]; exact hi), List.getElem?_map, h1]
          rfl
      · rw [List.getElem?_append_right (by rw [List.length_map]; omega), List.getElem?_replicate] at e
        split at e <;> cases e
  · cases i with
    | zero =>
      cases e
      exact ⟨a, dd, w, rfl, rfl, hd, hr⟩
    | succ i =>
      rw [List.getElem?_cons_succ] at e
      unfold startE at e
      by_cases hi : i < l.length
      · rw [List.getElem?_append_left (by rw [List.length_map]; exact hi), List.getElem?_map] at e
        cases q : l[i]? with
        | none => rw [q] at e; cases e
        | some a' => rw [q] at e; cases e
      · rw [List.getElem?_append_right (by rw [List.length_map]; omega), List.getElem?_replicate] at e
        split at e <;> cases e
/-- such a def computes its denotation -/
theorem fn_dHX {Z : Zx} {P : Program} {w : World} {K : PySem.W.Frag} {mg : Str → Option Value} {base : Heap} {CX : CXT} {b : Bool} {x qual : Str} {st : Stmt} {f : Addr} {fd : FuncData} {N ps : List Str} {k n : Nat} {fb : FS} (F : FunD K x qual st f fd) (sc : FnScope N ps (defScope st)) (hps : ps.length = n + 1) (hN : ∃ m, N.length = m + 1)
    (hb : ∀ (cdv : Value) (A : Around) (outer : List PySem.Env) (s : Shared) (H : Hp) (E : XK) (p : Addr × Obj) (cls : Value) (d : Option Addr), L2H.Hot1 A p → L2N.Zn cls d p.2 → (∃ vs, p.2.data = .fields vs) → RoomX b k (A.deeper (envOfC qual (defScope st) s.heap.objs.size f cdv)) →
      PSsF (Z.at p.1 cls d) (WD E) (L2H.cxH CX P w K mg base N qual (defScope st) f cdv A outer s H E p) (defBody st) fb) : FnHX b P w K mg base CX (k + 1) f fd ps (spDX Z ps.length (defDX N.length fb)) := by
  obtain ⟨oc, od, dV, kV, doc, pm, an, cdv, ct, osl, rfl, lk, hcd⟩ := F.ex
  obtain ⟨m0, hN⟩ := hN
  refine fn_ofHX lk hcd sc (fun a cls d vs H Q E h => ?_) fun A outer s H vs Q E p cls d hot hz hr h => ?_
  · obtain ⟨G, α, S, c, dd, w0, r, l, ws, _, _, _, _, _, rfl, h1, h2, _⟩ := h
    rw [List.length_cons, h1.len, h2]
  · obtain ⟨G, α, S, c, dd, w0, r, l, ws, rfl, rfl, hx, hxr, hd, rfl, oa, hl, w'⟩ := h
    have hf : ∃ vs, p.2.data = .fields vs := by
      obtain ⟨_, vs, e, _⟩ := hot
      exact ⟨vs, e⟩
    refine ⟨_, (hb cdv A outer s H E p _ _ hot hz hf hr).ps, startX N.length c (r :: l), G, α, S, hd, start_onX hN oa hx hxr, ?_⟩
    have w2 := exitR_ok (Z := Z.at p.1 (.ref (Z.cm c)) (some dd)) hd w'
    cases q : fb (startX N.length c (r :: l)) S with
    | nx e2 S2 =>
      rw [q] at w2
      exact fun σ2 H2 G2 α2 f2 hd2 oe2 => w2 H2 G2 α2 f2 hd2 _ (or_non (Z.at _ _ _) G2 α2)
    | rt S2 r =>
      rw [q] at w2
      show Wk (Z.at _ _ _) (.ok S2 r) G α H (pRt (Z.at _ _ _) Q) E0
      cases r <;> exact w2
    | ex e2 S2 x =>
      rw [q] at w2
      exact fun σ2 cls d H2 G2 α2 f2 hd2 oe2 ox => (w2 cls d H2 G2 α2 f2 hd2 ox).elim
    | bk e2 S2 => rw [q] at w2; exact w2.elim
    | ct e2 S2 => rw [q] at w2; exact w2.elim
    | no => rw [q] at w2; exact w2.elim
def fCallX (m : Nat) (D : FDX) (i : Nat) (fa : FA) : FE := fun env S => match env[i]? with
  | some (.x c r) => (fa env S).bind fun S1 l => if l.length + 1 = m then okR (D c (r :: l) S1) else .no
  | _ => .no
section
variable {b : Bool} {X : Cx} {CX : CXT} {k m i : Nat} {f : Addr} {fd : FuncData} {ps : List Str} {sp : Addr → Value → Option Addr → Sp} {x y : Str} {q q2 pos : Pos} {es : List Expr} {ta : TA} {E : XK} {cls : Value} {d : Option Addr} {p : Addr × Obj}
theorem run_fnHX {pins : List (Addr × Obj)} {σ : L2.St} {H : Hp} {s : Shared} {Q : VK} {us : List Value} {vs : List V} (F : FnHX b X.prog X.w X.K X.mg X.base CX k f fd ps sp) (hr : RoomX b k X.A) (hot : L2H.Hot1 X.A p) (hz : L2N.Zn cls d p.2) (hp : p ∈ X.pn) (hb : Binds X.K fd ps []) (hx : PassesAt CX X σ E)
    (I : Inv X pins σ H s) (r : Vals vs us) (h : sp p.1 cls d vs H Q E) : wpAny (model X.prog X.w) X.A (call (.ref f) us) (EP X pins σ Q) X.xe s := by
  have hl : us.length = ps.length := by rw [← r.length]; exact F.len _ _ _ _ _ _ _ h
  have b0 := hb s us I.kIn (by rw [List.append_nil]; exact hl)
  rw [List.append_nil] at b0
  have P1 := I.pin p (List.mem_append_left _ hp)
  have hpin : L2H.PinOk X.stack H s p := ⟨P1.1, P1.2.1, fun hm => (List.mem_cons.mp (I.stkSub p.1 hm)).elim P1.2.2.1 P1.2.2.2.1, P1.2.2.2.2⟩
  refine wpAny_call (codeAny_mono (F.run X.A X.stack s H ⟨us, []⟩ us vs Q E p cls d hr hot hz hpin I.env0 b0 r h) fun r s' hq => ?_)
  cases r with
  | error e => exact hx pins H s e s' I hq
  | ok fl =>
    cases fl with
    | ret u => exact I.after hq
    | next => exact False.elim hq
    | brk => exact False.elim hq
    | cont => exact False.elim hq
theorem pe_callHX (F : FnHX b X.prog X.w X.K X.mg X.base CX k f fd ps sp) (hr : RoomX b k X.A) (hot : L2H.Hot1 X.A p) (hz : L2N.Zn cls d p.2) (hp : p ∈ X.pn) (hg : Gl X x) (hm : X.mg x = some (.ref f)) (hk : PySem.W.keepIn X.K (.ref f) = true) (hb : Binds X.K fd ps []) (hx : ∀ σ, PassesAt CX X σ E) {e : Expr} {t : TA}
    (ha : PA X (e :: es) t) (hdb : (x == ("__debug__" : Str)) = false := by decide) (he : starEach (e :: es) X.env = (false, eval e X.env) :: starEach es X.env := by rfl) (hpl : (backTo pos (starEach es X.env)).any (·.1) = false := by rfl) :
    PE X (.Call (.Name x q) (e :: es) [] pos) (fun σ H Q => t σ H fun vs H1 => sp p.1 cls d vs H1 Q E) := by
  refine ⟨fun pins s σ H Q I h => ?_⟩
  refine wpAny_Call_Name_kw (ld_glob I hg hm ?_ hdb)
  refine PySem.W.callWith_K (h₀ := X.base) I.ok.mod.kin hk (thn (ha.run pos pins s σ H _ I h) fun us s1 ⟨vs, H1, I1, r, q⟩ => ⟨I1.kIn, ?_⟩) he hpl
  exact run_fnHX F hr hot hz hp hb (hx σ) I1 r q
/-- f(e, ..) in the suite of a clause -/
theorem pf_callX {D : FDX} {Z : Zx} {a : Addr} {oe : Obj} {pn : List (Addr × Obj)} {fa : FA} {Ew : L2.St → XK} (F : FnHX b X.prog X.w X.K X.mg X.base (L2N.CX X.prog X.w) k f fd ps (spDX Z m D)) (hr : RoomG b k X.A) (hz : L2N.Zn cls d oe) (hf : ∃ vs, oe.data = .fields vs)
    (hg : Gl (X.suite a ((a, oe) :: pn)) x) (hm : X.mg x = some (.ref f)) (hk : PySem.W.keepIn X.K (.ref f) = true) (hb : Binds X.K fd ps [])
    (ha : PAF (Z.at a cls d) Ew (X.suite a ((a, oe) :: pn)) es fa)
    (hN : X.N[i]? = some y := by rfl) (hv : Vis X.env.scope y := by first | exact Or.inl rfl | exact Or.inr (Or.inl rfl) | exact Or.inr (Or.inr rfl)) (hd : (y == ("__debug__" : Str)) = false := by decide)
    (hcd : (y == ("__classdict__" : Str)) = false := by decide)
    (hdb : (x == ("__debug__" : Str)) = false := by decide) (he : starEach (.Name y q2 :: es) X.env = (false, eval (.Name y q2) X.env) :: starEach es X.env := by rfl) (hpl : (backTo pos (starEach es X.env)).any (·.1) = false := by rfl) :
    PF (Z.at a cls d) Ew (X.suite a ((a, oe) :: pn)) (.Call (.Name x q) (.Name y q2 :: es) [] pos) (fCallX m D i fa) := by
  obtain ⟨ta, h1, h2⟩ := ha.ex
  have hot : L2H.Hot1 (X.suite a ((a, oe) :: pn)).A (a, oe) := by
    obtain ⟨vs, e⟩ := hf
    exact ⟨rfl, vs, e, hz.2.2 vs e⟩
  refine ⟨_, pe_callHX (X := X.suite a ((a, oe) :: pn)) (p := (a, oe)) F (RoomX.suite hr) hot hz List.mem_cons_self hg hm hk hb (fun σ => passesAt (passH fun _ _ _ _ _ => cx_no) σ) (pa_cons (pe_var (X := X.suite a ((a, oe) :: pn)) hN hv hd hcd) h1 he) hdb he hpl, fun env σ G α S H Q hd oe' w => ?_⟩
  unfold fCallX at w
  cases q : env[i]? with
  | none => rw [q] at w; exact w.elim
  | some sl =>
    rw [q] at w
    cases sl with
    | u => exact w.elim
    | v r => exact w.elim
    | x c r =>
      obtain ⟨a', dd, w0, e1, e2, e3, e4⟩ := oe'.xs i c r q
      have e1 : some (a, cls, d) = some (a', Value.ref (Z.cm c), some dd) := e1
      simp only [Option.some.injEq, Prod.mk.injEq] at e1
      obtain ⟨rfl, rfl, rfl⟩ := e1
      refine ⟨_, e2, ?_⟩
      refine h2.bind hd oe' w fun S2 l vs H2 G2 α2 f2 hd2 oe2 ol w2 => ?_
      by_cases hl : l.length + 1 = m
      · rw [if_pos hl] at w2
        exact ⟨G2, α2, S2, c, dd, w0, r, l, vs, rfl, rfl, f2.g _ _ e3, e4.up f2.g f2.a, hd2, rfl, ol, hl, okR_ok w2⟩
      · rw [if_neg hl] at w2
        exact w2.elim
end
end DN
namespace HotL
open PySem PySem.Spec PyProof.Rows L2 L2H HotX
abbrev blkH (X : Cx) (s : Shared) (H : Hp) (scope : Scope) (cenv : Env) (fp : List Addr) : Cx := { X with s_0 := s, H_0 := H, env := cenv, outer := X.stack, ex := fp, fn := fun x => scope.names.lookup x == some .cell, xe := fun _ _ => False }
section
variable {X : Cx} {pins : List (Addr × Obj)} {σ : L2.St} {H : Hp} {s : Shared}
theorem block_startH {scope : Scope} {own : List (Str × Nat)} {fp : List Addr} (I : Inv X pins σ H s) (ok : BlkOk X.N X.env.scope scope own) (hN : X.N.Nodup) (hfp : ∀ b ∈ fp, FpOk X pins H b ∧ b < s.heap.objs.size) :
    Inv (blkH X s H scope (compEnvC scope (cellsFrom (s.heap.objs.size + 1) scope.names (cloFrom X.env.cells scope.names [])) s.heap.objs.size X.env) fp) [] (wipe σ (own.map (·.2))) H { s with heap := pushCells (s.heap.push { cls := .type "dict", data := .dict #[] }) scope.names } := by
  have J := block_start I ok hN hfp
  refine ⟨⟨J.ok.mod, J.ok.kind, J.ok.glob, J.ok.blt, J.ok.above, J.ok.inj, J.ok.has, J.ok.cab, J.ok.hd, J.ok.frames, J.ok.stk, J.ok.exf, J.ok.bs, J.ok.bsz, J.ok.noex, J.ok.exfs, J.ok.funs, J.ok.frf⟩, J.os, J.bare, J.base, J.loc, J.cell, J.free, J.freeC, fun p hp => ?_, J.hok, J.len⟩
  have hp' : p ∈ X.pn := by
    have hp : p ∈ X.pn ++ ([] : List (Addr × Obj)) := hp
    simpa using hp
  obtain ⟨h1, h2, h3, h4, h5⟩ := I.pin p (List.mem_append_left _ hp')
  refine ⟨pushCells_keeps _ _ _ _ (Heap.get?_push_of_some _ h1), h2, fun z => ?_, fun z => ?_, h5⟩
  · have z : p.1 = s.heap.objs.size := z
    exact Nat.ne_of_lt (Heap.lt_size h1) z
  · rcases List.mem_cons.mp (I.stkSub p.1 z) with q | q
    · exact h3 q
    · exact h4 q
theorem lc_coreH {Q : VK} {elt tg iter : Expr} {ifs : List Expr} {scope : Scope} {own : List (Str × Nat)} {pos pos' : Pos} {wi : TI} {g : TG} {tt : TT} {te : TE} {use : Option (Value → Sem Unit)} {Qf : Value → Shared → Prop}
    (hc : HotC X) (hN : X.N.Nodup) (I : Inv X pins σ H s) (hi : PIH X tg iter wi) (ok : BlkOk X.N X.env.scope scope own)
    (hg : ∀ (s : Shared) (H : Hp) (C : Addr) (cl : List (Str × Addr)) (fp : List Addr), PG (blkH X s H scope (compEnvC scope cl C X.env) fp) tg g) (ht : ∀ (s : Shared) (H : Hp) (C : Addr) (cl : List (Str × Addr)) (fp : List Addr), PTs (blkH X s H scope (compEnvC scope cl C X.env) fp) ifs tt)
    (he : ∀ (s : Shared) (H : Hp) (C : Addr) (cl : List (Str × Addr)) (fp : List Addr), PE (blkH X s H scope (compEnvC scope cl C X.env) fp) elt te) (hs : ∀ x, foldedSetIterable iter X.env x = pure x)
    (h : tLc wi g tt te (own.map (·.2)) σ H Q)
    (hRR : ∀ D C s' m H', Inv X pins σ H' s' → Q (.ref D) H' → s'.heap.Ns C m → FpOk X pins H' C → compPost (model X.prog X.w) X.A X.xe use Qf (.ref D) C (.ok .next) s') :
    wpAny (model X.prog X.w) X.A (comprehension (.ListComp elt [⟨tg, iter, ifs, 0⟩] scope pos) scope X.env pos' (newList []) false (eval iter X.env) use) Qf X.xe s := by
  have hfree : ∀ y ∈ scope.names, y.2 = .free → ∃ c, X.env.cells.lookup y.1 = some c := fun y hy e => by
    rcases ok.free y hy e with k | k
    · exact I.ok.has _ (.inl k)
    · exact I.ok.has _ (.inr k)
  refine wpAny_comprehension_free (use := use) rfl hs (closure_ok hfree) ok.kind (fun y hy e => by rw [ok.uniq y hy, e])
    (thn (hi.run pins s σ H _ I h) fun xv s1 hx => thn hx fun itv s2 h2 => ?_)
  obtain ⟨it, fp, tn, J, H2, e, I2, T, st2, f2, q⟩ := h2
  subst e
  refine wpAny_newObj_type (newEnv_comp ?_) (by show 0 ≤ sizeLine; decide)
  generalize hD : s2.heap.objs.size = D
  obtain ⟨W, ⟨m0, w0⟩, turn⟩ := q D (I2.hok.fresh (Nat.le_of_eq hD))
  -- the list is laid
  generalize hs3 : ({ s2 with heap := s2.heap.push { cls := .type "list", data := .seq ([] : List Value).toArray } } : Shared) = s3
  have I3 : Inv X pins σ (upd H2 D (.lst [])) s3 := by
    rw [← hs3]
    refine I2.laid (t' := s2.toks) (fun b o e => Heap.get?_push_of_some _ e) (Nat.le_of_eq hD) ⟨Nat.zero_le _, [], 0, .nil, ?_⟩
    rw [← hD]
    exact Heap.get?_push_size _ rfl
  have h3 : s3.heap = s2.heap.push { cls := .type "list", data := .seq ([] : List Value).toArray } := by rw [← hs3]
  have f3 : ∀ b ∈ fp, FpOk X pins (upd H2 D (.lst [])) b ∧ b < s3.heap.objs.size := fun b hb => by
    obtain ⟨o, e, _⟩ := T.obj _ _ st2 b hb
    have hlt := Heap.lt_size e
    refine ⟨⟨?_, (f2 b hb).2⟩, by rw [h3, Heap.size_push]; exact Nat.lt_succ_of_lt hlt⟩
    rw [upd_ne (by rw [← hD]; exact Nat.ne_of_lt hlt)]
    exact (f2 b hb).1
  have st3 : tn 0 s3.heap := T.keep _ _ _ st2 fun b _ o e => by rw [h3]; exact Heap.get?_push_of_some _ e
  have I4 := block_startH I3 ok hN f3
  have pg := hg s3 (upd H2 D (.lst [])) s3.heap.objs.size (cellsFrom (s3.heap.objs.size + 1) scope.names (cloFrom X.env.cells scope.names [])) fp
  have pt := ht s3 (upd H2 D (.lst [])) s3.heap.objs.size (cellsFrom (s3.heap.objs.size + 1) scope.names (cloFrom X.env.cells scope.names [])) fp
  have pe := he s3 (upd H2 D (.lst [])) s3.heap.objs.size (cellsFrom (s3.heap.objs.size + 1) scope.names (cloFrom X.env.cells scope.names [])) fp
  show codeAny _ _ (.compStart (.ListComp elt [⟨tg, iter, ifs, 0⟩] scope pos) 0 (.ref it) (.ref D) (compEnvC scope (cellsFrom (s3.heap.objs.size + 1) scope.names (cloFrom X.env.cells scope.names [])) s3.heap.objs.size X.env)) (compPost (model X.prog X.w) X.A X.xe use Qf (.ref D) s3.heap.objs.size) { s3 with heap := pushCells (s3.heap.push { cls := .type "dict", data := .dict #[] }) scope.names }
  have nfp : ∀ b ∈ fp, (upd H2 D (.lst [])) b = none := fun b hb => (f3 b hb).1.1
  generalize hce : compEnvC scope (cellsFrom (s3.heap.objs.size + 1) scope.names (cloFrom X.env.cells scope.names [])) s3.heap.objs.size X.env = ce at I4 pg pt pe ⊢
  have cL : ce.locals = s3.heap.objs.size := by subst hce; rfl
  generalize hH3 : upd H2 D (.lst []) = H3 at I3 I4 pg pt pe w0 nfp f3
  generalize hs4 : ({ s3 with heap := pushCells (s3.heap.push { cls := .type "dict", data := .dict #[] }) scope.names } : Shared) = s4 at I4 ⊢
  have st4 : tn 0 s4.heap := T.keep _ _ _ st3 fun b _ o e => by rw [← hs4]; exact pushCells_keeps _ _ _ _ (Heap.get?_push_of_some _ e)
  have hcB : HotC (blkH X s3 H3 scope ce fp) := hc
  have stat : ∀ {σ' : L2.St} {H' : Hp} {s' : Shared}, Inv (blkH X s3 H3 scope ce fp) [] σ' H' s' → (∀ b ∈ fp, H' b = none) → ∀ b ∈ fp, FpOk (blkH X s3 H3 scope ce fp) [] H' b := fun {σ' H' s'} I' hn b hb =>
    ⟨hn b hb, (I'.ok.exf b hb).1, I'.ok.exfs b hb, .inl hb, fun x c e => (I'.ok.exf b hb).2 x c e, fun p hp => (f3 b hb).1.2.2.2.2.2 p (by
      have hp : p ∈ X.pn ++ ([] : List (Addr × Obj)) := hp
      exact List.mem_append_left _ (by simpa using hp))⟩
  refine codeAny_compStart_list (?_ : codeAny (model X.prog X.w) X.A (.compLoop (.ListComp elt [⟨tg, iter, ifs, 0⟩] scope pos) 0 (.ref it) (.ref D) ce) (compPost (model X.prog X.w) X.A X.xe use Qf (.ref D) s3.heap.objs.size) s4) (T.self X.A 0 _ _ _ st4 ?_)
  all_goals
    refine compLoop_any (fun n s' => ∃ i H', Inv (blkH X s3 H3 scope ce fp) [] (wipe σ (own.map (·.2))) H' s' ∧ tn i s'.heap ∧ (∀ b ∈ fp, H' b = none) ∧ W i n H') ?_ m0 ⟨0, H3, I4, st4, nfp, w0⟩
    rintro n s5 ⟨i, H5, I5, st5, n5, w5⟩
    rcases turn i n H5 w5 with ⟨stop, qq⟩ | ⟨go, Nx, hNx, step⟩
    · refine thnF (T.done (blkH X s3 H3 scope ce fp) rfl rfl rfl hcB i [] s5 _ H5 (fun _ _ => False) I5 (stat I5 n5) st5 stop) fun r s6 ⟨hr, I6⟩ => ?_
      subst hr
      have I7 : Inv X pins σ H5 s6 := I3.call' (ch := fp) I6.os I6.base I6.hok I6.bare fun b hb => ⟨(f3 b hb).1.2.2.2.1, (f3 b hb).1.2.1, (f3 b hb).1.2.2.2.2.1, (f3 b hb).1.2.2.2.2.2⟩
      have nC : H5 s3.heap.objs.size = none := by
        have z : H5 ce.locals = none := I6.free
        rw [cL] at z
        exact z
      obtain ⟨m, hn, _⟩ := I6.loc
      have hn : s6.heap.Ns ce.locals m := hn
      rw [cL] at hn
      exact hRR D s3.heap.objs.size s6 m H5 I7 qq hn (I3.fpOk (Nat.le_refl _) nC)
    · refine thnF (T.item (blkH X s3 H3 scope ce fp) rfl rfl rfl hcB i [] s5 _ H5 (fun _ _ => False) I5 (stat I5 n5) st5 go) fun r s6 ⟨u, hr, h6⟩ => ?_
      subst hr
      refine thnF h6 fun _ s7 ⟨x, H7, I7, r7, y7, st7, n7⟩ => ?_
      have I7' := I7.pinned (stat I7 n7) (T.obj _ _ st7)
      refine thnF (pg.run _ s7 _ H7 x u _ I7' r7 (step x H7 y7)) fun _ s8 ⟨σ8, H8, I8, hw8, q8⟩ => ?_
      refine thnF (pt.run _ s8 σ8 H8 _ I8 q8) fun b s9 ⟨H9, I9, q9⟩ => ?_
      have fin : ∀ {s' : Shared} {H' : Hp}, Inv (blkH X s3 H3 scope ce fp) ([] ++ pinsAt fp s7.heap) σ8 H' s' → Nx H' → ∃ m, m < n ∧ ∃ i H', Inv (blkH X s3 H3 scope ce fp) [] (wipe σ (own.map (·.2))) H' s' ∧ tn i s'.heap ∧ (∀ b ∈ fp, H' b = none) ∧ W i m H' := fun {s' H'} I' nx => by
        obtain ⟨m', hm, w'⟩ := hNx H' nx
        have pin' : ∀ b ∈ fp, ∀ o, s7.heap.get? b = some o → s'.heap.get? b = some o ∧ H' b = none := fun b hb o e =>
          let z := I'.pin (b, o) (List.mem_append_right _ (List.mem_append_right _ (mem_pinsAt hb e)))
          ⟨z.1, z.2.1⟩
        have hl : (wipe σ (own.map (·.2))).length = σ8.length := by rw [← hw8, wipe_length]
        refine ⟨m', hm, i + 1, H', (I'.unpinned (pins := [])).weak hl (fun j v e => ?_), T.keep _ _ _ st7 fun b hb o e => (pin' b hb o e).1, fun b hb => ?_, w'⟩
        · rw [← hw8] at e
          exact (wipe_some e).1
        · obtain ⟨o, e, _⟩ := T.obj _ _ st7 b hb
          exact (pin' b hb o e).2
      cases b with
      | false =>
        simp only [Bool.false_eq_true, if_false] at q9 ⊢
        exact fin I9 q9
      | true =>
        simp only [if_true] at q9 ⊢
        refine thnF (pe.run _ s9 σ8 H9 _ I9 q9) fun z s10 ⟨yv, H10, I10, r10, acc, hD10, hz10, nx⟩ => ?_
        exact app_ok (X := blkH X s3 H3 scope ce fp) I10 hD10 hz10 r10 fun s11 I11 => fin I11 nx
end
theorem pe_lcH {X : Cx} {elt tg iter : Expr} {ifs : List Expr} {scope : Scope} {own : List (Str × Nat)} {pos : Pos} {wi : TI} {g : TG} {tt : TT} {te : TE} (hc : HotC X) (hN : X.N.Nodup) (hi : PIH X tg iter wi) (ok : BlkOk X.N X.env.scope scope own)
    (hg : ∀ (s : Shared) (H : Hp) (C : Addr) (cl : List (Str × Addr)) (fp : List Addr), PG (blkH X s H scope (compEnvC scope cl C X.env) fp) tg g) (ht : ∀ (s : Shared) (H : Hp) (C : Addr) (cl : List (Str × Addr)) (fp : List Addr), PTs (blkH X s H scope (compEnvC scope cl C X.env) fp) ifs tt)
    (he : ∀ (s : Shared) (H : Hp) (C : Addr) (cl : List (Str × Addr)) (fp : List Addr), PE (blkH X s H scope (compEnvC scope cl C X.env) fp) elt te) (hs : ∀ x, foldedSetIterable iter X.env x = pure x := by intro _; rfl) :
    PE X (.ListComp elt [⟨tg, iter, ifs, 0⟩] scope pos) (tLc wi g tt te (own.map (·.2))) := by
  refine ⟨fun pins s σ H Q I h => ?_⟩
  rw [eval_ListComp]
  refine lc_coreH hc hN I hi ok hg ht he hs h fun D C s' m H' I' q hn f => ⟨m, hn, fun h'' sb => ?_⟩
  obtain ⟨f0, f1, f2, f3, f4, f5⟩ := f
  exact ⟨.ref D, H', I'.turned (t' := s'.toks) (fun b o hb e => (sb.2 b hb).trans e) f0 f1 f3 f4 f5, rfl, q⟩
end HotL
namespace HotL
open PySem PySem.Spec PyProof.Rows L2 L2H HotX
theorem pi_altH {X : Cx} {tg e : Expr} {t u : TI} (h1 : PIH X tg e t) (h2 : PIH X tg e u) : PIH X tg e (fun σ H R => t σ H R ∨ u σ H R) :=
  ⟨fun pins s σ H R I h => h.elim (h1.run pins s σ H R I) (h2.run pins s σ H R I)⟩
end HotL
namespace DN
open PySem PySem.Spec PyProof.Rows L2 Evl OP
section
variable {Z : Zx} {X : Cx} {Ew : L2.St → XK} {G H G' H' : Hp} {α : List Addr} {S : Sto} {Q : VK} {E : XK} {tg e : Expr} {fa : FE} {te : TE} {pos : Pos}
structure PIFH (Z : Zx) (Ew : L2.St → XK) (X : Cx) (tg e : Expr) (f : FI) : Prop where
  pi : L2H.PIH X tg e (tFI Z Ew f)
theorem pf_lcH {elt iter : Expr} {ifs : List Expr} {scope : Scope} {own : List (Str × Nat)} {fi : FI} {ftg : FG} {ft : FT} {fe : FE} {sl : List Nat} (hc : L2H.HotC X) (hN : X.N.Nodup) (hi : PIFH Z Ew X tg iter fi) (ok : BlkOk X.N X.env.scope scope own)
    (hg : ∀ (s : Shared) (H : Hp) (C : Addr) (cl : List (Str × Addr)) (fp : List Addr), PGF Z (HotL.blkH X s H scope (compEnvC scope cl C X.env) fp) tg ftg sl)
    (ht : ∀ (s : Shared) (H : Hp) (C : Addr) (cl : List (Str × Addr)) (fp : List Addr), PTsF Z (HotL.blkH X s H scope (compEnvC scope cl C X.env) fp) ifs ft)
    (he : ∀ (s : Shared) (H : Hp) (C : Addr) (cl : List (Str × Addr)) (fp : List Addr), PF Z Ew0 (HotL.blkH X s H scope (compEnvC scope cl C X.env) fp) elt fe)
    (hsl : ∀ i ∈ sl, i ∈ own.map (·.2) := by decide) (hs : ∀ x, foldedSetIterable iter X.env x = pure x := by intro _; rfl) : PF Z Ew X (.ListComp elt [⟨tg, iter, ifs, 0⟩] scope pos) (fLc fi ftg ft fe (own.map (·.2))) :=
  ⟨_, HotL.pe_lcH hc hN hi.pi ok (fun s H C cl fp => (hg s H C cl fp).pg) (fun s H C cl fp => (ht s H C cl fp).pts) (fun s H C cl fp => (he s H C cl fp).pe) hs, se_lc hsl⟩
end
theorem _root_.L2H.RoomH.in1 {k : Nat} {A : Around} (r : L2H.RoomH (k + 1) A) : L2H.RoomH k A.in1 :=
  ⟨by have := r.dp; show A.depth + 3 * k + 5 < _; omega, by have := r.un; show A.units + 1 + 16 * k + 200 < _; omega⟩
end DN
namespace DN
open PySem PySem.Spec PyProof.Rows L2 Evl
section
variable {Z : Zx} {X : Cx} {G H : Hp} {α : List Addr} {S : Sto} {Q : VK} {E : XK} {Ew : L2.St → XK} {p : Addr × Obj} {cls : Value} {d : Option Addr}
def rIsH (Z : Zx) (errs : List String) (is : String → String → Bool) (a : Addr) (cls : Value) (d : Option Addr) : List V → Hp → VK → Prop := fun xs H Q => ∃ c n dd fs, c ∈ errs ∧ n ∈ errs ∧ xs = [.ref a, .ref (Z.cm n)] ∧ cls = .ref (Z.cm c) ∧ d = some dd ∧ H dd = some (.xd fs) ∧ Q (.bl (is c n)) H
theorem cd_isH {errs : List String} {is : String → String → Bool} (hK : X.K = Z.K) (T : XvOk Z errs is) (hp : p ∈ X.pn) (hz : Zc cls d p.2) (hf : ∃ vs, p.2.data = .fields vs) : CallR X (.builtin "isinstance") (rIsH Z errs is p.1 cls d) := by
  intro pins s σ H xs us Q I r h
  obtain ⟨c, n, dd, fs, hc, hn, rfl, rfl, rfl, ed, q⟩ := h
  obtain ⟨ha, _⟩ := I.pin p (List.mem_append_left _ hp)
  obtain ⟨vs, hd⟩ := hf
  have hx : ObjOk X.prog X.w H s.heap dd (.xd fs) := I.hok dd _ ed
  obtain ⟨mA, hns, hr⟩ := hx
  obtain ⟨od, ho, hl⟩ := lookIn_ns hns
  have J : PySem.W.InstAt s.heap p.1 p.2 (Z.cm c) (some od) := ⟨ha, hz.1, by unfold PySem.W.notCls; rw [hd] <;> rfl, by rw [hz.2]; exact ho⟩
  obtain ⟨u1, u2, rfl, r1, r2⟩ := vals2 r
  obtain rfl : u1 = Value.ref p.1 := r1
  obtain rfl : u2 = Value.ref (Z.cm n) := r2
  have C := (T.ex c hc).2
  rw [← hK] at C
  have hcl : (PySem.W.clsIn X.K (Z.cm c)).isSome = true := by
    obtain ⟨cd, hc', _⟩ := PySem.W.any_some C.hd
    rw [hc']
    rfl
  exact PySem.W.kia_one (PySem.W.kitx_exc hcl C.hg C.hk C.hs C.ha C.hn C.ht C.hm) I.kIn J (hK ▸ T.two c hc n hn) (fun z => nomatch z) fun tk => ⟨.bl (is c n), H, I.tok tk, rfl, q⟩
/-- isinstance(e, n), e the handled exception -/
def fIsX (errs : List String) (is : String → String → Bool) (i : Nat) (n : String) : FE := fun env S => match env[i]? with
  | some (.x c _) => if errs.contains c && errs.contains n then .ok S (.val (.d (.bl (is c n)))) else .no
  | _ => .no
theorem pf_isX {errs : List String} {is : String → String → Bool} {i : Nat} {n : String} {y x : Str} {pos q1 q2 q3 : Pos} (hK : X.K = Z.K) (T : XvOk Z errs is) (hp : p ∈ X.pn) (hz : Zc cls d p.2) (hf : ∃ vs, p.2.data = .fields vs) (hg : Gl X "isinstance") (hm : X.mg "isinstance" = none)
    (hgn : Gl X x) (hmn : X.mg x = some (.ref (Z.cm n)))
    (hN : X.N[i]? = some y := by rfl) (hv : Vis X.env.scope y := by first | exact Or.inl rfl | exact Or.inr (Or.inl rfl) | exact Or.inr (Or.inr rfl)) (hd : (y == ("__debug__" : Str)) = false := by decide) (hcd : (y == ("__classdict__" : Str)) = false := by decide) (hdx : (x == ("__debug__" : Str)) = false := by decide)
    (he : starEach [.Name y q2, .Name x q3] X.env = (false, eval (.Name y q2) X.env) :: starEach [.Name x q3] X.env := by rfl) (he2 : starEach [.Name x q3] X.env = (false, eval (.Name x q3) X.env) :: starEach [] X.env := by rfl) (hpl : (backTo pos (starEach [.Name x q3] X.env)).any (·.1) = false := by rfl) :
    PF (Z.at p.1 cls d) Ew X (.Call (.Name "isinstance" q1) [.Name y q2, .Name x q3] [] pos) (fIsX errs is i n) := by
  refine ⟨_, pe_callB (cd_isH hK T hp hz hf) hg hm (by decide +kernel) (pa_cons (pe_var hN hv hd hcd) (pa_cons (pe_glob (v := .ref (Z.cm n)) hgn hmn rfl hdx) pa_nil he2) he) (by decide) (by decide) he hpl, fun env σ G α S H Q hd oe w => ?_⟩
  unfold fIsX at w
  cases q : env[i]? with
  | none => rw [q] at w; exact w.elim
  | some sl =>
    rw [q] at w
    cases sl with
    | u => exact w.elim
    | v r => exact w.elim
    | x c r =>
      simp only at w
      by_cases hc : (errs.contains c && errs.contains n) = true
      · rw [if_pos hc] at w
        obtain ⟨hc1, hc2⟩ := Bool.and_eq_true_iff.mp hc
        obtain ⟨a', dd, w0, e1, e2, e3, e4⟩ := oe.xs i c r q
        have e1 : some (p.1, cls, d) = some (a', Value.ref (Z.cm c), some dd) := e1
        simp only [Option.some.injEq, Prod.mk.injEq] at e1
        obtain ⟨rfl, rfl, rfl⟩ := e1
        exact ⟨_, e2, c, n, dd, _, by simpa using hc1, by simpa using hc2, rfl, rfl, rfl, hd.ex _ _ e3, w.dat hd (show OnR (Z.at _ _ _).toZt G α (.d (.bl (is c n))) (.bl (is c n)) from or_bl _ G α _)⟩
      · rw [if_neg hc] at w
        exact w.elim
/-- for .. in range(n) while an exception is handled -/
theorem pif_range1H {tg a : Expr} {fl : FA} {p1 pos : Pos} (hg : Gl X "range") (hm : X.mg "range" = none) (ha : PAF Z Ew X [a] fl) (hs : starEach [a] X.env = [(false, eval a X.env)] := by rfl) : PIFH Z Ew X tg (.Call (.Name "range" p1) [a] [] pos) (iRange1 fl) := by
  obtain ⟨ta, h1, h2⟩ := ha.ex
  refine ⟨⟨fun pins s σ H R' I ht => ?_⟩⟩
  obtain ⟨env, G, α, S, hd, oe, w⟩ := ht
  refine (HotL.pi_altH (L2H.pi_range1H hg hm h1 hs) (L2H.pi_range1H hg hm h1 hs)).run pins s σ H R' I (.inl ?_)
  refine h2.bind hd oe w fun S2 l vs H2 G2 α2 f2 hd2 oe2 ol w2 => ?_
  cases q : vi1 l with
  | none => rw [q] at w2; exact w2.elim
  | some j =>
    rw [q] at w2
    have w2 : Wk Z (if smallR j then R.ok S2 (rangeD 0 j, none) else .no) G2 α2 H2 (pI Z R') (Ew σ) := w2
    cases c : smallR j with
    | false => rw [c] at w2; exact w2.elim
    | true =>
      rw [c] at w2
      obtain ⟨b1, b2⟩ := smallR_ok c
      refine ⟨j, vi1_on q ol, by omega, by omega, w2 H2 G2 α2 (Fr.refl _ _ _) hd2 _ ?_⟩
      have := gz_range (Z := Z) (lo := 0) (n := j.toNat) (G2 := G2) (α2 := α2)
      unfold rangeD
      rw [Int.sub_zero]
      exact this
end
end DN
namespace Q02
open DN
abbrev errs : List String := ["OpenpostsError", "InvalidNumber", "InvalidWord", "InvalidWords", "InvalidPlace", "UnlikeLengths", "InvalidHouse", "InvalidHouses", "InvalidTie", "InvalidTies", "InvalidWeb", "InvalidOrder", "InvalidText", "InvalidAddresses", "InvalidParents", "InvalidTree", "InvalidPairs", "InvalidRow", "InvalidSide", "InvalidName", "InvalidDeed", "InvalidDeeds", "InvalidLine", "UnknownName", "NameTaken", "NotJoined", "NotKept", "TooLarge", "NothingToUndo"]
abbrev B_law_box : FS :=
  (kRet (fLst (fCons (fCall gMax (fCons (fC (.int 0)) (fCons (fOp gSub (fVar 0) (fOp gPow (fC (.int 10)) (fC (.int 18)))) fNil))) (fCons (fOp gMod (fVar 0) (fC (.int 2147483563))) (fCons (fC (.int 0)) fNil)))))
def D_law_box : FD := defD 1 B_law_box
abbrev B_law_take : FS :=
  (kSeq (kIf (kVal (fOp gGt (fOp gIx (fVar 0) (fC (.int 0))) (fC (.int 0)))) (kSeq (kSet 2 (fOp gMod (fOp gIx (fVar 0) (fC (.int 0))) (fVar 1)))
    (kSeq (kSub (fVar 0) (fC (.int 0)) (fOp gDiv (fOp gIx (fVar 0) (fC (.int 0))) (fVar 1)))
    (kRet (fVar 2)))) kNext)
    (kSeq (kSub (fVar 0) (fC (.int 2)) (fOp gAdd (fOp gIx (fVar 0) (fC (.int 2))) (fC (.int 1))))
    (kSeq (kSet 3 (fOp gMod (fOp gPow (fOp gAdd (fOp gAdd (fOp gIx (fVar 0) (fC (.int 1))) (fOp gMul (fC (.int 69761)) (fOp gIx (fVar 0) (fC (.int 2))))) (fC (.int 30429))) (fC (.int 5))) (fC (.int 2147483647))))
    (kSeq (kSet 3 (fOp gMod (fOp gPow (fOp gAdd (fVar 3) (fOp gMul (fC (.int 227485)) (fOp gIx (fVar 0) (fC (.int 2))))) (fC (.int 3))) (fC (.int 2147483587))))
    (kRet (fOp gMod (fOp gDiv (fVar 3) (fC (.int 16))) (fVar 1)))))))
def D_law_take : FD := defD 4 B_law_take
abbrev B_law_values : FS :=
  (kSeq (kSet 1 (fMeth "str" gJoin (fC (.str "")) (fCons (fLc (iRange1 (fCons (fCallD 2 D_law_take (fCons (fVar 0) (fCons (fC (.int 6)) fNil))) fNil)) (tgN 2) kYes (fOp gIx (fC (.str "ab12 ~")) (fCallD 2 D_law_take (fCons (fVar 0) (fCons (fC (.int 6)) fNil)))) [2]) fNil)))
    (kRet (fLstV (fConsC (fC .non) (fConsC (fC (.bl true)) (fConsC (fC (.bl false)) (fConsC (fOp gSub (fCallD 2 D_law_take (fCons (fVar 0) (fCons (fC (.int 1000)) fNil))) (fC (.int 500))) (fCons (fVar 1) (fConsC (fLst (fCons (fVar 1) fNil)) (fConsC (fTupV (fConsC (fLst (fCons (fVar 1) fNil)) (fCons (fC .non) fNil))) (fConsC (fDNew false) (fConsC (fLst (fCons (fLst fNil) fNil)) (fConsC (fOp gPow (fC (.int 10)) (fC (.int 29))) fNil)))))))))))))
def D_law_values : FD := defL 3 B_law_values
abbrev B_law_cell_at : FS :=
  (kRet (fIf (kVal (fOp gLt (fVar 1) (fCall gLen (fCons (fVar 0) fNil)))) (fOp gIx (fVar 0) (fVar 1)) (fOp gAdd (fOp gMul (fC (.int 28683)) (fVar 1)) (fC (.int 19005)))))
def D_law_cell_at : FD := defD 2 B_law_cell_at
abbrev B_law_first : FS :=
  (kSeq (kIf (kVal (fOp gEq (fVar 0) (fC (.int 0)))) (kRet (fExcV "InvalidNumber" (fVar 1))) kNext)
    (kSeq (kIf (kVal (fOp gEq (fVar 0) (fC (.int 1)))) (kRet (fExcV "InvalidWord" (fVar 1))) kNext)
    (kSeq (kIf (kVal (fOp gEq (fVar 0) (fC (.int 2)))) (kRet (fExcV "InvalidWords" (fVar 1))) kNext)
    (kSeq (kIf (kVal (fOp gEq (fVar 0) (fC (.int 3)))) (kRet (fExcV "InvalidPlace" (fVar 1))) kNext)
    (kSeq (kIf (kVal (fOp gEq (fVar 0) (fC (.int 4)))) (kRet (fExcV "UnlikeLengths" (fVar 1))) kNext)
    (kSeq (kIf (kVal (fOp gEq (fVar 0) (fC (.int 5)))) (kRet (fExcV "InvalidHouse" (fVar 1))) kNext)
    (kSeq (kIf (kVal (fOp gEq (fVar 0) (fC (.int 6)))) (kRet (fExcV "InvalidHouses" (fVar 1))) kNext)
    (kSeq (kIf (kVal (fOp gEq (fVar 0) (fC (.int 7)))) (kRet (fExcV "InvalidTie" (fVar 1))) kNext)
    (kSeq (kIf (kVal (fOp gEq (fVar 0) (fC (.int 8)))) (kRet (fExcV "InvalidTies" (fVar 1))) kNext)
    (kSeq (kIf (kVal (fOp gEq (fVar 0) (fC (.int 9)))) (kRet (fExcV "InvalidWeb" (fVar 1))) kNext)
    (kRet (fExcV "OpenpostsError" (fVar 1)))))))))))))
def D_law_first : FD := defL 2 B_law_first
abbrev B_law_second : FS :=
  (kSeq (kIf (kVal (fOp gEq (fVar 0) (fC (.int 0)))) (kRet (fExcV "InvalidOrder" (fVar 1))) kNext)
    (kSeq (kIf (kVal (fOp gEq (fVar 0) (fC (.int 1)))) (kRet (fExcV "InvalidText" (fVar 1))) kNext)
    (kSeq (kIf (kVal (fOp gEq (fVar 0) (fC (.int 2)))) (kRet (fExcV "InvalidAddresses" (fVar 1))) kNext)
    (kSeq (kIf (kVal (fOp gEq (fVar 0) (fC (.int 3)))) (kRet (fExcV "InvalidParents" (fVar 1))) kNext)
    (kSeq (kIf (kVal (fOp gEq (fVar 0) (fC (.int 4)))) (kRet (fExcV "InvalidTree" (fVar 1))) kNext)
    (kSeq (kIf (kVal (fOp gEq (fVar 0) (fC (.int 5)))) (kRet (fExcV "InvalidPairs" (fVar 1))) kNext)
    (kSeq (kIf (kVal (fOp gEq (fVar 0) (fC (.int 6)))) (kRet (fExcV "InvalidRow" (fVar 1))) kNext)
    (kSeq (kIf (kVal (fOp gEq (fVar 0) (fC (.int 7)))) (kRet (fExcV "InvalidSide" (fVar 1))) kNext)
    (kSeq (kIf (kVal (fOp gEq (fVar 0) (fC (.int 8)))) (kRet (fExcV "InvalidName" (fVar 1))) kNext)
    (kSeq (kIf (kVal (fOp gEq (fVar 0) (fC (.int 9)))) (kRet (fExcV "InvalidDeed" (fVar 1))) kNext)
    (kRet (fExcV "OpenpostsError" (fVar 1)))))))))))))
def D_law_second : FD := defL 2 B_law_second
abbrev B_law_third : FS :=
  (kSeq (kIf (kVal (fOp gEq (fVar 0) (fC (.int 0)))) (kRet (fExcV "InvalidDeeds" (fVar 1))) kNext)
    (kSeq (kIf (kVal (fOp gEq (fVar 0) (fC (.int 1)))) (kRet (fExcV "InvalidLine" (fVar 1))) kNext)
    (kSeq (kIf (kVal (fOp gEq (fVar 0) (fC (.int 2)))) (kRet (fExcV "UnknownName" (fVar 1))) kNext)
    (kSeq (kIf (kVal (fOp gEq (fVar 0) (fC (.int 3)))) (kRet (fExcV "NameTaken" (fVar 1))) kNext)
    (kSeq (kIf (kVal (fOp gEq (fVar 0) (fC (.int 4)))) (kRet (fExcV "NotJoined" (fVar 1))) kNext)
    (kSeq (kIf (kVal (fOp gEq (fVar 0) (fC (.int 5)))) (kRet (fExcV "NotKept" (fVar 1))) kNext)
    (kSeq (kIf (kVal (fOp gEq (fVar 0) (fC (.int 6)))) (kRet (fExcV "TooLarge" (fVar 1))) kNext)
    (kSeq (kIf (kVal (fOp gEq (fVar 0) (fC (.int 7)))) (kRet (fExcV "NothingToUndo" (fVar 1))) kNext)
    (kRet (fExcV "OpenpostsError" (fVar 1)))))))))))
def D_law_third : FD := defL 2 B_law_third
abbrev B_law_made : FS :=
  (kSeq (kIf (kVal (fOp gLt (fVar 0) (fC (.int 10)))) (kRet (fCallD 2 D_law_first (fCons (fVar 0) (fCons (fVar 1) fNil)))) kNext)
    (kRet (fIf (kVal (fOp gLt (fVar 0) (fC (.int 20)))) (fCallD 2 D_law_second (fCons (fOp gSub (fVar 0) (fC (.int 10))) (fCons (fVar 1) fNil))) (fCallD 2 D_law_third (fCons (fOp gSub (fVar 0) (fC (.int 20))) (fCons (fVar 1) fNil))))))
def D_law_made : FD := defL 2 B_law_made
abbrev B_law_isX : FS :=
  (kSeq (kSetC 1 (fLst fNil))
    (kSeq (kExpr (fMut gAppend (fVar 1) (fCons (fIsX errs exIs 0 "InvalidNumber") fNil)))
    (kSeq (kExpr (fMut gAppend (fVar 1) (fCons (fIsX errs exIs 0 "InvalidWord") fNil)))
    (kSeq (kExpr (fMut gAppend (fVar 1) (fCons (fIsX errs exIs 0 "InvalidWords") fNil)))
    (kSeq (kExpr (fMut gAppend (fVar 1) (fCons (fIsX errs exIs 0 "InvalidPlace") fNil)))
    (kSeq (kExpr (fMut gAppend (fVar 1) (fCons (fIsX errs exIs 0 "UnlikeLengths") fNil)))
    (kSeq (kExpr (fMut gAppend (fVar 1) (fCons (fIsX errs exIs 0 "InvalidHouse") fNil)))
    (kSeq (kExpr (fMut gAppend (fVar 1) (fCons (fIsX errs exIs 0 "InvalidHouses") fNil)))
    (kSeq (kExpr (fMut gAppend (fVar 1) (fCons (fIsX errs exIs 0 "InvalidTie") fNil)))
    (kSeq (kExpr (fMut gAppend (fVar 1) (fCons (fIsX errs exIs 0 "InvalidTies") fNil)))
    (kSeq (kExpr (fMut gAppend (fVar 1) (fCons (fIsX errs exIs 0 "InvalidWeb") fNil)))
    (kSeq (kExpr (fMut gAppend (fVar 1) (fCons (fIsX errs exIs 0 "InvalidOrder") fNil)))
    (kSeq (kExpr (fMut gAppend (fVar 1) (fCons (fIsX errs exIs 0 "InvalidText") fNil)))
    (kSeq (kExpr (fMut gAppend (fVar 1) (fCons (fIsX errs exIs 0 "InvalidAddresses") fNil)))
    (kSeq (kExpr (fMut gAppend (fVar 1) (fCons (fIsX errs exIs 0 "InvalidParents") fNil)))
    (kSeq (kExpr (fMut gAppend (fVar 1) (fCons (fIsX errs exIs 0 "InvalidTree") fNil)))
    (kSeq (kExpr (fMut gAppend (fVar 1) (fCons (fIsX errs exIs 0 "InvalidPairs") fNil)))
    (kSeq (kExpr (fMut gAppend (fVar 1) (fCons (fIsX errs exIs 0 "InvalidRow") fNil)))
    (kSeq (kExpr (fMut gAppend (fVar 1) (fCons (fIsX errs exIs 0 "InvalidSide") fNil)))
    (kSeq (kExpr (fMut gAppend (fVar 1) (fCons (fIsX errs exIs 0 "InvalidName") fNil)))
    (kSeq (kExpr (fMut gAppend (fVar 1) (fCons (fIsX errs exIs 0 "InvalidDeed") fNil)))
    (kSeq (kExpr (fMut gAppend (fVar 1) (fCons (fIsX errs exIs 0 "InvalidDeeds") fNil)))
    (kSeq (kExpr (fMut gAppend (fVar 1) (fCons (fIsX errs exIs 0 "InvalidLine") fNil)))
    (kSeq (kExpr (fMut gAppend (fVar 1) (fCons (fIsX errs exIs 0 "UnknownName") fNil)))
    (kSeq (kExpr (fMut gAppend (fVar 1) (fCons (fIsX errs exIs 0 "NameTaken") fNil)))
    (kSeq (kExpr (fMut gAppend (fVar 1) (fCons (fIsX errs exIs 0 "NotJoined") fNil)))
    (kSeq (kExpr (fMut gAppend (fVar 1) (fCons (fIsX errs exIs 0 "NotKept") fNil)))
    (kSeq (kExpr (fMut gAppend (fVar 1) (fCons (fIsX errs exIs 0 "TooLarge") fNil)))
    (kSeq (kExpr (fMut gAppend (fVar 1) (fCons (fIsX errs exIs 0 "NothingToUndo") fNil)))
    (kRet (fVar 1)))))))))))))))))))))))))))))))
def D_law_isX : FDX := defDX 2 B_law_isX
abbrev B_law_is : FS :=
  (kSeq (kSetC 1 (fLst fNil))
    (kSeq (kExpr (fMut gAppend (fVar 1) (fCons (fCallV (gIsV [] errs exIs) (fCons (fVar 0) (fCons (fC (.cls "InvalidNumber")) fNil))) fNil)))
    (kSeq (kExpr (fMut gAppend (fVar 1) (fCons (fCallV (gIsV [] errs exIs) (fCons (fVar 0) (fCons (fC (.cls "InvalidWord")) fNil))) fNil)))
    (kSeq (kExpr (fMut gAppend (fVar 1) (fCons (fCallV (gIsV [] errs exIs) (fCons (fVar 0) (fCons (fC (.cls "InvalidWords")) fNil))) fNil)))
    (kSeq (kExpr (fMut gAppend (fVar 1) (fCons (fCallV (gIsV [] errs exIs) (fCons (fVar 0) (fCons (fC (.cls "InvalidPlace")) fNil))) fNil)))
    (kSeq (kExpr (fMut gAppend (fVar 1) (fCons (fCallV (gIsV [] errs exIs) (fCons (fVar 0) (fCons (fC (.cls "UnlikeLengths")) fNil))) fNil)))
    (kSeq (kExpr (fMut gAppend (fVar 1) (fCons (fCallV (gIsV [] errs exIs) (fCons (fVar 0) (fCons (fC (.cls "InvalidHouse")) fNil))) fNil)))
    (kSeq (kExpr (fMut gAppend (fVar 1) (fCons (fCallV (gIsV [] errs exIs) (fCons (fVar 0) (fCons (fC (.cls "InvalidHouses")) fNil))) fNil)))
    (kSeq (kExpr (fMut gAppend (fVar 1) (fCons (fCallV (gIsV [] errs exIs) (fCons (fVar 0) (fCons (fC (.cls "InvalidTie")) fNil))) fNil)))
    (kSeq (kExpr (fMut gAppend (fVar 1) (fCons (fCallV (gIsV [] errs exIs) (fCons (fVar 0) (fCons (fC (.cls "InvalidTies")) fNil))) fNil)))
    (kSeq (kExpr (fMut gAppend (fVar 1) (fCons (fCallV (gIsV [] errs exIs) (fCons (fVar 0) (fCons (fC (.cls "InvalidWeb")) fNil))) fNil)))
    (kSeq (kExpr (fMut gAppend (fVar 1) (fCons (fCallV (gIsV [] errs exIs) (fCons (fVar 0) (fCons (fC (.cls "InvalidOrder")) fNil))) fNil)))
    (kSeq (kExpr (fMut gAppend (fVar 1) (fCons (fCallV (gIsV [] errs exIs) (fCons (fVar 0) (fCons (fC (.cls "InvalidText")) fNil))) fNil)))
    (kSeq (kExpr (fMut gAppend (fVar 1) (fCons (fCallV (gIsV [] errs exIs) (fCons (fVar 0) (fCons (fC (.cls "InvalidAddresses")) fNil))) fNil)))
    (kSeq (kExpr (fMut gAppend (fVar 1) (fCons (fCallV (gIsV [] errs exIs) (fCons (fVar 0) (fCons (fC (.cls "InvalidParents")) fNil))) fNil)))
    (kSeq (kExpr (fMut gAppend (fVar 1) (fCons (fCallV (gIsV [] errs exIs) (fCons (fVar 0) (fCons (fC (.cls "InvalidTree")) fNil))) fNil)))
    (kSeq (kExpr (fMut gAppend (fVar 1) (fCons (fCallV (gIsV [] errs exIs) (fCons (fVar 0) (fCons (fC (.cls "InvalidPairs")) fNil))) fNil)))
    (kSeq (kExpr (fMut gAppend (fVar 1) (fCons (fCallV (gIsV [] errs exIs) (fCons (fVar 0) (fCons (fC (.cls "InvalidRow")) fNil))) fNil)))
    (kSeq (kExpr (fMut gAppend (fVar 1) (fCons (fCallV (gIsV [] errs exIs) (fCons (fVar 0) (fCons (fC (.cls "InvalidSide")) fNil))) fNil)))
    (kSeq (kExpr (fMut gAppend (fVar 1) (fCons (fCallV (gIsV [] errs exIs) (fCons (fVar 0) (fCons (fC (.cls "InvalidName")) fNil))) fNil)))
    (kSeq (kExpr (fMut gAppend (fVar 1) (fCons (fCallV (gIsV [] errs exIs) (fCons (fVar 0) (fCons (fC (.cls "InvalidDeed")) fNil))) fNil)))
    (kSeq (kExpr (fMut gAppend (fVar 1) (fCons (fCallV (gIsV [] errs exIs) (fCons (fVar 0) (fCons (fC (.cls "InvalidDeeds")) fNil))) fNil)))
    (kSeq (kExpr (fMut gAppend (fVar 1) (fCons (fCallV (gIsV [] errs exIs) (fCons (fVar 0) (fCons (fC (.cls "InvalidLine")) fNil))) fNil)))
    (kSeq (kExpr (fMut gAppend (fVar 1) (fCons (fCallV (gIsV [] errs exIs) (fCons (fVar 0) (fCons (fC (.cls "UnknownName")) fNil))) fNil)))
    (kSeq (kExpr (fMut gAppend (fVar 1) (fCons (fCallV (gIsV [] errs exIs) (fCons (fVar 0) (fCons (fC (.cls "NameTaken")) fNil))) fNil)))
    (kSeq (kExpr (fMut gAppend (fVar 1) (fCons (fCallV (gIsV [] errs exIs) (fCons (fVar 0) (fCons (fC (.cls "NotJoined")) fNil))) fNil)))
    (kSeq (kExpr (fMut gAppend (fVar 1) (fCons (fCallV (gIsV [] errs exIs) (fCons (fVar 0) (fCons (fC (.cls "NotKept")) fNil))) fNil)))
    (kSeq (kExpr (fMut gAppend (fVar 1) (fCons (fCallV (gIsV [] errs exIs) (fCons (fVar 0) (fCons (fC (.cls "TooLarge")) fNil))) fNil)))
    (kSeq (kExpr (fMut gAppend (fVar 1) (fCons (fCallV (gIsV [] errs exIs) (fCons (fVar 0) (fCons (fC (.cls "NothingToUndo")) fNil))) fNil)))
    (kRet (fVar 1)))))))))))))))))))))))))))))))
def D_law_is : FD := defD 2 B_law_is
abbrev B_law_raised : FS :=
  (kTry "OpenpostsError" errs [("InvalidPlace", none, (kRet (fC (.bl false)))), ("OpenpostsError", (some 1), (kRet (fAnd (fOp gEq (fCallV gShowV (fCons (fXv errs 1) fNil)) (fCallV gShowV (fCons (fVar 0) fNil))) (fOp gEq (fCallX 1 D_law_isX 1 fNil) (fLc (iRange1 (fCons (fC (.int 28)) fNil)) (tgN 2) kYes (fOp gEq (fVar 2) (fC (.int 0))) [2])))))]
      (kRaise "InvalidNumber" (fVar 0)))
def D_law_raised : FD := defD 3 B_law_raised
abbrev B_law : FS :=
  (kSeq (kFor (iRange1 (fCons (fCall gMax (fCons (fC (.int 2)) (fCons (fCall gMin (fCons (fC (.int 8)) (fCons (fCall gLen (fCons (fVar 0) fNil)) fNil))) fNil))) fNil)) (tgN 1)
      (kSeq (kSetC 2 (fCallD 1 D_law_box (fCons (fCallD 2 D_law_cell_at (fCons (fVar 0) (fCons (fVar 1) fNil))) fNil)))
    (kSeq (kSet 3 (fCallD 1 D_law_values (fCons (fVar 2) fNil)))
    (kSeq (kFor (iRange1 (fCons (fC (.int 29)) fNil)) (tgN 4)
      (kSeq (kSetC 5 (fVx 3 (fCallD 2 D_law_take (fCons (fVar 2) (fCons (fC (.int 10)) fNil)))))
    (kSeq (kSet 6 (fCallD 2 D_law_made (fCons (fVar 4) (fCons (fVar 5) fNil))))
    (kSeq (kIf (kOr (kNot (kVal (fCallV (gIsV [] errs exIs) (fCons (fVar 6) (fCons (fC (.cls "OpenpostsError")) fNil))))) (kNot (kVal (fCallV (gIsV [] errs exIs) (fCons (fVar 6) (fCons (fC (.ty "ValueError")) fNil)))))) (kRet (fC (.bl false))) kNext)
    (kSeq (kIf (kVal (fCallV (gIsV [] errs exIs) (fCons (fVar 5) (fCons (fC (.ty "list")) fNil)))) (kExpr (fMut gAppend (fVar 5) (fCons (fVar 4) fNil))) kNext)
    (kSeq (kIf (kVal (fCallV (gIsV [] errs exIs) (fCons (fVar 5) (fCons (fC (.ty "dict")) fNil)))) (kDPut (fVar 5) (fVar 4) (fLst (fCons (fVar 4) fNil))) kNext)
    (kSeq (kIf (kVal (fCallV (gIsV [] errs exIs) (fCons (fVar 5) (fCons (fC (.ty "tuple")) fNil)))) (kExpr (fMut gAppend (fVti (fVar 5) (fC (.int 0))) (fCons (fVar 4) fNil))) kNext)
    (kSeq (kIf (kVal (fOp gNe (fCallV gShowV (fCons (fXval errs (fVar 6)) fNil)) (fCallV gShowV (fCons (fVar 5) fNil)))) (kRet (fC (.bl false))) kNext)
    (kIf (kVal (fOp gNe (fCallD 1 D_law_is (fCons (fVar 6) fNil)) (fLc (iRange1 (fCons (fC (.int 28)) fNil)) (tgN 7) kYes (fOp gEq (fVar 7) (fVar 4)) [7]))) (kRet (fC (.bl false))) kNext)))))))))
    (kIf (kNot (kVal (fCallD 1 D_law_raised (fCons (fVx 3 (fCallD 2 D_law_take (fCons (fVar 2) (fCons (fC (.int 10)) fNil)))) fNil)))) (kRet (fC (.bl false))) kNext)))))
    (kRet (fC (.bl true))))
def D_law : FD := defD 8 B_law
end Q02
namespace Q02
open PySem PySem.Spec PyProof.Rows L2 OP Evl
def topS (i : Nat) : Stmt := PySem.Challenge.pw_openposts_k02_exceptions_apart.main.body.getD i (.Pass ⟨0, 0, 0, 0⟩)
abbrev PP : Program := PySem.Challenge.pw_openposts_k02_exceptions_apart
abbrev s_init : Stmt := inClass (topS 1) 0
def initArg : Arg := (defArgs s_init).args.headD { arg := "self", annotation := none, pos := ⟨0, 0, 0, 0⟩ }
abbrev s_law_box : Stmt := topS 32
abbrev N_law_box : List Str := ["_law_number"]
theorem sc_law_box : FnScope N_law_box ["_law_number"] (defScope s_law_box) := ⟨rfl, rfl, rfl, by decide +kernel, rfl, by decide +kernel, by decide +kernel⟩
abbrev s_law_take : Stmt := topS 33
abbrev N_law_take : List Str := ["_law_box_here", "_law_many", "_law_digit", "_law_number"]
theorem sc_law_take : FnScope N_law_take ["_law_box_here", "_law_many"] (defScope s_law_take) := ⟨rfl, rfl, rfl, by decide +kernel, rfl, by decide +kernel, by decide +kernel⟩
abbrev s_law_values : Stmt := topS 39
abbrev N_law_values : List Str := ["_law_box_here", "_law_text", "_law_k"]
theorem sc_law_values : FnScope N_law_values ["_law_box_here"] (defScope s_law_values) := ⟨rfl, rfl, rfl, by decide +kernel, rfl, by decide +kernel, by decide +kernel⟩
abbrev s_law_cell_at : Stmt := topS 31
abbrev N_law_cell_at : List Str := ["_law_script", "_law_k"]
theorem sc_law_cell_at : FnScope N_law_cell_at ["_law_script", "_law_k"] (defScope s_law_cell_at) := ⟨rfl, rfl, rfl, by decide +kernel, rfl, by decide +kernel, by decide +kernel⟩
abbrev s_law_first : Stmt := topS 34
abbrev N_law_first : List Str := ["_law_number", "_law_value"]
theorem sc_law_first : FnScope N_law_first ["_law_number", "_law_value"] (defScope s_law_first) := ⟨rfl, rfl, rfl, by decide +kernel, rfl, by decide +kernel, by decide +kernel⟩
abbrev s_law_second : Stmt := topS 35
abbrev N_law_second : List Str := ["_law_number", "_law_value"]
theorem sc_law_second : FnScope N_law_second ["_law_number", "_law_value"] (defScope s_law_second) := ⟨rfl, rfl, rfl, by decide +kernel, rfl, by decide +kernel, by decide +kernel⟩
abbrev s_law_third : Stmt := topS 36
abbrev N_law_third : List Str := ["_law_number", "_law_value"]
theorem sc_law_third : FnScope N_law_third ["_law_number", "_law_value"] (defScope s_law_third) := ⟨rfl, rfl, rfl, by decide +kernel, rfl, by decide +kernel, by decide +kernel⟩
abbrev s_law_made : Stmt := topS 37
abbrev N_law_made : List Str := ["_law_number", "_law_value"]
theorem sc_law_made : FnScope N_law_made ["_law_number", "_law_value"] (defScope s_law_made) := ⟨rfl, rfl, rfl, by decide +kernel, rfl, by decide +kernel, by decide +kernel⟩
abbrev s_law_is : Stmt := topS 38
abbrev N_law_is : List Str := ["_law_error", "_law_found"]
theorem sc_law_is : FnScope N_law_is ["_law_error"] (defScope s_law_is) := ⟨rfl, rfl, rfl, by decide +kernel, rfl, by decide +kernel, by decide +kernel⟩
abbrev s_law_raised : Stmt := topS 40
abbrev N_law_raised : List Str := ["_law_value", "e", "_law_k"]
theorem sc_law_raised : FnScope N_law_raised ["_law_value"] (defScope s_law_raised) := ⟨rfl, rfl, rfl, by decide +kernel, rfl, by decide +kernel, by decide +kernel⟩
abbrev s_law : Stmt := topS 41
abbrev N_law : List Str := ["_law_script", "_law_k", "_law_box_here", "_law_values_here", "_law_number", "_law_value", "_law_error", "_law_other"]
theorem sc_law : FnScope N_law ["_law_script"] (defScope s_law) := ⟨rfl, rfl, rfl, by decide +kernel, rfl, by decide +kernel, by decide +kernel⟩
structure TX (K : PySem.W.Frag) (mg : Str → Option Value) : Type where
  f_law_box : Addr
  d_law_box : FuncData
  F_law_box : Fun K "_law_box" "_law_box" s_law_box f_law_box d_law_box
  b_law_box : Binds K d_law_box ["_law_number"] []
  g_law_box : mg "_law_box" = some (.ref f_law_box)
  f_law_take : Addr
  d_law_take : FuncData
  F_law_take : Fun K "_law_take" "_law_take" s_law_take f_law_take d_law_take
  b_law_take : Binds K d_law_take ["_law_box_here", "_law_many"] []
  g_law_take : mg "_law_take" = some (.ref f_law_take)
  f_law_values : Addr
  d_law_values : FuncData
  F_law_values : Fun K "_law_values" "_law_values" s_law_values f_law_values d_law_values
  b_law_values : Binds K d_law_values ["_law_box_here"] []
  g_law_values : mg "_law_values" = some (.ref f_law_values)
  f_law_cell_at : Addr
  d_law_cell_at : FuncData
  F_law_cell_at : Fun K "_law_cell_at" "_law_cell_at" s_law_cell_at f_law_cell_at d_law_cell_at
  b_law_cell_at : Binds K d_law_cell_at ["_law_script", "_law_k"] []
  g_law_cell_at : mg "_law_cell_at" = some (.ref f_law_cell_at)
  f_law_first : Addr
  d_law_first : FuncData
  F_law_first : Fun K "_law_first" "_law_first" s_law_first f_law_first d_law_first
  b_law_first : Binds K d_law_first ["_law_number", "_law_value"] []
  g_law_first : mg "_law_first" = some (.ref f_law_first)
  f_law_second : Addr
  d_law_second : FuncData
  F_law_second : Fun K "_law_second" "_law_second" s_law_second f_law_second d_law_second
  b_law_second : Binds K d_law_second ["_law_number", "_law_value"] []
  g_law_second : mg "_law_second" = some (.ref f_law_second)
  f_law_third : Addr
  d_law_third : FuncData
  F_law_third : Fun K "_law_third" "_law_third" s_law_third f_law_third d_law_third
  b_law_third : Binds K d_law_third ["_law_number", "_law_value"] []
  g_law_third : mg "_law_third" = some (.ref f_law_third)
  f_law_made : Addr
  d_law_made : FuncData
  F_law_made : Fun K "_law_made" "_law_made" s_law_made f_law_made d_law_made
  b_law_made : Binds K d_law_made ["_law_number", "_law_value"] []
  g_law_made : mg "_law_made" = some (.ref f_law_made)
  f_law_is : Addr
  d_law_is : FuncData
  F_law_is : Fun K "_law_is" "_law_is" s_law_is f_law_is d_law_is
  b_law_is : Binds K d_law_is ["_law_error"] []
  g_law_is : mg "_law_is" = some (.ref f_law_is)
  f_law_raised : Addr
  d_law_raised : FuncData
  F_law_raised : Fun K "_law_raised" "_law_raised" s_law_raised f_law_raised d_law_raised
  b_law_raised : Binds K d_law_raised ["_law_value"] []
  g_law_raised : mg "_law_raised" = some (.ref f_law_raised)
  f_law : Addr
  d_law : FuncData
  F_law : Fun K "law" "law" s_law f_law d_law
  b_law : Binds K d_law ["_law_script"] []
  g_law : mg "law" = some (.ref f_law)
  z_max : mg "max" = none
  z_range : mg "range" = none
  z_len : mg "len" = none
  z_isinstance : mg "isinstance" = none
  z_repr : mg "repr" = none
  z_min : mg "min" = none
  z_list : mg "list" = none
  z_dict : mg "dict" = none
  z_tuple : mg "tuple" = none
  z_ValueError : mg "ValueError" = none
  sm : (K.lookup sysModules).isSome = true
  D0 : Addr
  gD0 : mg "OpenpostsError" = some (.ref D0)
  fI : Addr
  dI : FuncData
  bI : Binds K dI ["self", "value"] []
  tI : PySem.W.typeIn K (.ref fI) = some (.type "function")
  okI : ∀ (w : World) (base : Heap) (CX : CXT), FnOk PP w K mg base CX 1 fI dI ["self", "value"] (spInit K D0)
  C_OpenpostsError : Addr
  gC_OpenpostsError : mg "OpenpostsError" = some (.ref C_OpenpostsError)
  oC_OpenpostsError : OpenC K D0 C_OpenpostsError
  eC_OpenpostsError : ExcC K C_OpenpostsError
  iC_OpenpostsError : PySem.W.findIn K (.ref C_OpenpostsError) "__init__" = some (some (.ref fI))
  C_InvalidNumber : Addr
  gC_InvalidNumber : mg "InvalidNumber" = some (.ref C_InvalidNumber)
  oC_InvalidNumber : OpenC K D0 C_InvalidNumber
  eC_InvalidNumber : ExcC K C_InvalidNumber
  iC_InvalidNumber : PySem.W.findIn K (.ref C_InvalidNumber) "__init__" = some (some (.ref fI))
  C_InvalidWord : Addr
  gC_InvalidWord : mg "InvalidWord" = some (.ref C_InvalidWord)
  oC_InvalidWord : OpenC K D0 C_InvalidWord
  eC_InvalidWord : ExcC K C_InvalidWord
  iC_InvalidWord : PySem.W.findIn K (.ref C_InvalidWord) "__init__" = some (some (.ref fI))
  C_InvalidWords : Addr
  gC_InvalidWords : mg "InvalidWords" = some (.ref C_InvalidWords)
  oC_InvalidWords : OpenC K D0 C_InvalidWords
  eC_InvalidWords : ExcC K C_InvalidWords
  iC_InvalidWords : PySem.W.findIn K (.ref C_InvalidWords) "__init__" = some (some (.ref fI))
  C_InvalidPlace : Addr
  gC_InvalidPlace : mg "InvalidPlace" = some (.ref C_InvalidPlace)
  oC_InvalidPlace : OpenC K D0 C_InvalidPlace
  eC_InvalidPlace : ExcC K C_InvalidPlace
  iC_InvalidPlace : PySem.W.findIn K (.ref C_InvalidPlace) "__init__" = some (some (.ref fI))
  C_UnlikeLengths : Addr
  gC_UnlikeLengths : mg "UnlikeLengths" = some (.ref C_UnlikeLengths)
  oC_UnlikeLengths : OpenC K D0 C_UnlikeLengths
  eC_UnlikeLengths : ExcC K C_UnlikeLengths
  iC_UnlikeLengths : PySem.W.findIn K (.ref C_UnlikeLengths) "__init__" = some (some (.ref fI))
  C_InvalidHouse : Addr
  gC_InvalidHouse : mg "InvalidHouse" = some (.ref C_InvalidHouse)
  oC_InvalidHouse : OpenC K D0 C_InvalidHouse
  eC_InvalidHouse : ExcC K C_InvalidHouse
  iC_InvalidHouse : PySem.W.findIn K (.ref C_InvalidHouse) "__init__" = some (some (.ref fI))
  C_InvalidHouses : Addr
  gC_InvalidHouses : mg "InvalidHouses" = some (.ref C_InvalidHouses)
  oC_InvalidHouses : OpenC K D0 C_InvalidHouses
  eC_InvalidHouses : ExcC K C_InvalidHouses
  iC_InvalidHouses : PySem.W.findIn K (.ref C_InvalidHouses) "__init__" = some (some (.ref fI))
  C_InvalidTie : Addr
  gC_InvalidTie : mg "InvalidTie" = some (.ref C_InvalidTie)
  oC_InvalidTie : OpenC K D0 C_InvalidTie
  eC_InvalidTie : ExcC K C_InvalidTie
  iC_InvalidTie : PySem.W.findIn K (.ref C_InvalidTie) "__init__" = some (some (.ref fI))
  C_InvalidTies : Addr
  gC_InvalidTies : mg "InvalidTies" = some (.ref C_InvalidTies)
  oC_InvalidTies : OpenC K D0 C_InvalidTies
  eC_InvalidTies : ExcC K C_InvalidTies
  iC_InvalidTies : PySem.W.findIn K (.ref C_InvalidTies) "__init__" = some (some (.ref fI))
  C_InvalidWeb : Addr
  gC_InvalidWeb : mg "InvalidWeb" = some (.ref C_InvalidWeb)
  oC_InvalidWeb : OpenC K D0 C_InvalidWeb
  eC_InvalidWeb : ExcC K C_InvalidWeb
  iC_InvalidWeb : PySem.W.findIn K (.ref C_InvalidWeb) "__init__" = some (some (.ref fI))
  C_InvalidOrder : Addr
  gC_InvalidOrder : mg "InvalidOrder" = some (.ref C_InvalidOrder)
  oC_InvalidOrder : OpenC K D0 C_InvalidOrder
  eC_InvalidOrder : ExcC K C_InvalidOrder
  iC_InvalidOrder : PySem.W.findIn K (.ref C_InvalidOrder) "__init__" = some (some (.ref fI))
  C_InvalidText : Addr
  gC_InvalidText : mg "InvalidText" = some (.ref C_InvalidText)
  oC_InvalidText : OpenC K D0 C_InvalidText
  eC_InvalidText : ExcC K C_InvalidText
  iC_InvalidText : PySem.W.findIn K (.ref C_InvalidText) "__init__" = some (some (.ref fI))
  C_InvalidAddresses : Addr
  gC_InvalidAddresses : mg "InvalidAddresses" = some (.ref C_InvalidAddresses)
  oC_InvalidAddresses : OpenC K D0 C_InvalidAddresses
  eC_InvalidAddresses : ExcC K C_InvalidAddresses
  iC_InvalidAddresses : PySem.W.findIn K (.ref C_InvalidAddresses) "__init__" = some (some (.ref fI))
  C_InvalidParents : Addr
  gC_InvalidParents : mg "InvalidParents" = some (.ref C_InvalidParents)
  oC_InvalidParents : OpenC K D0 C_InvalidParents
  eC_InvalidParents : ExcC K C_InvalidParents
  iC_InvalidParents : PySem.W.findIn K (.ref C_InvalidParents) "__init__" = some (some (.ref fI))
  C_InvalidTree : Addr
  gC_InvalidTree : mg "InvalidTree" = some (.ref C_InvalidTree)
  oC_InvalidTree : OpenC K D0 C_InvalidTree
  eC_InvalidTree : ExcC K C_InvalidTree
  iC_InvalidTree : PySem.W.findIn K (.ref C_InvalidTree) "__init__" = some (some (.ref fI))
  C_InvalidPairs : Addr
  gC_InvalidPairs : mg "InvalidPairs" = some (.ref C_InvalidPairs)
  oC_InvalidPairs : OpenC K D0 C_InvalidPairs
  eC_InvalidPairs : ExcC K C_InvalidPairs
  iC_InvalidPairs : PySem.W.findIn K (.ref C_InvalidPairs) "__init__" = some (some (.ref fI))
  C_InvalidRow : Addr
  gC_InvalidRow : mg "InvalidRow" = some (.ref C_InvalidRow)
  oC_InvalidRow : OpenC K D0 C_InvalidRow
  eC_InvalidRow : ExcC K C_InvalidRow
  iC_InvalidRow : PySem.W.findIn K (.ref C_InvalidRow) "__init__" = some (some (.ref fI))
  C_InvalidSide : Addr
  gC_InvalidSide : mg "InvalidSide" = some (.ref C_InvalidSide)
  oC_InvalidSide : OpenC K D0 C_InvalidSide
  eC_InvalidSide : ExcC K C_InvalidSide
  iC_InvalidSide : PySem.W.findIn K (.ref C_InvalidSide) "__init__" = some (some (.ref fI))
  C_InvalidName : Addr
  gC_InvalidName : mg "InvalidName" = some (.ref C_InvalidName)
  oC_InvalidName : OpenC K D0 C_InvalidName
  eC_InvalidName : ExcC K C_InvalidName
  iC_InvalidName : PySem.W.findIn K (.ref C_InvalidName) "__init__" = some (some (.ref fI))
  C_InvalidDeed : Addr
  gC_InvalidDeed : mg "InvalidDeed" = some (.ref C_InvalidDeed)
  oC_InvalidDeed : OpenC K D0 C_InvalidDeed
  eC_InvalidDeed : ExcC K C_InvalidDeed
  iC_InvalidDeed : PySem.W.findIn K (.ref C_InvalidDeed) "__init__" = some (some (.ref fI))
  C_InvalidDeeds : Addr
  gC_InvalidDeeds : mg "InvalidDeeds" = some (.ref C_InvalidDeeds)
  oC_InvalidDeeds : OpenC K D0 C_InvalidDeeds
  eC_InvalidDeeds : ExcC K C_InvalidDeeds
  iC_InvalidDeeds : PySem.W.findIn K (.ref C_InvalidDeeds) "__init__" = some (some (.ref fI))
  C_InvalidLine : Addr
  gC_InvalidLine : mg "InvalidLine" = some (.ref C_InvalidLine)
  oC_InvalidLine : OpenC K D0 C_InvalidLine
  eC_InvalidLine : ExcC K C_InvalidLine
  iC_InvalidLine : PySem.W.findIn K (.ref C_InvalidLine) "__init__" = some (some (.ref fI))
  C_UnknownName : Addr
  gC_UnknownName : mg "UnknownName" = some (.ref C_UnknownName)
  oC_UnknownName : OpenC K D0 C_UnknownName
  eC_UnknownName : ExcC K C_UnknownName
  iC_UnknownName : PySem.W.findIn K (.ref C_UnknownName) "__init__" = some (some (.ref fI))
  C_NameTaken : Addr
  gC_NameTaken : mg "NameTaken" = some (.ref C_NameTaken)
  oC_NameTaken : OpenC K D0 C_NameTaken
  eC_NameTaken : ExcC K C_NameTaken
  iC_NameTaken : PySem.W.findIn K (.ref C_NameTaken) "__init__" = some (some (.ref fI))
  C_NotJoined : Addr
  gC_NotJoined : mg "NotJoined" = some (.ref C_NotJoined)
  oC_NotJoined : OpenC K D0 C_NotJoined
  eC_NotJoined : ExcC K C_NotJoined
  iC_NotJoined : PySem.W.findIn K (.ref C_NotJoined) "__init__" = some (some (.ref fI))
  C_NotKept : Addr
  gC_NotKept : mg "NotKept" = some (.ref C_NotKept)
  oC_NotKept : OpenC K D0 C_NotKept
  eC_NotKept : ExcC K C_NotKept
  iC_NotKept : PySem.W.findIn K (.ref C_NotKept) "__init__" = some (some (.ref fI))
  C_TooLarge : Addr
  gC_TooLarge : mg "TooLarge" = some (.ref C_TooLarge)
  oC_TooLarge : OpenC K D0 C_TooLarge
  eC_TooLarge : ExcC K C_TooLarge
  iC_TooLarge : PySem.W.findIn K (.ref C_TooLarge) "__init__" = some (some (.ref fI))
  C_NothingToUndo : Addr
  gC_NothingToUndo : mg "NothingToUndo" = some (.ref C_NothingToUndo)
  oC_NothingToUndo : OpenC K D0 C_NothingToUndo
  eC_NothingToUndo : ExcC K C_NothingToUndo
  iC_NothingToUndo : PySem.W.findIn K (.ref C_NothingToUndo) "__init__" = some (some (.ref fI))
  xm_OpenpostsError_InvalidPlace : PySem.W.exmOne K (.ref C_OpenpostsError) (.ref C_InvalidPlace) = some false
  xm_OpenpostsError_OpenpostsError : PySem.W.exmOne K (.ref C_OpenpostsError) (.ref C_OpenpostsError) = some true
  xm_InvalidNumber_InvalidPlace : PySem.W.exmOne K (.ref C_InvalidNumber) (.ref C_InvalidPlace) = some false
  xm_InvalidNumber_OpenpostsError : PySem.W.exmOne K (.ref C_InvalidNumber) (.ref C_OpenpostsError) = some true
  xm_InvalidWord_InvalidPlace : PySem.W.exmOne K (.ref C_InvalidWord) (.ref C_InvalidPlace) = some false
  xm_InvalidWord_OpenpostsError : PySem.W.exmOne K (.ref C_InvalidWord) (.ref C_OpenpostsError) = some true
  xm_InvalidWords_InvalidPlace : PySem.W.exmOne K (.ref C_InvalidWords) (.ref C_InvalidPlace) = some false
  xm_InvalidWords_OpenpostsError : PySem.W.exmOne K (.ref C_InvalidWords) (.ref C_OpenpostsError) = some true
  xm_InvalidPlace_InvalidPlace : PySem.W.exmOne K (.ref C_InvalidPlace) (.ref C_InvalidPlace) = some true
  xm_InvalidPlace_OpenpostsError : PySem.W.exmOne K (.ref C_InvalidPlace) (.ref C_OpenpostsError) = some true
  xm_UnlikeLengths_InvalidPlace : PySem.W.exmOne K (.ref C_UnlikeLengths) (.ref C_InvalidPlace) = some false
  xm_UnlikeLengths_OpenpostsError : PySem.W.exmOne K (.ref C_UnlikeLengths) (.ref C_OpenpostsError) = some true
  xm_InvalidHouse_InvalidPlace : PySem.W.exmOne K (.ref C_InvalidHouse) (.ref C_InvalidPlace) = some false
  xm_InvalidHouse_OpenpostsError : PySem.W.exmOne K (.ref C_InvalidHouse) (.ref C_OpenpostsError) = some true
  xm_InvalidHouses_InvalidPlace : PySem.W.exmOne K (.ref C_InvalidHouses) (.ref C_InvalidPlace) = some false
  xm_InvalidHouses_OpenpostsError : PySem.W.exmOne K (.ref C_InvalidHouses) (.ref C_OpenpostsError) = some true
  xm_InvalidTie_InvalidPlace : PySem.W.exmOne K (.ref C_InvalidTie) (.ref C_InvalidPlace) = some false
  xm_InvalidTie_OpenpostsError : PySem.W.exmOne K (.ref C_InvalidTie) (.ref C_OpenpostsError) = some true
  xm_InvalidTies_InvalidPlace : PySem.W.exmOne K (.ref C_InvalidTies) (.ref C_InvalidPlace) = some false
  xm_InvalidTies_OpenpostsError : PySem.W.exmOne K (.ref C_InvalidTies) (.ref C_OpenpostsError) = some true
  xm_InvalidWeb_InvalidPlace : PySem.W.exmOne K (.ref C_InvalidWeb) (.ref C_InvalidPlace) = some false
  xm_InvalidWeb_OpenpostsError : PySem.W.exmOne K (.ref C_InvalidWeb) (.ref C_OpenpostsError) = some true
  xm_InvalidOrder_InvalidPlace : PySem.W.exmOne K (.ref C_InvalidOrder) (.ref C_InvalidPlace) = some false
  xm_InvalidOrder_OpenpostsError : PySem.W.exmOne K (.ref C_InvalidOrder) (.ref C_OpenpostsError) = some true
  xm_InvalidText_InvalidPlace : PySem.W.exmOne K (.ref C_InvalidText) (.ref C_InvalidPlace) = some false
  xm_InvalidText_OpenpostsError : PySem.W.exmOne K (.ref C_InvalidText) (.ref C_OpenpostsError) = some true
  xm_InvalidAddresses_InvalidPlace : PySem.W.exmOne K (.ref C_InvalidAddresses) (.ref C_InvalidPlace) = some false
  xm_InvalidAddresses_OpenpostsError : PySem.W.exmOne K (.ref C_InvalidAddresses) (.ref C_OpenpostsError) = some true
  xm_InvalidParents_InvalidPlace : PySem.W.exmOne K (.ref C_InvalidParents) (.ref C_InvalidPlace) = some false
  xm_InvalidParents_OpenpostsError : PySem.W.exmOne K (.ref C_InvalidParents) (.ref C_OpenpostsError) = some true
  xm_InvalidTree_InvalidPlace : PySem.W.exmOne K (.ref C_InvalidTree) (.ref C_InvalidPlace) = some false
  xm_InvalidTree_OpenpostsError : PySem.W.exmOne K (.ref C_InvalidTree) (.ref C_OpenpostsError) = some true
  xm_InvalidPairs_InvalidPlace : PySem.W.exmOne K (.ref C_InvalidPairs) (.ref C_InvalidPlace) = some false
  xm_InvalidPairs_OpenpostsError : PySem.W.exmOne K (.ref C_InvalidPairs) (.ref C_OpenpostsError) = some true
  xm_InvalidRow_InvalidPlace : PySem.W.exmOne K (.ref C_InvalidRow) (.ref C_InvalidPlace) = some false
  xm_InvalidRow_OpenpostsError : PySem.W.exmOne K (.ref C_InvalidRow) (.ref C_OpenpostsError) = some true
  xm_InvalidSide_InvalidPlace : PySem.W.exmOne K (.ref C_InvalidSide) (.ref C_InvalidPlace) = some false
  xm_InvalidSide_OpenpostsError : PySem.W.exmOne K (.ref C_InvalidSide) (.ref C_OpenpostsError) = some true
  xm_InvalidName_InvalidPlace : PySem.W.exmOne K (.ref C_InvalidName) (.ref C_InvalidPlace) = some false
  xm_InvalidName_OpenpostsError : PySem.W.exmOne K (.ref C_InvalidName) (.ref C_OpenpostsError) = some true
  xm_InvalidDeed_InvalidPlace : PySem.W.exmOne K (.ref C_InvalidDeed) (.ref C_InvalidPlace) = some false
  xm_InvalidDeed_OpenpostsError : PySem.W.exmOne K (.ref C_InvalidDeed) (.ref C_OpenpostsError) = some true
  xm_InvalidDeeds_InvalidPlace : PySem.W.exmOne K (.ref C_InvalidDeeds) (.ref C_InvalidPlace) = some false
  xm_InvalidDeeds_OpenpostsError : PySem.W.exmOne K (.ref C_InvalidDeeds) (.ref C_OpenpostsError) = some true
  xm_InvalidLine_InvalidPlace : PySem.W.exmOne K (.ref C_InvalidLine) (.ref C_InvalidPlace) = some false
  xm_InvalidLine_OpenpostsError : PySem.W.exmOne K (.ref C_InvalidLine) (.ref C_OpenpostsError) = some true
  xm_UnknownName_InvalidPlace : PySem.W.exmOne K (.ref C_UnknownName) (.ref C_InvalidPlace) = some false
  xm_UnknownName_OpenpostsError : PySem.W.exmOne K (.ref C_UnknownName) (.ref C_OpenpostsError) = some true
  xm_NameTaken_InvalidPlace : PySem.W.exmOne K (.ref C_NameTaken) (.ref C_InvalidPlace) = some false
  xm_NameTaken_OpenpostsError : PySem.W.exmOne K (.ref C_NameTaken) (.ref C_OpenpostsError) = some true
  xm_NotJoined_InvalidPlace : PySem.W.exmOne K (.ref C_NotJoined) (.ref C_InvalidPlace) = some false
  xm_NotJoined_OpenpostsError : PySem.W.exmOne K (.ref C_NotJoined) (.ref C_OpenpostsError) = some true
  xm_NotKept_InvalidPlace : PySem.W.exmOne K (.ref C_NotKept) (.ref C_InvalidPlace) = some false
  xm_NotKept_OpenpostsError : PySem.W.exmOne K (.ref C_NotKept) (.ref C_OpenpostsError) = some true
  xm_TooLarge_InvalidPlace : PySem.W.exmOne K (.ref C_TooLarge) (.ref C_InvalidPlace) = some false
  xm_TooLarge_OpenpostsError : PySem.W.exmOne K (.ref C_TooLarge) (.ref C_OpenpostsError) = some true
  xm_NothingToUndo_InvalidPlace : PySem.W.exmOne K (.ref C_NothingToUndo) (.ref C_InvalidPlace) = some false
  xm_NothingToUndo_OpenpostsError : PySem.W.exmOne K (.ref C_NothingToUndo) (.ref C_OpenpostsError) = some true
  kx : DN.kxB K [("OpenpostsError", C_OpenpostsError), ("InvalidNumber", C_InvalidNumber), ("InvalidWord", C_InvalidWord), ("InvalidWords", C_InvalidWords), ("InvalidPlace", C_InvalidPlace), ("UnlikeLengths", C_UnlikeLengths), ("InvalidHouse", C_InvalidHouse), ("InvalidHouses", C_InvalidHouses), ("InvalidTie", C_InvalidTie), ("InvalidTies", C_InvalidTies), ("InvalidWeb", C_InvalidWeb), ("InvalidOrder", C_InvalidOrder), ("InvalidText", C_InvalidText), ("InvalidAddresses", C_InvalidAddresses), ("InvalidParents", C_InvalidParents), ("InvalidTree", C_InvalidTree), ("InvalidPairs", C_InvalidPairs), ("InvalidRow", C_InvalidRow), ("InvalidSide", C_InvalidSide), ("InvalidName", C_InvalidName), ("InvalidDeed", C_InvalidDeed), ("InvalidDeeds", C_InvalidDeeds), ("InvalidLine", C_InvalidLine), ("UnknownName", C_UnknownName), ("NameTaken", C_NameTaken), ("NotJoined", C_NotJoined), ("NotKept", C_NotKept), ("TooLarge", C_TooLarge), ("NothingToUndo", C_NothingToUndo)] = true
open DN
def zt {K : PySem.W.Frag} {mg : Str → Option Value} (T : TX K mg) : Zx := ⟨⟨K, fun c => if c = "OpenpostsError" then T.C_OpenpostsError else if c = "InvalidNumber" then T.C_InvalidNumber else if c = "InvalidWord" then T.C_InvalidWord else if c = "InvalidWords" then T.C_InvalidWords else if c = "InvalidPlace" then T.C_InvalidPlace else if c = "UnlikeLengths" then T.C_UnlikeLengths else if c = "InvalidHouse" then T.C_InvalidHouse else if c = "InvalidHouses" then T.C_InvalidHouses else if c = "InvalidTie" then T.C_InvalidTie else if c = "InvalidTies" then T.C_InvalidTies else if c = "InvalidWeb" then T.C_InvalidWeb else if c = "InvalidOrder" then T.C_InvalidOrder else if c = "InvalidText" then T.C_InvalidText else if c = "InvalidAddresses" then T.C_InvalidAddresses else if c = "InvalidParents" then T.C_InvalidParents else if c = "InvalidTree" then T.C_InvalidTree else if c = "InvalidPairs" then T.C_InvalidPairs else if c = "InvalidRow" then T.C_InvalidRow else if c = "InvalidSide" then T.C_InvalidSide else if c = "InvalidName" then T.C_InvalidName else if c = "InvalidDeed" then T.C_InvalidDeed else if c = "InvalidDeeds" then T.C_InvalidDeeds else if c = "InvalidLine" then T.C_InvalidLine else if c = "UnknownName" then T.C_UnknownName else if c = "NameTaken" then T.C_NameTaken else if c = "NotJoined" then T.C_NotJoined else if c = "NotKept" then T.C_NotKept else if c = "TooLarge" then T.C_TooLarge else if c = "NothingToUndo" then T.C_NothingToUndo else if c = "OpenpostsError" then T.D0 else 0⟩, none⟩
section
variable {K : PySem.W.Frag} {mg : Str → Option Value}
theorem cm_OpenpostsError (T : TX K mg) : (zt T).cm "OpenpostsError" = T.C_OpenpostsError := by simp [zt]
theorem oE_OpenpostsError (T : TX K mg) : OpenC K T.D0 ((zt T).cm "OpenpostsError") := by rw [cm_OpenpostsError]; exact T.oC_OpenpostsError
theorem iE_OpenpostsError (T : TX K mg) : PySem.W.findIn K (.ref ((zt T).cm "OpenpostsError")) "__init__" = some (some (.ref T.fI)) := by rw [cm_OpenpostsError]; exact T.iC_OpenpostsError
theorem gE_OpenpostsError (T : TX K mg) : mg "OpenpostsError" = some (.ref ((zt T).cm "OpenpostsError")) := by rw [cm_OpenpostsError]; exact T.gC_OpenpostsError
theorem cm_InvalidNumber (T : TX K mg) : (zt T).cm "InvalidNumber" = T.C_InvalidNumber := by simp [zt]
theorem oE_InvalidNumber (T : TX K mg) : OpenC K T.D0 ((zt T).cm "InvalidNumber") := by rw [cm_InvalidNumber]; exact T.oC_InvalidNumber
theorem iE_InvalidNumber (T : TX K mg) : PySem.W.findIn K (.ref ((zt T).cm "InvalidNumber")) "__init__" = some (some (.ref T.fI)) := by rw [cm_InvalidNumber]; exact T.iC_InvalidNumber
theorem gE_InvalidNumber (T : TX K mg) : mg "InvalidNumber" = some (.ref ((zt T).cm "InvalidNumber")) := by rw [cm_InvalidNumber]; exact T.gC_InvalidNumber
theorem cm_InvalidWord (T : TX K mg) : (zt T).cm "InvalidWord" = T.C_InvalidWord := by simp [zt]
theorem oE_InvalidWord (T : TX K mg) : OpenC K T.D0 ((zt T).cm "InvalidWord") := by rw [cm_InvalidWord]; exact T.oC_InvalidWord
theorem iE_InvalidWord (T : TX K mg) : PySem.W.findIn K (.ref ((zt T).cm "InvalidWord")) "__init__" = some (some (.ref T.fI)) := by rw [cm_InvalidWord]; exact T.iC_InvalidWord
theorem gE_InvalidWord (T : TX K mg) : mg "InvalidWord" = some (.ref ((zt T).cm "InvalidWord")) := by rw [cm_InvalidWord]; exact T.gC_InvalidWord
theorem cm_InvalidWords (T : TX K mg) : (zt T).cm "InvalidWords" = T.C_InvalidWords := by simp [zt]
theorem oE_InvalidWords (T : TX K mg) : OpenC K T.D0 ((zt T).cm "InvalidWords") := by rw [cm_InvalidWords]; exact T.oC_InvalidWords
theorem iE_InvalidWords (T : TX K mg) : PySem.W.findIn K (.ref ((zt T).cm "InvalidWords")) "__init__" = some (some (.ref T.fI)) := by rw [cm_InvalidWords]; exact T.iC_InvalidWords
theorem gE_InvalidWords (T : TX K mg) : mg "InvalidWords" = some (.ref ((zt T).cm "InvalidWords")) := by rw [cm_InvalidWords]; exact T.gC_InvalidWords
theorem cm_InvalidPlace (T : TX K mg) : (zt T).cm "InvalidPlace" = T.C_InvalidPlace := by simp [zt]
theorem oE_InvalidPlace (T : TX K mg) : OpenC K T.D0 ((zt T).cm "InvalidPlace") := by rw [cm_InvalidPlace]; exact T.oC_InvalidPlace
theorem iE_InvalidPlace (T : TX K mg) : PySem.W.findIn K (.ref ((zt T).cm "InvalidPlace")) "__init__" = some (some (.ref T.fI)) := by rw [cm_InvalidPlace]; exact T.iC_InvalidPlace
theorem gE_InvalidPlace (T : TX K mg) : mg "InvalidPlace" = some (.ref ((zt T).cm "InvalidPlace")) := by rw [cm_InvalidPlace]; exact T.gC_InvalidPlace
theorem cm_UnlikeLengths (T : TX K mg) : (zt T).cm "UnlikeLengths" = T.C_UnlikeLengths := by simp [zt]
theorem oE_UnlikeLengths (T : TX K mg) : OpenC K T.D0 ((zt T).cm "UnlikeLengths") := by rw [cm_UnlikeLengths]; exact T.oC_UnlikeLengths
theorem iE_UnlikeLengths (T : TX K mg) : PySem.W.findIn K (.ref ((zt T).cm "UnlikeLengths")) "__init__" = some (some (.ref T.fI)) := by rw [cm_UnlikeLengths]; exact T.iC_UnlikeLengths
theorem gE_UnlikeLengths (T : TX K mg) : mg "UnlikeLengths" = some (.ref ((zt T).cm "UnlikeLengths")) := by rw [cm_UnlikeLengths]; exact T.gC_UnlikeLengths
theorem cm_InvalidHouse (T : TX K mg) : (zt T).cm "InvalidHouse" = T.C_InvalidHouse := by simp [zt]
theorem oE_InvalidHouse (T : TX K mg) : OpenC K T.D0 ((zt T).cm "InvalidHouse") := by rw [cm_InvalidHouse]; exact T.oC_InvalidHouse
theorem iE_InvalidHouse (T : TX K mg) : PySem.W.findIn K (.ref ((zt T).cm "InvalidHouse")) "__init__" = some (some (.ref T.fI)) := by rw [cm_InvalidHouse]; exact T.iC_InvalidHouse
theorem gE_InvalidHouse (T : TX K mg) : mg "InvalidHouse" = some (.ref ((zt T).cm "InvalidHouse")) := by rw [cm_InvalidHouse]; exact T.gC_InvalidHouse
theorem cm_InvalidHouses (T : TX K mg) : (zt T).cm "InvalidHouses" = T.C_InvalidHouses := by simp [zt]
theorem oE_InvalidHouses (T : TX K mg) : OpenC K T.D0 ((zt T).cm "InvalidHouses") := by rw [cm_InvalidHouses]; exact T.oC_InvalidHouses
theorem iE_InvalidHouses (T : TX K mg) : PySem.W.findIn K (.ref ((zt T).cm "InvalidHouses")) "__init__" = some (some (.ref T.fI)) := by rw [cm_InvalidHouses]; exact T.iC_InvalidHouses
theorem gE_InvalidHouses (T : TX K mg) : mg "InvalidHouses" = some (.ref ((zt T).cm "InvalidHouses")) := by rw [cm_InvalidHouses]; exact T.gC_InvalidHouses
theorem cm_InvalidTie (T : TX K mg) : (zt T).cm "InvalidTie" = T.C_InvalidTie := by simp [zt]
theorem oE_InvalidTie (T : TX K mg) : OpenC K T.D0 ((zt T).cm "InvalidTie") := by rw [cm_InvalidTie]; exact T.oC_InvalidTie
theorem iE_InvalidTie (T : TX K mg) : PySem.W.findIn K (.ref ((zt T).cm "InvalidTie")) "__init__" = some (some (.ref T.fI)) := by rw [cm_InvalidTie]; exact T.iC_InvalidTie
theorem gE_InvalidTie (T : TX K mg) : mg "InvalidTie" = some (.ref ((zt T).cm "InvalidTie")) := by rw [cm_InvalidTie]; exact T.gC_InvalidTie
theorem cm_InvalidTies (T : TX K mg) : (zt T).cm "InvalidTies" = T.C_InvalidTies := by simp [zt]
theorem oE_InvalidTies (T : TX K mg) : OpenC K T.D0 ((zt T).cm "InvalidTies") := by rw [cm_InvalidTies]; exact T.oC_InvalidTies
theorem iE_InvalidTies (T : TX K mg) : PySem.W.findIn K (.ref ((zt T).cm "InvalidTies")) "__init__" = some (some (.ref T.fI)) := by rw [cm_InvalidTies]; exact T.iC_InvalidTies
theorem gE_InvalidTies (T : TX K mg) : mg "InvalidTies" = some (.ref ((zt T).cm "InvalidTies")) := by rw [cm_InvalidTies]; exact T.gC_InvalidTies
theorem cm_InvalidWeb (T : TX K mg) : (zt T).cm "InvalidWeb" = T.C_InvalidWeb := by simp [zt]
theorem oE_InvalidWeb (T : TX K mg) : OpenC K T.D0 ((zt T).cm "InvalidWeb") := by rw [cm_InvalidWeb]; exact T.oC_InvalidWeb
theorem iE_InvalidWeb (T : TX K mg) : PySem.W.findIn K (.ref ((zt T).cm "InvalidWeb")) "__init__" = some (some (.ref T.fI)) := by rw [cm_InvalidWeb]; exact T.iC_InvalidWeb
theorem gE_InvalidWeb (T : TX K mg) : mg "InvalidWeb" = some (.ref ((zt T).cm "InvalidWeb")) := by rw [cm_InvalidWeb]; exact T.gC_InvalidWeb
theorem cm_InvalidOrder (T : TX K mg) : (zt T).cm "InvalidOrder" = T.C_InvalidOrder := by simp [zt]
theorem oE_InvalidOrder (T : TX K mg) : OpenC K T.D0 ((zt T).cm "InvalidOrder") := by rw [cm_InvalidOrder]; exact T.oC_InvalidOrder
theorem iE_InvalidOrder (T : TX K mg) : PySem.W.findIn K (.ref ((zt T).cm "InvalidOrder")) "__init__" = some (some (.ref T.fI)) := by rw [cm_InvalidOrder]; exact T.iC_InvalidOrder
theorem gE_InvalidOrder (T : TX K mg) : mg "InvalidOrder" = some (.ref ((zt T).cm "InvalidOrder")) := by rw [cm_InvalidOrder]; exact T.gC_InvalidOrder
theorem cm_InvalidText (T : TX K mg) : (zt T).cm "InvalidText" = T.C_InvalidText := by simp [zt]
theorem oE_InvalidText (T : TX K mg) : OpenC K T.D0 ((zt T).cm "InvalidText") := by rw [cm_InvalidText]; exact T.oC_InvalidText
theorem iE_InvalidText (T : TX K mg) : PySem.W.findIn K (.ref ((zt T).cm "InvalidText")) "__init__" = some (some (.ref T.fI)) := by rw [cm_InvalidText]; exact T.iC_InvalidText
theorem gE_InvalidText (T : TX K mg) : mg "InvalidText" = some (.ref ((zt T).cm "InvalidText")) := by rw [cm_InvalidText]; exact T.gC_InvalidText
theorem cm_InvalidAddresses (T : TX K mg) : (zt T).cm "InvalidAddresses" = T.C_InvalidAddresses := by simp [zt]
theorem oE_InvalidAddresses (T : TX K mg) : OpenC K T.D0 ((zt T).cm "InvalidAddresses") := by rw [cm_InvalidAddresses]; exact T.oC_InvalidAddresses
theorem iE_InvalidAddresses (T : TX K mg) : PySem.W.findIn K (.ref ((zt T).cm "InvalidAddresses")) "__init__" = some (some (.ref T.fI)) := by rw [cm_InvalidAddresses]; exact T.iC_InvalidAddresses
theorem gE_InvalidAddresses (T : TX K mg) : mg "InvalidAddresses" = some (.ref ((zt T).cm "InvalidAddresses")) := by rw [cm_InvalidAddresses]; exact T.gC_InvalidAddresses
theorem cm_InvalidParents (T : TX K mg) : (zt T).cm "InvalidParents" = T.C_InvalidParents := by simp [zt]
theorem oE_InvalidParents (T : TX K mg) : OpenC K T.D0 ((zt T).cm "InvalidParents") := by rw [cm_InvalidParents]; exact T.oC_InvalidParents
theorem iE_InvalidParents (T : TX K mg) : PySem.W.findIn K (.ref ((zt T).cm "InvalidParents")) "__init__" = some (some (.ref T.fI)) := by rw [cm_InvalidParents]; exact T.iC_InvalidParents
theorem gE_InvalidParents (T : TX K mg) : mg "InvalidParents" = some (.ref ((zt T).cm "InvalidParents")) := by rw [cm_InvalidParents]; exact T.gC_InvalidParents
theorem cm_InvalidTree (T : TX K mg) : (zt T).cm "InvalidTree" = T.C_InvalidTree := by simp [zt]
theorem oE_InvalidTree (T : TX K mg) : OpenC K T.D0 ((zt T).cm "InvalidTree") := by rw [cm_InvalidTree]; exact T.oC_InvalidTree
theorem iE_InvalidTree (T : TX K mg) : PySem.W.findIn K (.ref ((zt T).cm "InvalidTree")) "__init__" = some (some (.ref T.fI)) := by rw [cm_InvalidTree]; exact T.iC_InvalidTree
theorem gE_InvalidTree (T : TX K mg) : mg "InvalidTree" = some (.ref ((zt T).cm "InvalidTree")) := by rw [cm_InvalidTree]; exact T.gC_InvalidTree
theorem cm_InvalidPairs (T : TX K mg) : (zt T).cm "InvalidPairs" = T.C_InvalidPairs := by simp [zt]
theorem oE_InvalidPairs (T : TX K mg) : OpenC K T.D0 ((zt T).cm "InvalidPairs") := by rw [cm_InvalidPairs]; exact T.oC_InvalidPairs
theorem iE_InvalidPairs (T : TX K mg) : PySem.W.findIn K (.ref ((zt T).cm "InvalidPairs")) "__init__" = some (some (.ref T.fI)) := by rw [cm_InvalidPairs]; exact T.iC_InvalidPairs
theorem gE_InvalidPairs (T : TX K mg) : mg "InvalidPairs" = some (.ref ((zt T).cm "InvalidPairs")) := by rw [cm_InvalidPairs]; exact T.gC_InvalidPairs
theorem cm_InvalidRow (T : TX K mg) : (zt T).cm "InvalidRow" = T.C_InvalidRow := by simp [zt]
theorem oE_InvalidRow (T : TX K mg) : OpenC K T.D0 ((zt T).cm "InvalidRow") := by rw [cm_InvalidRow]; exact T.oC_InvalidRow
theorem iE_InvalidRow (T : TX K mg) : PySem.W.findIn K (.ref ((zt T).cm "InvalidRow")) "__init__" = some (some (.ref T.fI)) := by rw [cm_InvalidRow]; exact T.iC_InvalidRow
theorem gE_InvalidRow (T : TX K mg) : mg "InvalidRow" = some (.ref ((zt T).cm "InvalidRow")) := by rw [cm_InvalidRow]; exact T.gC_InvalidRow
theorem cm_InvalidSide (T : TX K mg) : (zt T).cm "InvalidSide" = T.C_InvalidSide := by simp [zt]
theorem oE_InvalidSide (T : TX K mg) : OpenC K T.D0 ((zt T).cm "InvalidSide") := by rw [cm_InvalidSide]; exact T.oC_InvalidSide
theorem iE_InvalidSide (T : TX K mg) : PySem.W.findIn K (.ref ((zt T).cm "InvalidSide")) "__init__" = some (some (.ref T.fI)) := by rw [cm_InvalidSide]; exact T.iC_InvalidSide
theorem gE_InvalidSide (T : TX K mg) : mg "InvalidSide" = some (.ref ((zt T).cm "InvalidSide")) := by rw [cm_InvalidSide]; exact T.gC_InvalidSide
theorem cm_InvalidName (T : TX K mg) : (zt T).cm "InvalidName" = T.C_InvalidName := by simp [zt]
theorem oE_InvalidName (T : TX K mg) : OpenC K T.D0 ((zt T).cm "InvalidName") := by rw [cm_InvalidName]; exact T.oC_InvalidName
theorem iE_InvalidName (T : TX K mg) : PySem.W.findIn K (.ref ((zt T).cm "InvalidName")) "__init__" = some (some (.ref T.fI)) := by rw [cm_InvalidName]; exact T.iC_InvalidName
theorem gE_InvalidName (T : TX K mg) : mg "InvalidName" = some (.ref ((zt T).cm "InvalidName")) := by rw [cm_InvalidName]; exact T.gC_InvalidName
theorem cm_InvalidDeed (T : TX K mg) : (zt T).cm "InvalidDeed" = T.C_InvalidDeed := by simp [zt]
theorem oE_InvalidDeed (T : TX K mg) : OpenC K T.D0 ((zt T).cm "InvalidDeed") := by rw [cm_InvalidDeed]; exact T.oC_InvalidDeed
theorem iE_InvalidDeed (T : TX K mg) : PySem.W.findIn K (.ref ((zt T).cm "InvalidDeed")) "__init__" = some (some (.ref T.fI)) := by rw [cm_InvalidDeed]; exact T.iC_InvalidDeed
theorem gE_InvalidDeed (T : TX K mg) : mg "InvalidDeed" = some (.ref ((zt T).cm "InvalidDeed")) := by rw [cm_InvalidDeed]; exact T.gC_InvalidDeed
theorem cm_InvalidDeeds (T : TX K mg) : (zt T).cm "InvalidDeeds" = T.C_InvalidDeeds := by simp [zt]
theorem oE_InvalidDeeds (T : TX K mg) : OpenC K T.D0 ((zt T).cm "InvalidDeeds") := by rw [cm_InvalidDeeds]; exact T.oC_InvalidDeeds
theorem iE_InvalidDeeds (T : TX K mg) : PySem.W.findIn K (.ref ((zt T).cm "InvalidDeeds")) "__init__" = some (some (.ref T.fI)) := by rw [cm_InvalidDeeds]; exact T.iC_InvalidDeeds
theorem gE_InvalidDeeds (T : TX K mg) : mg "InvalidDeeds" = some (.ref ((zt T).cm "InvalidDeeds")) := by rw [cm_InvalidDeeds]; exact T.gC_InvalidDeeds
theorem cm_InvalidLine (T : TX K mg) : (zt T).cm "InvalidLine" = T.C_InvalidLine := by simp [zt]
theorem oE_InvalidLine (T : TX K mg) : OpenC K T.D0 ((zt T).cm "InvalidLine") := by rw [cm_InvalidLine]; exact T.oC_InvalidLine
theorem iE_InvalidLine (T : TX K mg) : PySem.W.findIn K (.ref ((zt T).cm "InvalidLine")) "__init__" = some (some (.ref T.fI)) := by rw [cm_InvalidLine]; exact T.iC_InvalidLine
theorem gE_InvalidLine (T : TX K mg) : mg "InvalidLine" = some (.ref ((zt T).cm "InvalidLine")) := by rw [cm_InvalidLine]; exact T.gC_InvalidLine
theorem cm_UnknownName (T : TX K mg) : (zt T).cm "UnknownName" = T.C_UnknownName := by simp [zt]
theorem oE_UnknownName (T : TX K mg) : OpenC K T.D0 ((zt T).cm "UnknownName") := by rw [cm_UnknownName]; exact T.oC_UnknownName
theorem iE_UnknownName (T : TX K mg) : PySem.W.findIn K (.ref ((zt T).cm "UnknownName")) "__init__" = some (some (.ref T.fI)) := by rw [cm_UnknownName]; exact T.iC_UnknownName
theorem gE_UnknownName (T : TX K mg) : mg "UnknownName" = some (.ref ((zt T).cm "UnknownName")) := by rw [cm_UnknownName]; exact T.gC_UnknownName
theorem cm_NameTaken (T : TX K mg) : (zt T).cm "NameTaken" = T.C_NameTaken := by simp [zt]
theorem oE_NameTaken (T : TX K mg) : OpenC K T.D0 ((zt T).cm "NameTaken") := by rw [cm_NameTaken]; exact T.oC_NameTaken
theorem iE_NameTaken (T : TX K mg) : PySem.W.findIn K (.ref ((zt T).cm "NameTaken")) "__init__" = some (some (.ref T.fI)) := by rw [cm_NameTaken]; exact T.iC_NameTaken
theorem gE_NameTaken (T : TX K mg) : mg "NameTaken" = some (.ref ((zt T).cm "NameTaken")) := by rw [cm_NameTaken]; exact T.gC_NameTaken
theorem cm_NotJoined (T : TX K mg) : (zt T).cm "NotJoined" = T.C_NotJoined := by simp [zt]
theorem oE_NotJoined (T : TX K mg) : OpenC K T.D0 ((zt T).cm "NotJoined") := by rw [cm_NotJoined]; exact T.oC_NotJoined
theorem iE_NotJoined (T : TX K mg) : PySem.W.findIn K (.ref ((zt T).cm "NotJoined")) "__init__" = some (some (.ref T.fI)) := by rw [cm_NotJoined]; exact T.iC_NotJoined
theorem gE_NotJoined (T : TX K mg) : mg "NotJoined" = some (.ref ((zt T).cm "NotJoined")) := by rw [cm_NotJoined]; exact T.gC_NotJoined
theorem cm_NotKept (T : TX K mg) : (zt T).cm "NotKept" = T.C_NotKept := by simp [zt]
theorem oE_NotKept (T : TX K mg) : OpenC K T.D0 ((zt T).cm "NotKept") := by rw [cm_NotKept]; exact T.oC_NotKept
theorem iE_NotKept (T : TX K mg) : PySem.W.findIn K (.ref ((zt T).cm "NotKept")) "__init__" = some (some (.ref T.fI)) := by rw [cm_NotKept]; exact T.iC_NotKept
theorem gE_NotKept (T : TX K mg) : mg "NotKept" = some (.ref ((zt T).cm "NotKept")) := by rw [cm_NotKept]; exact T.gC_NotKept
theorem cm_TooLarge (T : TX K mg) : (zt T).cm "TooLarge" = T.C_TooLarge := by simp [zt]
theorem oE_TooLarge (T : TX K mg) : OpenC K T.D0 ((zt T).cm "TooLarge") := by rw [cm_TooLarge]; exact T.oC_TooLarge
theorem iE_TooLarge (T : TX K mg) : PySem.W.findIn K (.ref ((zt T).cm "TooLarge")) "__init__" = some (some (.ref T.fI)) := by rw [cm_TooLarge]; exact T.iC_TooLarge
theorem gE_TooLarge (T : TX K mg) : mg "TooLarge" = some (.ref ((zt T).cm "TooLarge")) := by rw [cm_TooLarge]; exact T.gC_TooLarge
theorem cm_NothingToUndo (T : TX K mg) : (zt T).cm "NothingToUndo" = T.C_NothingToUndo := by simp [zt]
theorem oE_NothingToUndo (T : TX K mg) : OpenC K T.D0 ((zt T).cm "NothingToUndo") := by rw [cm_NothingToUndo]; exact T.oC_NothingToUndo
theorem iE_NothingToUndo (T : TX K mg) : PySem.W.findIn K (.ref ((zt T).cm "NothingToUndo")) "__init__" = some (some (.ref T.fI)) := by rw [cm_NothingToUndo]; exact T.iC_NothingToUndo
theorem gE_NothingToUndo (T : TX K mg) : mg "NothingToUndo" = some (.ref ((zt T).cm "NothingToUndo")) := by rw [cm_NothingToUndo]; exact T.gC_NothingToUndo
theorem xfall (T : TX K mg) : AllC (fun c => XfC K ((zt T).cm c) ∧ PySem.W.findIn K (.ref ((zt T).cm c)) "value" = some none) errs := (AllC.cons (by rw [cm_OpenpostsError]; exact ⟨⟨T.eC_OpenpostsError.hg, T.eC_OpenpostsError.hk, T.eC_OpenpostsError.hs, T.eC_OpenpostsError.hd⟩, T.oC_OpenpostsError.nov⟩) (AllC.cons (by rw [cm_InvalidNumber]; exact ⟨⟨T.eC_InvalidNumber.hg, T.eC_InvalidNumber.hk, T.eC_InvalidNumber.hs, T.eC_InvalidNumber.hd⟩, T.oC_InvalidNumber.nov⟩) (AllC.cons (by rw [cm_InvalidWord]; exact ⟨⟨T.eC_InvalidWord.hg, T.eC_InvalidWord.hk, T.eC_InvalidWord.hs, T.eC_InvalidWord.hd⟩, T.oC_InvalidWord.nov⟩) (AllC.cons (by rw [cm_InvalidWords]; exact ⟨⟨T.eC_InvalidWords.hg, T.eC_InvalidWords.hk, T.eC_InvalidWords.hs, T.eC_InvalidWords.hd⟩, T.oC_InvalidWords.nov⟩) (AllC.cons (by rw [cm_InvalidPlace]; exact ⟨⟨T.eC_InvalidPlace.hg, T.eC_InvalidPlace.hk, T.eC_InvalidPlace.hs, T.eC_InvalidPlace.hd⟩, T.oC_InvalidPlace.nov⟩) (AllC.cons (by rw [cm_UnlikeLengths]; exact ⟨⟨T.eC_UnlikeLengths.hg, T.eC_UnlikeLengths.hk, T.eC_UnlikeLengths.hs, T.eC_UnlikeLengths.hd⟩, T.oC_UnlikeLengths.nov⟩) (AllC.cons (by rw [cm_InvalidHouse]; exact ⟨⟨T.eC_InvalidHouse.hg, T.eC_InvalidHouse.hk, T.eC_InvalidHouse.hs, T.eC_InvalidHouse.hd⟩, T.oC_InvalidHouse.nov⟩) (AllC.cons (by rw [cm_InvalidHouses]; exact ⟨⟨T.eC_InvalidHouses.hg, T.eC_InvalidHouses.hk, T.eC_InvalidHouses.hs, T.eC_InvalidHouses.hd⟩, T.oC_InvalidHouses.nov⟩) (AllC.cons (by rw [cm_InvalidTie]; exact ⟨⟨T.eC_InvalidTie.hg, T.eC_InvalidTie.hk, T.eC_InvalidTie.hs, T.eC_InvalidTie.hd⟩, T.oC_InvalidTie.nov⟩) (AllC.cons (by rw [cm_InvalidTies]; exact ⟨⟨T.eC_InvalidTies.hg, T.eC_InvalidTies.hk, T.eC_InvalidTies.hs, T.eC_InvalidTies.hd⟩, T.oC_InvalidTies.nov⟩) (AllC.cons (by rw [cm_InvalidWeb]; exact ⟨⟨T.eC_InvalidWeb.hg, T.eC_InvalidWeb.hk, T.eC_InvalidWeb.hs, T.eC_InvalidWeb.hd⟩, T.oC_InvalidWeb.nov⟩) (AllC.cons (by rw [cm_InvalidOrder]; exact ⟨⟨T.eC_InvalidOrder.hg, T.eC_InvalidOrder.hk, T.eC_InvalidOrder.hs, T.eC_InvalidOrder.hd⟩, T.oC_InvalidOrder.nov⟩) (AllC.cons (by rw [cm_InvalidText]; exact ⟨⟨T.eC_InvalidText.hg, T.eC_InvalidText.hk, T.eC_InvalidText.hs, T.eC_InvalidText.hd⟩, T.oC_InvalidText.nov⟩) (AllC.cons (by rw [cm_InvalidAddresses]; exact ⟨⟨T.eC_InvalidAddresses.hg, T.eC_InvalidAddresses.hk, T.eC_InvalidAddresses.hs, T.eC_InvalidAddresses.hd⟩, T.oC_InvalidAddresses.nov⟩) (AllC.cons (by rw [cm_InvalidParents]; exact ⟨⟨T.eC_InvalidParents.hg, T.eC_InvalidParents.hk, T.eC_InvalidParents.hs, T.eC_InvalidParents.hd⟩, T.oC_InvalidParents.nov⟩) (AllC.cons (by rw [cm_InvalidTree]; exact ⟨⟨T.eC_InvalidTree.hg, T.eC_InvalidTree.hk, T.eC_InvalidTree.hs, T.eC_InvalidTree.hd⟩, T.oC_InvalidTree.nov⟩) (AllC.cons (by rw [cm_InvalidPairs]; exact ⟨⟨T.eC_InvalidPairs.hg, T.eC_InvalidPairs.hk, T.eC_InvalidPairs.hs, T.eC_InvalidPairs.hd⟩, T.oC_InvalidPairs.nov⟩) (AllC.cons (by rw [cm_InvalidRow]; exact ⟨⟨T.eC_InvalidRow.hg, T.eC_InvalidRow.hk, T.eC_InvalidRow.hs, T.eC_InvalidRow.hd⟩, T.oC_InvalidRow.nov⟩) (AllC.cons (by rw [cm_InvalidSide]; exact ⟨⟨T.eC_InvalidSide.hg, T.eC_InvalidSide.hk, T.eC_InvalidSide.hs, T.eC_InvalidSide.hd⟩, T.oC_InvalidSide.nov⟩) (AllC.cons (by rw [cm_InvalidName]; exact ⟨⟨T.eC_InvalidName.hg, T.eC_InvalidName.hk, T.eC_InvalidName.hs, T.eC_InvalidName.hd⟩, T.oC_InvalidName.nov⟩) (AllC.cons (by rw [cm_InvalidDeed]; exact ⟨⟨T.eC_InvalidDeed.hg, T.eC_InvalidDeed.hk, T.eC_InvalidDeed.hs, T.eC_InvalidDeed.hd⟩, T.oC_InvalidDeed.nov⟩) (AllC.cons (by rw [cm_InvalidDeeds]; exact ⟨⟨T.eC_InvalidDeeds.hg, T.eC_InvalidDeeds.hk, T.eC_InvalidDeeds.hs, T.eC_InvalidDeeds.hd⟩, T.oC_InvalidDeeds.nov⟩) (AllC.cons (by rw [cm_InvalidLine]; exact ⟨⟨T.eC_InvalidLine.hg, T.eC_InvalidLine.hk, T.eC_InvalidLine.hs, T.eC_InvalidLine.hd⟩, T.oC_InvalidLine.nov⟩) (AllC.cons (by rw [cm_UnknownName]; exact ⟨⟨T.eC_UnknownName.hg, T.eC_UnknownName.hk, T.eC_UnknownName.hs, T.eC_UnknownName.hd⟩, T.oC_UnknownName.nov⟩) (AllC.cons (by rw [cm_NameTaken]; exact ⟨⟨T.eC_NameTaken.hg, T.eC_NameTaken.hk, T.eC_NameTaken.hs, T.eC_NameTaken.hd⟩, T.oC_NameTaken.nov⟩) (AllC.cons (by rw [cm_NotJoined]; exact ⟨⟨T.eC_NotJoined.hg, T.eC_NotJoined.hk, T.eC_NotJoined.hs, T.eC_NotJoined.hd⟩, T.oC_NotJoined.nov⟩) (AllC.cons (by rw [cm_NotKept]; exact ⟨⟨T.eC_NotKept.hg, T.eC_NotKept.hk, T.eC_NotKept.hs, T.eC_NotKept.hd⟩, T.oC_NotKept.nov⟩) (AllC.cons (by rw [cm_TooLarge]; exact ⟨⟨T.eC_TooLarge.hg, T.eC_TooLarge.hk, T.eC_TooLarge.hs, T.eC_TooLarge.hd⟩, T.oC_TooLarge.nov⟩) (AllC.cons (by rw [cm_NothingToUndo]; exact ⟨⟨T.eC_NothingToUndo.hg, T.eC_NothingToUndo.hk, T.eC_NothingToUndo.hs, T.eC_NothingToUndo.hd⟩, T.oC_NothingToUndo.nov⟩) AllC.nil)))))))))))))))))))))))))))))
theorem xvok (T : TX K mg) : DN.XvOk (zt T) errs DN.exIs := DN.xvOk_of (by show DN.kxB K _ = true; simp only [errs, List.map_cons, List.map_nil, cm_OpenpostsError, cm_InvalidNumber, cm_InvalidWord, cm_InvalidWords, cm_InvalidPlace, cm_UnlikeLengths, cm_InvalidHouse, cm_InvalidHouses, cm_InvalidTie, cm_InvalidTies, cm_InvalidWeb, cm_InvalidOrder, cm_InvalidText, cm_InvalidAddresses, cm_InvalidParents, cm_InvalidTree, cm_InvalidPairs, cm_InvalidRow, cm_InvalidSide, cm_InvalidName, cm_InvalidDeed, cm_InvalidDeeds, cm_InvalidLine, cm_UnknownName, cm_NameTaken, cm_NotJoined, cm_NotKept, cm_TooLarge, cm_NothingToUndo]; exact T.kx) (AllC.cons (by rw [cm_OpenpostsError]; exact T.eC_OpenpostsError) (AllC.cons (by rw [cm_InvalidNumber]; exact T.eC_InvalidNumber) (AllC.cons (by rw [cm_InvalidWord]; exact T.eC_InvalidWord) (AllC.cons (by rw [cm_InvalidWords]; exact T.eC_InvalidWords) (AllC.cons (by rw [cm_InvalidPlace]; exact T.eC_InvalidPlace) (AllC.cons (by rw [cm_UnlikeLengths]; exact T.eC_UnlikeLengths) (AllC.cons (by rw [cm_InvalidHouse]; exact T.eC_InvalidHouse) (AllC.cons (by rw [cm_InvalidHouses]; exact T.eC_InvalidHouses) (AllC.cons (by rw [cm_InvalidTie]; exact T.eC_InvalidTie) (AllC.cons (by rw [cm_InvalidTies]; exact T.eC_InvalidTies) (AllC.cons (by rw [cm_InvalidWeb]; exact T.eC_InvalidWeb) (AllC.cons (by rw [cm_InvalidOrder]; exact T.eC_InvalidOrder) (AllC.cons (by rw [cm_InvalidText]; exact T.eC_InvalidText) (AllC.cons (by rw [cm_InvalidAddresses]; exact T.eC_InvalidAddresses) (AllC.cons (by rw [cm_InvalidParents]; exact T.eC_InvalidParents) (AllC.cons (by rw [cm_InvalidTree]; exact T.eC_InvalidTree) (AllC.cons (by rw [cm_InvalidPairs]; exact T.eC_InvalidPairs) (AllC.cons (by rw [cm_InvalidRow]; exact T.eC_InvalidRow) (AllC.cons (by rw [cm_InvalidSide]; exact T.eC_InvalidSide) (AllC.cons (by rw [cm_InvalidName]; exact T.eC_InvalidName) (AllC.cons (by rw [cm_InvalidDeed]; exact T.eC_InvalidDeed) (AllC.cons (by rw [cm_InvalidDeeds]; exact T.eC_InvalidDeeds) (AllC.cons (by rw [cm_InvalidLine]; exact T.eC_InvalidLine) (AllC.cons (by rw [cm_UnknownName]; exact T.eC_UnknownName) (AllC.cons (by rw [cm_NameTaken]; exact T.eC_NameTaken) (AllC.cons (by rw [cm_NotJoined]; exact T.eC_NotJoined) (AllC.cons (by rw [cm_NotKept]; exact T.eC_NotKept) (AllC.cons (by rw [cm_TooLarge]; exact T.eC_TooLarge) (AllC.cons (by rw [cm_NothingToUndo]; exact T.eC_NothingToUndo) AllC.nil)))))))))))))))))))))))))))))
theorem xall_0 (T : TX K mg) : AllC (fun c => AllC (fun n => PySem.W.exmOne K (.ref ((zt T).cm c)) (.ref ((zt T).cm n)) = some (n == c || n == "OpenpostsError")) ["InvalidPlace", "OpenpostsError"]) errs := (AllC.cons (AllC.cons (by simp only [cm_OpenpostsError, cm_InvalidPlace]; exact T.xm_OpenpostsError_InvalidPlace.trans (by decide)) (AllC.cons (by simp only [cm_OpenpostsError, cm_OpenpostsError]; exact T.xm_OpenpostsError_OpenpostsError.trans (by decide)) AllC.nil)) (AllC.cons (AllC.cons (by simp only [cm_InvalidNumber, cm_InvalidPlace]; exact T.xm_InvalidNumber_InvalidPlace.trans (by decide)) (AllC.cons (by simp only [cm_InvalidNumber, cm_OpenpostsError]; exact T.xm_InvalidNumber_OpenpostsError.trans (by decide)) AllC.nil)) (AllC.cons (AllC.cons (by simp only [cm_InvalidWord, cm_InvalidPlace]; exact T.xm_InvalidWord_InvalidPlace.trans (by decide)) (AllC.cons (by simp only [cm_InvalidWord, cm_OpenpostsError]; exact T.xm_InvalidWord_OpenpostsError.trans (by decide)) AllC.nil)) (AllC.cons (AllC.cons (by simp only [cm_InvalidWords, cm_InvalidPlace]; exact T.xm_InvalidWords_InvalidPlace.trans (by decide)) (AllC.cons (by simp only [cm_InvalidWords, cm_OpenpostsError]; exact T.xm_InvalidWords_OpenpostsError.trans (by decide)) AllC.nil)) (AllC.cons (AllC.cons (by simp only [cm_InvalidPlace, cm_InvalidPlace]; exact T.xm_InvalidPlace_InvalidPlace.trans (by decide)) (AllC.cons (by simp only [cm_InvalidPlace, cm_OpenpostsError]; exact T.xm_InvalidPlace_OpenpostsError.trans (by decide)) AllC.nil)) (AllC.cons (AllC.cons (by simp only [cm_UnlikeLengths, cm_InvalidPlace]; exact T.xm_UnlikeLengths_InvalidPlace.trans (by decide)) (AllC.cons (by simp only [cm_UnlikeLengths, cm_OpenpostsError]; exact T.xm_UnlikeLengths_OpenpostsError.trans (by decide)) AllC.nil)) (AllC.cons (AllC.cons (by simp only [cm_InvalidHouse, cm_InvalidPlace]; exact T.xm_InvalidHouse_InvalidPlace.trans (by decide)) (AllC.cons (by simp only [cm_InvalidHouse, cm_OpenpostsError]; exact T.xm_InvalidHouse_OpenpostsError.trans (by decide)) AllC.nil)) (AllC.cons (AllC.cons (by simp only [cm_InvalidHouses, cm_InvalidPlace]; exact T.xm_InvalidHouses_InvalidPlace.trans (by decide)) (AllC.cons (by simp only [cm_InvalidHouses, cm_OpenpostsError]; exact T.xm_InvalidHouses_OpenpostsError.trans (by decide)) AllC.nil)) (AllC.cons (AllC.cons (by simp only [cm_InvalidTie, cm_InvalidPlace]; exact T.xm_InvalidTie_InvalidPlace.trans (by decide)) (AllC.cons (by simp only [cm_InvalidTie, cm_OpenpostsError]; exact T.xm_InvalidTie_OpenpostsError.trans (by decide)) AllC.nil)) (AllC.cons (AllC.cons (by simp only [cm_InvalidTies, cm_InvalidPlace]; exact T.xm_InvalidTies_InvalidPlace.trans (by decide)) (AllC.cons (by simp only [cm_InvalidTies, cm_OpenpostsError]; exact T.xm_InvalidTies_OpenpostsError.trans (by decide)) AllC.nil)) (AllC.cons (AllC.cons (by simp only [cm_InvalidWeb, cm_InvalidPlace]; exact T.xm_InvalidWeb_InvalidPlace.trans (by decide)) (AllC.cons (by simp only [cm_InvalidWeb, cm_OpenpostsError]; exact T.xm_InvalidWeb_OpenpostsError.trans (by decide)) AllC.nil)) (AllC.cons (AllC.cons (by simp only [cm_InvalidOrder, cm_InvalidPlace]; exact T.xm_InvalidOrder_InvalidPlace.trans (by decide)) (AllC.cons (by simp only [cm_InvalidOrder, cm_OpenpostsError]; exact T.xm_InvalidOrder_OpenpostsError.trans (by decide)) AllC.nil)) (AllC.cons (AllC.cons (by simp only [cm_InvalidText, cm_InvalidPlace]; exact T.xm_InvalidText_InvalidPlace.trans (by decide)) (AllC.cons (by simp only [cm_InvalidText, cm_OpenpostsError]; exact T.xm_InvalidText_OpenpostsError.trans (by decide)) AllC.nil)) (AllC.cons (AllC.cons (by simp only [cm_InvalidAddresses, cm_InvalidPlace]; exact T.xm_InvalidAddresses_InvalidPlace.trans (by decide)) (AllC.cons (by simp only [cm_InvalidAddresses, cm_OpenpostsError]; exact T.xm_InvalidAddresses_OpenpostsError.trans (by decide)) AllC.nil)) (AllC.cons (AllC.cons (by simp only [cm_InvalidParents, cm_InvalidPlace]; exact T.xm_InvalidParents_InvalidPlace.trans (by decide)) (AllC.cons (by simp only [cm_InvalidParents, cm_OpenpostsError]; exact T.xm_InvalidParents_OpenpostsError.trans (by decide)) AllC.nil)) (AllC.cons (AllC.cons (by simp only [cm_InvalidTree, cm_InvalidPlace]; exact T.xm_InvalidTree_InvalidPlace.trans (by decide)) (AllC.cons (by simp only [cm_InvalidTree, cm_OpenpostsError]; exact T.xm_InvalidTree_OpenpostsError.trans (by decide)) AllC.nil)) (AllC.cons (AllC.cons (by simp only [cm_InvalidPairs, cm_InvalidPlace]; exact T.xm_InvalidPairs_InvalidPlace.trans (by decide)) (AllC.cons (by simp only [cm_InvalidPairs, cm_OpenpostsError]; exact T.xm_InvalidPairs_OpenpostsError.trans (by decide)) AllC.nil)) (AllC.cons (AllC.cons (by simp only [cm_InvalidRow, cm_InvalidPlace]; exact T.xm_InvalidRow_InvalidPlace.trans (by decide)) (AllC.cons (by simp only [cm_InvalidRow, cm_OpenpostsError]; exact T.xm_InvalidRow_OpenpostsError.trans (by decide)) AllC.nil)) (AllC.cons (AllC.cons (by simp only [cm_InvalidSide, cm_InvalidPlace]; exact T.xm_InvalidSide_InvalidPlace.trans (by decide)) (AllC.cons (by simp only [cm_InvalidSide, cm_OpenpostsError]; exact T.xm_InvalidSide_OpenpostsError.trans (by decide)) AllC.nil)) (AllC.cons (AllC.cons (by simp only [cm_InvalidName, cm_InvalidPlace]; exact T.xm_InvalidName_InvalidPlace.trans (by decide)) (AllC.cons (by simp only [cm_InvalidName, cm_OpenpostsError]; exact T.xm_InvalidName_OpenpostsError.trans (by decide)) AllC.nil)) (AllC.cons (AllC.cons (by simp only [cm_InvalidDeed, cm_InvalidPlace]; exact T.xm_InvalidDeed_InvalidPlace.trans (by decide)) (AllC.cons (by simp only [cm_InvalidDeed, cm_OpenpostsError]; exact T.xm_InvalidDeed_OpenpostsError.trans (by decide)) AllC.nil)) (AllC.cons (AllC.cons (by simp only [cm_InvalidDeeds, cm_InvalidPlace]; exact T.xm_InvalidDeeds_InvalidPlace.trans (by decide)) (AllC.cons (by simp only [cm_InvalidDeeds, cm_OpenpostsError]; exact T.xm_InvalidDeeds_OpenpostsError.trans (by decide)) AllC.nil)) (AllC.cons (AllC.cons (by simp only [cm_InvalidLine, cm_InvalidPlace]; exact T.xm_InvalidLine_InvalidPlace.trans (by decide)) (AllC.cons (by simp only [cm_InvalidLine, cm_OpenpostsError]; exact T.xm_InvalidLine_OpenpostsError.trans (by decide)) AllC.nil)) (AllC.cons (AllC.cons (by simp only [cm_UnknownName, cm_InvalidPlace]; exact T.xm_UnknownName_InvalidPlace.trans (by decide)) (AllC.cons (by simp only [cm_UnknownName, cm_OpenpostsError]; exact T.xm_UnknownName_OpenpostsError.trans (by decide)) AllC.nil)) (AllC.cons (AllC.cons (by simp only [cm_NameTaken, cm_InvalidPlace]; exact T.xm_NameTaken_InvalidPlace.trans (by decide)) (AllC.cons (by simp only [cm_NameTaken, cm_OpenpostsError]; exact T.xm_NameTaken_OpenpostsError.trans (by decide)) AllC.nil)) (AllC.cons (AllC.cons (by simp only [cm_NotJoined, cm_InvalidPlace]; exact T.xm_NotJoined_InvalidPlace.trans (by decide)) (AllC.cons (by simp only [cm_NotJoined, cm_OpenpostsError]; exact T.xm_NotJoined_OpenpostsError.trans (by decide)) AllC.nil)) (AllC.cons (AllC.cons (by simp only [cm_NotKept, cm_InvalidPlace]; exact T.xm_NotKept_InvalidPlace.trans (by decide)) (AllC.cons (by simp only [cm_NotKept, cm_OpenpostsError]; exact T.xm_NotKept_OpenpostsError.trans (by decide)) AllC.nil)) (AllC.cons (AllC.cons (by simp only [cm_TooLarge, cm_InvalidPlace]; exact T.xm_TooLarge_InvalidPlace.trans (by decide)) (AllC.cons (by simp only [cm_TooLarge, cm_OpenpostsError]; exact T.xm_TooLarge_OpenpostsError.trans (by decide)) AllC.nil)) (AllC.cons (AllC.cons (by simp only [cm_NothingToUndo, cm_InvalidPlace]; exact T.xm_NothingToUndo_InvalidPlace.trans (by decide)) (AllC.cons (by simp only [cm_NothingToUndo, cm_OpenpostsError]; exact T.xm_NothingToUndo_OpenpostsError.trans (by decide)) AllC.nil)) AllC.nil)))))))))))))))))))))))))))))
theorem csok (T : TX K mg) : CsOk (zt T) [] := ⟨AllC.nil, AllC.nil⟩
end
section
variable {w : World} {K : PySem.W.Frag} {mg : Str → Option Value} {base : Heap}
theorem G_law_box {b : Bool} (T : TX K mg) : FnG b PP w K mg base (L2N.CX PP w) 1 T.f_law_box T.d_law_box ["_law_number"] (spD (zt T) 1 D_law_box) :=
  fn_d (Z := zt T) (K := K) (N := N_law_box) (fb := B_law_box) (DN.Fun.d T.F_law_box) sc_law_box fun cdv A outer s H E hr =>
    (psf_one (psf_ret (pf_lst (paf_cons (pf_callB (cd_max rfl rfl) (by rfl) T.z_max (by decide +kernel) (paf_cons pf_int (paf_cons (pf_op od_sub (pf_var 0) (pf_op od_pow pf_int pf_int)) paf_nil))) (paf_cons (pf_op od_mod (pf_var 0) pf_int) (paf_cons pf_int paf_nil))))))
theorem G_law_take {b : Bool} (T : TX K mg) : FnG b PP w K mg base (L2N.CX PP w) 1 T.f_law_take T.d_law_take ["_law_box_here", "_law_many"] (spD (zt T) 2 D_law_take) :=
  fn_d (Z := zt T) (K := K) (N := N_law_take) (fb := B_law_take) (DN.Fun.d T.F_law_take) sc_law_take fun cdv A outer s H E hr =>
    (psf_cons (psf_if (ptf_cmp od_gt (pf_ix (ix_d hr.u1 rfl) (pf_var 0) pf_int) pf_int (nomark _)) (psf_cons (psf_set 2 sc_law_take.nd rfl (.inl rfl) (pf_op od_mod (pf_ix (ix_d hr.u1 rfl) (pf_var 0) pf_int) (pf_var 1)))
    (psf_cons (psf_sub (pf_var 0) pf_int (pf_op od_div (pf_ix (ix_d hr.u1 rfl) (pf_var 0) pf_int) (pf_var 1)))
    (psf_one (psf_ret (pf_var 2))))) psf_nil)
    (psf_cons (psf_sub (pf_var 0) pf_int (pf_op (od_add rfl) (pf_ix (ix_d hr.u1 rfl) (pf_var 0) pf_int) pf_int))
    (psf_cons (psf_set 3 sc_law_take.nd rfl (.inl rfl) (pf_op od_mod (pf_op od_pow (pf_op (od_add rfl) (pf_op (od_add rfl) (pf_ix (ix_d hr.u1 rfl) (pf_var 0) pf_int) (pf_op od_mul pf_int (pf_ix (ix_d hr.u1 rfl) (pf_var 0) pf_int))) pf_int) pf_int) pf_int))
    (psf_cons (psf_set 3 sc_law_take.nd rfl (.inl rfl) (pf_op od_mod (pf_op od_pow (pf_op (od_add rfl) (pf_var 3) (pf_op od_mul pf_int (pf_ix (ix_d hr.u1 rfl) (pf_var 0) pf_int))) pf_int) pf_int))
    (psf_one (psf_ret (pf_op od_mod (pf_op od_div (pf_var 3) pf_int) (pf_var 1))))))))
theorem G_law_values {b : Bool} (T : TX K mg) : FnG b PP w K mg base (L2N.CX PP w) 2 T.f_law_values T.d_law_values ["_law_box_here"] (spD (zt T) 1 D_law_values) :=
  fn_dL (Z := zt T) (K := K) (N := N_law_values) (fb := B_law_values) (DN.Fun.d T.F_law_values) sc_law_values fun cdv A outer s H E hr =>
    (psf_cons (psf_set 1 sc_law_values.nd rfl (.inl rfl) (pf_meth md_join PySem.F.plainAttrs_str PySem.F.slot_str_join PySem.F.type_str_join rfl pf_str (paf_cons (pf_lc (own := [("_law_k", 2)]) rfl sc_law_values.nd (pif_range1 (by rfl) T.z_range (paf_cons (pf_call (G_law_take T) (hr.mono (by decide)) tkd (by rfl) T.g_law_take T.F_law_take.kp T.b_law_take (paf_cons (pf_var 0) (paf_cons pf_int paf_nil))) paf_nil)) (blkOk_by (N := N_law_values) (sc := defScope s_law_values) (by decide +kernel)) (fun _ _ _ _ _ => (pgf_name 2 sc_law_values.nd rfl (by first | exact .inl rfl | exact .inr rfl))) (fun _ _ _ _ _ => ptsf_nil) (fun _ _ _ _ _ => (pf_ix (ix_d hr.u1 rfl) pf_str (pf_call (G_law_take T) (hr.mono (by decide)) tk0 (by rfl) T.g_law_take T.F_law_take.kp T.b_law_take (paf_cons (pf_var 0) (paf_cons pf_int paf_nil)))))) paf_nil)))
    (psf_one (psf_ret (pf_lstV (pafc_cons pf_non (pafc_cons pf_bl (pafc_cons pf_bl (pafc_cons (pf_op od_sub (pf_call (G_law_take T) (hr.mono (by decide)) tkd (by rfl) T.g_law_take T.F_law_take.kp T.b_law_take (paf_cons (pf_var 0) (paf_cons pf_int paf_nil))) pf_int) (paf_cons (pf_var 1) (pafc_cons (pf_lst (paf_cons (pf_var 1) paf_nil)) (pafc_cons (pf_tupV (pafc_cons (pf_lst (paf_cons (pf_var 1) paf_nil)) (paf_cons pf_non paf_nil))) (pafc_cons pf_dnewK (pafc_cons (pf_lst (paf_cons (pf_lst paf_nil) paf_nil)) (pafc_cons (pf_op od_pow pf_int pf_int) paf_nil))))))))))))))
theorem G_law_cell_at {b : Bool} (T : TX K mg) : FnG b PP w K mg base (L2N.CX PP w) 1 T.f_law_cell_at T.d_law_cell_at ["_law_script", "_law_k"] (spD (zt T) 2 D_law_cell_at) :=
  fn_d (Z := zt T) (K := K) (N := N_law_cell_at) (fb := B_law_cell_at) (DN.Fun.d T.F_law_cell_at) sc_law_cell_at fun cdv A outer s H E hr =>
    (psf_one (psf_ret (pf_if (ptf_cmp od_lt (pf_var 1) (pf_callB (cd_len rfl) (by rfl) T.z_len (by decide +kernel) (paf_cons (pf_var 0) paf_nil)) (nomark _)) (pf_ix (ix_d hr.u1 rfl) (pf_var 0) (pf_var 1)) (pf_op (od_add rfl) (pf_op od_mul pf_int (pf_var 1)) pf_int))))
theorem G_law_first {b : Bool} (T : TX K mg) : FnG b PP w K mg base (L2N.CX PP w) 3 T.f_law_first T.d_law_first ["_law_number", "_law_value"] (spD (zt T) 2 D_law_first) :=
  fn_dL (Z := zt T) (K := K) (N := N_law_first) (fb := B_law_first) (DN.Fun.d T.F_law_first) sc_law_first fun cdv A outer s H E hr =>
    (psf_cons (psf_if (ptf_cmp (od_eq hr.u64 rfl) (pf_var 0) pf_int (nomark _)) (psf_one (psf_ret (pf_excV (oE_InvalidNumber T) (iE_InvalidNumber T) T.tI (T.okI _ _ (L2N.CX PP w)) (hr.mono (by decide)) T.bI (DN.passH fun _ _ _ _ _ => DN.cx_no) (by rfl) (gE_InvalidNumber T) (pf_var 1)))) psf_nil)
    (psf_cons (psf_if (ptf_cmp (od_eq hr.u64 rfl) (pf_var 0) pf_int (nomark _)) (psf_one (psf_ret (pf_excV (oE_InvalidWord T) (iE_InvalidWord T) T.tI (T.okI _ _ (L2N.CX PP w)) (hr.mono (by decide)) T.bI (DN.passH fun _ _ _ _ _ => DN.cx_no) (by rfl) (gE_InvalidWord T) (pf_var 1)))) psf_nil)
    (psf_cons (psf_if (ptf_cmp (od_eq hr.u64 rfl) (pf_var 0) pf_int (nomark _)) (psf_one (psf_ret (pf_excV (oE_InvalidWords T) (iE_InvalidWords T) T.tI (T.okI _ _ (L2N.CX PP w)) (hr.mono (by decide)) T.bI (DN.passH fun _ _ _ _ _ => DN.cx_no) (by rfl) (gE_InvalidWords T) (pf_var 1)))) psf_nil)
    (psf_cons (psf_if (ptf_cmp (od_eq hr.u64 rfl) (pf_var 0) pf_int (nomark _)) (psf_one (psf_ret (pf_excV (oE_InvalidPlace T) (iE_InvalidPlace T) T.tI (T.okI _ _ (L2N.CX PP w)) (hr.mono (by decide)) T.bI (DN.passH fun _ _ _ _ _ => DN.cx_no) (by rfl) (gE_InvalidPlace T) (pf_var 1)))) psf_nil)
    (psf_cons (psf_if (ptf_cmp (od_eq hr.u64 rfl) (pf_var 0) pf_int (nomark _)) (psf_one (psf_ret (pf_excV (oE_UnlikeLengths T) (iE_UnlikeLengths T) T.tI (T.okI _ _ (L2N.CX PP w)) (hr.mono (by decide)) T.bI (DN.passH fun _ _ _ _ _ => DN.cx_no) (by rfl) (gE_UnlikeLengths T) (pf_var 1)))) psf_nil)
    (psf_cons (psf_if (ptf_cmp (od_eq hr.u64 rfl) (pf_var 0) pf_int (nomark _)) (psf_one (psf_ret (pf_excV (oE_InvalidHouse T) (iE_InvalidHouse T) T.tI (T.okI _ _ (L2N.CX PP w)) (hr.mono (by decide)) T.bI (DN.passH fun _ _ _ _ _ => DN.cx_no) (by rfl) (gE_InvalidHouse T) (pf_var 1)))) psf_nil)
    (psf_cons (psf_if (ptf_cmp (od_eq hr.u64 rfl) (pf_var 0) pf_int (nomark _)) (psf_one (psf_ret (pf_excV (oE_InvalidHouses T) (iE_InvalidHouses T) T.tI (T.okI _ _ (L2N.CX PP w)) (hr.mono (by decide)) T.bI (DN.passH fun _ _ _ _ _ => DN.cx_no) (by rfl) (gE_InvalidHouses T) (pf_var 1)))) psf_nil)
    (psf_cons (psf_if (ptf_cmp (od_eq hr.u64 rfl) (pf_var 0) pf_int (nomark _)) (psf_one (psf_ret (pf_excV (oE_InvalidTie T) (iE_InvalidTie T) T.tI (T.okI _ _ (L2N.CX PP w)) (hr.mono (by decide)) T.bI (DN.passH fun _ _ _ _ _ => DN.cx_no) (by rfl) (gE_InvalidTie T) (pf_var 1)))) psf_nil)
    (psf_cons (psf_if (ptf_cmp (od_eq hr.u64 rfl) (pf_var 0) pf_int (nomark _)) (psf_one (psf_ret (pf_excV (oE_InvalidTies T) (iE_InvalidTies T) T.tI (T.okI _ _ (L2N.CX PP w)) (hr.mono (by decide)) T.bI (DN.passH fun _ _ _ _ _ => DN.cx_no) (by rfl) (gE_InvalidTies T) (pf_var 1)))) psf_nil)
    (psf_cons (psf_if (ptf_cmp (od_eq hr.u64 rfl) (pf_var 0) pf_int (nomark _)) (psf_one (psf_ret (pf_excV (oE_InvalidWeb T) (iE_InvalidWeb T) T.tI (T.okI _ _ (L2N.CX PP w)) (hr.mono (by decide)) T.bI (DN.passH fun _ _ _ _ _ => DN.cx_no) (by rfl) (gE_InvalidWeb T) (pf_var 1)))) psf_nil)
    (psf_one (psf_ret (pf_excV (oE_OpenpostsError T) (iE_OpenpostsError T) T.tI (T.okI _ _ (L2N.CX PP w)) (hr.mono (by decide)) T.bI (DN.passH fun _ _ _ _ _ => DN.cx_no) (by rfl) (gE_OpenpostsError T) (pf_var 1))))))))))))))
theorem G_law_second {b : Bool} (T : TX K mg) : FnG b PP w K mg base (L2N.CX PP w) 3 T.f_law_second T.d_law_second ["_law_number", "_law_value"] (spD (zt T) 2 D_law_second) :=
  fn_dL (Z := zt T) (K := K) (N := N_law_second) (fb := B_law_second) (DN.Fun.d T.F_law_second) sc_law_second fun cdv A outer s H E hr =>
    (psf_cons (psf_if (ptf_cmp (od_eq hr.u64 rfl) (pf_var 0) pf_int (nomark _)) (psf_one (psf_ret (pf_excV (oE_InvalidOrder T) (iE_InvalidOrder T) T.tI (T.okI _ _ (L2N.CX PP w)) (hr.mono (by decide)) T.bI (DN.passH fun _ _ _ _ _ => DN.cx_no) (by rfl) (gE_InvalidOrder T) (pf_var 1)))) psf_nil)
    (psf_cons (psf_if (ptf_cmp (od_eq hr.u64 rfl) (pf_var 0) pf_int (nomark _)) (psf_one (psf_ret (pf_excV (oE_InvalidText T) (iE_InvalidText T) T.tI (T.okI _ _ (L2N.CX PP w)) (hr.mono (by decide)) T.bI (DN.passH fun _ _ _ _ _ => DN.cx_no) (by rfl) (gE_InvalidText T) (pf_var 1)))) psf_nil)
    (psf_cons (psf_if (ptf_cmp (od_eq hr.u64 rfl) (pf_var 0) pf_int (nomark _)) (psf_one (psf_ret (pf_excV (oE_InvalidAddresses T) (iE_InvalidAddresses T) T.tI (T.okI _ _ (L2N.CX PP w)) (hr.mono (by decide)) T.bI (DN.passH fun _ _ _ _ _ => DN.cx_no) (by rfl) (gE_InvalidAddresses T) (pf_var 1)))) psf_nil)
    (psf_cons (psf_if (ptf_cmp (od_eq hr.u64 rfl) (pf_var 0) pf_int (nomark _)) (psf_one (psf_ret (pf_excV (oE_InvalidParents T) (iE_InvalidParents T) T.tI (T.okI _ _ (L2N.CX PP w)) (hr.mono (by decide)) T.bI (DN.passH fun _ _ _ _ _ => DN.cx_no) (by rfl) (gE_InvalidParents T) (pf_var 1)))) psf_nil)
    (psf_cons (psf_if (ptf_cmp (od_eq hr.u64 rfl) (pf_var 0) pf_int (nomark _)) (psf_one (psf_ret (pf_excV (oE_InvalidTree T) (iE_InvalidTree T) T.tI (T.okI _ _ (L2N.CX PP w)) (hr.mono (by decide)) T.bI (DN.passH fun _ _ _ _ _ => DN.cx_no) (by rfl) (gE_InvalidTree T) (pf_var 1)))) psf_nil)
    (psf_cons (psf_if (ptf_cmp (od_eq hr.u64 rfl) (pf_var 0) pf_int (nomark _)) (psf_one (psf_ret (pf_excV (oE_InvalidPairs T) (iE_InvalidPairs T) T.tI (T.okI _ _ (L2N.CX PP w)) (hr.mono (by decide)) T.bI (DN.passH fun _ _ _ _ _ => DN.cx_no) (by rfl) (gE_InvalidPairs T) (pf_var 1)))) psf_nil)
    (psf_cons (psf_if (ptf_cmp (od_eq hr.u64 rfl) (pf_var 0) pf_int (nomark _)) (psf_one (psf_ret (pf_excV (oE_InvalidRow T) (iE_InvalidRow T) T.tI (T.okI _ _ (L2N.CX PP w)) (hr.mono (by decide)) T.bI (DN.passH fun _ _ _ _ _ => DN.cx_no) (by rfl) (gE_InvalidRow T) (pf_var 1)))) psf_nil)
    (psf_cons (psf_if (ptf_cmp (od_eq hr.u64 rfl) (pf_var 0) pf_int (nomark _)) (psf_one (psf_ret (pf_excV (oE_InvalidSide T) (iE_InvalidSide T) T.tI (T.okI _ _ (L2N.CX PP w)) (hr.mono (by decide)) T.bI (DN.passH fun _ _ _ _ _ => DN.cx_no) (by rfl) (gE_InvalidSide T) (pf_var 1)))) psf_nil)
    (psf_cons (psf_if (ptf_cmp (od_eq hr.u64 rfl) (pf_var 0) pf_int (nomark _)) (psf_one (psf_ret (pf_excV (oE_InvalidName T) (iE_InvalidName T) T.tI (T.okI _ _ (L2N.CX PP w)) (hr.mono (by decide)) T.bI (DN.passH fun _ _ _ _ _ => DN.cx_no) (by rfl) (gE_InvalidName T) (pf_var 1)))) psf_nil)
    (psf_cons (psf_if (ptf_cmp (od_eq hr.u64 rfl) (pf_var 0) pf_int (nomark _)) (psf_one (psf_ret (pf_excV (oE_InvalidDeed T) (iE_InvalidDeed T) T.tI (T.okI _ _ (L2N.CX PP w)) (hr.mono (by decide)) T.bI (DN.passH fun _ _ _ _ _ => DN.cx_no) (by rfl) (gE_InvalidDeed T) (pf_var 1)))) psf_nil)
    (psf_one (psf_ret (pf_excV (oE_OpenpostsError T) (iE_OpenpostsError T) T.tI (T.okI _ _ (L2N.CX PP w)) (hr.mono (by decide)) T.bI (DN.passH fun _ _ _ _ _ => DN.cx_no) (by rfl) (gE_OpenpostsError T) (pf_var 1))))))))))))))
theorem G_law_third {b : Bool} (T : TX K mg) : FnG b PP w K mg base (L2N.CX PP w) 3 T.f_law_third T.d_law_third ["_law_number", "_law_value"] (spD (zt T) 2 D_law_third) :=
  fn_dL (Z := zt T) (K := K) (N := N_law_third) (fb := B_law_third) (DN.Fun.d T.F_law_third) sc_law_third fun cdv A outer s H E hr =>
    (psf_cons (psf_if (ptf_cmp (od_eq hr.u64 rfl) (pf_var 0) pf_int (nomark _)) (psf_one (psf_ret (pf_excV (oE_InvalidDeeds T) (iE_InvalidDeeds T) T.tI (T.okI _ _ (L2N.CX PP w)) (hr.mono (by decide)) T.bI (DN.passH fun _ _ _ _ _ => DN.cx_no) (by rfl) (gE_InvalidDeeds T) (pf_var 1)))) psf_nil)
    (psf_cons (psf_if (ptf_cmp (od_eq hr.u64 rfl) (pf_var 0) pf_int (nomark _)) (psf_one (psf_ret (pf_excV (oE_InvalidLine T) (iE_InvalidLine T) T.tI (T.okI _ _ (L2N.CX PP w)) (hr.mono (by decide)) T.bI (DN.passH fun _ _ _ _ _ => DN.cx_no) (by rfl) (gE_InvalidLine T) (pf_var 1)))) psf_nil)
    (psf_cons (psf_if (ptf_cmp (od_eq hr.u64 rfl) (pf_var 0) pf_int (nomark _)) (psf_one (psf_ret (pf_excV (oE_UnknownName T) (iE_UnknownName T) T.tI (T.okI _ _ (L2N.CX PP w)) (hr.mono (by decide)) T.bI (DN.passH fun _ _ _ _ _ => DN.cx_no) (by rfl) (gE_UnknownName T) (pf_var 1)))) psf_nil)
    (psf_cons (psf_if (ptf_cmp (od_eq hr.u64 rfl) (pf_var 0) pf_int (nomark _)) (psf_one (psf_ret (pf_excV (oE_NameTaken T) (iE_NameTaken T) T.tI (T.okI _ _ (L2N.CX PP w)) (hr.mono (by decide)) T.bI (DN.passH fun _ _ _ _ _ => DN.cx_no) (by rfl) (gE_NameTaken T) (pf_var 1)))) psf_nil)
    (psf_cons (psf_if (ptf_cmp (od_eq hr.u64 rfl) (pf_var 0) pf_int (nomark _)) (psf_one (psf_ret (pf_excV (oE_NotJoined T) (iE_NotJoined T) T.tI (T.okI _ _ (L2N.CX PP w)) (hr.mono (by decide)) T.bI (DN.passH fun _ _ _ _ _ => DN.cx_no) (by rfl) (gE_NotJoined T) (pf_var 1)))) psf_nil)
    (psf_cons (psf_if (ptf_cmp (od_eq hr.u64 rfl) (pf_var 0) pf_int (nomark _)) (psf_one (psf_ret (pf_excV (oE_NotKept T) (iE_NotKept T) T.tI (T.okI _ _ (L2N.CX PP w)) (hr.mono (by decide)) T.bI (DN.passH fun _ _ _ _ _ => DN.cx_no) (by rfl) (gE_NotKept T) (pf_var 1)))) psf_nil)
    (psf_cons (psf_if (ptf_cmp (od_eq hr.u64 rfl) (pf_var 0) pf_int (nomark _)) (psf_one (psf_ret (pf_excV (oE_TooLarge T) (iE_TooLarge T) T.tI (T.okI _ _ (L2N.CX PP w)) (hr.mono (by decide)) T.bI (DN.passH fun _ _ _ _ _ => DN.cx_no) (by rfl) (gE_TooLarge T) (pf_var 1)))) psf_nil)
    (psf_cons (psf_if (ptf_cmp (od_eq hr.u64 rfl) (pf_var 0) pf_int (nomark _)) (psf_one (psf_ret (pf_excV (oE_NothingToUndo T) (iE_NothingToUndo T) T.tI (T.okI _ _ (L2N.CX PP w)) (hr.mono (by decide)) T.bI (DN.passH fun _ _ _ _ _ => DN.cx_no) (by rfl) (gE_NothingToUndo T) (pf_var 1)))) psf_nil)
    (psf_one (psf_ret (pf_excV (oE_OpenpostsError T) (iE_OpenpostsError T) T.tI (T.okI _ _ (L2N.CX PP w)) (hr.mono (by decide)) T.bI (DN.passH fun _ _ _ _ _ => DN.cx_no) (by rfl) (gE_OpenpostsError T) (pf_var 1))))))))))))
theorem G_law_made {b : Bool} (T : TX K mg) : FnG b PP w K mg base (L2N.CX PP w) 4 T.f_law_made T.d_law_made ["_law_number", "_law_value"] (spD (zt T) 2 D_law_made) :=
  fn_dL (Z := zt T) (K := K) (N := N_law_made) (fb := B_law_made) (DN.Fun.d T.F_law_made) sc_law_made fun cdv A outer s H E hr =>
    (psf_cons (psf_if (ptf_cmp od_lt (pf_var 0) pf_int (nomark _)) (psf_one (psf_ret (pf_call (G_law_first T) (hr.mono (by decide)) tkd (by rfl) T.g_law_first T.F_law_first.kp T.b_law_first (paf_cons (pf_var 0) (paf_cons (pf_var 1) paf_nil))))) psf_nil)
    (psf_one (psf_ret (pf_if (ptf_cmp od_lt (pf_var 0) pf_int (nomark _)) (pf_call (G_law_second T) (hr.mono (by decide)) tkd (by rfl) T.g_law_second T.F_law_second.kp T.b_law_second (paf_cons (pf_op od_sub (pf_var 0) pf_int) (paf_cons (pf_var 1) paf_nil))) (pf_call (G_law_third T) (hr.mono (by decide)) tkd (by rfl) T.g_law_third T.F_law_third.kp T.b_law_third (paf_cons (pf_op od_sub (pf_var 0) pf_int) (paf_cons (pf_var 1) paf_nil)))))))
theorem G_law_isX (T : TX K mg) : FnHX true PP w K mg base (L2N.CX PP w) 1 T.f_law_is T.d_law_is ["_law_error"] (spDX (zt T) 1 D_law_isX) :=
  fn_dHX (Z := zt T) (K := K) (N := N_law_is) (fb := B_law_isX) (n := 0) (DN.Fun.d T.F_law_is) sc_law_is rfl ⟨_, rfl⟩ fun cdv A outer s H E p cls d0 hot hz hf hr =>
    (psf_cons (psf_setC 1 sc_law_is.nd rfl (.inl rfl) (pf_lst paf_nil))
    (psf_cons (psf_expr (pf_mut md_append PySem.F.slot_list_append PySem.F.type_list_append rfl (pf_var 1) (paf_cons (pf_isX (i := 0) rfl (xvok T) List.mem_cons_self hz.zc hf (by rfl) T.z_isinstance (by rfl) (gE_InvalidNumber T)) paf_nil)))
    (psf_cons (psf_expr (pf_mut md_append PySem.F.slot_list_append PySem.F.type_list_append rfl (pf_var 1) (paf_cons (pf_isX (i := 0) rfl (xvok T) List.mem_cons_self hz.zc hf (by rfl) T.z_isinstance (by rfl) (gE_InvalidWord T)) paf_nil)))
    (psf_cons (psf_expr (pf_mut md_append PySem.F.slot_list_append PySem.F.type_list_append rfl (pf_var 1) (paf_cons (pf_isX (i := 0) rfl (xvok T) List.mem_cons_self hz.zc hf (by rfl) T.z_isinstance (by rfl) (gE_InvalidWords T)) paf_nil)))
    (psf_cons (psf_expr (pf_mut md_append PySem.F.slot_list_append PySem.F.type_list_append rfl (pf_var 1) (paf_cons (pf_isX (i := 0) rfl (xvok T) List.mem_cons_self hz.zc hf (by rfl) T.z_isinstance (by rfl) (gE_InvalidPlace T)) paf_nil)))
    (psf_cons (psf_expr (pf_mut md_append PySem.F.slot_list_append PySem.F.type_list_append rfl (pf_var 1) (paf_cons (pf_isX (i := 0) rfl (xvok T) List.mem_cons_self hz.zc hf (by rfl) T.z_isinstance (by rfl) (gE_UnlikeLengths T)) paf_nil)))
    (psf_cons (psf_expr (pf_mut md_append PySem.F.slot_list_append PySem.F.type_list_append rfl (pf_var 1) (paf_cons (pf_isX (i := 0) rfl (xvok T) List.mem_cons_self hz.zc hf (by rfl) T.z_isinstance (by rfl) (gE_InvalidHouse T)) paf_nil)))
    (psf_cons (psf_expr (pf_mut md_append PySem.F.slot_list_append PySem.F.type_list_append rfl (pf_var 1) (paf_cons (pf_isX (i := 0) rfl (xvok T) List.mem_cons_self hz.zc hf (by rfl) T.z_isinstance (by rfl) (gE_InvalidHouses T)) paf_nil)))
    (psf_cons (psf_expr (pf_mut md_append PySem.F.slot_list_append PySem.F.type_list_append rfl (pf_var 1) (paf_cons (pf_isX (i := 0) rfl (xvok T) List.mem_cons_self hz.zc hf (by rfl) T.z_isinstance (by rfl) (gE_InvalidTie T)) paf_nil)))
    (psf_cons (psf_expr (pf_mut md_append PySem.F.slot_list_append PySem.F.type_list_append rfl (pf_var 1) (paf_cons (pf_isX (i := 0) rfl (xvok T) List.mem_cons_self hz.zc hf (by rfl) T.z_isinstance (by rfl) (gE_InvalidTies T)) paf_nil)))
    (psf_cons (psf_expr (pf_mut md_append PySem.F.slot_list_append PySem.F.type_list_append rfl (pf_var 1) (paf_cons (pf_isX (i := 0) rfl (xvok T) List.mem_cons_self hz.zc hf (by rfl) T.z_isinstance (by rfl) (gE_InvalidWeb T)) paf_nil)))
    (psf_cons (psf_expr (pf_mut md_append PySem.F.slot_list_append PySem.F.type_list_append rfl (pf_var 1) (paf_cons (pf_isX (i := 0) rfl (xvok T) List.mem_cons_self hz.zc hf (by rfl) T.z_isinstance (by rfl) (gE_InvalidOrder T)) paf_nil)))
    (psf_cons (psf_expr (pf_mut md_append PySem.F.slot_list_append PySem.F.type_list_append rfl (pf_var 1) (paf_cons (pf_isX (i := 0) rfl (xvok T) List.mem_cons_self hz.zc hf (by rfl) T.z_isinstance (by rfl) (gE_InvalidText T)) paf_nil)))
    (psf_cons (psf_expr (pf_mut md_append PySem.F.slot_list_append PySem.F.type_list_append rfl (pf_var 1) (paf_cons (pf_isX (i := 0) rfl (xvok T) List.mem_cons_self hz.zc hf (by rfl) T.z_isinstance (by rfl) (gE_InvalidAddresses T)) paf_nil)))
    (psf_cons (psf_expr (pf_mut md_append PySem.F.slot_list_append PySem.F.type_list_append rfl (pf_var 1) (paf_cons (pf_isX (i := 0) rfl (xvok T) List.mem_cons_self hz.zc hf (by rfl) T.z_isinstance (by rfl) (gE_InvalidParents T)) paf_nil)))
    (psf_cons (psf_expr (pf_mut md_append PySem.F.slot_list_append PySem.F.type_list_append rfl (pf_var 1) (paf_cons (pf_isX (i := 0) rfl (xvok T) List.mem_cons_self hz.zc hf (by rfl) T.z_isinstance (by rfl) (gE_InvalidTree T)) paf_nil)))
    (psf_cons (psf_expr (pf_mut md_append PySem.F.slot_list_append PySem.F.type_list_append rfl (pf_var 1) (paf_cons (pf_isX (i := 0) rfl (xvok T) List.mem_cons_self hz.zc hf (by rfl) T.z_isinstance (by rfl) (gE_InvalidPairs T)) paf_nil)))
    (psf_cons (psf_expr (pf_mut md_append PySem.F.slot_list_append PySem.F.type_list_append rfl (pf_var 1) (paf_cons (pf_isX (i := 0) rfl (xvok T) List.mem_cons_self hz.zc hf (by rfl) T.z_isinstance (by rfl) (gE_InvalidRow T)) paf_nil)))
    (psf_cons (psf_expr (pf_mut md_append PySem.F.slot_list_append PySem.F.type_list_append rfl (pf_var 1) (paf_cons (pf_isX (i := 0) rfl (xvok T) List.mem_cons_self hz.zc hf (by rfl) T.z_isinstance (by rfl) (gE_InvalidSide T)) paf_nil)))
    (psf_cons (psf_expr (pf_mut md_append PySem.F.slot_list_append PySem.F.type_list_append rfl (pf_var 1) (paf_cons (pf_isX (i := 0) rfl (xvok T) List.mem_cons_self hz.zc hf (by rfl) T.z_isinstance (by rfl) (gE_InvalidName T)) paf_nil)))
    (psf_cons (psf_expr (pf_mut md_append PySem.F.slot_list_append PySem.F.type_list_append rfl (pf_var 1) (paf_cons (pf_isX (i := 0) rfl (xvok T) List.mem_cons_self hz.zc hf (by rfl) T.z_isinstance (by rfl) (gE_InvalidDeed T)) paf_nil)))
    (psf_cons (psf_expr (pf_mut md_append PySem.F.slot_list_append PySem.F.type_list_append rfl (pf_var 1) (paf_cons (pf_isX (i := 0) rfl (xvok T) List.mem_cons_self hz.zc hf (by rfl) T.z_isinstance (by rfl) (gE_InvalidDeeds T)) paf_nil)))
    (psf_cons (psf_expr (pf_mut md_append PySem.F.slot_list_append PySem.F.type_list_append rfl (pf_var 1) (paf_cons (pf_isX (i := 0) rfl (xvok T) List.mem_cons_self hz.zc hf (by rfl) T.z_isinstance (by rfl) (gE_InvalidLine T)) paf_nil)))
    (psf_cons (psf_expr (pf_mut md_append PySem.F.slot_list_append PySem.F.type_list_append rfl (pf_var 1) (paf_cons (pf_isX (i := 0) rfl (xvok T) List.mem_cons_self hz.zc hf (by rfl) T.z_isinstance (by rfl) (gE_UnknownName T)) paf_nil)))
    (psf_cons (psf_expr (pf_mut md_append PySem.F.slot_list_append PySem.F.type_list_append rfl (pf_var 1) (paf_cons (pf_isX (i := 0) rfl (xvok T) List.mem_cons_self hz.zc hf (by rfl) T.z_isinstance (by rfl) (gE_NameTaken T)) paf_nil)))
    (psf_cons (psf_expr (pf_mut md_append PySem.F.slot_list_append PySem.F.type_list_append rfl (pf_var 1) (paf_cons (pf_isX (i := 0) rfl (xvok T) List.mem_cons_self hz.zc hf (by rfl) T.z_isinstance (by rfl) (gE_NotJoined T)) paf_nil)))
    (psf_cons (psf_expr (pf_mut md_append PySem.F.slot_list_append PySem.F.type_list_append rfl (pf_var 1) (paf_cons (pf_isX (i := 0) rfl (xvok T) List.mem_cons_self hz.zc hf (by rfl) T.z_isinstance (by rfl) (gE_NotKept T)) paf_nil)))
    (psf_cons (psf_expr (pf_mut md_append PySem.F.slot_list_append PySem.F.type_list_append rfl (pf_var 1) (paf_cons (pf_isX (i := 0) rfl (xvok T) List.mem_cons_self hz.zc hf (by rfl) T.z_isinstance (by rfl) (gE_TooLarge T)) paf_nil)))
    (psf_cons (psf_expr (pf_mut md_append PySem.F.slot_list_append PySem.F.type_list_append rfl (pf_var 1) (paf_cons (pf_isX (i := 0) rfl (xvok T) List.mem_cons_self hz.zc hf (by rfl) T.z_isinstance (by rfl) (gE_NothingToUndo T)) paf_nil)))
    (psf_one (psf_ret (pf_var 1))))))))))))))))))))))))))))))))
theorem G_law_is {b : Bool} (T : TX K mg) : FnG b PP w K mg base (L2N.CX PP w) 1 T.f_law_is T.d_law_is ["_law_error"] (spD (zt T) 1 D_law_is) :=
  fn_d (Z := zt T) (K := K) (N := N_law_is) (fb := B_law_is) (DN.Fun.d T.F_law_is) sc_law_is fun cdv A outer s H E hr =>
    (psf_cons (psf_setC 1 sc_law_is.nd rfl (.inl rfl) (pf_lst paf_nil))
    (psf_cons (psf_expr (pf_mut md_append PySem.F.slot_list_append PySem.F.type_list_append rfl (pf_var 1) (paf_cons (pf_callV (cd_isV (csok T) rfl (xvok T)) (by rfl) T.z_isinstance (by decide +kernel) (paf_cons (pf_var 0) (paf_cons (pf_glob (v := .ref _) rfl (gE_InvalidNumber T) rfl (fun _ => on_cls)) paf_nil))) paf_nil)))
    (psf_cons (psf_expr (pf_mut md_append PySem.F.slot_list_append PySem.F.type_list_append rfl (pf_var 1) (paf_cons (pf_callV (cd_isV (csok T) rfl (xvok T)) (by rfl) T.z_isinstance (by decide +kernel) (paf_cons (pf_var 0) (paf_cons (pf_glob (v := .ref _) rfl (gE_InvalidWord T) rfl (fun _ => on_cls)) paf_nil))) paf_nil)))
    (psf_cons (psf_expr (pf_mut md_append PySem.F.slot_list_append PySem.F.type_list_append rfl (pf_var 1) (paf_cons (pf_callV (cd_isV (csok T) rfl (xvok T)) (by rfl) T.z_isinstance (by decide +kernel) (paf_cons (pf_var 0) (paf_cons (pf_glob (v := .ref _) rfl (gE_InvalidWords T) rfl (fun _ => on_cls)) paf_nil))) paf_nil)))
    (psf_cons (psf_expr (pf_mut md_append PySem.F.slot_list_append PySem.F.type_list_append rfl (pf_var 1) (paf_cons (pf_callV (cd_isV (csok T) rfl (xvok T)) (by rfl) T.z_isinstance (by decide +kernel) (paf_cons (pf_var 0) (paf_cons (pf_glob (v := .ref _) rfl (gE_InvalidPlace T) rfl (fun _ => on_cls)) paf_nil))) paf_nil)))
    (psf_cons (psf_expr (pf_mut md_append PySem.F.slot_list_append PySem.F.type_list_append rfl (pf_var 1) (paf_cons (pf_callV (cd_isV (csok T) rfl (xvok T)) (by rfl) T.z_isinstance (by decide +kernel) (paf_cons (pf_var 0) (paf_cons (pf_glob (v := .ref _) rfl (gE_UnlikeLengths T) rfl (fun _ => on_cls)) paf_nil))) paf_nil)))
    (psf_cons (psf_expr (pf_mut md_append PySem.F.slot_list_append PySem.F.type_list_append rfl (pf_var 1) (paf_cons (pf_callV (cd_isV (csok T) rfl (xvok T)) (by rfl) T.z_isinstance (by decide +kernel) (paf_cons (pf_var 0) (paf_cons (pf_glob (v := .ref _) rfl (gE_InvalidHouse T) rfl (fun _ => on_cls)) paf_nil))) paf_nil)))
    (psf_cons (psf_expr (pf_mut md_append PySem.F.slot_list_append PySem.F.type_list_append rfl (pf_var 1) (paf_cons (pf_callV (cd_isV (csok T) rfl (xvok T)) (by rfl) T.z_isinstance (by decide +kernel) (paf_cons (pf_var 0) (paf_cons (pf_glob (v := .ref _) rfl (gE_InvalidHouses T) rfl (fun _ => on_cls)) paf_nil))) paf_nil)))
    (psf_cons (psf_expr (pf_mut md_append PySem.F.slot_list_append PySem.F.type_list_append rfl (pf_var 1) (paf_cons (pf_callV (cd_isV (csok T) rfl (xvok T)) (by rfl) T.z_isinstance (by decide +kernel) (paf_cons (pf_var 0) (paf_cons (pf_glob (v := .ref _) rfl (gE_InvalidTie T) rfl (fun _ => on_cls)) paf_nil))) paf_nil)))
    (psf_cons (psf_expr (pf_mut md_append PySem.F.slot_list_append PySem.F.type_list_append rfl (pf_var 1) (paf_cons (pf_callV (cd_isV (csok T) rfl (xvok T)) (by rfl) T.z_isinstance (by decide +kernel) (paf_cons (pf_var 0) (paf_cons (pf_glob (v := .ref _) rfl (gE_InvalidTies T) rfl (fun _ => on_cls)) paf_nil))) paf_nil)))
    (psf_cons (psf_expr (pf_mut md_append PySem.F.slot_list_append PySem.F.type_list_append rfl (pf_var 1) (paf_cons (pf_callV (cd_isV (csok T) rfl (xvok T)) (by rfl) T.z_isinstance (by decide +kernel) (paf_cons (pf_var 0) (paf_cons (pf_glob (v := .ref _) rfl (gE_InvalidWeb T) rfl (fun _ => on_cls)) paf_nil))) paf_nil)))
    (psf_cons (psf_expr (pf_mut md_append PySem.F.slot_list_append PySem.F.type_list_append rfl (pf_var 1) (paf_cons (pf_callV (cd_isV (csok T) rfl (xvok T)) (by rfl) T.z_isinstance (by decide +kernel) (paf_cons (pf_var 0) (paf_cons (pf_glob (v := .ref _) rfl (gE_InvalidOrder T) rfl (fun _ => on_cls)) paf_nil))) paf_nil)))
    (psf_cons (psf_expr (pf_mut md_append PySem.F.slot_list_append PySem.F.type_list_append rfl (pf_var 1) (paf_cons (pf_callV (cd_isV (csok T) rfl (xvok T)) (by rfl) T.z_isinstance (by decide +kernel) (paf_cons (pf_var 0) (paf_cons (pf_glob (v := .ref _) rfl (gE_InvalidText T) rfl (fun _ => on_cls)) paf_nil))) paf_nil)))
    (psf_cons (psf_expr (pf_mut md_append PySem.F.slot_list_append PySem.F.type_list_append rfl (pf_var 1) (paf_cons (pf_callV (cd_isV (csok T) rfl (xvok T)) (by rfl) T.z_isinstance (by decide +kernel) (paf_cons (pf_var 0) (paf_cons (pf_glob (v := .ref _) rfl (gE_InvalidAddresses T) rfl (fun _ => on_cls)) paf_nil))) paf_nil)))
    (psf_cons (psf_expr (pf_mut md_append PySem.F.slot_list_append PySem.F.type_list_append rfl (pf_var 1) (paf_cons (pf_callV (cd_isV (csok T) rfl (xvok T)) (by rfl) T.z_isinstance (by decide +kernel) (paf_cons (pf_var 0) (paf_cons (pf_glob (v := .ref _) rfl (gE_InvalidParents T) rfl (fun _ => on_cls)) paf_nil))) paf_nil)))
    (psf_cons (psf_expr (pf_mut md_append PySem.F.slot_list_append PySem.F.type_list_append rfl (pf_var 1) (paf_cons (pf_callV (cd_isV (csok T) rfl (xvok T)) (by rfl) T.z_isinstance (by decide +kernel) (paf_cons (pf_var 0) (paf_cons (pf_glob (v := .ref _) rfl (gE_InvalidTree T) rfl (fun _ => on_cls)) paf_nil))) paf_nil)))
    (psf_cons (psf_expr (pf_mut md_append PySem.F.slot_list_append PySem.F.type_list_append rfl (pf_var 1) (paf_cons (pf_callV (cd_isV (csok T) rfl (xvok T)) (by rfl) T.z_isinstance (by decide +kernel) (paf_cons (pf_var 0) (paf_cons (pf_glob (v := .ref _) rfl (gE_InvalidPairs T) rfl (fun _ => on_cls)) paf_nil))) paf_nil)))
    (psf_cons (psf_expr (pf_mut md_append PySem.F.slot_list_append PySem.F.type_list_append rfl (pf_var 1) (paf_cons (pf_callV (cd_isV (csok T) rfl (xvok T)) (by rfl) T.z_isinstance (by decide +kernel) (paf_cons (pf_var 0) (paf_cons (pf_glob (v := .ref _) rfl (gE_InvalidRow T) rfl (fun _ => on_cls)) paf_nil))) paf_nil)))
    (psf_cons (psf_expr (pf_mut md_append PySem.F.slot_list_append PySem.F.type_list_append rfl (pf_var 1) (paf_cons (pf_callV (cd_isV (csok T) rfl (xvok T)) (by rfl) T.z_isinstance (by decide +kernel) (paf_cons (pf_var 0) (paf_cons (pf_glob (v := .ref _) rfl (gE_InvalidSide T) rfl (fun _ => on_cls)) paf_nil))) paf_nil)))
    (psf_cons (psf_expr (pf_mut md_append PySem.F.slot_list_append PySem.F.type_list_append rfl (pf_var 1) (paf_cons (pf_callV (cd_isV (csok T) rfl (xvok T)) (by rfl) T.z_isinstance (by decide +kernel) (paf_cons (pf_var 0) (paf_cons (pf_glob (v := .ref _) rfl (gE_InvalidName T) rfl (fun _ => on_cls)) paf_nil))) paf_nil)))
    (psf_cons (psf_expr (pf_mut md_append PySem.F.slot_list_append PySem.F.type_list_append rfl (pf_var 1) (paf_cons (pf_callV (cd_isV (csok T) rfl (xvok T)) (by rfl) T.z_isinstance (by decide +kernel) (paf_cons (pf_var 0) (paf_cons (pf_glob (v := .ref _) rfl (gE_InvalidDeed T) rfl (fun _ => on_cls)) paf_nil))) paf_nil)))
    (psf_cons (psf_expr (pf_mut md_append PySem.F.slot_list_append PySem.F.type_list_append rfl (pf_var 1) (paf_cons (pf_callV (cd_isV (csok T) rfl (xvok T)) (by rfl) T.z_isinstance (by decide +kernel) (paf_cons (pf_var 0) (paf_cons (pf_glob (v := .ref _) rfl (gE_InvalidDeeds T) rfl (fun _ => on_cls)) paf_nil))) paf_nil)))
    (psf_cons (psf_expr (pf_mut md_append PySem.F.slot_list_append PySem.F.type_list_append rfl (pf_var 1) (paf_cons (pf_callV (cd_isV (csok T) rfl (xvok T)) (by rfl) T.z_isinstance (by decide +kernel) (paf_cons (pf_var 0) (paf_cons (pf_glob (v := .ref _) rfl (gE_InvalidLine T) rfl (fun _ => on_cls)) paf_nil))) paf_nil)))
    (psf_cons (psf_expr (pf_mut md_append PySem.F.slot_list_append PySem.F.type_list_append rfl (pf_var 1) (paf_cons (pf_callV (cd_isV (csok T) rfl (xvok T)) (by rfl) T.z_isinstance (by decide +kernel) (paf_cons (pf_var 0) (paf_cons (pf_glob (v := .ref _) rfl (gE_UnknownName T) rfl (fun _ => on_cls)) paf_nil))) paf_nil)))
    (psf_cons (psf_expr (pf_mut md_append PySem.F.slot_list_append PySem.F.type_list_append rfl (pf_var 1) (paf_cons (pf_callV (cd_isV (csok T) rfl (xvok T)) (by rfl) T.z_isinstance (by decide +kernel) (paf_cons (pf_var 0) (paf_cons (pf_glob (v := .ref _) rfl (gE_NameTaken T) rfl (fun _ => on_cls)) paf_nil))) paf_nil)))
    (psf_cons (psf_expr (pf_mut md_append PySem.F.slot_list_append PySem.F.type_list_append rfl (pf_var 1) (paf_cons (pf_callV (cd_isV (csok T) rfl (xvok T)) (by rfl) T.z_isinstance (by decide +kernel) (paf_cons (pf_var 0) (paf_cons (pf_glob (v := .ref _) rfl (gE_NotJoined T) rfl (fun _ => on_cls)) paf_nil))) paf_nil)))
    (psf_cons (psf_expr (pf_mut md_append PySem.F.slot_list_append PySem.F.type_list_append rfl (pf_var 1) (paf_cons (pf_callV (cd_isV (csok T) rfl (xvok T)) (by rfl) T.z_isinstance (by decide +kernel) (paf_cons (pf_var 0) (paf_cons (pf_glob (v := .ref _) rfl (gE_NotKept T) rfl (fun _ => on_cls)) paf_nil))) paf_nil)))
    (psf_cons (psf_expr (pf_mut md_append PySem.F.slot_list_append PySem.F.type_list_append rfl (pf_var 1) (paf_cons (pf_callV (cd_isV (csok T) rfl (xvok T)) (by rfl) T.z_isinstance (by decide +kernel) (paf_cons (pf_var 0) (paf_cons (pf_glob (v := .ref _) rfl (gE_TooLarge T) rfl (fun _ => on_cls)) paf_nil))) paf_nil)))
    (psf_cons (psf_expr (pf_mut md_append PySem.F.slot_list_append PySem.F.type_list_append rfl (pf_var 1) (paf_cons (pf_callV (cd_isV (csok T) rfl (xvok T)) (by rfl) T.z_isinstance (by decide +kernel) (paf_cons (pf_var 0) (paf_cons (pf_glob (v := .ref _) rfl (gE_NothingToUndo T) rfl (fun _ => on_cls)) paf_nil))) paf_nil)))
    (psf_one (psf_ret (pf_var 1))))))))))))))))))))))))))))))))
theorem G_law_raised (T : TX K mg) : FnG true PP w K mg base (L2N.CX PP w) 3 T.f_law_raised T.d_law_raised ["_law_value"] (spD (zt T) 1 D_law_raised) :=
  fn_d (Z := zt T) (K := K) (N := N_law_raised) (fb := B_law_raised) (DN.Fun.d T.F_law_raised) sc_law_raised fun cdv A outer s H E hr =>
    (psf_one (psf_try rfl rfl rfl sc_law_raised.nd tkd (fun W2 pn xe tk2 po2 => (psf_one (psf_raise rfl tk2 (oE_InvalidNumber T) (iE_InvalidNumber T) T.tI (T.okI _ _ _) (hr.mono (by decide)) T.bI (by rfl) (gE_InvalidNumber T) (pf_var 0))))
      (xall_0 T) (HdF.cons (c := "InvalidPlace") ⟨by rfl, by decide, .inl (gE_InvalidPlace T)⟩ .no (fun a oe cls d0 pn hz hf => (psf_one (psf_ret pf_bl))) (HdF.cons (c := "OpenpostsError") ⟨by rfl, by decide, .inl (gE_OpenpostsError T)⟩ (.as rfl rfl) (fun a oe cls d0 pn hz hf => (psf_one (psf_ret (pf_and (pf_cmp (od_eq hr.u64 rfl) (pf_callV (cd_showV ⟨hr.gd rfl, hr.u64⟩ rfl (.inl T.sm)) (by rfl) T.z_repr (by decide +kernel) (paf_cons (pf_xv (xfall T) hz hf) paf_nil)) (pf_callV (cd_showV ⟨hr.gd rfl, hr.u64⟩ rfl (.inl T.sm)) (by rfl) T.z_repr (by decide +kernel) (paf_cons (pf_var 0) paf_nil)) (nomark _)) (pf_one (pf_cmp (od_eq hr.u64 rfl) (pf_callX (i := 1) (G_law_isX T) (hr.mono (by decide)) hz hf (by rfl) T.g_law_is T.F_law_is.kp T.b_law_is paf_nil) (pf_lcH (own := [("_law_k", 2)]) (hotC_of hz hf) sc_law_raised.nd (pif_range1H (by rfl) T.z_range (paf_cons pf_int paf_nil)) (blkOk_by (N := N_law_raised) (sc := defScope s_law_raised) (by decide +kernel)) (fun _ _ _ _ _ => (pgf_name 2 sc_law_raised.nd rfl (by first | exact .inl rfl | exact .inr rfl))) (fun _ _ _ _ _ => ptsf_nil) (fun _ _ _ _ _ => (pf_cmp (od_eq hr.u64 rfl) (pf_var 2) pf_int (nomark _)))) (nomark _))))))) HdF.nil))))
theorem G_law_end (T : TX K mg) {f : Addr} {fd : FuncData} (F : Fun K "law" "law" s_law f fd) : FnG true PP w K mg base (L2N.CX PP w) 5 f fd ["_law_script"] (spD (zt T) 1 D_law) :=
  fn_d (Z := zt T) (K := K) (N := N_law) (fb := B_law) (DN.Fun.d F) sc_law fun cdv A outer s H E hr =>
    (psf_cons (psf_for pod rfl (pif_range1 (by rfl) T.z_range (paf_cons (pf_callB (cd_max rfl rfl) (by rfl) T.z_max (by decide +kernel) (paf_cons pf_int (paf_cons (pf_callB (cd_min rfl rfl) (by rfl) T.z_min (by decide +kernel) (paf_cons pf_int (paf_cons (pf_callB (cd_len rfl) (by rfl) T.z_len (by decide +kernel) (paf_cons (pf_var 0) paf_nil)) paf_nil))) paf_nil))) paf_nil)) (pgf_name 1 sc_law.nd rfl (.inl rfl))
      (psf_cons (psf_setC 2 sc_law.nd rfl (.inl rfl) (pf_call (G_law_box T) (hr.mono (by decide)) tkd (by rfl) T.g_law_box T.F_law_box.kp T.b_law_box (paf_cons (pf_call (G_law_cell_at T) (hr.mono (by decide)) tkd (by rfl) T.g_law_cell_at T.F_law_cell_at.kp T.b_law_cell_at (paf_cons (pf_var 0) (paf_cons (pf_var 1) paf_nil))) paf_nil)))
    (psf_cons (psf_set 3 sc_law.nd rfl (.inl rfl) (pf_call (G_law_values T) (hr.mono (by decide)) tkd (by rfl) T.g_law_values T.F_law_values.kp T.b_law_values (paf_cons (pf_var 2) paf_nil)))
    (psf_cons (psf_for pod rfl (pif_range1 (by rfl) T.z_range (paf_cons pf_int paf_nil)) (pgf_name 4 sc_law.nd rfl (.inr rfl))
      (psf_cons (psf_setC 5 sc_law.nd rfl (.inl rfl) (pf_vx rfl (pf_var 3) (pf_call (G_law_take T) (hr.mono (by decide)) tkd (by rfl) T.g_law_take T.F_law_take.kp T.b_law_take (paf_cons (pf_var 2) (paf_cons pf_int paf_nil)))))
    (psf_cons (psf_set 6 sc_law.nd rfl (.inl rfl) (pf_call (G_law_made T) (hr.mono (by decide)) tkd (by rfl) T.g_law_made T.F_law_made.kp T.b_law_made (paf_cons (pf_var 4) (paf_cons (pf_var 5) paf_nil))))
    (psf_cons (psf_if (ptf_w (pwf_or (ptf_not (ptf_val (pf_callV (cd_isV (csok T) rfl (xvok T)) (by rfl) T.z_isinstance (by decide +kernel) (paf_cons (pf_var 6) (paf_cons (pf_glob (v := .ref _) rfl (gE_OpenpostsError T) rfl (fun _ => on_cls)) paf_nil))))) (pwf_one (ptf_not (ptf_val (pf_callV (cd_isV (csok T) rfl (xvok T)) (by rfl) T.z_isinstance (by decide +kernel) (paf_cons (pf_var 6) (paf_cons (pf_bltn (v := .ty "ValueError") (u := .type "ValueError") (by rfl) T.z_ValueError (by decide +kernel) rfl (fun _ => on_ty)) paf_nil)))))))) (psf_one (psf_ret pf_bl)) psf_nil)
    (psf_cons (psf_if (ptf_val (pf_callV (cd_isV (csok T) rfl (xvok T)) (by rfl) T.z_isinstance (by decide +kernel) (paf_cons (pf_var 5) (paf_cons (pf_bltn (v := .ty "list") (u := .type "list") (by rfl) T.z_list (by decide +kernel) rfl (fun _ => on_ty)) paf_nil)))) (psf_one (psf_expr (pf_mut md_append PySem.F.slot_list_append PySem.F.type_list_append rfl (pf_var 5) (paf_cons (pf_var 4) paf_nil)))) psf_nil)
    (psf_cons (psf_if (ptf_val (pf_callV (cd_isV (csok T) rfl (xvok T)) (by rfl) T.z_isinstance (by decide +kernel) (paf_cons (pf_var 5) (paf_cons (pf_bltn (v := .ty "dict") (u := .type "dict") (by rfl) T.z_dict (by decide +kernel) rfl (fun _ => on_ty)) paf_nil)))) (psf_one (psf_dput hr.u1 (pf_var 5) (pf_var 4) (pf_lst (paf_cons (pf_var 4) paf_nil)))) psf_nil)
    (psf_cons (psf_if (ptf_val (pf_callV (cd_isV (csok T) rfl (xvok T)) (by rfl) T.z_isinstance (by decide +kernel) (paf_cons (pf_var 5) (paf_cons (pf_bltn (v := .ty "tuple") (u := .type "tuple") (by rfl) T.z_tuple (by decide +kernel) rfl (fun _ => on_ty)) paf_nil)))) (psf_one (psf_expr (pf_mut md_append PySem.F.slot_list_append PySem.F.type_list_append rfl (pf_vti rfl (pf_var 5) pf_int) (paf_cons (pf_var 4) paf_nil)))) psf_nil)
    (psf_cons (psf_if (ptf_cmp (od_ne hr.u64 rfl) (pf_callV (cd_showV ⟨hr.gd rfl, hr.u64⟩ rfl (.inl T.sm)) (by rfl) T.z_repr (by decide +kernel) (paf_cons (pf_xval rfl (fun c hc => (xfall T).mem (by simpa using hc)) (pf_var 6)) paf_nil)) (pf_callV (cd_showV ⟨hr.gd rfl, hr.u64⟩ rfl (.inl T.sm)) (by rfl) T.z_repr (by decide +kernel) (paf_cons (pf_var 5) paf_nil)) (nomark _)) (psf_one (psf_ret pf_bl)) psf_nil)
    (psf_one (psf_if (ptf_cmp (od_ne hr.u64 rfl) (pf_call (G_law_is T) (hr.mono (by decide)) tkd (by rfl) T.g_law_is T.F_law_is.kp T.b_law_is (paf_cons (pf_var 6) paf_nil)) (pf_lc (own := [("_law_other", 7)]) rfl sc_law.nd (pif_range1 (by rfl) T.z_range (paf_cons pf_int paf_nil)) (blkOk_by (N := N_law) (sc := defScope s_law) (by decide +kernel)) (fun _ _ _ _ _ => (pgf_name 7 sc_law.nd rfl (by first | exact .inl rfl | exact .inr rfl))) (fun _ _ _ _ _ => ptsf_nil) (fun _ _ _ _ _ => (pf_cmp (od_eq hr.u64 rfl) (pf_var 7) (pf_var 4) (nomark _)))) (nomark _)) (psf_one (psf_ret pf_bl)) psf_nil))))))))))
    (psf_one (psf_if (ptf_not (ptf_val (pf_call (G_law_raised T) (hr.mono (by decide)) tkd (by rfl) T.g_law_raised T.F_law_raised.kp T.b_law_raised (paf_cons (pf_vx rfl (pf_var 3) (pf_call (G_law_take T) (hr.mono (by decide)) tkd (by rfl) T.g_law_take T.F_law_take.kp T.b_law_take (paf_cons (pf_var 2) (paf_cons pf_int paf_nil)))) paf_nil)))) (psf_one (psf_ret pf_bl)) psf_nil))))))
    (psf_one (psf_ret pf_bl)))
end
end Q02
namespace Q02
open DN PySem
theorem take_pos {n : Nat} {a b c m : Int} {T : Sto} (h : T[n]? = some (box a b c)) (ha : 0 < a) (hm : 0 < m) (hm2 : m < 1073741824) : D_law_take [.r n, .d (.int m)] T = .ok (T.set n (box (a.fdiv m) b c)) (.val (.d (.int (a.fmod m)))) := by
  unfold D_law_take defD
  simp_arith [gInt_, h, ix_0, ix_1, ix_2, gMod_ hm, gDiv_ hm hm2, gGt_, decide_eq_true ha, gt_iff_lt, set_ix0 h, exit_d, take_set]
theorem take_neg {n : Nat} {a b c m : Int} {T : Sto} (h : T[n]? = some (box a b c)) (ha : ¬ 0 < a) (hm : 0 < m) (hb : 0 ≤ b) (hb2 : b < 2147483563) (hc : 0 ≤ c) (hc2 : c < 1000000000) : 
    D_law_take [.r n, .d (.int m)] T = .ok (T.set n (box a b (c + 1))) (.val (.d (.int (((((b + 69761 * (c + 1) + 30429) ^ 5).fmod 2147483647 + 227485 * (c + 1)) ^ 3).fmod 2147483587 |>.fdiv 16 |>.fmod m)))) := by
  have q1 : 0 ≤ ((b + 69761 * (c + 1) + 30429) ^ 5).fmod 2147483647 := Int.fmod_nonneg_of_pos _ (by decide)
  have q2 : ((b + 69761 * (c + 1) + 30429) ^ 5).fmod 2147483647 < 2147483647 := Int.fmod_lt_of_pos _ (by decide)
  unfold D_law_take defD
  have h' : (T.set n (.lst [Dv.int a, .int b, .int (c + 1)]))[n]? = some (box a b (c + 1)) := get_set h
  simp_arith [gInt_, h, ix_0, ix_1, ix_2, gGt_, decide_eq_false ha, gt_iff_lt, gAdd_, set_ix2 h, h', gMul_ (show -(2 ^ 64) < (69761 : Int) by decide) (show (69761 : Int) < 2 ^ 64 by decide)]
  rw [show (Dv.int 5) = Dv.int ((5 : Nat) : Int) from rfl, gPow_ (i := b + 69761 * (c + 1) + 30429) (j := 5) (by omega) (by decide)]
  simp_arith [gInt_, h', gMod_ (show (0 : Int) < 2147483647 by decide), ix_2, gAdd_, gMul_ (show -(2 ^ 64) < (227485 : Int) by decide) (show (227485 : Int) < 2 ^ 64 by decide)]
  rw [show (Dv.int 3) = Dv.int ((3 : Nat) : Int) from rfl, gPow_ (j := 3) (by omega) (by decide)]
  simp_arith [gInt_, gMod_ hm, gMod_ (show (0 : Int) < 2147483587 by decide), gDiv_ (show (0 : Int) < 16 by decide) (show (16 : Int) < 1073741824 by decide), exit_d, take_set]
/-- the box at cell n -/
abbrev Bx (n : Nat) (k : Cell) : Prop := BxC 2147483563 n k
theorem take_ok {k : Cell} {n j : Nat} {m : Int} {T : Sto} (h : Bx j k) (hn : n < T.length) (hj : j < 1000000000) (hm : 0 < m) (hm2 : m < 1073741824) : ∃ (d : Nat) (k' : Cell), (d : Int) < m ∧ Bx (j + 1) k' ∧
    D_law_take [.r n, .d (.int m)] (T.set n k) = .ok (T.set n k') (.val (.d (.int d))) := by
  obtain ⟨a, b, c, rfl, h1, h2, h3, h4⟩ := h
  have hT : (T.set n (box a b c))[n]? = some (box a b c) := List.getElem?_set_self hn
  by_cases ha : 0 < a
  · refine ⟨(a.fmod m).toNat, box (a.fdiv m) b c, ?_, ⟨_, b, c, rfl, h1, h2, h3, by omega⟩, ?_⟩
    · have := Int.fmod_nonneg_of_pos a hm; have := Int.fmod_lt_of_pos a hm; omega
    · rw [take_pos hT ha hm hm2, List.set_set, Int.toNat_of_nonneg (Int.fmod_nonneg_of_pos _ hm)]
  · refine ⟨_, box a b (c + 1), ?_, ⟨a, b, c + 1, rfl, h1, h2, by omega, by omega⟩, by rw [take_neg hT ha hm h1 h2 h3 (by omega), List.set_set, ← Int.toNat_of_nonneg (Int.fmod_nonneg_of_pos _ hm)]⟩
    rw [Int.toNat_of_nonneg (Int.fmod_nonneg_of_pos _ hm)]
    exact Int.fmod_lt_of_pos _ hm
theorem cell_at_ok {ns : List Int} {k : Nat} {S : Sto} (hn : ns.length ≤ 63) : ∃ v : Int, D_law_cell_at [.d (.scr ns), .d (.int k)] S = .ok S (.val (.d (.int v))) := by
  by_cases h : k < ns.length
  · refine ⟨ns[k], def_pure ?_⟩
    simp_arith [gLen_scr, gLt_, decide_eq_true (show (k : Int) < (ns.length : Int) by omega), gIx_scr (List.getElem?_eq_getElem h)]
  · refine ⟨28683 * k + 19005, def_pure ?_⟩
    simp_arith [gLen_scr, gLt_, decide_eq_false (show ¬ (k : Int) < (ns.length : Int) by omega), gMul_ (show -(2 ^ 64) < (28683 : Int) by decide) (show (28683 : Int) < 2 ^ 64 by decide), gAdd_]
theorem box_ok {v : Int} {S : Sto} : ∃ k, Bx 0 k ∧ D_law_box [.d (.int v)] S = .ok S (.new k) := by
  refine ⟨box (max 0 (v - 10 ^ 18)) (v.fmod 2147483563) 0, ⟨_, _, _, rfl, Int.fmod_nonneg_of_pos _ (by decide), Int.fmod_lt_of_pos _ (by decide), by omega, by omega⟩, def_new ?_⟩
  have e : (if v - 10 ^ 18 > 0 then v - 10 ^ 18 else 0) = max 0 (v - 10 ^ 18) := by omega
  simp_arith [gInt_, gMax2_, gMod_ (show (0 : Int) < 2147483563 by decide), gSub_]
  rw [show (Dv.int 18) = Dv.int ((18 : Nat) : Int) from rfl, gPow_ (j := 18) (by decide) (by decide)]
  simp_arith [gInt_, gMax2_, gMax2, gMod_ (show (0 : Int) < 2147483563 by decide), gSub_]
  rw [e]
end Q02
namespace Q02
open DN PySem L2
section
variable {S S1 S2 S' T : Sto} {env env' : DN.Env} {fa fb fe : FE} {fl : FA} {l : List Vr} {a b c v : Dv} {x : Xn} {m j n : Nat}
theorem op_ok {g : Dv → Dv → Option Rt} (ha : fa env S = .ok S (.val (.d a))) (hb : fb env S = .ok S (.val (.d b))) (hg : g a b = vD c) : fOp g fa fb env S = .ok S (.val (.d c)) := by
  simp_arith [ha, hb, hg]
theorem var_ok {i : Nat} (h : env[i]? = some (.v (.d a))) : fVar i env S = .ok S (.val (.d a)) := by
  simp_arith [h]
theorem c_ok : fC a env S = .ok S (.val (.d a)) := rfl
theorem nil_ok : fNil env S = .ok S [] := rfl
theorem cons_v {v : Vr} (h : fa env S = .ok S1 (.val v)) (hl : fl env S1 = .ok S2 l) : fCons fa fl env S = .ok S2 (v :: l) := by
  unfold fCons
  rw [h]
  show R.bind (fl env S1) _ = _
  rw [hl]
  rfl
theorem cons_d (h : fa env S = .ok S1 (.val (.d a))) (hl : fl env S1 = .ok S2 l) : fCons fa fl env S = .ok S2 (.d a :: l) := cons_v h hl
theorem cons_L {k : List Dv} (h : fa env S = .ok S1 (.new (.lst k))) (hl : fl env S1 = .ok S2 l) : fCons fa fl env S = .ok S2 (.d (.lst k) :: l) := by
  unfold fCons
  rw [h]
  show R.bind (fl env S1) _ = _
  rw [hl]
  rfl
theorem lst_ok {m : List Dv} (hl : fl env S = .ok S1 l) (hg : gLstD l = nL m) : fLst fl env S = .ok S1 (.new (.lst m)) := by
  unfold fLst
  rw [hl]
  show R.of S1 (gLstD l) = _
  rw [hg]
  rfl
theorem callD {m : Nat} {D : FD} {r : R Rt} (h1 : fl env S = .ok S1 l) (hm : l.length = m) (h2 : D l S1 = r) : fCallD m D fl env S = r := by
  show (fl env S).bind (fun S1 l => if l.length = m then D l S1 else .no) = r
  rw [h1]
  show (if l.length = m then D l S1 else .no) = r
  rw [if_pos hm, h2]
theorem st_set {i : Nat} {v : Vr} (h : fe env S = .ok S1 (.val v)) (he : env.set i (.v v) = env') : kSet i fe env S = .nx env' S1 := by
  rw [kSet_, h, ← he]
  rfl
theorem seq_nx {k1 k2 : FS} {r : RS} (h1 : k1 env S = .nx env' S1) (h2 : k2 env' S1 = r) : kSeq k1 k2 env S = r := by
  rw [kSeq_, h1]
  exact h2
theorem seq_rt {k1 k2 : FS} {r : Rt} (h1 : k1 env S = .rt S1 r) : kSeq k1 k2 env S = .rt S1 r := by
  rw [kSeq_, h1]
  rfl
theorem st_ifB {ft : FT} {k1 k2 : FS} {t : Bool} (h : ft env S = .ok S1 t) : kIf ft k1 k2 env S = if t then k1 env S1 else k2 env S1 := by
  rw [kIf_, h, sB_ok]
theorem if_yes {ft : FT} {k1 k2 : FS} {r : RS} (h : ft env S = .ok S1 true) (h2 : k1 env S1 = r) : kIf ft k1 k2 env S = r := by
  rw [st_ifB h, if_pos rfl, h2]
theorem if_no {ft : FT} {k1 k2 : FS} {r : RS} (h : ft env S = .ok S1 false) (h2 : k2 env S1 = r) : kIf ft k1 k2 env S = r := by
  rw [st_ifB h, if_neg (by decide), h2]
theorem val_s {t : Bool} (h : fe env S = .ok S1 (.val (.d (.bl t)))) : kVal fe env S = .ok S1 t := by
  simp_arith [h]
theorem notB {t1 : FT} {b1 : Bool} (h1 : t1 env S = .ok S1 b1) : kNot t1 env S = .ok S1 (!b1) := by
  simp_arith [h1]
theorem ret_ok {r : Rt} (h : fe env S = .ok S1 r) : kRet fe env S = .rt S1 r := by
  rw [kRet_, h]
  rfl
theorem exp_ok {v : Vr} (h : fe env S = .ok S1 (.val v)) : kExpr fe env S = .nx env S1 := by
  rw [kExpr_, h]
  cases v <;> rfl
theorem raise_ok {c : String} {v : Vr} (h : fe env S = .ok S (.val v)) : kRaise c fe env S = .ex env S (.own c v) := by
  unfold kRaise
  rw [h]
  rfl
theorem ifS {ft : FT} {x y : FE} {r : R Rt} {b : Bool} (h : ft env S = .ok S1 b) (h2 : (if b then x else y) env S1 = r) : fIf ft x y env S = r := by
  rw [fIf_, h, bind_ok]
  cases b <;> exact h2
theorem var_v {i : Nat} {v : Vr} (h : env[i]? = some (.v v)) : fVar i env S = .ok S (.val v) := by
  simp_arith [h]
theorem op_S {g : Dv → Dv → Option Rt} (ha : fa env S = .ok S1 (.val (.d a))) (hb : fb env S1 = .ok S2 (.val (.d b))) (hg : g a b = vD c) : fOp g fa fb env S = .ok S2 (.val (.d c)) := by
  simp_arith [ha, hb, hg]
theorem op_LL {g : Dv → Dv → Option Rt} {m m' : List Dv} (ha : fa env S = .ok S1 (.new (.lst m))) (hb : fb env S1 = .ok S2 (.new (.lst m'))) (hg : g (.lst m) (.lst m') = vD c) : fOp g fa fb env S = .ok S2 (.val (.d c)) := by
  simp_arith [ha, hb, hg]
theorem join_at {ys : List Dv} {s : Str} (h : fa env S = .ok S1 (.new (.lst ys))) (hg : gJoin (.str "") [.lst ys] = vS s) : fMeth "str" gJoin (fC (.str "")) (fCons fa fNil) env S = .ok S1 (.val (.d (.str s))) := by
  simp_arith [h, hg]
theorem take_at {i : Nat} {j : Nat} {a : Int} {m : Nat} {k : Cell} (hm : m < S.length) (hB : Bx j k) (hj : j ≤ 100000000) (h0 : env[i]? = some (.v (.r m))) (he : fe env (S.set m k) = .ok (S.set m k) (.val (.d (.int a)))) (ha : 0 < a) (ha2 : a < 1000000) :
    ∃ (d : Nat) (c' : Cell), (d : Int) < a ∧ Bx (j + 1) c' ∧ fCallD 2 D_law_take (fCons (fVar i) (fCons fe fNil)) env (S.set m k) = .ok (S.set m c') (.val (.d (.int d))) := by
  obtain ⟨d, c', h1, h2, h3⟩ := take_ok (T := S) (m := a) hB hm (by omega) ha (by omega)
  exact ⟨d, c', h1, h2, callD (l := [.r m, .d (.int a)]) (cons_v (var_v h0) (cons_d he nil_ok)) rfl h3⟩
end
section
variable {S S1 S2 : Sto} {env : DN.Env} {fa fb fe : FE} {fl : FA} {m j n : Nat} {a b v : Vr} {d c : Dv} {s t u : Str} {x : Xn}
theorem and_yes {r : Dv} (h : fa env S = .ok S1 (.val (.d (.bl true)))) (h2 : fb env S1 = .ok S2 (.val (.d r))) : fAnd fa fb env S = .ok S2 (.val (.d r)) := by
  simp_arith [h, h2]
theorem orNo {t1 t2 : FT} {r : Bool} (h : t1 env S = .ok S false) (h2 : t2 env S = .ok S r) : kOr t1 t2 env S = .ok S r := by
  simp_arith [h, h2]
end
section
variable {S S1 S2 : Sto} {env : DN.Env} {m j n : Nat} {l : List Dv} {c : Dv}
theorem gEq_strs {k u : Str} (hk : PyData.strOk k = true) (hu : PyData.strOk u = true) : gEq (.str k) (.str u) = vB (decide (k = u)) := by
  show onlyIf (okN 60 (.str k) && okN 60 (.str u)) (vB (eqD (.str k) (.str u))) = _
  rw [okN_str, okN_str, hk, hu]
  show vB (k == u) = _
  congr 1
theorem gNe_strs {k u : Str} (hk : PyData.strOk k = true) (hu : PyData.strOk u = true) : gNe (.str k) (.str u) = vB (!decide (k = u)) := by
  show onlyIf (okN 60 (.str k) && okN 60 (.str u)) (vB (!eqD (.str k) (.str u))) = _
  rw [okN_str, okN_str, hk, hu]
  show vB (!(k == u)) = _
  congr 1
theorem set_self {c : Cell} (h : S[n]? = some c) : S.set n c = S := by
  obtain ⟨h1, h2⟩ := List.getElem?_eq_some_iff.mp h
  rw [← h2, List.set_getElem_self]
end
section
variable {S S1 S2 : Sto} {env env' : DN.Env} {fa fb fe f : FE} {fl : FA} {l : List Vr} {a b v : Vr} {d c : Dv} {m n q i j : Nat} {r : Rt} {x : Xn}
theorem consC_N {c : Cell} (h : fa env S = .ok S1 (.new c)) (hl : fl env (S1 ++ [c]) = .ok S2 l) : fConsC fa fl env S = .ok S2 (.r S1.length :: l) := by
  unfold fConsC
  rw [h]
  show R.bind (fl env (S1 ++ [c])) _ = _
  rw [hl]
  rfl
theorem consC_v (h : fa env S = .ok S1 (.val v)) (hl : fl env S1 = .ok S2 l) : fConsC fa fl env S = .ok S2 (v :: l) := by
  unfold fConsC
  rw [h]
  show R.bind (fl env S1) _ = _
  rw [hl]
  rfl
theorem setC_new {c : Cell} (h : fe env S = .ok S1 (.new c)) (he : env.set i (.v (.r S1.length)) = env') : kSetC i fe env S = .nx env' (S1 ++ [c]) := by
  unfold kSetC
  rw [h, ← he]
theorem try_x {cl : List Cl} {bs kd : String} {es : List String} {Bd f : FS} {r : Rt} (h : Bd env S = .ex env S (.own kd b)) (he : es.contains kd = true) (hp : pick bs cl kd = some (some i, f)) (hf : f (env.set i (.x kd b)) S = .rt S2 r) : kTry bs es cl Bd env S = .rt S2 r := by
  unfold kTry
  rw [h]
  show (if es.contains kd = true then runCl (pick bs cl kd) kd b env S else .no) = _
  rw [if_pos he, hp]
  show goneR i (f (env.set i (.x kd b)) S) = _
  rw [hf]
  rfl
end
theorem join_cs {cs : List Nat} (hl : cs.length ≤ 1000) : gJoin (.str "") [.lst (cs.map fun c => .str ⟨#[c]⟩)] = vS ⟨cs.toArray⟩ := by
  have e0 : (cs.map fun c => Dv.str ⟨#[c]⟩) = (cs.map fun c => (⟨#[c]⟩ : Str)).map .str := by rw [List.map_map]; rfl
  rw [e0]
  show (match strs? ((cs.map fun c => (⟨#[c]⟩ : Str)).map .str) with | some ss => (if (ss.map fun s : Str => s.length).sum + ss.length * ("" : Str).length ≤ 100000 then vS (Txt.join "" ss) else none) | none => none) = _
  rw [strs_map]
  have : (((cs.map fun c => (⟨#[c]⟩ : Str))).map fun s : Str => s.length).sum = cs.length := by
    rw [List.map_map]
    clear hl e0
    induction cs with
    | nil => rfl
    | cons c cs ih => rw [List.map_cons, List.sum_cons, ih, List.length_cons]; show 1 + cs.length = _; omega
  show (if (((cs.map fun c => (⟨#[c]⟩ : Str))).map fun s : Str => s.length).sum + _ * 0 ≤ 100000 then vS (Txt.join "" _) else none) = _
  rw [this, if_pos (by omega), OP.join_signs]
end Q02
namespace Q02
open DN PySem L2
def Asc (l : List Nat) : Prop := ∀ c ∈ l, c < 128
theorem asc_ok {s : Str} (h : Asc s.cps.toList) : PyData.strOk s = true := by
  unfold PyData.strOk
  rw [← Array.all_toList]
  simp only [List.all_eq_true, decide_eq_true_eq]
  exact fun c hc => Nat.lt_trans (h c hc) (by decide)
theorem app_asc {a b : Str} (ha : Asc a.cps.toList) (hb : Asc b.cps.toList) : Asc (a ++ b).cps.toList := by
  rw [app_tl]
  intro c hc
  rcases List.mem_append.mp hc with hc | hc
  · exact ha c hc
  · exact hb c hc
theorem app_len (a b : Str) : (a ++ b).length = a.length + b.length := by
  rw [TL.len_tl, TL.tl_append, List.length_append, ← TL.len_tl, ← TL.len_tl]
theorem asc_lit {l : List Nat} (h : (l.all fun c => decide (c < 128)) = true) : Asc l := fun c hc => by
  simp only [List.all_eq_true, decide_eq_true_eq] at h
  exact h c hc
/-- a datum whose text is plain and not longer than k -/
structure ShP (p : PyData) (k e : Nat) : Prop where
  a : Asc p.shown.cps.toList
  n : p.shown.length ≤ k
  s : p.showable = true
  d : p.depth ≤ e
theorem ShP.le {p : PyData} {k m e f : Nat} (h : ShP p k e) (l : k ≤ m) (g : e ≤ f) : ShP p m f := ⟨h.a, Nat.le_trans h.n l, h.s, Nat.le_trans h.d g⟩
theorem textFrom_p {m : Nat} : ∀ (ts : List Str) (k : Nat) (acc : Str), Asc acc.cps.toList → (∀ t ∈ ts, Asc t.cps.toList ∧ t.length ≤ m) → Asc (textFrom k acc ts).cps.toList ∧ (textFrom k acc ts).length ≤ acc.length + ts.length * (m + 2)
  | [], k, acc, ha, _ => ⟨ha, by show acc.length ≤ _; omega⟩
  | t :: ts, k, acc, ha, h => by
    obtain ⟨h1, h2⟩ := h t List.mem_cons_self
    have hs : Asc (Str.ofString (if k > 0 then ", " else "")).cps.toList ∧ (Str.ofString (if k > 0 then ", " else "")).length ≤ 2 := by
      by_cases q : k > 0
      · rw [if_pos q]; exact ⟨show Asc [44, 32] from asc_lit (by decide), show 2 ≤ 2 by omega⟩
      · rw [if_neg q]; exact ⟨show Asc [] from asc_lit (by decide), show 0 ≤ 2 by omega⟩
    obtain ⟨i1, i2⟩ := textFrom_p (m := m) ts (k + 1) (acc ++ (if k > 0 then ", " else "" : String) ++ t) (app_asc (app_asc ha hs.1) h1) fun x hx => h x (List.mem_cons_of_mem _ hx)
    refine ⟨i1, Nat.le_trans i2 ?_⟩
    rw [app_len, app_len, List.length_cons, Nat.add_mul]
    have := hs.2
    omega
theorem shownAll_map : ∀ ps : List PyData, PyData.shownAll ps = ps.map PyData.shown
  | [] => rfl
  | p :: ps => by
    show PyData.shown p :: PyData.shownAll ps = _
    rw [shownAll_map ps]
    rfl
theorem all_show : ∀ {ps : List PyData}, (∀ p ∈ ps, p.showable = true) → PyData.showableAll ps = true
  | [], _ => rfl
  | p :: ps, h => by
    show (PyData.showable p && PyData.showableAll ps) = true
    rw [h p List.mem_cons_self, all_show fun q hq => h q (List.mem_cons_of_mem _ hq)]
    rfl
theorem all_depth {m : Nat} : ∀ {ps : List PyData}, (∀ p ∈ ps, p.depth ≤ m) → PyData.depthAll ps ≤ m
  | [], _ => Nat.zero_le _
  | p :: ps, h => by
    show max (PyData.depth p) (PyData.depthAll ps) ≤ m
    have h1 := h p List.mem_cons_self
    have h2 := all_depth (ps := ps) fun q hq => h q (List.mem_cons_of_mem _ hq)
    omega
theorem sh_list {ps : List PyData} {m e : Nat} (h : ∀ p ∈ ps, ShP p m e) : ShP (.list ps) (2 + ps.length * (m + 2)) (e + 1) := by
  obtain ⟨i1, i2⟩ := textFrom_p (m := m) (PyData.shownAll ps) 0 "[" (show Asc [91] from asc_lit (by decide)) fun t ht => by
    rw [shownAll_map] at ht
    obtain ⟨p, hp, rfl⟩ := List.mem_map.mp ht
    exact ⟨(h p hp).a, (h p hp).n⟩
  have hl : (PyData.shownAll ps).length = ps.length := by rw [shownAll_map, List.length_map]
  refine ⟨app_asc i1 (show Asc [93] from asc_lit (by decide)), ?_, all_show fun p hp => (h p hp).s, ?_⟩
  · show (textFrom 0 "[" (PyData.shownAll ps) ++ ("]" : Str)).length ≤ _
    rw [app_len, ← hl]
    have e1 : ("[" : Str).length = 1 := rfl
    have e2 : ("]" : Str).length = 1 := rfl
    omega
  · have := all_depth (m := e) fun p hp => (h p hp).d
    show PyData.depthAll ps + 1 ≤ e + 1
    omega
theorem join_p {m : Nat} : ∀ (ts : List Str), (∀ t ∈ ts, Asc t.cps.toList ∧ t.length ≤ m) → Asc (Str.join ", " ts).cps.toList ∧ (Str.join ", " ts).length ≤ ts.length * (m + 2)
  | [], _ => ⟨show Asc [] from asc_lit (by decide), Nat.zero_le _⟩
  | [t], h => by
    obtain ⟨h1, h2⟩ := h t List.mem_cons_self
    refine ⟨h1, ?_⟩
    show t.length ≤ _
    simp
    omega
  | t :: u :: r, h => by
    obtain ⟨h1, h2⟩ := h t List.mem_cons_self
    obtain ⟨i1, i2⟩ := join_p (m := m) (u :: r) fun x hx => h x (List.mem_cons_of_mem _ hx)
    refine ⟨app_asc (app_asc h1 (show Asc [44, 32] from asc_lit (by decide))) i1, ?_⟩
    show (t ++ (", " : Str) ++ Str.join ", " (u :: r)).length ≤ _
    rw [app_len, app_len]
    have e : (", " : Str).length = 2 := rfl
    simp only [List.length_cons, Nat.add_mul, Nat.one_mul] at i2 ⊢
    omega
theorem sh_tuple {ps : List PyData} {m e : Nat} (h : ∀ p ∈ ps, ShP p m e) : ShP (.tuple ps) (3 + ps.length * (m + 2)) (e + 1) := by
  obtain ⟨i1, i2⟩ := join_p (m := m) (PyData.shownAll ps) fun t ht => by
    rw [shownAll_map] at ht
    obtain ⟨p, hp, rfl⟩ := List.mem_map.mp ht
    exact ⟨(h p hp).a, (h p hp).n⟩
  have hl : (PyData.shownAll ps).length = ps.length := by rw [shownAll_map, List.length_map]
  have he : Asc (Str.ofString (if (PyData.shownAll ps).length == 1 then ",)" else ")")).cps.toList ∧ (Str.ofString (if (PyData.shownAll ps).length == 1 then ",)" else ")")).length ≤ 2 := by
    cases (PyData.shownAll ps).length == 1
    · exact ⟨show Asc [41] from asc_lit (by decide), show 1 ≤ 2 by omega⟩
    · exact ⟨show Asc [44, 41] from asc_lit (by decide), show 2 ≤ 2 by omega⟩
  refine ⟨app_asc (app_asc (show Asc [40] from asc_lit (by decide)) i1) he.1, ?_, all_show fun p hp => (h p hp).s, ?_⟩
  · show (("(" : Str) ++ Str.join ", " (PyData.shownAll ps) ++ (if (PyData.shownAll ps).length == 1 then ",)" else ")" : String)).length ≤ _
    rw [app_len, app_len]
    rw [hl] at i2
    have e1 : ("(" : Str).length = 1 := rfl
    have := he.2
    omega
  · have := all_depth (m := e) fun p hp => (h p hp).d
    show PyData.depthAll ps + 1 ≤ e + 1
    omega
theorem rep_asc : ∀ c : Fin 128, ((Builtin.Str.reprChar 39 c).all (· < 128)) = true ∧ ((Builtin.Str.reprChar 34 c).all (· < 128)) = true := by decide +kernel
theorem fold_rep (q : Nat) : ∀ (l : List Nat) (acc : Array Nat), (l.foldl (fun out c => out ++ (Builtin.Str.reprChar q c).toArray) acc).toList = acc.toList ++ l.flatMap (Builtin.Str.reprChar q)
  | [], acc => by simp
  | c :: l, acc => by
    rw [List.foldl_cons, fold_rep q l]
    simp
theorem repr_asc {s : Str} (h : Asc s.cps.toList) : Asc (reprText s).cps.toList ∧ (reprText s).length ≤ 10 * s.length + 2 ∧ (reprText s).cps.toList.head? ≠ some 91 := by
  have hq : reprQuote s = 34 ∨ reprQuote s = 39 := by unfold reprQuote; split <;> simp
  have e : (reprText s).cps.toList = [reprQuote s] ++ s.cps.toList.flatMap (Builtin.Str.reprChar (reprQuote s)) ++ [reprQuote s] := by
    unfold reprText
    show (Array.push (s.cps.foldl (fun out c => out ++ (Builtin.Str.reprChar (reprQuote s) c).toArray) #[reprQuote s]) (reprQuote s)).toList = _
    rw [Array.toList_push, ← Array.foldl_toList, fold_rep]
  refine ⟨?_, StrLaws.reprText_len s (fun c hc => Nat.lt_trans (h c hc) (by decide)), ?_⟩
  · rw [e]
    intro c hc
    simp only [List.mem_append, List.mem_singleton, List.mem_flatMap] at hc
    rcases hc with (hc | ⟨a, ha, hc⟩) | hc
    · rcases hq with q | q <;> omega
    · have h2 := rep_asc ⟨a, h a ha⟩
      simp only [List.all_eq_true, decide_eq_true_eq] at h2
      rcases hq with q | q <;> rw [q] at hc
      · exact h2.2 c hc
      · exact h2.1 c hc
    · rcases hq with q | q <;> omega
  · rw [e]
    show some (reprQuote s) ≠ some 91
    rcases hq with q | q <;> rw [q] <;> decide
theorem shP_str {s : Str} (h : Asc s.cps.toList) : ShP (.str s) (10 * s.length + 2) 0 := ⟨(repr_asc h).1, (repr_asc h).2.1, rfl, Nat.le_refl _⟩
/-- a value that is shown plainly -/
def Shv (v : Dv) (k e : Nat) : Prop := ∃ p, pd v = some p ∧ ShP p k e
theorem Shv.le {v : Dv} {k m e f : Nat} (h : Shv v k e) (l : k ≤ m) (g : e ≤ f) : Shv v m f := by
  obtain ⟨p, h1, h2⟩ := h
  exact ⟨p, h1, h2.le l g⟩
theorem shvs {k e : Nat} : ∀ {l : List Dv}, (∀ x ∈ l, Shv x k e) → ∃ ps, pds l = some ps ∧ ps.length = l.length ∧ ∀ p ∈ ps, ShP p k e
  | [], _ => ⟨[], rfl, rfl, by simp⟩
  | x :: l, h => by
    obtain ⟨p, h1, h2⟩ := h x List.mem_cons_self
    obtain ⟨ps, h3, h4, h5⟩ := shvs fun y hy => h y (List.mem_cons_of_mem _ hy)
    refine ⟨p :: ps, ?_, by rw [List.length_cons, List.length_cons, h4], fun q hq => ?_⟩
    · unfold pds
      rw [h1, h3]
    · rcases List.mem_cons.mp hq with rfl | hq
      · exact h2
      · exact h5 q hq
theorem shv_lst {k e : Nat} {l : List Dv} (h : ∀ x ∈ l, Shv x k e) : Shv (.lst l) (2 + l.length * (k + 2)) (e + 1) := by
  obtain ⟨ps, h1, h2, h3⟩ := shvs h
  refine ⟨.list ps, ?_, h2 ▸ sh_list h3⟩
  unfold pd
  rw [h1]
theorem shv_tup {k e : Nat} {l : List Dv} (h : ∀ x ∈ l, Shv x k e) : Shv (.tup l) (3 + l.length * (k + 2)) (e + 1) := by
  obtain ⟨ps, h1, h2, h3⟩ := shvs h
  refine ⟨.tuple ps, ?_, h2 ▸ sh_tuple h3⟩
  unfold pd
  rw [h1]
theorem shv_str {s : Str} (h : Asc s.cps.toList) : Shv (.str s) (10 * s.length + 2) 0 := ⟨_, rfl, shP_str h⟩
def shvB (v : Dv) : Bool := match pd v with
  | some p => (p.shown.cps.toList.all fun c => decide (c < 128)) && (decide (p.shown.length ≤ 1000) && (p.showable && decide (p.depth ≤ 3)))
  | none => false
theorem shv_of {v : Dv} (h : shvB v = true) : Shv v 1000 3 := by
  unfold shvB at h
  cases q : pd v with
  | none => rw [q] at h; cases h
  | some p =>
    rw [q] at h
    have h : ((p.shown.cps.toList.all fun c => decide (c < 128)) && (decide (p.shown.length ≤ 1000) && (p.showable && decide (p.depth ≤ 3)))) = true := h
    rw [Bool.and_eq_true, Bool.and_eq_true, Bool.and_eq_true, decide_eq_true_eq, decide_eq_true_eq] at h
    exact ⟨p, q, asc_lit h.1, h.2.1, h.2.2.1, h.2.2.2⟩
theorem shown_v {v : Dv} {k e : Nat} (h : Shv v k e) (hk : k ≤ 10000000) (he : e ≤ 40) : ∃ s : Str, showD v = some (Dv.str s) ∧ PyData.strOk s = true := by
  obtain ⟨p, h1, h2⟩ := h
  refine ⟨p.shown, ?_, asc_ok h2.a⟩
  unfold showD
  rw [h1]
  show (if okShow p then some (Dv.str p.shown) else none) = _
  unfold okShow
  have hz : sizeLine = 16777216 := sizeLine_eq
  have n := h2.n
  have d := h2.d
  rw [h2.s, decide_eq_true (show p.shown.length ≤ sizeLine by omega), decide_eq_true (show p.depth ≤ 40 by omega)]
  rfl
theorem keys_some : ∀ {ks : List Dv}, (∀ k ∈ ks, ∃ n : Nat, k = .int n ∧ n < 100) → ∃ ns : List Nat, ks = ns.map (fun n : Nat => Dv.int n) ∧ ∀ n ∈ ns, n < 100
  | [], _ => ⟨[], rfl, by simp⟩
  | k :: ks, h => by
    obtain ⟨n, rfl, hn⟩ := h k List.mem_cons_self
    obtain ⟨ns, rfl, hns⟩ := keys_some fun x hx => h x (List.mem_cons_of_mem _ hx)
    exact ⟨n :: ns, rfl, fun x hx => (List.mem_cons.mp hx).elim (fun e => e ▸ hn) (hns x)⟩
theorem int_p : ∀ k : Fin 100, shvB (.int (k : Nat)) = true := by decide +kernel
theorem shv_nat {n : Nat} (h : n < 100) : Shv (.int n) 1000 3 := shv_of (int_p ⟨n, h⟩)
theorem kv_p {m : Nat} : ∀ {kvs : List (PyData × PyData)}, (∀ p ∈ kvs, ShP p.1 m e ∧ ShP p.2 m e) → (∀ t ∈ PyData.shownKv kvs, Asc t.cps.toList ∧ t.length ≤ m + m + 2) ∧ PyData.showableKv kvs = true ∧ PyData.depthKv kvs ≤ e
  | [], _ => ⟨by simp [PyData.shownKv], rfl, Nat.zero_le _⟩
  | (a, b) :: r, h => by
    obtain ⟨h1, h2⟩ := h (a, b) List.mem_cons_self
    obtain ⟨i1, i2, i3⟩ := kv_p (m := m) (e := e) (kvs := r) fun p hp => h p (List.mem_cons_of_mem _ hp)
    refine ⟨fun t ht => ?_, ?_, ?_⟩
    · rcases List.mem_cons.mp (show t ∈ (PyData.shown a ++ (": " : Str) ++ PyData.shown b) :: PyData.shownKv r from ht) with rfl | ht
      · refine ⟨app_asc (app_asc h1.a (show Asc [58, 32] from asc_lit (by decide))) h2.a, ?_⟩
        rw [app_len, app_len]
        have e2 : (": " : Str).length = 2 := rfl
        have := h1.n
        have := h2.n
        simp only at *
        omega
      · exact i1 t ht
    · show (PyData.showable a && PyData.showable b && PyData.showableKv r) = true
      rw [h1.s, h2.s, i2]
      rfl
    · have := h1.d
      have := h2.d
      simp only [PyData.depthKv]
      simp only at *
      omega
theorem kv_len : ∀ kvs : List (PyData × PyData), (PyData.shownKv kvs).length = kvs.length
  | [] => rfl
  | (a, b) :: r => by
    show (PyData.shownKv r).length + 1 = _
    rw [kv_len r]
    rfl
theorem sh_dict {kvs : List (PyData × PyData)} {m e : Nat} (h : ∀ p ∈ kvs, ShP p.1 m e ∧ ShP p.2 m e) : ShP (.dict kvs) (2 + kvs.length * (m + m + 4)) (e + 1) := by
  obtain ⟨h1, h2, h3⟩ := kv_p h
  obtain ⟨i1, i2⟩ := join_p (m := m + m + 2) (PyData.shownKv kvs) h1
  refine ⟨app_asc (app_asc (show Asc [123] from asc_lit (by decide)) i1) (show Asc [125] from asc_lit (by decide)), ?_, h2, ?_⟩
  · show (("{" : Str) ++ Str.join ", " (PyData.shownKv kvs) ++ ("}" : Str)).length ≤ _
    rw [app_len, app_len]
    rw [kv_len] at i2
    rw [show m + m + 2 + 2 = m + m + 4 from rfl] at i2
    have e1 : ("{" : Str).length = 1 := rfl
    have e2 : ("}" : Str).length = 1 := rfl
    omega
  · show PyData.depthKv kvs + 1 ≤ e + 1
    omega
theorem shv_dic {ks vs : List Dv} {k e : Nat} (hk : ∀ x ∈ ks, ∃ n : Nat, x = .int n ∧ n < 100) (hv : ∀ x ∈ vs, Shv x k e) (h1 : 1000 ≤ k) (h2 : 3 ≤ e) : Shv (.dic false ks vs) (2 + ks.length * (k + k + 4)) (e + 1) := by
  obtain ⟨ns, rfl, hns⟩ := keys_some hk
  obtain ⟨ps, e1, e2, e3⟩ := shvs hv
  have m1 : (ns.map fun n : Nat => Dv.int n).mapM key? = some (ns.map fun n : Nat => (Sum.inl (n : Int) : Key)) := mapM_some (by rw [List.map_map, List.map_map]; rfl)
  refine ⟨.dict (((ns.map fun n : Nat => (Sum.inl (n : Int) : Key)).map kpd).zip ps), ?_, ?_⟩
  · unfold pd
    rw [m1, e1]
  · refine (sh_dict (m := k) (e := e) fun p hp => ?_).le ?_ (Nat.le_refl _)
    · have hp1 := (List.of_mem_zip hp).1
      have hp2 := (List.of_mem_zip hp).2
      refine ⟨?_, e3 _ hp2⟩
      rw [List.map_map] at hp1
      obtain ⟨n, hn, en⟩ := List.mem_map.mp hp1
      obtain ⟨p', q1, q2⟩ := shv_nat (hns n hn)
      have : p.1 = p' := by
        have q1 : some (PyData.int (n : Int)) = some p' := q1
        cases q1
        exact en.symm
      rw [this]
      exact q2.le h1 h2
    · have : (((ns.map fun n : Nat => (Sum.inl (n : Int) : Key)).map kpd).zip ps).length ≤ ns.length := by
        rw [List.length_zip, List.length_map, List.length_map]
        omega
      rw [List.length_map]
      have := Nat.mul_le_mul_right (k + k + 4) this
      omega
end Q02
namespace Q02
open DN PySem L2
abbrev NS : List String := ["InvalidNumber", "InvalidWord", "InvalidWords", "InvalidPlace", "UnlikeLengths", "InvalidHouse", "InvalidHouses", "InvalidTie", "InvalidTies", "InvalidWeb", "InvalidOrder", "InvalidText", "InvalidAddresses", "InvalidParents", "InvalidTree", "InvalidPairs", "InvalidRow", "InvalidSide", "InvalidName", "InvalidDeed", "InvalidDeeds", "InvalidLine", "UnknownName", "NameTaken", "NotJoined", "NotKept", "TooLarge", "NothingToUndo"]
def EN (k : Nat) : String := NS.getD k "OpenpostsError"
section
variable {S S1 S2 : Sto} {env env' : DN.Env} {fa fb fe fo : FE} {fl : FA} {l : List Dv} {v a b : Vr} {c d : Dv} {m n q i j k : Nat} {nm : String}
theorem app_at (h0 : fo env S = .ok S (.val (.r q))) (h1 : fa env S = .ok S (.val (.d c))) (hS : S[q]? = some (.lst l)) (hl : l.length ≤ 1000) : fMut gAppend fo (fCons fa fNil) env S = .ok (S.set q (.lst (l ++ [c]))) (.val (.d .non)) := by
  have sn : snap S (.r q) = some (.lst l) := by show snapC S[q]? = _; rw [hS]; rfl
  have g : gAppend l [c] = some (l ++ [c], .non) := by
    show (if l.length < 100000 then some (l ++ [c], Dv.non) else none) = _
    rw [if_pos (by omega)]
  unfold fMut
  rw [h0]
  show onT "list" S (.r q) _ = _
  unfold onT
  rw [sn]
  simp only [show isT "list" (.lst l) = true from rfl, if_true]
  rw [show fCons fa fNil env S = .ok S [.d c] from cons_d h1 nil_ok]
  show gMu S (.r q) [.d c] gAppend = _
  show (match S[q]? with | some (Cell.lst l0) => (match gAppend l0 [c] with | some (l1, res) => R.ok (S.set q (Cell.lst l1)) (Rt.val (Vr.d res)) | none => R.no) | _ => R.no) = _
  rw [hS]
  show (match gAppend l [c] with | some (l1, res) => R.ok (S.set q (Cell.lst l1)) (Rt.val (Vr.d res)) | none => R.no) = _
  rw [g]
theorem exit_new {S : Sto} {l : List Dv} : exitR S.length (.ok (S ++ [.lst l]) (.val (.r S.length))) = .ok S (.new (.lst l)) := by
  show (if S.length < S.length then R.ok ((S ++ [Cell.lst l]).take S.length) (Rt.val (Vr.r S.length)) else (match (S ++ [Cell.lst l])[S.length]? with | some (.lst l0) => R.ok ((S ++ [Cell.lst l]).take S.length) (Rt.new (.lst l0)) | some (.ob c l0) => R.ok ((S ++ [Cell.lst l]).take S.length) (Rt.new (.ob c l0)) | some (.dc t ks vs) => R.ok ((S ++ [Cell.lst l]).take S.length) (Rt.new (.dc t ks vs)) | _ => R.no)) = _
  rw [if_neg (Nat.lt_irrefl _), get_last]
  show R.ok ((S ++ [Cell.lst l]).take S.length) _ = _
  rw [List.take_left' rfl]
theorem excV_ok (h : fe env S = .ok S (.val v)) : fExcV nm fe env S = .ok (S ++ [.tab (.xv nm v)]) (.val (.r S.length)) := by
  unfold fExcV
  rw [h]
  rfl
theorem eqC {x y : Int} {t : Bool} (h : decide (x = y) = t) (h0 : env[0]? = some (.v (.d (.int x)))) : kVal (fOp gEq (fVar 0) (fC (.int y))) env S = .ok S t := by
  subst h
  exact val_s (op_ok (var_ok h0) c_ok (by rw [gEq_int]; rfl))
/-- the row of ifs -/
def ifF : Nat → List String → FS
  | _, [] => kRet (fExcV "OpenpostsError" (fVar 1))
  | k, x :: r => kSeq (kIf (kVal (fOp gEq (fVar 0) (fC (.int k)))) (kRet (fExcV x (fVar 1))) kNext) (ifF (k + 1) r)
theorem ifF_ok : ∀ (L : List String) (k j : Nat), ifF k L [.v (.d (.int (k + j : Nat))), .v v] S = .rt (S ++ [.tab (.xv (L.getD j "OpenpostsError") v)]) (.val (.r S.length))
  | [], k, j => ret_ok (excV_ok (var_v rfl))
  | x :: r, k, 0 => seq_rt (if_yes (eqC (x := ((k + 0 : Nat) : Int)) (y := (k : Int)) (by simp) rfl) (ret_ok (excV_ok (var_v rfl))))
  | x :: r, k, j + 1 => by
    refine seq_nx (if_no (eqC (x := ((k + (j + 1) : Nat) : Int)) (y := (k : Int)) (by simp; omega) rfl) rfl) ?_
    rw [show k + (j + 1) = k + 1 + j by omega]
    exact ifF_ok r (k + 1) j
theorem defL_v {B : FS} {args : List Vr} (h : B (startE n args) S = .rt S1 (.val v)) : defL n B args S = .ok S1 (.val v) := by
  unfold defL
  rw [h]
  rfl
theorem b_first : B_law_first = ifF 0 (NS.take 10) := rfl
theorem b_second : B_law_second = ifF 0 ((NS.drop 10).take 10) := rfl
theorem b_third : B_law_third = ifF 0 (NS.drop 20) := rfl
theorem first_ok : D_law_first [.d (.int (k : Nat)), v] S = .ok (S ++ [.tab (.xv ((NS.take 10).getD k "OpenpostsError") v)]) (.val (.r S.length)) := by
  have := ifF_ok (v := v) (S := S) (NS.take 10) 0 k
  rw [Nat.zero_add] at this
  exact defL_v (b_first ▸ this)
theorem second_ok : D_law_second [.d (.int (k : Nat)), v] S = .ok (S ++ [.tab (.xv (((NS.drop 10).take 10).getD k "OpenpostsError") v)]) (.val (.r S.length)) := by
  have := ifF_ok (v := v) (S := S) ((NS.drop 10).take 10) 0 k
  rw [Nat.zero_add] at this
  exact defL_v (b_second ▸ this)
theorem third_ok : D_law_third [.d (.int (k : Nat)), v] S = .ok (S ++ [.tab (.xv ((NS.drop 20).getD k "OpenpostsError") v)]) (.val (.r S.length)) := by
  have := ifF_ok (v := v) (S := S) (NS.drop 20) 0 k
  rw [Nat.zero_add] at this
  exact defL_v (b_third ▸ this)
theorem ltC {x y : Int} {t : Bool} (h : decide (x < y) = t) (h0 : env[0]? = some (.v (.d (.int x)))) : kVal (fOp gLt (fVar 0) (fC (.int y))) env S = .ok S t := by
  subst h
  exact val_s (op_ok (var_ok h0) c_ok (by rw [gLt_]; rfl))
theorem subC {x y : Int} (h0 : env[0]? = some (.v (.d (.int x)))) : fOp gSub (fVar 0) (fC (.int y)) env S = .ok S (.val (.d (.int (x - y)))) :=
  op_ok (var_ok h0) c_ok (by rw [gSub_]; rfl)
theorem nsA : ∀ k : Fin 10, (NS.take 10).getD k "OpenpostsError" = EN k := by decide
theorem nsB : ∀ k : Fin 10, ((NS.drop 10).take 10).getD k "OpenpostsError" = EN (k + 10) := by decide
theorem nsC : ∀ k : Fin 9, (NS.drop 20).getD k "OpenpostsError" = EN (k + 20) := by decide
theorem made_ok (hk : k < 29) : D_law_made [.d (.int (k : Nat)), v] S = .ok (S ++ [.tab (.xv (EN k) v)]) (.val (.r S.length)) := by
  refine defL_v (n := 2) (B := B_law_made) ?_
  show B_law_made [.v (.d (.int (k : Nat))), .v v] S = _
  by_cases h : k < 10
  · have e := first_ok (k := k) (v := v) (S := S)
    rw [nsA ⟨k, h⟩] at e
    exact seq_rt (if_yes (ltC (x := (k : Int)) (y := 10) (by simp; omega) rfl) (ret_ok (callD (l := [.d (.int (k : Nat)), v]) (cons_v (var_v rfl) (cons_v (var_v rfl) nil_ok)) rfl e)))
  · refine seq_nx (if_no (ltC (x := (k : Int)) (y := 10) (by simp; omega) rfl) rfl) (ret_ok ?_)
    by_cases h2 : k < 20
    · have e := second_ok (k := k - 10) (v := v) (S := S)
      rw [nsB ⟨k - 10, by omega⟩, show (⟨k - 10, by omega⟩ : Fin 10).val + 10 = k by simp; omega] at e
      refine ifS (ltC (x := (k : Int)) (y := 20) (t := true) (by simp; omega) rfl) ?_
      exact callD (l := [.d (.int ((k : Int) - 10)), v]) (cons_v (subC rfl) (cons_v (var_v rfl) nil_ok)) rfl ((show ((k : Int) - 10) = ((k - 10 : Nat) : Int) by omega) ▸ e)
    · have e := third_ok (k := k - 20) (v := v) (S := S)
      rw [nsC ⟨k - 20, by omega⟩, show (⟨k - 20, by omega⟩ : Fin 9).val + 20 = k by simp; omega] at e
      refine ifS (ltC (x := (k : Int)) (y := 20) (t := false) (by simp; omega) rfl) ?_
      exact callD (l := [.d (.int ((k : Int) - 20)), v]) (cons_v (subC rfl) (cons_v (var_v rfl) nil_ok)) rfl ((show ((k : Int) - 20) = ((k - 20 : Nat) : Int) by omega) ▸ e)
theorem isV_ok {S : Sto} {d : String} (h0 : env[i]? = some (.v (.r n))) (hS : S[n]? = some (.tab (.xv nm v))) (hc : errs.contains nm = true) (hd : errs.contains d = true) : fCallV (gIsV [] errs exIs) (fCons (fVar i) (fCons (fC (.cls d)) fNil)) env S = .ok S (.val (.d (.bl (exIs nm d)))) := by
  unfold fCallV
  rw [show fCons (fVar i) (fCons (fC (.cls d)) fNil) env S = .ok S [.r n, .d (.cls d)] from cons_v (var_v h0) (cons_v c_ok nil_ok)]
  show (match gIsV [] errs exIs S [.r n, .d (.cls d)] with | some d => R.ok S (Rt.val (Vr.d d)) | none => R.no) = _
  unfold gIsV
  simp only [hS, hc, hd, Bool.and_self, if_true]
abbrev APP (d : String) : FS := kExpr (fMut gAppend (fVar 1) (fCons (fCallV (gIsV [] errs exIs) (fCons (fVar 0) (fCons (fC (.cls d)) fNil))) fNil))
def isF : List String → FS
  | [] => kRet (fVar 1)
  | d :: r => kSeq (APP d) (isF r)
theorem isF_ok (hS : S[n]? = some (.tab (.xv nm v))) (hc : errs.contains nm = true) : ∀ (L : List String) (l : List Dv), (∀ d ∈ L, errs.contains d = true) → l.length + L.length ≤ 1000 →
    isF L [.v (.r n), .v (.r S.length)] (S ++ [.lst l]) = .rt (S ++ [.lst (l ++ L.map fun d => .bl (exIs nm d))]) (.val (.r S.length))
  | [], l, _, _ => by
    rw [List.map_nil, List.append_nil]
    exact ret_ok (var_v rfl)
  | d :: r, l, hd, hl => by
    have hn : n < S.length := (List.getElem?_eq_some_iff.mp hS).1
    have hS' : (S ++ [Cell.lst l])[n]? = some (.tab (.xv nm v)) := (List.getElem?_append_left hn).trans hS
    simp only [List.length_cons] at hl
    have e := app_at (fo := fVar 1) (q := S.length) (env := [.v (.r n), .v (.r S.length)]) (S := S ++ [.lst l]) (l := l) (var_v rfl) (isV_ok (i := 0) (d := d) rfl hS' hc (hd d List.mem_cons_self)) get_last (by omega)
    rw [set_last] at e
    have ih := isF_ok hS hc r (l ++ [.bl (exIs nm d)]) (fun x hx => hd x (List.mem_cons_of_mem _ hx)) (by simp; omega)
    rw [List.append_assoc] at ih
    exact seq_nx (exp_ok e) ih
theorem ns_errs : ∀ d ∈ NS, errs.contains d = true := by decide
theorem is_ok (hS : S[n]? = some (.tab (.xv nm v))) (hc : errs.contains nm = true) : D_law_is [.r n] S = .ok S (.new (.lst (NS.map fun d => .bl (exIs nm d)))) := by
  unfold D_law_is defD
  have e0 : kSetC 1 (fLst fNil) [.v (.r n), .u] S = .nx [.v (.r n), .v (.r S.length)] (S ++ [.lst []]) := setC_new (S1 := S) rfl rfl
  rw [show B_law_is (startE 2 [.r n]) S = _ from seq_nx e0 (isF_ok hS hc NS [] ns_errs (by decide))]
  exact exit_new
theorem isX_ok {S : Sto} {d : String} {r : Vr} (h0 : env[i]? = some (.x nm r)) (hc : errs.contains nm = true) (hd : errs.contains d = true) : fIsX errs exIs i d env S = .ok S (.val (.d (.bl (exIs nm d)))) := by
  unfold fIsX
  rw [h0]
  show (if errs.contains nm && errs.contains d then _ else _) = _
  rw [hc, hd]
  rfl
abbrev APX (d : String) : FS := kExpr (fMut gAppend (fVar 1) (fCons (fIsX errs exIs 0 d) fNil))
def isXF : List String → FS
  | [] => kRet (fVar 1)
  | d :: r => kSeq (APX d) (isXF r)
theorem isXF_ok {r0 : Vr} (hc : errs.contains nm = true) : ∀ (L : List String) (l : List Dv), (∀ d ∈ L, errs.contains d = true) → l.length + L.length ≤ 1000 →
    isXF L [.x nm r0, .v (.r S.length)] (S ++ [.lst l]) = .rt (S ++ [.lst (l ++ L.map fun d => .bl (exIs nm d))]) (.val (.r S.length))
  | [], l, _, _ => by
    rw [List.map_nil, List.append_nil]
    exact ret_ok (var_v rfl)
  | d :: r, l, hd, hl => by
    simp only [List.length_cons] at hl
    have e := app_at (fo := fVar 1) (q := S.length) (env := [.x nm r0, .v (.r S.length)]) (S := S ++ [.lst l]) (l := l) (var_v rfl) (isX_ok (i := 0) (d := d) rfl hc (hd d List.mem_cons_self)) get_last (by omega)
    rw [set_last] at e
    have ih := isXF_ok (r0 := r0) hc r (l ++ [.bl (exIs nm d)]) (fun x hx => hd x (List.mem_cons_of_mem _ hx)) (by simp; omega)
    rw [List.append_assoc] at ih
    exact seq_nx (exp_ok e) ih
theorem isX_all {r0 : Vr} (hc : errs.contains nm = true) : D_law_isX nm [r0] S = .ok S (.new (.lst (NS.map fun d => .bl (exIs nm d)))) := by
  unfold D_law_isX defDX
  have e0 : kSetC 1 (fLst fNil) [.x nm r0, .u] S = .nx [.x nm r0, .v (.r S.length)] (S ++ [.lst []]) := setC_new (S1 := S) rfl rfl
  rw [show B_law_isX (startX 2 nm [r0]) S = _ from seq_nx e0 (isXF_ok hc NS [] ns_errs (by decide))]
  exact exit_new
abbrev row (k : Nat) : List Dv := (List.range 28).map fun i : Nat => Dv.bl (decide ((i : Int) = (k : Int)))
theorem row_is : ∀ k : Fin 29, (NS.map fun d => exIs (EN k) d) = ((List.range 28).map fun i : Nat => decide ((i : Int) = ((k : Nat) : Int))) := by decide +kernel
theorem row_eq {k : Nat} (h : k < 29) : (NS.map fun d => Dv.bl (exIs (EN k) d)) = row k := by
  have := congrArg (List.map Dv.bl) (row_is ⟨k, h⟩)
  rw [List.map_map, List.map_map] at this
  exact this
theorem row_okN : ∀ k : Fin 29, okN 60 (.lst (row k)) = true := by decide +kernel
theorem en_errs : ∀ k : Fin 29, errs.contains (EN k) = true := by decide
end
end Q02
namespace Q02
open DN PySem L2
structure Gl (n : Nat) (l : List Dv) : Prop where
  n : l.length ≤ n
  h : ∀ x ∈ l, Shv x 1000 3
structure Gd (n : Nat) (ks vs : List Dv) : Prop where
  nk : ks.length ≤ n
  nv : vs.length ≤ n
  k : ∀ x ∈ ks, ∃ m : Nat, x = .int m ∧ m < 100
  v : ∀ x ∈ vs, Shv x 2000 10
structure Pl (x : Dv) : Prop where
  s : Shv x 1000 3
  l : gIsi [] x (.ty "list") = vB false
  d : gIsi [] x (.ty "dict") = vB false
  t : gIsi [] x (.ty "tuple") = vB false
inductive Val (q n : Nat) (S : Sto) : Vr → Prop
  | dat {x : Dv} (h : Pl x) : Val q n S (.d x)
  | lst {m : Nat} {l : List Dv} (hm : S[m]? = some (.lst l)) (hq : m ≠ q) (g : Gl n l) : Val q n S (.r m)
  | dic {m : Nat} {ks vs : List Dv} (hm : S[m]? = some (.dc false ks vs)) (g : Gd n ks vs) : Val q n S (.r m)
  | vt {m p : Nat} {l : List Dv} (hm : S[m]? = some (.tab (.vt [.r p, .d .non]))) (hp : S[p]? = some (.lst l)) (hq : p ≠ q) (g : Gl n l) : Val q n S (.r m)
theorem Gl.mono {n m : Nat} {l : List Dv} (g : Gl n l) (h : n ≤ m) : Gl m l := ⟨Nat.le_trans g.n h, g.h⟩
theorem Gl.app {n : Nat} {l : List Dv} {x : Dv} (g : Gl n l) (h : Shv x 1000 3) : Gl (n + 1) (l ++ [x]) :=
  ⟨by have := g.n; simp; omega, fun y hy => (List.mem_append.mp hy).elim (g.h y) fun e => by rw [List.mem_singleton.mp e]; exact h⟩
theorem Gd.mono {n m : Nat} {ks vs : List Dv} (g : Gd n ks vs) (h : n ≤ m) : Gd m ks vs := ⟨Nat.le_trans g.nk h, Nat.le_trans g.nv h, g.k, g.v⟩
section
variable {S S1 S2 : Sto} {env env' : DN.Env} {fa fb fe fo : FE} {fl : FA} {l L : List Dv} {ks vs : List Dv} {v u : Vr} {x c d : Dv} {c' cb : Cell} {m n q i j k p e : Nat} {nm : String} {a : Int}
theorem get_other {m m' : Nat} {z : Cell} (hm : S[m]? = some z) (h : m' ≠ m) : (S.set m' c')[m]? = some z := by
  rw [List.getElem?_set_ne h]
  exact hm
theorem get_own {z : Cell} (hm : S[m]? = some z) : (S.set m c')[m]? = some c' := List.getElem?_set_self (List.getElem?_eq_some_iff.mp hm).1
theorem get_app {z : Cell} (hm : S[m]? = some z) : (S ++ [c'])[m]? = some z := (List.getElem?_append_left (List.getElem?_eq_some_iff.mp hm).1).trans hm
/-- the box is drawn from -/
theorem Val.box (h : Val q n S v) {b0 : List Dv} (hb : S[q]? = some (.lst b0)) : Val q n (S.set q c') v := by
  cases h with
  | dat h => exact .dat h
  | lst hm hq g => exact .lst (get_other hm (Ne.symm hq)) hq g
  | dic hm g => exact .dic (get_other hm (fun e => by rw [← e, hb] at hm; cases hm)) g
  | vt hm hp hq g => exact .vt (get_other hm (fun e => by rw [← e, hb] at hm; cases hm)) (get_other hp (Ne.symm hq)) hq g
theorem Val.push (h : Val q n S v) : Val q n (S ++ [c']) v := by
  cases h with
  | dat h => exact .dat h
  | lst hm hq g => exact .lst (get_app hm) hq g
  | dic hm g => exact .dic (get_app hm) g
  | vt hm hp hq g => exact .vt (get_app hm) (get_app hp) hq g
theorem Val.mono (h : Val q n S v) (hn : n ≤ k) : Val q k S v := by
  cases h with
  | dat h => exact .dat h
  | lst hm hq g => exact .lst hm hq (g.mono hn)
  | dic hm g => exact .dic hm (g.mono hn)
  | vt hm hp hq g => exact .vt hm hp hq (g.mono hn)
theorem Val.app (h : Val q n S v) (hm : S[m]? = some (.lst l)) (hmq : m ≠ q) (g : Gl n l) (hx : Shv x 1000 3) : Val q (n + 1) (S.set m (.lst (l ++ [x]))) v := by
  cases h with
  | dat h => exact .dat h
  | @lst m' l' hm' hq g' =>
    by_cases e : m = m'
    · subst e
      exact .lst (get_own hm) hmq (g.app hx)
    · exact .lst (get_other hm' e) hq (g'.mono (Nat.le_succ n))
  | dic hm' g' => exact .dic (get_other hm' (fun e => by rw [← e, hm] at hm'; cases hm')) (g'.mono (Nat.le_succ n))
  | @vt m' p' l' hm' hp' hq' g' =>
    have h1 := get_other (c' := .lst (l ++ [x])) hm' (m' := m) (fun e => by rw [← e, hm] at hm'; cases hm')
    by_cases e : m = p'
    · subst e
      exact .vt h1 (get_own hm) hmq (g.app hx)
    · exact .vt h1 (get_other hp' e) hq' (g'.mono (Nat.le_succ n))
theorem Val.put {ks' vs' : List Dv} (h : Val q n S v) (hm : S[m]? = some (.dc false ks vs)) (g : Gd (n + 1) ks' vs') : Val q (n + 1) (S.set m (.dc false ks' vs')) v := by
  cases h with
  | dat h => exact .dat h
  | lst hm' hq g' => exact .lst (get_other hm' (fun e => by rw [← e, hm] at hm'; cases hm')) hq (g'.mono (Nat.le_succ n))
  | @dic m' ks1 vs1 hm' g' =>
    by_cases e : m = m'
    · subst e
      exact .dic (get_own hm) g
    · exact .dic (get_other hm' e) (g'.mono (Nat.le_succ n))
  | vt hm' hp' hq' g' =>
    exact .vt (get_other hm' (fun e => by rw [← e, hm] at hm'; cases hm')) (get_other hp' (fun e => by rw [← e, hm] at hp'; cases hp')) hq' (g'.mono (Nat.le_succ n))
theorem show_val (h : Val q n S v) (hn : n ≤ 100) : ∃ s : Str, gShowV S [v] = some (Dv.str s) ∧ PyData.strOk s = true := by
  have key : ∀ {d : Dv} {k e : Nat}, snapD S v = some d → Shv d k e → k ≤ 10000000 → e ≤ 40 → ∃ s : Str, gShowV S [v] = some (Dv.str s) ∧ PyData.strOk s = true := fun {d k e} h1 h2 hk he => by
    obtain ⟨s, e1, e2⟩ := shown_v h2 hk he
    refine ⟨s, ?_, e2⟩
    unfold gShowV
    simp only [h1]
    exact e1
  cases h with
  | dat h => exact key (d := _) rfl h.s (by omega) (by omega)
  | @lst m l hm hq g =>
    refine key (d := .lst l) ?_ (shv_lst g.h) ?_ (by omega)
    · unfold snapD
      simp only [hm]
      show snapC S[m]? = _
      rw [hm]
      rfl
    · have := g.n
      omega
  | @dic m ks vs hm g =>
    refine key (d := .dic false ks vs) ?_ (shv_dic g.k g.v (by omega) (by omega)) ?_ (by omega)
    · unfold snapD
      simp only [hm]
      show snapC S[m]? = _
      rw [hm]
      rfl
    · have := g.nk
      omega
  | @vt m p l hm hp hq g =>
    have hl := shv_lst g.h
    have hln := g.n
    refine key (d := .tup [.lst l, .non]) ?_ (shv_tup (k := 1000 + l.length * 1002) (e := 4) (l := [.lst l, .non]) fun x hx => ?_) ?_ (by omega)
    · unfold snapD
      simp only [hm]
      have : snaps S [.r p, .d .non] = some [.lst l, .non] := by
        have e1 : snap S (.r p) = some (.lst l) := by show snapC S[p]? = _; rw [hp]; rfl
        unfold snaps
        rw [e1]
        rfl
      rw [this]
    · rcases List.mem_cons.mp hx with rfl | hx
      · exact hl.le (by omega) (Nat.le_refl _)
      · rw [List.mem_singleton.mp hx]
        refine ⟨.none, rfl, ?_, ?_, rfl, Nat.zero_le _⟩
        · exact asc_lit (by decide +kernel)
        · exact Nat.le_trans (show PyData.none.shown.length ≤ 1000 by decide +kernel) (by omega)
    · show 3 + 2 * _ ≤ _
      omega
end
end Q02
namespace Q02
open DN PySem L2
section
variable {S S1 S2 S3 : Sto} {env env' : DN.Env} {fa fb fe fo : FE} {fl : FA} {l L : List Dv} {ks vs : List Dv} {v u : Vr} {x c d : Dv} {c' cb : Cell} {m n q i j k p e : Nat} {nm t : String} {a : Int}
theorem isD (h0 : env[i]? = some (.v v)) (hg : gIsV [] errs exIs S [v, .d (.ty t)] = some (.bl b)) : kVal (fCallV (gIsV [] errs exIs) (fCons (fVar i) (fCons (fC (.ty t)) fNil))) env S = .ok S b := by
  refine val_s ?_
  unfold fCallV
  rw [show fCons (fVar i) (fCons (fC (.ty t)) fNil) env S = .ok S [v, .d (.ty t)] from cons_v (var_v h0) (cons_v c_ok nil_ok)]
  show (match gIsV [] errs exIs S [v, .d (.ty t)] with | some d => R.ok S (Rt.val (Vr.d d)) | none => R.no) = _
  rw [hg]
theorem isv_d {b : Bool} (h : gIsi [] x (.ty t) = vB b) : gIsV [] errs exIs S [.d x, .d (.ty t)] = some (.bl b) := by
  show (match gIsi [] x (.ty t) with | some (.val (.d (.bl b))) => some (Dv.bl b) | _ => none) = _
  rw [h]
  rfl
theorem isv_sn {b : Bool} (hs : ∀ z, S[m]? ≠ some (.tab z)) (hd : snap S (.r m) = some d) (h : gIsi [] d (.ty t) = vB b) : gIsV [] errs exIs S [.r m, .d (.ty t)] = some (.bl b) := by
  unfold gIsV
  simp only
  split
  · rename_i h1 _; exact absurd h1 (hs _)
  · rename_i h1 _; exact absurd h1 (hs _)
  · rename_i h1 _; exact absurd h1 (hs _)
  · rw [hd]
    show (match gIsi [] d (.ty t) with | some (.val (.d (.bl b))) => some (Dv.bl b) | _ => none) = _
    rw [h]
    rfl
theorem isv_vt {l : List Vr} (hm : S[m]? = some (.tab (.vt l))) (ht : TYS.contains t = true) : gIsV [] errs exIs S [.r m, .d (.ty t)] = some (.bl ("tuple" == t || ("tuple" == "bool" && t == "int"))) := by
  unfold gIsV
  simp only [hm, ht, if_true]
abbrev ISV (i : Nat) (t : String) : FT := kVal (fCallV (gIsV [] errs exIs) (fCons (fVar i) (fCons (fC (.ty t)) fNil)))
abbrev IF1 : FS := kIf (ISV 5 "list") (kExpr (fMut gAppend (fVar 5) (fCons (fVar 4) fNil))) kNext
abbrev IF2 : FS := kIf (ISV 5 "dict") (kDPut (fVar 5) (fVar 4) (fLst (fCons (fVar 4) fNil))) kNext
abbrev IF3 : FS := kIf (ISV 5 "tuple") (kExpr (fMut gAppend (fVti (fVar 5) (fC (.int 0))) (fCons (fVar 4) fNil))) kNext
/-- what a change leaves -/
structure Ch (q n : Nat) (S S' : Sto) : Prop where
  v : ∀ u, Val q n S u → Val q (n + 1) S' u
  b : S'[q]? = S[q]?
  t : ∀ (m : Nat) (z : Tb), S[m]? = some (Cell.tab z) → S'[m]? = some (Cell.tab z)
theorem ch_refl : Ch q n S S := ⟨fun u h => h.mono (Nat.le_succ n), rfl, fun m z h => h⟩
theorem ch_app (hm : S[m]? = some (.lst l)) (hmq : m ≠ q) (g : Gl n l) (hx : Shv x 1000 3) : Ch q n S (S.set m (.lst (l ++ [x]))) :=
  ⟨fun u h => h.app hm hmq g hx, List.getElem?_set_ne hmq, fun m' z h => get_other h (fun e => by rw [e, h] at hm; cases hm)⟩
theorem ch_put {ks' vs' : List Dv} (hm : S[m]? = some (.dc false ks vs)) (hb : S[q]? = some (.lst L)) (g : Gd (n + 1) ks' vs') : Ch q n S (S.set m (.dc false ks' vs')) :=
  ⟨fun u h => h.put hm g, List.getElem?_set_ne (fun e => by rw [e, hb] at hm; cases hm), fun m' z h => get_other h (fun e => by rw [e, h] at hm; cases hm)⟩
theorem zip_mem {α β γ : Type} {f : α → β → γ} : ∀ {as : List α} {bs : List β} {c : γ}, c ∈ List.zipWith f as bs → ∃ a b, a ∈ as ∧ b ∈ bs ∧ c = f a b
  | [], _, c, h => by simp at h
  | _ :: _, [], c, h => by simp at h
  | a :: as, b :: bs, c, h => by
    rw [List.zipWith_cons_cons] at h
    rcases List.mem_cons.mp h with rfl | h
    · exact ⟨a, b, List.mem_cons_self, List.mem_cons_self, rfl⟩
    · obtain ⟨a', b', h1, h2, h3⟩ := zip_mem h
      exact ⟨a', b', List.mem_cons_of_mem _ h1, List.mem_cons_of_mem _ h2, h3⟩
theorem put_g (g : Gd n ks vs) (hk : k < 100) : Gd (n + 1) (dPutK false (.int k) ks) (dPutV false (.int k) (.lst [.int k]) ks vs) := by
  have hv : Shv (.lst [.int k]) 2000 10 := (shv_lst (k := 1000) (e := 3) (l := [.int k]) fun x hx => by rw [List.mem_singleton.mp hx]; exact shv_nat hk).le (by show 2 + 1 * 1002 ≤ 2000; omega) (by omega)
  have nk := g.nk
  have nv := g.nv
  unfold dPutK dPutV
  cases hits false (.int k) ks with
  | true =>
    simp only [if_true]
    refine ⟨by omega, ?_, g.k, fun x hx => ?_⟩
    · rw [List.length_zipWith]
      omega
    · obtain ⟨a, b, h1, h2, rfl⟩ := zip_mem hx
      split
      · exact hv
      · exact g.v _ h2
  | false =>
    simp only [Bool.false_eq_true, if_false]
    refine ⟨by simp; omega, by simp; omega, fun x hx => ?_, fun x hx => ?_⟩
    · rcases List.mem_append.mp hx with hx | hx
      · exact g.k x hx
      · exact ⟨k, List.mem_singleton.mp hx, hk⟩
    · rcases List.mem_append.mp hx with hx | hx
      · exact g.v x hx
      · rw [List.mem_singleton.mp hx]; exact hv
theorem put_ok (hv : env[5]? = some (.v (.r m))) (h4 : env[4]? = some (.v (.d (.int (k : Nat))))) (hm : S[m]? = some (.dc false ks vs)) (hl : ks.length ≤ 1000) : kDPut (fVar 5) (fVar 4) (fLst (fCons (fVar 4) fNil)) env S = .nx env (S.set m (.dc false (dPutK false (.int k) ks) (dPutV false (.int k) (.lst [.int k]) ks vs))) := by
  unfold kDPut
  rw [show fLst (fCons (fVar 4) fNil) env S = .ok S (.new (.lst [.int k])) from lst_ok (cons_d (var_ok h4) nil_ok) rfl]
  show sV env (fVar 5 env S) _ = _
  rw [show fVar 5 env S = _ from var_v hv]
  show sV env (fVar 4 env S) _ = _
  rw [show fVar 4 env S = _ from var_ok h4]
  show setDx env S (.r m) (.d (.int k)) (.d (.lst [.int k])) = _
  unfold setDx
  simp only [hm]
  rw [if_pos ⟨rfl, by omega⟩]
theorem chg_ok (h : Val q n S v) (hb : S[q]? = some (.lst L)) (hn : n ≤ 100) (hk : k < 100) (h4 : env[4]? = some (.v (.d (.int (k : Nat))))) (h5 : env[5]? = some (.v v)) :
    ∃ S1 S2 S3, IF1 env S = .nx env S1 ∧ IF2 env S1 = .nx env S2 ∧ IF3 env S2 = .nx env S3 ∧ Ch q n S S3 := by
  have no : ∀ {t : String} {f : FS} {S : Sto}, gIsV [] errs exIs S [v, .d (.ty t)] = some (.bl false) → kIf (ISV 5 t) f kNext env S = .nx env S := fun hg => if_no (isD h5 hg) rfl
  cases h with
  | dat h => exact ⟨S, S, S, no (isv_d h.l), no (isv_d h.d), no (isv_d h.t), ch_refl⟩
  | @lst m l hm hq g =>
    have hl := g.n
    have e1 := app_at (c := .int k) (fa := fVar 4) (var_v h5) (var_ok h4) hm (by omega)
    have hm' : (S.set m (.lst (l ++ [.int k])))[m]? = some (.lst (l ++ [.int k])) := get_own hm
    have sn : ∀ {S : Sto} {l : List Dv}, S[m]? = some (.lst l) → snap S (.r m) = some (.lst l) := fun {S l} h => by show snapC S[m]? = _; rw [h]; rfl
    have nt : ∀ {S : Sto} {l : List Dv}, S[m]? = some (.lst l) → ∀ z, S[m]? ≠ some (.tab z) := fun {S l} h z e => by rw [h] at e; cases e
    exact ⟨_, _, _, if_yes (isD h5 (isv_sn (nt hm) (sn hm) rfl)) (exp_ok e1), no (isv_sn (nt hm') (sn hm') rfl), no (isv_sn (nt hm') (sn hm') rfl), ch_app hm hq g (shv_nat hk)⟩
  | @dic m ks vs hm g =>
    have hl := g.nk
    have e1 := put_ok (k := k) h5 h4 hm (by omega)
    have hm' : (S.set m (.dc false (dPutK false (.int k) ks) (dPutV false (.int k) (.lst [.int k]) ks vs)))[m]? = some (.dc false (dPutK false (.int k) ks) (dPutV false (.int k) (.lst [.int k]) ks vs)) := get_own hm
    have sn : ∀ {S : Sto} {ks vs : List Dv}, S[m]? = some (.dc false ks vs) → snap S (.r m) = some (.dic false ks vs) := fun {S ks vs} h => by show snapC S[m]? = _; rw [h]; rfl
    have nt : ∀ {S : Sto} {ks vs : List Dv}, S[m]? = some (.dc false ks vs) → ∀ z, S[m]? ≠ some (.tab z) := fun {S ks vs} h z e => by rw [h] at e; cases e
    exact ⟨_, _, _, no (isv_sn (nt hm) (sn hm) rfl), if_yes (isD h5 (isv_sn (nt hm) (sn hm) rfl)) e1, no (isv_sn (nt hm') (sn hm') rfl), ch_put hm hb (put_g g hk)⟩
  | @vt m p l hm hp hq g =>
    have hl := g.n
    have e0 : fVti (fVar 5) (fC (.int 0)) env S = .ok S (.val (.r p)) := by
      unfold fVti
      rw [show fVar 5 env S = _ from var_v h5]
      show ixVt S (.r m) (.d (.int 0)) = _
      unfold ixVt
      simp only [hm]
      rfl
    have e1 := app_at (c := .int k) (fa := fVar 4) e0 (var_ok h4) hp (by omega)
    exact ⟨_, _, _, no (isv_vt hm (by decide)), no (isv_vt hm (by decide)), if_yes (isD h5 (isv_vt hm (by decide))) (exp_ok e1), ch_app hp hq g (shv_nat hk)⟩
end
end Q02
namespace Q02
open DN PySem L2
section
variable {S S1 S2 S3 : Sto} {env env' : DN.Env} {fa fb fe fo : FE} {fl : FA} {L : List Vr} {v u : Vr} {x c d : Dv} {c' cb : Cell} {m n q h i j k p e : Nat} {nm t : String} {a : Int} {ns : List Int}
/-- the store: a box at q, the values at h -/
structure Is (q h j n : Nat) (L : List Vr) (S : Sto) : Prop where
  b : ∃ c, S[q]? = some c ∧ Bx j c
  h : S[h]? = some (.tab (.vl L))
  l : L.length = 10
  v : ∀ u ∈ L, Val q n S u
/-- the names -/
structure Ie (ns : List Int) (q h : Nat) (env : DN.Env) : Prop where
  len : env.length = 8
  e0 : env[0]? = some (.v (.d (.scr ns)))
  e2 : env[2]? = some (.v (.r q))
  e3 : env[3]? = some (.v (.r h))
theorem far {i j : Nat} {s : Sl} (h : env[j]? = some s) {z : Sl} (hn : i ≠ j := by decide) : (env.set i z)[j]? = some s := by
  rw [List.getElem?_set_ne hn]
  exact h
theorem Ie.set (H : Ie ns q h env) (i : Nat) {z : Sl} (h0 : i ≠ 0) (h2 : i ≠ 2) (h3 : i ≠ 3) : Ie ns q h (env.set i z) :=
  ⟨by rw [List.length_set]; exact H.len, far H.e0 h0, far H.e2 h2, far H.e3 h3⟩
theorem Ie.at_ (H : Ie ns q h env) {i : Nat} {z : Sl} (hi : i < 8) : (env.set i z)[i]? = some z := List.getElem?_set_self (by rw [H.len]; exact hi)
abbrev TK (a : Int) : FE := fCallD 2 D_law_take (fCons (fVar 2) (fCons (fC (.int a)) fNil))
theorem bx_lst (h : Bx j c') : ∃ l, c' = .lst l := by
  obtain ⟨a, b, c, rfl, _⟩ := h
  exact ⟨_, rfl⟩
theorem tk_ok (H : Is q h j n L S) (hj : j ≤ 1000000) (h2 : env[2]? = some (.v (.r q))) : ∃ (d : Nat) (S' : Sto), d < 10 ∧ TK 10 env S = .ok S' (.val (.d (.int d))) ∧ Is q h (j + 1) n L S' ∧ ∀ m z, m ≠ q → S[m]? = some z → S'[m]? = some z := by
  obtain ⟨c, hc, hB⟩ := H.b
  obtain ⟨l0, rfl⟩ := bx_lst hB
  have hq := (List.getElem?_eq_some_iff.mp hc).1
  obtain ⟨d, c', h1, h3, e⟩ := take_at (i := 2) (env := env) (fe := fC (.int 10)) (a := 10) hq hB (by omega) h2 c_ok (by omega) (by omega)
  rw [set_self hc] at e
  refine ⟨d, _, by omega, e, ⟨⟨c', get_own hc, h3⟩, get_other H.h (fun z => by have hh := H.h; rw [← z, hc] at hh; cases hh), H.l, fun u hu => (H.v u hu).box hc⟩, fun m z hm hz => get_other hz (Ne.symm hm)⟩
theorem pick_ok (H : Is q h j n L S) (hj : j ≤ 1000000) (h2 : env[2]? = some (.v (.r q))) (h3 : env[3]? = some (.v (.r h))) : ∃ (v : Vr) (S' : Sto), fVx 3 (TK 10) env S = .ok S' (.val v) ∧ Val q n S' v ∧ Is q h (j + 1) n L S' := by
  obtain ⟨d, S', hd, e, H', _⟩ := tk_ok H hj h2
  have hl : d < L.length := by rw [H.l]; exact hd
  refine ⟨L[d], S', ?_, H'.v _ (List.getElem_mem _), H'⟩
  unfold fVx
  rw [show fVar 3 env S = _ from var_v h3]
  show R.bindV (TK 10 env S) _ = _
  rw [e]
  show ixV S' (.r h) (.d (.int d)) = _
  unfold ixV
  simp only [H'.h]
  show (match atI L ((d : Nat) : Int) with | some v => R.ok S' (Rt.val v) | none => R.no) = _
  rw [show atI L ((d : Nat) : Int) = some L[d] from DN.atI_nat (List.getElem?_eq_getElem hl)]
theorem showV_ok {s : Str} (h1 : fe env S = .ok S (.val v)) (hg : gShowV S [v] = some (Dv.str s)) : fCallV gShowV (fCons fe fNil) env S = .ok S (.val (.d (.str s))) := by
  unfold fCallV
  rw [show fCons fe fNil env S = .ok S [v] from cons_v h1 nil_ok]
  show (match gShowV S [v] with | some d => R.ok S (Rt.val (Vr.d d)) | none => R.no) = _
  rw [hg]
theorem xval_ok {nm : String} (h6 : env[i]? = some (.v (.r e))) (he : S[e]? = some (.tab (.xv nm v))) (hc : errs.contains nm = true) : fXval errs (fVar i) env S = .ok S (.val v) := by
  unfold fXval
  rw [show fVar i env S = _ from var_v h6]
  show (match S[e]? with | some (.tab (.xv c v)) => if errs.contains c then R.ok S (Rt.val v) else .no | _ => R.no) = _
  rw [he]
  show (if errs.contains nm then R.ok S (Rt.val v) else .no) = _
  rw [hc]
  rfl
theorem isv_xv {nm : String} (he : S[e]? = some (.tab (.xv nm v))) (hc : errs.contains nm = true) : gIsV [] errs exIs S [.r e, .d (.ty "ValueError")] = some (.bl true) := by
  unfold gIsV
  simp only [he, hc]
  rfl
abbrev IF0 : FS := kIf (kOr (kNot (kVal (fCallV (gIsV [] errs exIs) (fCons (fVar 6) (fCons (fC (.cls "OpenpostsError")) fNil))))) (kNot (ISV 6 "ValueError"))) (kRet (fC (.bl false))) kNext
theorem exis_base : ∀ k : Fin 29, exIs (EN k) "OpenpostsError" = true := by decide
theorem if0_ok {nm : String} (h6 : env[6]? = some (.v (.r e))) (he : S[e]? = some (.tab (.xv nm v))) (hc : errs.contains nm = true) (hb : exIs nm "OpenpostsError" = true) : IF0 env S = .nx env S := by
  have a := isV_ok (env := env) (i := 6) (d := "OpenpostsError") h6 he hc (by decide)
  rw [hb] at a
  exact if_no (orNo (notB (b1 := true) (val_s a)) (notB (b1 := true) (isD h6 (isv_xv he hc)))) rfl
abbrev IFR : FS := kIf (kVal (fOp gNe (fCallV gShowV (fCons (fXval errs (fVar 6)) fNil)) (fCallV gShowV (fCons (fVar 5) fNil)))) (kRet (fC (.bl false))) kNext
theorem ifr_ok {nm : String} (h5 : env[5]? = some (.v v)) (h6 : env[6]? = some (.v (.r e))) (he : S[e]? = some (.tab (.xv nm v))) (hc : errs.contains nm = true) (hv : Val q n S v) (hn : n ≤ 100) : IFR env S = .nx env S := by
  obtain ⟨s, e1, e2⟩ := show_val hv hn
  refine if_no (val_s (op_ok (showV_ok (xval_ok h6 he hc) e1) (showV_ok (var_v h5) e1) (c := .bl false) ?_)) rfl
  rw [gNe_strs e2 e2, decide_eq_true rfl]
  rfl
abbrev ROW (i : Nat) (f : FE) : FE := fLc (iRange1 (fCons (fC (.int 28)) fNil)) (tgN i) kYes (fOp gEq (fVar i) f) [i]
theorem row_ok {k : Nat} (hi : i < env.length) (hf : ∀ s, f ((wipeE env [i]).set i s) S = .ok S (.val (.d (.int (k : Nat))))) : ROW i f env S = .ok S (.new (.lst (row k))) := by
  refine fLc_rg (n := 28) (fun m : Nat => Dv.bl (decide ((m : Int) = (k : Int)))) rfl (by omega) fun m hm => ?_
  have hw : wipeE env [i] = env.set i .u := rfl
  have e := op_ok (env := (wipeE env [i]).set i (.v (.d (.int (m : Nat))))) (S := S) (fa := fVar i) (fb := f) (g := gEq) (c := .bl (decide ((m : Int) = (k : Int)))) (var_ok (List.getElem?_set_self (by rw [hw, List.length_set]; exact hi))) (hf _) (by rw [gEq_int]; rfl)
  rw [e]
  exact .val _ _
abbrev IFI : FS := kIf (kVal (fOp gNe (fCallD 1 D_law_is (fCons (fVar 6) fNil)) (ROW 7 (fVar 4)))) (kRet (fC (.bl false))) kNext
theorem ifi_ok (hk : k < 29) (hl : env.length = 8) (h4 : env[4]? = some (.v (.d (.int (k : Nat))))) (h6 : env[6]? = some (.v (.r e))) (he : S[e]? = some (.tab (.xv (EN k) v))) : IFI env S = .nx env S := by
  have e1 : fCallD 1 D_law_is (fCons (fVar 6) fNil) env S = .ok S (.new (.lst (row k))) := by
    rw [← row_eq hk]
    exact callD (l := [.r e]) (cons_v (var_v h6) nil_ok) rfl (is_ok he (en_errs ⟨k, hk⟩))
  have e2 : ROW 7 (fVar 4) env S = .ok S (.new (.lst (row k))) := row_ok (by omega) fun s => var_ok (far (far h4))
  refine if_no (val_s (op_LL e1 e2 (c := .bl false) ?_)) rfl
  exact gNe_refl (row_okN ⟨k, hk⟩)
abbrev TURN : FS := (kSeq (kSetC 5 (fVx 3 (TK 10)))
    (kSeq (kSet 6 (fCallD 2 D_law_made (fCons (fVar 4) (fCons (fVar 5) fNil))))
    (kSeq IF0 (kSeq IF1 (kSeq IF2 (kSeq IF3 (kSeq IFR IFI)))))))
theorem setC_v {v : Vr} (h : fe env S = .ok S1 (.val v)) (he : env.set i (.v v) = env') : kSetC i fe env S = .nx env' S1 := by
  unfold kSetC
  rw [h, ← he]
theorem turn_ok (E : Ie ns q h env) (H : Is q h j n L S) (hj : j ≤ 1000) (hn : n ≤ 90) (hk : k < 29) (h4 : env[4]? = some (.v (.d (.int (k : Nat))))) : ∃ env' S', TURN env S = .nx env' S' ∧ Ie ns q h env' ∧ Is q h (j + 1) (n + 1) L S' := by
  obtain ⟨v, S1, e1, hv, H1⟩ := pick_ok H (by omega) E.e2 E.e3
  have s1 : kSetC 5 (fVx 3 (TK 10)) env S = .nx (env.set 5 (.v v)) S1 := setC_v e1 rfl
  have E1 : Ie ns q h (env.set 5 (.v v)) := E.set 5 (by decide) (by decide) (by decide)
  have a4 : (env.set 5 (.v v))[4]? = some (.v (.d (.int (k : Nat)))) := far h4
  have a5 : (env.set 5 (.v v))[5]? = some (.v v) := E.at_ (by decide)
  generalize env.set 5 (.v v) = env1 at s1 E1 a4 a5
  have s2 : kSet 6 (fCallD 2 D_law_made (fCons (fVar 4) (fCons (fVar 5) fNil))) env1 S1 = .nx (env1.set 6 (.v (.r S1.length))) (S1 ++ [.tab (.xv (EN k) v)]) :=
    st_set (callD (l := [.d (.int (k : Nat)), v]) (cons_v (var_v a4) (cons_v (var_v a5) nil_ok)) rfl (made_ok hk)) rfl
  have E2 : Ie ns q h (env1.set 6 (.v (.r S1.length))) := E1.set 6 (by decide) (by decide) (by decide)
  have b4 : (env1.set 6 (.v (.r S1.length)))[4]? = some (.v (.d (.int (k : Nat)))) := far a4
  have b5 : (env1.set 6 (.v (.r S1.length)))[5]? = some (.v v) := far a5
  have b6 : (env1.set 6 (.v (.r S1.length)))[6]? = some (.v (.r S1.length)) := E1.at_ (by decide)
  have xe : (S1 ++ [Cell.tab (.xv (EN k) v)])[S1.length]? = some (.tab (.xv (EN k) v)) := get_last
  have hv2 : Val q n (S1 ++ [Cell.tab (.xv (EN k) v)]) v := hv.push
  obtain ⟨cb, hcb, hB⟩ := H1.b
  have H2 : Is q h (j + 1) n L (S1 ++ [Cell.tab (.xv (EN k) v)]) := ⟨⟨cb, get_app hcb, hB⟩, get_app H1.h, H1.l, fun u hu => (H1.v u hu).push⟩
  generalize env1.set 6 (.v (.r S1.length)) = env2 at s2 E2 b4 b5 b6
  generalize S1 ++ [Cell.tab (.xv (EN k) v)] = S2 at s2 xe hv2 H2
  generalize S1.length = e at b6 xe
  have hc := en_errs ⟨k, hk⟩
  have s3 := if0_ok b6 xe hc (exis_base ⟨k, hk⟩)
  obtain ⟨cb2, hcb2, hB2⟩ := H2.b
  obtain ⟨l0, rfl⟩ := bx_lst hB2
  obtain ⟨S3, S4, S5, s4, s5, s6, C⟩ := chg_ok (k := k) hv2 hcb2 (by omega) (by omega) b4 b5
  have xe5 := C.t _ _ xe
  have s7 := ifr_ok b5 b6 xe5 hc (C.v _ hv2) (by omega)
  have s8 := ifi_ok hk E2.len b4 b6 xe5
  exact ⟨env2, S5, seq_nx s1 (seq_nx s2 (seq_nx s3 (seq_nx s4 (seq_nx s5 (seq_nx s6 (seq_nx s7 s8)))))), E2, ⟨⟨_, C.b.trans hcb2, hB2⟩, C.t _ _ H2.h, H2.l, fun u hu => C.v u (H2.v u hu)⟩⟩
abbrev HX : FS := kRet (fAnd (fOp gEq (fCallV gShowV (fCons (fXv errs 1) fNil)) (fCallV gShowV (fCons (fVar 0) fNil))) (fOp gEq (fCallX 1 D_law_isX 1 fNil) (ROW 2 (fC (.int 0)))))
theorem hx_ok (hv : Val q n S v) (hn : n ≤ 100) : HX [.v v, .x "InvalidNumber" v, .u] S = .rt S (.val (.d (.bl true))) := by
  obtain ⟨s, e1, e2⟩ := show_val hv hn
  have v1 : fXv errs 1 [.v v, .x "InvalidNumber" v, .u] S = .ok S (.val v) := by
    show (if errs.contains "InvalidNumber" then R.ok S (Rt.val v) else .no) = _
    rw [if_pos (by decide)]
  have r1 : fCallX 1 D_law_isX 1 fNil [.v v, .x "InvalidNumber" v, .u] S = .ok S (.new (.lst (row 0))) := by
    show (if 0 + 1 = 1 then okR (D_law_isX "InvalidNumber" [v] S) else .no) = _
    rw [if_pos rfl, isX_all (by decide), show (NS.map fun d => Dv.bl (exIs "InvalidNumber" d)) = row 0 from row_eq (k := 0) (by omega)]
    rfl
  have r2 : ROW 2 (fC (.int 0)) [.v v, .x "InvalidNumber" v, .u] S = .ok S (.new (.lst (row 0))) := row_ok (k := 0) (show 2 < 3 by omega) fun s => c_ok
  refine ret_ok (and_yes (op_ok (showV_ok v1 e1) (showV_ok (var_v rfl) e1) (c := .bl true) ?_) (op_LL r1 r2 (c := .bl true) (gEq_refl (row_okN ⟨0, by omega⟩))))
  rw [gEq_strs e2 e2, decide_eq_true rfl]
  rfl
theorem raised_ok (hv : Val q n S v) (hn : n ≤ 100) : D_law_raised [v] S = .ok S (.val (.d (.bl true))) := by
  refine def_pure ?_
  have e0 : kRaise "InvalidNumber" (fVar 0) [.v v, .u, .u] S = .ex [.v v, .u, .u] S (.own "InvalidNumber" v) := raise_ok (var_v rfl)
  exact congrArg outS (show B_law_raised [.v v, .u, .u] S = .rt S (.val (.d (.bl true))) from try_x (i := 1) (f := HX) e0 (by decide) rfl (hx_ok hv hn))
end
end Q02
namespace Q02
open DN PySem L2
section
variable {S S1 S2 S3 : Sto} {env env' : DN.Env} {fa fb fe fo : FE} {fl : FA} {L : List Vr} {v u : Vr} {x d : Dv} {c c' cb : Cell} {m n q h i j k p e : Nat} {nm t : String} {a : Int} {ns : List Int} {s : Str}
abbrev TK0 (a : Int) : FE := fCallD 2 D_law_take (fCons (fVar 0) (fCons (fC (.int a)) fNil))
theorem tk0_ok {a : Nat} (hm : q < S.length) (hB : Bx j c) (hj : j ≤ 1000000) (h0 : env[0]? = some (.v (.r q))) (ha : 0 < a) (ha2 : a < 1000000) :
    ∃ (d : Nat) (c' : Cell), d < a ∧ Bx (j + 1) c' ∧ TK0 a env (S.set q c) = .ok (S.set q c') (.val (.d (.int d))) := by
  obtain ⟨d, c', h1, h2, h3⟩ := take_at (i := 0) (env := env) (a := a) (fe := fC (.int a)) hm hB (by omega) h0 rfl (by omega) (by omega)
  exact ⟨d, c', by omega, h2, h3⟩
theorem sgn_at : ∀ d : Nat, d < 6 → ("ab12 ~" : Str).cps.toList[d]? = some (("ab12 ~" : Str).cps.toList.getD d 0) ∧ ("ab12 ~" : Str).cps.toList.getD d 0 < 128 := by decide
theorem sign_ok (hm : q < S.length) (hB : Bx j c) (hj : j ≤ 1000000) (h0 : env[0]? = some (.v (.r q))) : ∃ (z : Nat) (c' : Cell), z < 128 ∧ Bx (j + 1) c' ∧ fOp gIx (fC (.str "ab12 ~")) (TK0 6) env (S.set q c) = .ok (S.set q c') (.val (.d (.str ⟨#[z]⟩))) := by
  obtain ⟨d, c', h1, h2, h3⟩ := tk0_ok (a := 6) hm hB hj h0 (by omega) (by omega)
  obtain ⟨g1, g2⟩ := sgn_at d h1
  exact ⟨_, c', g2, h2, op_S (a := .str "ab12 ~") rfl h3 (gIx_str (by decide) g1)⟩
theorem of_cs : ∀ {ys : List Dv}, (∀ y ∈ ys, ∃ c, y = .str ⟨#[c]⟩ ∧ c < 128) → ∃ cs : List Nat, ys = cs.map (fun c => .str ⟨#[c]⟩) ∧ ∀ c ∈ cs, c < 128
  | [], _ => ⟨[], rfl, fun c h => by simp at h⟩
  | y :: ys, h => by
    obtain ⟨c, rfl, hc⟩ := h y List.mem_cons_self
    obtain ⟨cs, rfl, hcs⟩ := of_cs fun z hz => h z (List.mem_cons_of_mem _ hz)
    exact ⟨c :: cs, rfl, fun x hx => by
      rcases List.mem_cons.mp hx with rfl | hx
      · exact hc
      · exact hcs x hx⟩
abbrev LC6 (f : FE) : FE := fLc (iRange1 (fCons f fNil)) (tgN 2) kYes (fOp gIx (fC (.str "ab12 ~")) (TK0 6)) [2]
theorem lc_from {f : FE} {fi : FE} {z : List Nat} (h1 : f env S = .ok S1 (.val (.d (.int n)))) (hn : n ≤ 1000) : fLc (iRange1 (fCons f fNil)) (tgN 2) kYes fi z env S = fLc (iRange1 (fCons (fC (.int n)) fNil)) (tgN 2) kYes fi z env S1 := by
  unfold fLc iRange1
  rw [show fCons f fNil env S = .ok S1 [.d (.int n)] from cons_d h1 nil_ok, show fCons (fC (.int n)) fNil env S1 = .ok S1 [.d (.int n)] from cons_d c_ok nil_ok]
abbrev EN0 (q : Nat) (u1 u2 : Sl) : DN.Env := [.v (.r q), u1, u2]
theorem text_ok {u1 u2 : Sl} (hm : q < S.length) (hB : Bx j c) (hj : j ≤ 10000) : ∃ (t : Str) (c' : Cell), Asc t.cps.toList ∧ t.length ≤ 6 ∧ Bx (j + 1 + t.length) c' ∧
    fMeth "str" gJoin (fC (.str "")) (fCons (LC6 (TK0 6)) fNil) (EN0 q u1 u2) (S.set q c) = .ok (S.set q c') (.val (.d (.str t))) := by
  obtain ⟨n, c1, h1, b1, e1⟩ := tk0_ok (env := EN0 q u1 u2) (a := 6) hm hB (by omega) rfl (by omega) (by omega)
  obtain ⟨S', ys, e2, ⟨c', b', rfl⟩, e3, e4⟩ := fLc_draw (fl := fCons (fC (.int n)) fNil) (i := 2) (fe := fOp gIx (fC (.str "ab12 ~")) (TK0 6)) (vs := [2]) (env := EN0 q u1 u2) (S := S.set q c1) (n := n)
    (fun i S' => ∃ k', Bx (j + 1 + i) k' ∧ S' = S.set q k') (fun _ y => ∃ c, y = .str ⟨#[c]⟩ ∧ c < 128) rfl (by omega) ⟨c1, b1, rfl⟩ (fun i S' hi ⟨k', hk', eS⟩ => by
      subst eS
      obtain ⟨z, c', g1, g2, g3⟩ := sign_ok (env := (wipeE (EN0 q u1 u2) [2]).set 2 (.v (.d (.int i)))) hm hk' (by omega) rfl
      refine ⟨S.set q c', .str ⟨#[z]⟩, ?_, ⟨c', g2, rfl⟩, ⟨z, rfl, g1⟩⟩
      rw [g3]
      exact got_val)
  obtain ⟨cs, rfl, hcs⟩ := of_cs (all_of_ix e4)
  have e3 : cs.length = n := by rw [List.length_map] at e3; exact e3
  have el : (⟨cs.toArray⟩ : Str).length = n := by show cs.toArray.size = n; simpa using e3
  refine ⟨⟨cs.toArray⟩, c', ?_, by rw [el]; omega, by rw [el]; exact b', join_at ((lc_from e1 (by omega)).trans e2) (join_cs (by omega))⟩
  show Asc cs.toArray.toList
  rw [List.toList_toArray]
  exact hcs
theorem int5 : ∀ k : Fin 1000, shvB (.int ((k : Nat) - 500 : Int)) = true := by decide +kernel
theorem pl_int {i : Int} (h : Shv (.int i) 1000 3) : Pl (.int i) := ⟨h, rfl, rfl, rfl⟩
theorem pl_str (h : Asc s.cps.toList) (hl : s.length ≤ 6) : Pl (.str s) := ⟨(shv_str h).le (by omega) (by omega), rfl, rfl, rfl⟩
abbrev VLS : FA := fConsC (fC .non) (fConsC (fC (.bl true)) (fConsC (fC (.bl false)) (fConsC (fOp gSub (TK0 1000) (fC (.int 500))) (fCons (fVar 1) (fConsC (fLst (fCons (fVar 1) fNil)) (fConsC (fTupV (fConsC (fLst (fCons (fVar 1) fNil)) (fCons (fC .non) fNil))) (fConsC (fDNew false) (fConsC (fLst (fCons (fLst fNil) fNil)) (fConsC (fOp gPow (fC (.int 10)) (fC (.int 29))) fNil)))))))))
abbrev LS (x : Int) (s : Str) (n : Nat) : List Vr := [.d .non, .d (.bl true), .d (.bl false), .d (.int x), .d (.str s), .r n, .r (n + 2), .r (n + 3), .r (n + 4), .d (.int (10 ^ 29))]
abbrev CS (s : Str) (n : Nat) : List Cell := [.lst [.str s], .lst [.str s], .tab (.vt [.r (n + 1), .d .non]), .dc false [] [], .lst [.lst []]]
theorem fTupV_ok {l : List Vr} (h : fl env S = .ok S1 l) (hl : l.length ≤ 1000) : fTupV fl env S = .ok (S1 ++ [.tab (.vt l)]) (.val (.r S1.length)) := by
  unfold fTupV
  rw [h]
  show (if l.length ≤ 100000 then R.ok (S1 ++ [Cell.tab (.vt l)]) (Rt.val (.r S1.length)) else R.no) = _
  rw [if_pos (by omega)]
theorem pow_ok : fOp gPow (fC (.int 10)) (fC (.int 29)) env S = .ok S (.val (.d (.int (10 ^ 29)))) := by
  refine op_ok c_ok c_ok ?_
  rw [show (Dv.int 29) = Dv.int ((29 : Nat) : Int) from rfl, gPow_ (j := 29) (by decide) (by decide)]
  rfl
theorem cell1 (h1 : env[1]? = some (.v (.d (.str s)))) : fLst (fCons (fVar 1) fNil) env S = .ok S (.new (.lst [.str s])) := lst_ok (cons_d (var_ok h1) nil_ok) rfl
theorem rest_ok (h1 : env[1]? = some (.v (.d (.str s)))) : fCons (fVar 1) (fConsC (fLst (fCons (fVar 1) fNil)) (fConsC (fTupV (fConsC (fLst (fCons (fVar 1) fNil)) (fCons (fC .non) fNil))) (fConsC (fDNew false) (fConsC (fLst (fCons (fLst fNil) fNil)) (fConsC (fOp gPow (fC (.int 10)) (fC (.int 29))) fNil))))) env S
    = .ok (S ++ CS s S.length) [.d (.str s), .r S.length, .r (S.length + 2), .r (S.length + 3), .r (S.length + 4), .d (.int (10 ^ 29))] := by
  let A1 : Sto := S ++ [.lst [.str s]]
  let A2 : Sto := A1 ++ [.lst [.str s]]
  let A3 : Sto := A2 ++ [.tab (.vt [.r A1.length, .d .non])]
  let A4 : Sto := A3 ++ [.dc false [] []]
  let A5 : Sto := A4 ++ [.lst [.lst []]]
  have t1 : fTupV (fConsC (fLst (fCons (fVar 1) fNil)) (fCons (fC .non) fNil)) env A1 = .ok A3 (.val (.r A2.length)) := fTupV_ok (consC_N (S1 := A1) (cell1 h1) (cons_d c_ok nil_ok)) (by simp)
  have key : fCons (fVar 1) (fConsC (fLst (fCons (fVar 1) fNil)) (fConsC (fTupV (fConsC (fLst (fCons (fVar 1) fNil)) (fCons (fC .non) fNil))) (fConsC (fDNew false) (fConsC (fLst (fCons (fLst fNil) fNil)) (fConsC (fOp gPow (fC (.int 10)) (fC (.int 29))) fNil))))) env S
    = .ok A5 [.d (.str s), .r S.length, .r A2.length, .r A3.length, .r A4.length, .d (.int (10 ^ 29))] :=
    cons_d (var_ok h1) (consC_N (S1 := S) (cell1 h1) (consC_v t1 (consC_N (S1 := A3) rfl (consC_N (S1 := A4) (lst_ok (cons_L (k := []) rfl nil_ok) rfl) (consC_v pow_ok nil_ok)))))
  rw [key]
  have q1 : A1.length = S.length + 1 := by simp [A1]
  have q2 : A2.length = S.length + 2 := by simp [A2, A1]
  have q3 : A3.length = S.length + 3 := by simp [A3, A2, A1]
  have q4 : A4.length = S.length + 4 := by simp [A4, A3, A2, A1]
  rw [q2, q3, q4]
  congr 1
  show (((((S ++ _) ++ _) ++ [Cell.tab (.vt [.r A1.length, .d .non])]) ++ _) ++ _) = _
  rw [q1]
  simp
theorem vls_ok {u2 : Sl} (hm : q < S.length) (hB : Bx j c) (hj : j ≤ 10000) : ∃ (d : Nat) (c' : Cell), d < 1000 ∧ Bx (j + 1) c' ∧ VLS (EN0 q (.v (.d (.str s))) u2) (S.set q c) = .ok (S.set q c' ++ CS s S.length) (LS ((d : Int) - 500) s S.length) := by
  obtain ⟨d, c', h1, b1, e1⟩ := tk0_ok (env := EN0 q (.v (.d (.str s))) u2) (a := 1000) hm hB (by omega) rfl (by omega) (by omega)
  have e2 : fOp gSub (TK0 1000) (fC (.int 500)) (EN0 q (.v (.d (.str s))) u2) (S.set q c) = .ok (S.set q c') (.val (.d (.int ((d : Int) - 500)))) := op_S e1 c_ok (by rw [gSub_]; rfl)
  have e3 := rest_ok (env := EN0 q (.v (.d (.str s))) u2) (S := S.set q c') (s := s) rfl
  rw [List.length_set] at e3
  exact ⟨d, c', h1, b1, consC_v c_ok (consC_v c_ok (consC_v c_ok (consC_v e2 e3)))⟩
theorem b_values : B_law_values = kSeq (kSet 1 (fMeth "str" gJoin (fC (.str "")) (fCons (LC6 (TK0 6)) fNil))) (kRet (fLstV VLS)) := rfl
theorem lstV_ok {l : List Vr} (h : fl env S = .ok S1 l) (hl : l.length ≤ 1000) : fLstV fl env S = .ok (S1 ++ [.tab (.vl l)]) (.val (.r S1.length)) := by
  unfold fLstV
  rw [h]
  show (if l.length ≤ 100000 then R.ok (S1 ++ [Cell.tab (.vl l)]) (Rt.val (.r S1.length)) else R.no) = _
  rw [if_pos (by omega)]
theorem values_ok (hm : q < S.length) (hB : Bx 0 c) : ∃ (L : List Vr) (S' : Sto) (h : Nat), D_law_values [.r q] (S.set q c) = .ok S' (.val (.r h)) ∧ Is q h 100 1 L S' := by
  obtain ⟨t, c1, ta, tl, b1, e1⟩ := text_ok (u1 := .u) (u2 := .u) hm hB (by omega)
  obtain ⟨d, c2, hd, b2, e2⟩ := vls_ok (s := t) (u2 := .u) (S := S) hm b1 (by omega)
  have s1 : kSet 1 (fMeth "str" gJoin (fC (.str "")) (fCons (LC6 (TK0 6)) fNil)) (EN0 q .u .u) (S.set q c) = .nx (EN0 q (.v (.d (.str t))) .u) (S.set q c1) := st_set e1 rfl
  have s2 := ret_ok (lstV_ok e2 (by simp))
  refine ⟨LS ((d : Int) - 500) t S.length, _, _, defL_v (b_values ▸ (seq_nx s1 s2)), ?_⟩
  have hl : (S.set q c2).length = S.length := List.length_set
  have own : (S.set q c2)[q]? = some c2 := List.getElem?_set_self hm
  have at_ : ∀ (i : Nat) (z : Cell), (CS t S.length)[i]? = some z → (S.set q c2 ++ CS t S.length ++ [Cell.tab (.vl (LS ((d : Int) - 500) t S.length))])[S.length + i]? = some z := fun i z hz => by
    refine get_app ?_
    rw [List.getElem?_append_right (by rw [hl]; omega), hl, Nat.add_sub_cancel_left]
    exact hz
  refine ⟨⟨c2, get_app ((List.getElem?_append_left (by rw [hl]; exact hm)).trans own), b2.le (by omega)⟩, get_last, rfl, fun u hu => ?_⟩
  simp only [LS, List.mem_cons, List.not_mem_nil, or_false] at hu
  have sh : Shv (.str t) 1000 3 := (shv_str ta).le (by omega) (by omega)
  have gl : Gl 1 [.str t] := ⟨by simp, fun x hx => by rw [List.mem_singleton.mp hx]; exact sh⟩
  rcases hu with rfl | rfl | rfl | rfl | rfl | rfl | rfl | rfl | rfl | rfl
  · exact .dat ⟨shv_of (by decide +kernel), rfl, rfl, rfl⟩
  · exact .dat ⟨shv_of (by decide +kernel), rfl, rfl, rfl⟩
  · exact .dat ⟨shv_of (by decide +kernel), rfl, rfl, rfl⟩
  · exact .dat (pl_int (shv_of (int5 ⟨d, hd⟩)))
  · exact .dat (pl_str ta tl)
  · exact .lst (at_ 0 _ rfl) (by omega) gl
  · exact .vt (at_ 2 _ rfl) (at_ 1 _ rfl) (by omega) gl
  · exact .dic (at_ 3 _ rfl) ⟨by simp, by simp, by simp, by simp⟩
  · exact .lst (at_ 4 _ rfl) (by omega) ⟨by simp, fun x hx => by rw [List.mem_singleton.mp hx]; exact shv_of (by decide +kernel)⟩
  · exact .dat (pl_int (shv_of (by decide +kernel)))
end
end Q02
namespace Q02
open DN PySem L2
section
variable {S S1 S2 S3 : Sto} {env env' : DN.Env} {L : List Vr} {m n q h i j k p e : Nat} {ns : List Int}
abbrev P1 : FS := kSetC 2 (fCallD 1 D_law_box (fCons (fCallD 2 D_law_cell_at (fCons (fVar 0) (fCons (fVar 1) fNil))) fNil))
theorem p1_ok (hns : ns.length ≤ 63) (h0 : env[0]? = some (.v (.d (.scr ns)))) (h1 : env[1]? = some (.v (.d (.int i)))) : ∃ c0, Bx 0 c0 ∧ P1 env S = .nx (env.set 2 (.v (.r S.length))) (S ++ [c0]) := by
  obtain ⟨v, ev⟩ := cell_at_ok (k := i) (S := S) hns
  obtain ⟨c0, b0, ec⟩ := box_ok (v := v) (S := S)
  exact ⟨c0, b0, setC_new (callD (l := [.d (.int v)]) (cons_d (callD (l := [.d (.scr ns), .d (.int i)]) (cons_v (var_v h0) (cons_v (var_v h1) nil_ok)) rfl ev) nil_ok) rfl ec) rfl⟩
abbrev P2 : FS := kSet 3 (fCallD 1 D_law_values (fCons (fVar 2) fNil))
abbrev P3 : FS := kFor (iRange1 (fCons (fC (.int 29)) fNil)) (tgN 4) TURN
abbrev P4 : FS := kIf (kNot (kVal (fCallD 1 D_law_raised (fCons (fVx 3 (TK 10)) fNil)))) (kRet (fC (.bl false))) kNext
abbrev BODY : FS := kSeq P1 (kSeq P2 (kSeq P3 P4))
theorem p3_ok (E : Ie ns q h env) (H : Is q h 100 1 L S) : ∃ env' S', P3 env S = .nx env' S' ∧ Ie ns q h env' ∧ Is q h 129 30 L S' := by
  obtain ⟨env', S', e, E', H'⟩ := for_rg (fl := fCons (fC (.int 29)) fNil) (i := 4) (n := 29) (body := TURN) (S := S) (env := env) (fun k env S => Ie ns q h env ∧ Is q h (100 + k) (1 + k) L S) rfl (by omega) ⟨E, H⟩ (fun k env S hk hI => by
    obtain ⟨E, H⟩ := hI
    exact turn_ok (k := k) (j := 100 + k) (n := 1 + k) (E.set 4 (by decide) (by decide) (by decide)) H (show 100 + k ≤ 1000 by omega) (show 1 + k ≤ 90 by omega) hk (E.at_ (by decide)))
  exact ⟨env', S', e, E', H'⟩
theorem p4_ok (E : Ie ns q h env) (H : Is q h 129 30 L S) : ∃ S', P4 env S = .nx env S' := by
  obtain ⟨v, S1, e1, hv, H1⟩ := pick_ok H (by omega) E.e2 E.e3
  exact ⟨S1, if_no (notB (b1 := true) (val_s (callD (l := [v]) (cons_v e1 nil_ok) rfl (raised_ok hv (by omega))))) rfl⟩
theorem body_ok (hns : ns.length ≤ 63) (hl : env.length = 8) (h0 : env[0]? = some (.v (.d (.scr ns)))) (h1 : env[1]? = some (.v (.d (.int i)))) : ∃ env' S', BODY env S = .nx env' S' ∧ env'.length = 8 ∧ env'[0]? = some (.v (.d (.scr ns))) := by
  obtain ⟨c0, b0, s1⟩ := p1_ok (S := S) hns h0 h1
  rw [show S ++ [c0] = (S ++ [c0]).set S.length c0 from (set_last).symm] at s1
  have hb : S.length < (S ++ [c0]).length := by simp
  generalize hS : S ++ [c0] = S1 at s1 hb
  generalize hq : S.length = q at s1 hb
  have at1 : (env.set 2 (.v (.r q)))[2]? = some (.v (.r q)) := List.getElem?_set_self (by omega)
  have z1 : (env.set 2 (.v (.r q)))[0]? = some (.v (.d (.scr ns))) := far h0
  have l1 : (env.set 2 (.v (.r q))).length = 8 := by rw [List.length_set]; exact hl
  generalize env.set 2 (.v (.r q)) = env1 at s1 at1 z1 l1
  obtain ⟨L, S2, h, e2, H⟩ := values_ok (S := S1) hb b0
  have s2 : P2 env1 (S1.set q c0) = .nx (env1.set 3 (.v (.r h))) S2 := st_set (callD (l := [.r q]) (cons_v (var_v at1) nil_ok) rfl e2) rfl
  have E : Ie ns q h (env1.set 3 (.v (.r h))) := ⟨by rw [List.length_set]; exact l1, far z1, far at1, List.getElem?_set_self (by omega)⟩
  generalize env1.set 3 (.v (.r h)) = env2 at s2 E
  obtain ⟨env3, S3, s3, E3, H3⟩ := p3_ok E H
  obtain ⟨S4, s4⟩ := p4_ok E3 H3
  exact ⟨env3, S4, seq_nx s1 (seq_nx s2 (seq_nx s3 s4)), E3.len, E3.e0⟩
end
theorem law_true (ns : List Int) (hn : ns.length ≤ 63) : ∃ S, D_law [.d (.scr ns)] [] = .ok S (.val (.d (.bl true))) := by
  let E0 : DN.Env := [.v (.d (.scr ns)), .u, .u, .u, .u, .u, .u, .u]
  have hm : ∃ m : Nat, m ≤ 8 ∧ fCons (fCall gMax (fCons (fC (.int 2)) (fCons (fCall gMin (fCons (fC (.int 8)) (fCons (fCall gLen (fCons (fVar 0) fNil)) fNil))) fNil))) fNil [.v (.d (.scr ns)), .u, .u, .u, .u, .u, .u, .u] [] = .ok [] [.d (.int m)] := by
    refine ⟨max 2 (min 8 ns.length), by omega, ?_⟩
    simp_arith [gLen_scr, gMin2_, gMin2, gMax2_, gMax2]
    congr 4
    split <;> split <;> omega
  obtain ⟨m, hm6, em⟩ := hm
  obtain ⟨env', S', e, hl, h0⟩ := for_rg (i := 1) (n := m) (body := BODY) (S := []) (env := E0) (fun _ env S => env.length = 8 ∧ env[0]? = some (.v (.d (.scr ns)))) em (by omega) ⟨rfl, rfl⟩ (fun t env S ht hI => by
    obtain ⟨hl, h0⟩ := hI
    exact body_ok (i := t) hn (by rw [List.length_set]; exact hl) (far h0) (List.getElem?_set_self (by omega)))
  refine ⟨[], ?_⟩
  unfold D_law defD
  show exitR 0 (outS (kSeq _ _ _ _)) = _
  have fin : kRet (fC (.bl true)) env' S' = .rt S' (.val (.d (.bl true))) := ret_ok c_ok
  rw [show startE 8 [Vr.d (.scr ns)] = E0 from rfl, seq_nx e fin]
  rfl
end Q02
namespace Q02
open PySem PySem.Spec PyProof.Rows L2 OP Evl DN
theorem all_mk {w : World} {K : PySem.W.Frag} {h : Heap} {mg : Str → Option Value} {fa : Addr} (X : K.In h) (G : h.Ns mainGlobals mg) (hfa : mg "law" = some (.ref fa))
    {f1 : Addr} {od1 an1 : Option Addr} {sl1 : Array (Option Value)} {oc1 kV1 dc1 pm1 cd1 ct1 : Value}
    {f2 : Addr} {od2 an2 : Option Addr} {sl2 : Array (Option Value)} {oc2 kV2 dc2 pm2 cd2 ct2 : Value}
    {f3 : Addr} {od3 an3 : Option Addr} {sl3 : Array (Option Value)} {oc3 kV3 dc3 pm3 cd3 ct3 : Value}
    {f4 : Addr} {od4 an4 : Option Addr} {sl4 : Array (Option Value)} {oc4 kV4 dc4 pm4 cd4 ct4 : Value}
    {f5 : Addr} {od5 an5 : Option Addr} {sl5 : Array (Option Value)} {oc5 kV5 dc5 pm5 cd5 ct5 : Value}
    {f6 : Addr} {od6 an6 : Option Addr} {sl6 : Array (Option Value)} {oc6 kV6 dc6 pm6 cd6 ct6 : Value}
    {f7 : Addr} {od7 an7 : Option Addr} {sl7 : Array (Option Value)} {oc7 kV7 dc7 pm7 cd7 ct7 : Value}
    {f8 : Addr} {od8 an8 : Option Addr} {sl8 : Array (Option Value)} {oc8 kV8 dc8 pm8 cd8 ct8 : Value}
    {f9 : Addr} {od9 an9 : Option Addr} {sl9 : Array (Option Value)} {oc9 kV9 dc9 pm9 cd9 ct9 : Value}
    {f10 : Addr} {od10 an10 : Option Addr} {sl10 : Array (Option Value)} {oc10 kV10 dc10 pm10 cd10 ct10 : Value}
    {f11 : Addr} {od11 an11 : Option Addr} {sl11 : Array (Option Value)} {oc11 kV11 dc11 pm11 cd11 ct11 : Value} {D0 fI cc cda : Addr} {cl0 ccl0 ocI kVI dcI pmI ctI : Value} {cld0 cdd0 odI anI : Option Addr} {csl0 ccs0 slI : Array (Option Value)} {cvs0 : Array Value} {file0 : Str} {tf0 : Tok} {cdD0 : ClassData}
    {C_x0 N_x0 : Addr} {nm_x0 q_x0 : Str} {bs_x0 bm_x0 sub_x0 : List Value} {sn_x0 : List Str} {ab_x0 : Bool} {col_x0 : Option Bool} {dd_x0 : Option Addr} {k0_x0 k1_x0 k2_x0 k3_x0 k5_x0 : Option Value}
    {C_x1 N_x1 : Addr} {nm_x1 q_x1 : Str} {bs_x1 bm_x1 sub_x1 : List Value} {sn_x1 : List Str} {ab_x1 : Bool} {col_x1 : Option Bool} {dd_x1 : Option Addr} {k0_x1 k1_x1 k2_x1 k3_x1 k5_x1 : Option Value}
    {C_x2 N_x2 : Addr} {nm_x2 q_x2 : Str} {bs_x2 bm_x2 sub_x2 : List Value} {sn_x2 : List Str} {ab_x2 : Bool} {col_x2 : Option Bool} {dd_x2 : Option Addr} {k0_x2 k1_x2 k2_x2 k3_x2 k5_x2 : Option Value}
    {C_x3 N_x3 : Addr} {nm_x3 q_x3 : Str} {bs_x3 bm_x3 sub_x3 : List Value} {sn_x3 : List Str} {ab_x3 : Bool} {col_x3 : Option Bool} {dd_x3 : Option Addr} {k0_x3 k1_x3 k2_x3 k3_x3 k5_x3 : Option Value}
    {C_x4 N_x4 : Addr} {nm_x4 q_x4 : Str} {bs_x4 bm_x4 sub_x4 : List Value} {sn_x4 : List Str} {ab_x4 : Bool} {col_x4 : Option Bool} {dd_x4 : Option Addr} {k0_x4 k1_x4 k2_x4 k3_x4 k5_x4 : Option Value}
    {C_x5 N_x5 : Addr} {nm_x5 q_x5 : Str} {bs_x5 bm_x5 sub_x5 : List Value} {sn_x5 : List Str} {ab_x5 : Bool} {col_x5 : Option Bool} {dd_x5 : Option Addr} {k0_x5 k1_x5 k2_x5 k3_x5 k5_x5 : Option Value}
    {C_x6 N_x6 : Addr} {nm_x6 q_x6 : Str} {bs_x6 bm_x6 sub_x6 : List Value} {sn_x6 : List Str} {ab_x6 : Bool} {col_x6 : Option Bool} {dd_x6 : Option Addr} {k0_x6 k1_x6 k2_x6 k3_x6 k5_x6 : Option Value}
    {C_x7 N_x7 : Addr} {nm_x7 q_x7 : Str} {bs_x7 bm_x7 sub_x7 : List Value} {sn_x7 : List Str} {ab_x7 : Bool} {col_x7 : Option Bool} {dd_x7 : Option Addr} {k0_x7 k1_x7 k2_x7 k3_x7 k5_x7 : Option Value}
    {C_x8 N_x8 : Addr} {nm_x8 q_x8 : Str} {bs_x8 bm_x8 sub_x8 : List Value} {sn_x8 : List Str} {ab_x8 : Bool} {col_x8 : Option Bool} {dd_x8 : Option Addr} {k0_x8 k1_x8 k2_x8 k3_x8 k5_x8 : Option Value}
    {C_x9 N_x9 : Addr} {nm_x9 q_x9 : Str} {bs_x9 bm_x9 sub_x9 : List Value} {sn_x9 : List Str} {ab_x9 : Bool} {col_x9 : Option Bool} {dd_x9 : Option Addr} {k0_x9 k1_x9 k2_x9 k3_x9 k5_x9 : Option Value}
    {C_x10 N_x10 : Addr} {nm_x10 q_x10 : Str} {bs_x10 bm_x10 sub_x10 : List Value} {sn_x10 : List Str} {ab_x10 : Bool} {col_x10 : Option Bool} {dd_x10 : Option Addr} {k0_x10 k1_x10 k2_x10 k3_x10 k5_x10 : Option Value}
    {C_x11 N_x11 : Addr} {nm_x11 q_x11 : Str} {bs_x11 bm_x11 sub_x11 : List Value} {sn_x11 : List Str} {ab_x11 : Bool} {col_x11 : Option Bool} {dd_x11 : Option Addr} {k0_x11 k1_x11 k2_x11 k3_x11 k5_x11 : Option Value}
    {C_x12 N_x12 : Addr} {nm_x12 q_x12 : Str} {bs_x12 bm_x12 sub_x12 : List Value} {sn_x12 : List Str} {ab_x12 : Bool} {col_x12 : Option Bool} {dd_x12 : Option Addr} {k0_x12 k1_x12 k2_x12 k3_x12 k5_x12 : Option Value}
    {C_x13 N_x13 : Addr} {nm_x13 q_x13 : Str} {bs_x13 bm_x13 sub_x13 : List Value} {sn_x13 : List Str} {ab_x13 : Bool} {col_x13 : Option Bool} {dd_x13 : Option Addr} {k0_x13 k1_x13 k2_x13 k3_x13 k5_x13 : Option Value}
    {C_x14 N_x14 : Addr} {nm_x14 q_x14 : Str} {bs_x14 bm_x14 sub_x14 : List Value} {sn_x14 : List Str} {ab_x14 : Bool} {col_x14 : Option Bool} {dd_x14 : Option Addr} {k0_x14 k1_x14 k2_x14 k3_x14 k5_x14 : Option Value}
    {C_x15 N_x15 : Addr} {nm_x15 q_x15 : Str} {bs_x15 bm_x15 sub_x15 : List Value} {sn_x15 : List Str} {ab_x15 : Bool} {col_x15 : Option Bool} {dd_x15 : Option Addr} {k0_x15 k1_x15 k2_x15 k3_x15 k5_x15 : Option Value}
    {C_x16 N_x16 : Addr} {nm_x16 q_x16 : Str} {bs_x16 bm_x16 sub_x16 : List Value} {sn_x16 : List Str} {ab_x16 : Bool} {col_x16 : Option Bool} {dd_x16 : Option Addr} {k0_x16 k1_x16 k2_x16 k3_x16 k5_x16 : Option Value}
    {C_x17 N_x17 : Addr} {nm_x17 q_x17 : Str} {bs_x17 bm_x17 sub_x17 : List Value} {sn_x17 : List Str} {ab_x17 : Bool} {col_x17 : Option Bool} {dd_x17 : Option Addr} {k0_x17 k1_x17 k2_x17 k3_x17 k5_x17 : Option Value}
    {C_x18 N_x18 : Addr} {nm_x18 q_x18 : Str} {bs_x18 bm_x18 sub_x18 : List Value} {sn_x18 : List Str} {ab_x18 : Bool} {col_x18 : Option Bool} {dd_x18 : Option Addr} {k0_x18 k1_x18 k2_x18 k3_x18 k5_x18 : Option Value}
    {C_x19 N_x19 : Addr} {nm_x19 q_x19 : Str} {bs_x19 bm_x19 sub_x19 : List Value} {sn_x19 : List Str} {ab_x19 : Bool} {col_x19 : Option Bool} {dd_x19 : Option Addr} {k0_x19 k1_x19 k2_x19 k3_x19 k5_x19 : Option Value}
    {C_x20 N_x20 : Addr} {nm_x20 q_x20 : Str} {bs_x20 bm_x20 sub_x20 : List Value} {sn_x20 : List Str} {ab_x20 : Bool} {col_x20 : Option Bool} {dd_x20 : Option Addr} {k0_x20 k1_x20 k2_x20 k3_x20 k5_x20 : Option Value}
    {C_x21 N_x21 : Addr} {nm_x21 q_x21 : Str} {bs_x21 bm_x21 sub_x21 : List Value} {sn_x21 : List Str} {ab_x21 : Bool} {col_x21 : Option Bool} {dd_x21 : Option Addr} {k0_x21 k1_x21 k2_x21 k3_x21 k5_x21 : Option Value}
    {C_x22 N_x22 : Addr} {nm_x22 q_x22 : Str} {bs_x22 bm_x22 sub_x22 : List Value} {sn_x22 : List Str} {ab_x22 : Bool} {col_x22 : Option Bool} {dd_x22 : Option Addr} {k0_x22 k1_x22 k2_x22 k3_x22 k5_x22 : Option Value}
    {C_x23 N_x23 : Addr} {nm_x23 q_x23 : Str} {bs_x23 bm_x23 sub_x23 : List Value} {sn_x23 : List Str} {ab_x23 : Bool} {col_x23 : Option Bool} {dd_x23 : Option Addr} {k0_x23 k1_x23 k2_x23 k3_x23 k5_x23 : Option Value}
    {C_x24 N_x24 : Addr} {nm_x24 q_x24 : Str} {bs_x24 bm_x24 sub_x24 : List Value} {sn_x24 : List Str} {ab_x24 : Bool} {col_x24 : Option Bool} {dd_x24 : Option Addr} {k0_x24 k1_x24 k2_x24 k3_x24 k5_x24 : Option Value}
    {C_x25 N_x25 : Addr} {nm_x25 q_x25 : Str} {bs_x25 bm_x25 sub_x25 : List Value} {sn_x25 : List Str} {ab_x25 : Bool} {col_x25 : Option Bool} {dd_x25 : Option Addr} {k0_x25 k1_x25 k2_x25 k3_x25 k5_x25 : Option Value}
    {C_x26 N_x26 : Addr} {nm_x26 q_x26 : Str} {bs_x26 bm_x26 sub_x26 : List Value} {sn_x26 : List Str} {ab_x26 : Bool} {col_x26 : Option Bool} {dd_x26 : Option Addr} {k0_x26 k1_x26 k2_x26 k3_x26 k5_x26 : Option Value}
    {C_x27 N_x27 : Addr} {nm_x27 q_x27 : Str} {bs_x27 bm_x27 sub_x27 : List Value} {sn_x27 : List Str} {ab_x27 : Bool} {col_x27 : Option Bool} {dd_x27 : Option Addr} {k0_x27 k1_x27 k2_x27 k3_x27 k5_x27 : Option Value}
    {C_x28 N_x28 : Addr} {nm_x28 q_x28 : Str} {bs_x28 bm_x28 sub_x28 : List Value} {sn_x28 : List Str} {ab_x28 : Bool} {col_x28 : Option Bool} {dd_x28 : Option Addr} {k0_x28 k1_x28 k2_x28 k3_x28 k5_x28 : Option Value}
    (a1 : PySem.W.nsIn K mainGlobals "_law_box" = some (some (.ref f1)))
    (l1 : K.lookup f1 = some ⟨oc1, od1, .func (PySem.W.fnOf "_law_box" "_law_box" (defArgs s_law_box) (defBody s_law_box) (defScope s_law_box) .none kV1 dc1 pm1 an1 cd1 ct1), sl1⟩)
    (c1 : PySem.W.codeIn K cd1 "_law_box" = true)
    (k1 : PySem.W.keepIn K (.ref f1) = true)
    (a2 : PySem.W.nsIn K mainGlobals "_law_take" = some (some (.ref f2)))
    (l2 : K.lookup f2 = some ⟨oc2, od2, .func (PySem.W.fnOf "_law_take" "_law_take" (defArgs s_law_take) (defBody s_law_take) (defScope s_law_take) .none kV2 dc2 pm2 an2 cd2 ct2), sl2⟩)
    (c2 : PySem.W.codeIn K cd2 "_law_take" = true)
    (k2 : PySem.W.keepIn K (.ref f2) = true)
    (a3 : PySem.W.nsIn K mainGlobals "_law_values" = some (some (.ref f3)))
    (l3 : K.lookup f3 = some ⟨oc3, od3, .func (PySem.W.fnOf "_law_values" "_law_values" (defArgs s_law_values) (defBody s_law_values) (defScope s_law_values) .none kV3 dc3 pm3 an3 cd3 ct3), sl3⟩)
    (c3 : PySem.W.codeIn K cd3 "_law_values" = true)
    (k3 : PySem.W.keepIn K (.ref f3) = true)
    (a4 : PySem.W.nsIn K mainGlobals "_law_cell_at" = some (some (.ref f4)))
    (l4 : K.lookup f4 = some ⟨oc4, od4, .func (PySem.W.fnOf "_law_cell_at" "_law_cell_at" (defArgs s_law_cell_at) (defBody s_law_cell_at) (defScope s_law_cell_at) .none kV4 dc4 pm4 an4 cd4 ct4), sl4⟩)
    (c4 : PySem.W.codeIn K cd4 "_law_cell_at" = true)
    (k4 : PySem.W.keepIn K (.ref f4) = true)
    (a5 : PySem.W.nsIn K mainGlobals "_law_first" = some (some (.ref f5)))
    (l5 : K.lookup f5 = some ⟨oc5, od5, .func (PySem.W.fnOf "_law_first" "_law_first" (defArgs s_law_first) (defBody s_law_first) (defScope s_law_first) .none kV5 dc5 pm5 an5 cd5 ct5), sl5⟩)
    (c5 : PySem.W.codeIn K cd5 "_law_first" = true)
    (k5 : PySem.W.keepIn K (.ref f5) = true)
    (a6 : PySem.W.nsIn K mainGlobals "_law_second" = some (some (.ref f6)))
    (l6 : K.lookup f6 = some ⟨oc6, od6, .func (PySem.W.fnOf "_law_second" "_law_second" (defArgs s_law_second) (defBody s_law_second) (defScope s_law_second) .none kV6 dc6 pm6 an6 cd6 ct6), sl6⟩)
    (c6 : PySem.W.codeIn K cd6 "_law_second" = true)
    (k6 : PySem.W.keepIn K (.ref f6) = true)
    (a7 : PySem.W.nsIn K mainGlobals "_law_third" = some (some (.ref f7)))
    (l7 : K.lookup f7 = some ⟨oc7, od7, .func (PySem.W.fnOf "_law_third" "_law_third" (defArgs s_law_third) (defBody s_law_third) (defScope s_law_third) .none kV7 dc7 pm7 an7 cd7 ct7), sl7⟩)
    (c7 : PySem.W.codeIn K cd7 "_law_third" = true)
    (k7 : PySem.W.keepIn K (.ref f7) = true)
    (a8 : PySem.W.nsIn K mainGlobals "_law_made" = some (some (.ref f8)))
    (l8 : K.lookup f8 = some ⟨oc8, od8, .func (PySem.W.fnOf "_law_made" "_law_made" (defArgs s_law_made) (defBody s_law_made) (defScope s_law_made) .none kV8 dc8 pm8 an8 cd8 ct8), sl8⟩)
    (c8 : PySem.W.codeIn K cd8 "_law_made" = true)
    (k8 : PySem.W.keepIn K (.ref f8) = true)
    (a9 : PySem.W.nsIn K mainGlobals "_law_is" = some (some (.ref f9)))
    (l9 : K.lookup f9 = some ⟨oc9, od9, .func (PySem.W.fnOf "_law_is" "_law_is" (defArgs s_law_is) (defBody s_law_is) (defScope s_law_is) .none kV9 dc9 pm9 an9 cd9 ct9), sl9⟩)
    (c9 : PySem.W.codeIn K cd9 "_law_is" = true)
    (k9 : PySem.W.keepIn K (.ref f9) = true)
    (a10 : PySem.W.nsIn K mainGlobals "_law_raised" = some (some (.ref f10)))
    (l10 : K.lookup f10 = some ⟨oc10, od10, .func (PySem.W.fnOf "_law_raised" "_law_raised" (defArgs s_law_raised) (defBody s_law_raised) (defScope s_law_raised) .none kV10 dc10 pm10 an10 cd10 ct10), sl10⟩)
    (c10 : PySem.W.codeIn K cd10 "_law_raised" = true)
    (k10 : PySem.W.keepIn K (.ref f10) = true)
    (a11 : PySem.W.nsIn K mainGlobals "law" = some (some (.ref f11)))
    (l11 : K.lookup f11 = some ⟨oc11, od11, .func (PySem.W.fnOf "law" "law" (defArgs s_law) (defBody s_law) (defScope s_law) .none kV11 dc11 pm11 an11 cd11 ct11), sl11⟩)
    (c11 : PySem.W.codeIn K cd11 "law" = true)
    (k11 : PySem.W.keepIn K (.ref f11) = true)
    (z0 : PySem.W.nsIn K mainGlobals "max" = some none)
    (z1 : PySem.W.nsIn K mainGlobals "range" = some none)
    (z2 : PySem.W.nsIn K mainGlobals "len" = some none)
    (z3 : PySem.W.nsIn K mainGlobals "isinstance" = some none)
    (z4 : PySem.W.nsIn K mainGlobals "repr" = some none)
    (z5 : PySem.W.nsIn K mainGlobals "min" = some none)
    (z6 : PySem.W.nsIn K mainGlobals "list" = some none)
    (z7 : PySem.W.nsIn K mainGlobals "dict" = some none)
    (z8 : PySem.W.nsIn K mainGlobals "tuple" = some none)
    (z9 : PySem.W.nsIn K mainGlobals "ValueError" = some none)
    (sm0 : (K.lookup sysModules).isSome = true)
    (D0a : PySem.W.nsIn K mainGlobals "OpenpostsError" = some (some (.ref D0)))
    (D0b : PySem.W.findIn K (.ref D0) "__init__" = some (some (.ref fI)))
    (D0l : K.lookup fI = some ⟨ocI, odI, .func (PySem.W.ksFn "__init__" "OpenpostsError.__init__" (defArgs s_init) (defBody s_init) (defScope s_init) .none kVI dcI pmI anI (.ref cda) ctI cc), slI⟩)
    (D0c : PySem.W.codeIn K (.ref cda) "OpenpostsError.__init__" = true)
    (D0t : PySem.W.typeIn K (.ref fI) = some (.type "function"))
    (D0e : K.lookup cc = some ⟨cl0, cld0, .cell (some (.ref D0)), csl0⟩)
    (D0f : K.lookup cda = some ⟨ccl0, cdd0, .fields cvs0, ccs0⟩)
    (D0g : cvs0[2]? = some (.str file0 tf0))
    (D0h : ((PP.main.file : Str) == file0) = true)
    (D0i : PySem.W.clsIn K D0 = some cdD0)
    (D0o : PySem.W.nsIn K cStatics "thirdparty.any" = some none)
    (D0s : PySem.W.nsIn K mainGlobals "super" = some none)
    (x0a : PySem.W.nsIn K mainGlobals "OpenpostsError" = some (some (.ref C_x0)))
    (x0b : K.lookup C_x0 = some (excClassObj nm_x0 q_x0 C_x0 N_x0 bs_x0 bm_x0 true sn_x0 sub_x0 ab_x0 col_x0 dd_x0 k0_x0 k1_x0 k2_x0 k3_x0 k5_x0 "ValueError.__new__"))
    (x0c : PySem.HandSPX.refsVE bm_x0 = true)
    (x0d : PySem.W.findIn K (.ref C_x0) "__setattr__" = some (some (.builtin "object.__setattr__")))
    (x0e : PySem.W.subIn K (.ref C_x0) (.type "BaseException") = some true)
    (x0f : PySem.W.typeIn K (.ref C_x0) = some (.type "type"))
    (x0g : PySem.W.keepIn K (.ref C_x0) = true)
    (x0h : PySem.W.mroIn K C_x0 (.ref D0) = some true)
    (x0i : PySem.W.ks_superIn K C_x0 D0 "__init__" = some (some (.builtin "ValueError.__init__")))
    (x0j : PySem.W.subIn K (.ref C_x0) (.type "ValueError") = some true)
    (x0k : PySem.W.findIn K (.ref C_x0) "value" = some none)
    (x0l : PySem.W.findIn K (.ref C_x0) "__getattribute__" = some (some (.builtin "BaseException.__getattribute__")))
    (x0m : PySem.W.findIn K (.ref C_x0) "__getattr__" = some none)
    (x0n : PySem.W.hasDictIn K C_x0 = true)
    (x0o : PySem.W.findIn K (.ref C_x0) "__class__" = some (some (.builtin "object.__class__")))
    (x0p : PySem.W.specialIn K (.builtin "object.__class__") "__get__" = some (some (.builtin "getset_descriptor.__get__")))
    (x0q : PySem.W.takesIn K (.builtin "object.__class__") = some true)
    (x0r : PySem.W.mroIn K C_x0 (.type "object") = some true)
    (x0s : PySem.W.findIn K (.ref C_x0) "__init__" = some (some (.ref fI)))
    (x1a : PySem.W.nsIn K mainGlobals "InvalidNumber" = some (some (.ref C_x1)))
    (x1b : K.lookup C_x1 = some (excClassObj nm_x1 q_x1 C_x1 N_x1 bs_x1 bm_x1 true sn_x1 sub_x1 ab_x1 col_x1 dd_x1 k0_x1 k1_x1 k2_x1 k3_x1 k5_x1 "ValueError.__new__"))
    (x1c : PySem.HandSPX.refsVE bm_x1 = true)
    (x1d : PySem.W.findIn K (.ref C_x1) "__setattr__" = some (some (.builtin "object.__setattr__")))
    (x1e : PySem.W.subIn K (.ref C_x1) (.type "BaseException") = some true)
    (x1f : PySem.W.typeIn K (.ref C_x1) = some (.type "type"))
    (x1g : PySem.W.keepIn K (.ref C_x1) = true)
    (x1h : PySem.W.mroIn K C_x1 (.ref D0) = some true)
    (x1i : PySem.W.ks_superIn K C_x1 D0 "__init__" = some (some (.builtin "ValueError.__init__")))
    (x1j : PySem.W.subIn K (.ref C_x1) (.type "ValueError") = some true)
    (x1k : PySem.W.findIn K (.ref C_x1) "value" = some none)
    (x1l : PySem.W.findIn K (.ref C_x1) "__getattribute__" = some (some (.builtin "BaseException.__getattribute__")))
    (x1m : PySem.W.findIn K (.ref C_x1) "__getattr__" = some none)
    (x1n : PySem.W.hasDictIn K C_x1 = true)
    (x1o : PySem.W.findIn K (.ref C_x1) "__class__" = some (some (.builtin "object.__class__")))
    (x1p : PySem.W.specialIn K (.builtin "object.__class__") "__get__" = some (some (.builtin "getset_descriptor.__get__")))
    (x1q : PySem.W.takesIn K (.builtin "object.__class__") = some true)
    (x1r : PySem.W.mroIn K C_x1 (.type "object") = some true)
    (x1s : PySem.W.findIn K (.ref C_x1) "__init__" = some (some (.ref fI)))
    (x2a : PySem.W.nsIn K mainGlobals "InvalidWord" = some (some (.ref C_x2)))
    (x2b : K.lookup C_x2 = some (excClassObj nm_x2 q_x2 C_x2 N_x2 bs_x2 bm_x2 true sn_x2 sub_x2 ab_x2 col_x2 dd_x2 k0_x2 k1_x2 k2_x2 k3_x2 k5_x2 "ValueError.__new__"))
    (x2c : PySem.HandSPX.refsVE bm_x2 = true)
    (x2d : PySem.W.findIn K (.ref C_x2) "__setattr__" = some (some (.builtin "object.__setattr__")))
    (x2e : PySem.W.subIn K (.ref C_x2) (.type "BaseException") = some true)
    (x2f : PySem.W.typeIn K (.ref C_x2) = some (.type "type"))
    (x2g : PySem.W.keepIn K (.ref C_x2) = true)
    (x2h : PySem.W.mroIn K C_x2 (.ref D0) = some true)
    (x2i : PySem.W.ks_superIn K C_x2 D0 "__init__" = some (some (.builtin "ValueError.__init__")))
    (x2j : PySem.W.subIn K (.ref C_x2) (.type "ValueError") = some true)
    (x2k : PySem.W.findIn K (.ref C_x2) "value" = some none)
    (x2l : PySem.W.findIn K (.ref C_x2) "__getattribute__" = some (some (.builtin "BaseException.__getattribute__")))
    (x2m : PySem.W.findIn K (.ref C_x2) "__getattr__" = some none)
    (x2n : PySem.W.hasDictIn K C_x2 = true)
    (x2o : PySem.W.findIn K (.ref C_x2) "__class__" = some (some (.builtin "object.__class__")))
    (x2p : PySem.W.specialIn K (.builtin "object.__class__") "__get__" = some (some (.builtin "getset_descriptor.__get__")))
    (x2q : PySem.W.takesIn K (.builtin "object.__class__") = some true)
    (x2r : PySem.W.mroIn K C_x2 (.type "object") = some true)
    (x2s : PySem.W.findIn K (.ref C_x2) "__init__" = some (some (.ref fI)))
    (x3a : PySem.W.nsIn K mainGlobals "InvalidWords" = some (some (.ref C_x3)))
    (x3b : K.lookup C_x3 = some (excClassObj nm_x3 q_x3 C_x3 N_x3 bs_x3 bm_x3 true sn_x3 sub_x3 ab_x3 col_x3 dd_x3 k0_x3 k1_x3 k2_x3 k3_x3 k5_x3 "ValueError.__new__"))
    (x3c : PySem.HandSPX.refsVE bm_x3 = true)
    (x3d : PySem.W.findIn K (.ref C_x3) "__setattr__" = some (some (.builtin "object.__setattr__")))
    (x3e : PySem.W.subIn K (.ref C_x3) (.type "BaseException") = some true)
    (x3f : PySem.W.typeIn K (.ref C_x3) = some (.type "type"))
    (x3g : PySem.W.keepIn K (.ref C_x3) = true)
    (x3h : PySem.W.mroIn K C_x3 (.ref D0) = some true)
    (x3i : PySem.W.ks_superIn K C_x3 D0 "__init__" = some (some (.builtin "ValueError.__init__")))
    (x3j : PySem.W.subIn K (.ref C_x3) (.type "ValueError") = some true)
    (x3k : PySem.W.findIn K (.ref C_x3) "value" = some none)
    (x3l : PySem.W.findIn K (.ref C_x3) "__getattribute__" = some (some (.builtin "BaseException.__getattribute__")))
    (x3m : PySem.W.findIn K (.ref C_x3) "__getattr__" = some none)
    (x3n : PySem.W.hasDictIn K C_x3 = true)
    (x3o : PySem.W.findIn K (.ref C_x3) "__class__" = some (some (.builtin "object.__class__")))
    (x3p : PySem.W.specialIn K (.builtin "object.__class__") "__get__" = some (some (.builtin "getset_descriptor.__get__")))
    (x3q : PySem.W.takesIn K (.builtin "object.__class__") = some true)
    (x3r : PySem.W.mroIn K C_x3 (.type "object") = some true)
    (x3s : PySem.W.findIn K (.ref C_x3) "__init__" = some (some (.ref fI)))
    (x4a : PySem.W.nsIn K mainGlobals "InvalidPlace" = some (some (.ref C_x4)))
    (x4b : K.lookup C_x4 = some (excClassObj nm_x4 q_x4 C_x4 N_x4 bs_x4 bm_x4 true sn_x4 sub_x4 ab_x4 col_x4 dd_x4 k0_x4 k1_x4 k2_x4 k3_x4 k5_x4 "ValueError.__new__"))
    (x4c : PySem.HandSPX.refsVE bm_x4 = true)
    (x4d : PySem.W.findIn K (.ref C_x4) "__setattr__" = some (some (.builtin "object.__setattr__")))
    (x4e : PySem.W.subIn K (.ref C_x4) (.type "BaseException") = some true)
    (x4f : PySem.W.typeIn K (.ref C_x4) = some (.type "type"))
    (x4g : PySem.W.keepIn K (.ref C_x4) = true)
    (x4h : PySem.W.mroIn K C_x4 (.ref D0) = some true)
    (x4i : PySem.W.ks_superIn K C_x4 D0 "__init__" = some (some (.builtin "ValueError.__init__")))
    (x4j : PySem.W.subIn K (.ref C_x4) (.type "ValueError") = some true)
    (x4k : PySem.W.findIn K (.ref C_x4) "value" = some none)
    (x4l : PySem.W.findIn K (.ref C_x4) "__getattribute__" = some (some (.builtin "BaseException.__getattribute__")))
    (x4m : PySem.W.findIn K (.ref C_x4) "__getattr__" = some none)
    (x4n : PySem.W.hasDictIn K C_x4 = true)
    (x4o : PySem.W.findIn K (.ref C_x4) "__class__" = some (some (.builtin "object.__class__")))
    (x4p : PySem.W.specialIn K (.builtin "object.__class__") "__get__" = some (some (.builtin "getset_descriptor.__get__")))
    (x4q : PySem.W.takesIn K (.builtin "object.__class__") = some true)
    (x4r : PySem.W.mroIn K C_x4 (.type "object") = some true)
    (x4s : PySem.W.findIn K (.ref C_x4) "__init__" = some (some (.ref fI)))
    (x5a : PySem.W.nsIn K mainGlobals "UnlikeLengths" = some (some (.ref C_x5)))
    (x5b : K.lookup C_x5 = some (excClassObj nm_x5 q_x5 C_x5 N_x5 bs_x5 bm_x5 true sn_x5 sub_x5 ab_x5 col_x5 dd_x5 k0_x5 k1_x5 k2_x5 k3_x5 k5_x5 "ValueError.__new__"))
    (x5c : PySem.HandSPX.refsVE bm_x5 = true)
    (x5d : PySem.W.findIn K (.ref C_x5) "__setattr__" = some (some (.builtin "object.__setattr__")))
    (x5e : PySem.W.subIn K (.ref C_x5) (.type "BaseException") = some true)
    (x5f : PySem.W.typeIn K (.ref C_x5) = some (.type "type"))
    (x5g : PySem.W.keepIn K (.ref C_x5) = true)
    (x5h : PySem.W.mroIn K C_x5 (.ref D0) = some true)
    (x5i : PySem.W.ks_superIn K C_x5 D0 "__init__" = some (some (.builtin "ValueError.__init__")))
    (x5j : PySem.W.subIn K (.ref C_x5) (.type "ValueError") = some true)
    (x5k : PySem.W.findIn K (.ref C_x5) "value" = some none)
    (x5l : PySem.W.findIn K (.ref C_x5) "__getattribute__" = some (some (.builtin "BaseException.__getattribute__")))
    (x5m : PySem.W.findIn K (.ref C_x5) "__getattr__" = some none)
    (x5n : PySem.W.hasDictIn K C_x5 = true)
    (x5o : PySem.W.findIn K (.ref C_x5) "__class__" = some (some (.builtin "object.__class__")))
    (x5p : PySem.W.specialIn K (.builtin "object.__class__") "__get__" = some (some (.builtin "getset_descriptor.__get__")))
    (x5q : PySem.W.takesIn K (.builtin "object.__class__") = some true)
    (x5r : PySem.W.mroIn K C_x5 (.type "object") = some true)
    (x5s : PySem.W.findIn K (.ref C_x5) "__init__" = some (some (.ref fI)))
    (x6a : PySem.W.nsIn K mainGlobals "InvalidHouse" = some (some (.ref C_x6)))
    (x6b : K.lookup C_x6 = some (excClassObj nm_x6 q_x6 C_x6 N_x6 bs_x6 bm_x6 true sn_x6 sub_x6 ab_x6 col_x6 dd_x6 k0_x6 k1_x6 k2_x6 k3_x6 k5_x6 "ValueError.__new__"))
    (x6c : PySem.HandSPX.refsVE bm_x6 = true)
    (x6d : PySem.W.findIn K (.ref C_x6) "__setattr__" = some (some (.builtin "object.__setattr__")))
    (x6e : PySem.W.subIn K (.ref C_x6) (.type "BaseException") = some true)
    (x6f : PySem.W.typeIn K (.ref C_x6) = some (.type "type"))
    (x6g : PySem.W.keepIn K (.ref C_x6) = true)
    (x6h : PySem.W.mroIn K C_x6 (.ref D0) = some true)
    (x6i : PySem.W.ks_superIn K C_x6 D0 "__init__" = some (some (.builtin "ValueError.__init__")))
    (x6j : PySem.W.subIn K (.ref C_x6) (.type "ValueError") = some true)
    (x6k : PySem.W.findIn K (.ref C_x6) "value" = some none)
    (x6l : PySem.W.findIn K (.ref C_x6) "__getattribute__" = some (some (.builtin "BaseException.__getattribute__")))
    (x6m : PySem.W.findIn K (.ref C_x6) "__getattr__" = some none)
    (x6n : PySem.W.hasDictIn K C_x6 = true)
    (x6o : PySem.W.findIn K (.ref C_x6) "__class__" = some (some (.builtin "object.__class__")))
    (x6p : PySem.W.specialIn K (.builtin "object.__class__") "__get__" = some (some (.builtin "getset_descriptor.__get__")))
    (x6q : PySem.W.takesIn K (.builtin "object.__class__") = some true)
    (x6r : PySem.W.mroIn K C_x6 (.type "object") = some true)
    (x6s : PySem.W.findIn K (.ref C_x6) "__init__" = some (some (.ref fI)))
    (x7a : PySem.W.nsIn K mainGlobals "InvalidHouses" = some (some (.ref C_x7)))
    (x7b : K.lookup C_x7 = some (excClassObj nm_x7 q_x7 C_x7 N_x7 bs_x7 bm_x7 true sn_x7 sub_x7 ab_x7 col_x7 dd_x7 k0_x7 k1_x7 k2_x7 k3_x7 k5_x7 "ValueError.__new__"))
    (x7c : PySem.HandSPX.refsVE bm_x7 = true)
    (x7d : PySem.W.findIn K (.ref C_x7) "__setattr__" = some (some (.builtin "object.__setattr__")))
    (x7e : PySem.W.subIn K (.ref C_x7) (.type "BaseException") = some true)
    (x7f : PySem.W.typeIn K (.ref C_x7) = some (.type "type"))
    (x7g : PySem.W.keepIn K (.ref C_x7) = true)
    (x7h : PySem.W.mroIn K C_x7 (.ref D0) = some true)
    (x7i : PySem.W.ks_superIn K C_x7 D0 "__init__" = some (some (.builtin "ValueError.__init__")))
    (x7j : PySem.W.subIn K (.ref C_x7) (.type "ValueError") = some true)
    (x7k : PySem.W.findIn K (.ref C_x7) "value" = some none)
    (x7l : PySem.W.findIn K (.ref C_x7) "__getattribute__" = some (some (.builtin "BaseException.__getattribute__")))
    (x7m : PySem.W.findIn K (.ref C_x7) "__getattr__" = some none)
    (x7n : PySem.W.hasDictIn K C_x7 = true)
    (x7o : PySem.W.findIn K (.ref C_x7) "__class__" = some (some (.builtin "object.__class__")))
    (x7p : PySem.W.specialIn K (.builtin "object.__class__") "__get__" = some (some (.builtin "getset_descriptor.__get__")))
    (x7q : PySem.W.takesIn K (.builtin "object.__class__") = some true)
    (x7r : PySem.W.mroIn K C_x7 (.type "object") = some true)
    (x7s : PySem.W.findIn K (.ref C_x7) "__init__" = some (some (.ref fI)))
    (x8a : PySem.W.nsIn K mainGlobals "InvalidTie" = some (some (.ref C_x8)))
    (x8b : K.lookup C_x8 = some (excClassObj nm_x8 q_x8 C_x8 N_x8 bs_x8 bm_x8 true sn_x8 sub_x8 ab_x8 col_x8 dd_x8 k0_x8 k1_x8 k2_x8 k3_x8 k5_x8 "ValueError.__new__"))
    (x8c : PySem.HandSPX.refsVE bm_x8 = true)
    (x8d : PySem.W.findIn K (.ref C_x8) "__setattr__" = some (some (.builtin "object.__setattr__")))
    (x8e : PySem.W.subIn K (.ref C_x8) (.type "BaseException") = some true)
    (x8f : PySem.W.typeIn K (.ref C_x8) = some (.type "type"))
    (x8g : PySem.W.keepIn K (.ref C_x8) = true)
    (x8h : PySem.W.mroIn K C_x8 (.ref D0) = some true)
    (x8i : PySem.W.ks_superIn K C_x8 D0 "__init__" = some (some (.builtin "ValueError.__init__")))
    (x8j : PySem.W.subIn K (.ref C_x8) (.type "ValueError") = some true)
    (x8k : PySem.W.findIn K (.ref C_x8) "value" = some none)
    (x8l : PySem.W.findIn K (.ref C_x8) "__getattribute__" = some (some (.builtin "BaseException.__getattribute__")))
    (x8m : PySem.W.findIn K (.ref C_x8) "__getattr__" = some none)
    (x8n : PySem.W.hasDictIn K C_x8 = true)
    (x8o : PySem.W.findIn K (.ref C_x8) "__class__" = some (some (.builtin "object.__class__")))
    (x8p : PySem.W.specialIn K (.builtin "object.__class__") "__get__" = some (some (.builtin "getset_descriptor.__get__")))
    (x8q : PySem.W.takesIn K (.builtin "object.__class__") = some true)
    (x8r : PySem.W.mroIn K C_x8 (.type "object") = some true)
    (x8s : PySem.W.findIn K (.ref C_x8) "__init__" = some (some (.ref fI)))
    (x9a : PySem.W.nsIn K mainGlobals "InvalidTies" = some (some (.ref C_x9)))
    (x9b : K.lookup C_x9 = some (excClassObj nm_x9 q_x9 C_x9 N_x9 bs_x9 bm_x9 true sn_x9 sub_x9 ab_x9 col_x9 dd_x9 k0_x9 k1_x9 k2_x9 k3_x9 k5_x9 "ValueError.__new__"))
    (x9c : PySem.HandSPX.refsVE bm_x9 = true)
    (x9d : PySem.W.findIn K (.ref C_x9) "__setattr__" = some (some (.builtin "object.__setattr__")))
    (x9e : PySem.W.subIn K (.ref C_x9) (.type "BaseException") = some true)
    (x9f : PySem.W.typeIn K (.ref C_x9) = some (.type "type"))
    (x9g : PySem.W.keepIn K (.ref C_x9) = true)
    (x9h : PySem.W.mroIn K C_x9 (.ref D0) = some true)
    (x9i : PySem.W.ks_superIn K C_x9 D0 "__init__" = some (some (.builtin "ValueError.__init__")))
    (x9j : PySem.W.subIn K (.ref C_x9) (.type "ValueError") = some true)
    (x9k : PySem.W.findIn K (.ref C_x9) "value" = some none)
    (x9l : PySem.W.findIn K (.ref C_x9) "__getattribute__" = some (some (.builtin "BaseException.__getattribute__")))
    (x9m : PySem.W.findIn K (.ref C_x9) "__getattr__" = some none)
    (x9n : PySem.W.hasDictIn K C_x9 = true)
    (x9o : PySem.W.findIn K (.ref C_x9) "__class__" = some (some (.builtin "object.__class__")))
    (x9p : PySem.W.specialIn K (.builtin "object.__class__") "__get__" = some (some (.builtin "getset_descriptor.__get__")))
    (x9q : PySem.W.takesIn K (.builtin "object.__class__") = some true)
    (x9r : PySem.W.mroIn K C_x9 (.type "object") = some true)
    (x9s : PySem.W.findIn K (.ref C_x9) "__init__" = some (some (.ref fI)))
    (x10a : PySem.W.nsIn K mainGlobals "InvalidWeb" = some (some (.ref C_x10)))
    (x10b : K.lookup C_x10 = some (excClassObj nm_x10 q_x10 C_x10 N_x10 bs_x10 bm_x10 true sn_x10 sub_x10 ab_x10 col_x10 dd_x10 k0_x10 k1_x10 k2_x10 k3_x10 k5_x10 "ValueError.__new__"))
    (x10c : PySem.HandSPX.refsVE bm_x10 = true)
    (x10d : PySem.W.findIn K (.ref C_x10) "__setattr__" = some (some (.builtin "object.__setattr__")))
    (x10e : PySem.W.subIn K (.ref C_x10) (.type "BaseException") = some true)
    (x10f : PySem.W.typeIn K (.ref C_x10) = some (.type "type"))
    (x10g : PySem.W.keepIn K (.ref C_x10) = true)
    (x10h : PySem.W.mroIn K C_x10 (.ref D0) = some true)
    (x10i : PySem.W.ks_superIn K C_x10 D0 "__init__" = some (some (.builtin "ValueError.__init__")))
    (x10j : PySem.W.subIn K (.ref C_x10) (.type "ValueError") = some true)
    (x10k : PySem.W.findIn K (.ref C_x10) "value" = some none)
    (x10l : PySem.W.findIn K (.ref C_x10) "__getattribute__" = some (some (.builtin "BaseException.__getattribute__")))
    (x10m : PySem.W.findIn K (.ref C_x10) "__getattr__" = some none)
    (x10n : PySem.W.hasDictIn K C_x10 = true)
    (x10o : PySem.W.findIn K (.ref C_x10) "__class__" = some (some (.builtin "object.__class__")))
    (x10p : PySem.W.specialIn K (.builtin "object.__class__") "__get__" = some (some (.builtin "getset_descriptor.__get__")))
    (x10q : PySem.W.takesIn K (.builtin "object.__class__") = some true)
    (x10r : PySem.W.mroIn K C_x10 (.type "object") = some true)
    (x10s : PySem.W.findIn K (.ref C_x10) "__init__" = some (some (.ref fI)))
    (x11a : PySem.W.nsIn K mainGlobals "InvalidOrder" = some (some (.ref C_x11)))
    (x11b : K.lookup C_x11 = some (excClassObj nm_x11 q_x11 C_x11 N_x11 bs_x11 bm_x11 true sn_x11 sub_x11 ab_x11 col_x11 dd_x11 k0_x11 k1_x11 k2_x11 k3_x11 k5_x11 "ValueError.__new__"))
    (x11c : PySem.HandSPX.refsVE bm_x11 = true)
    (x11d : PySem.W.findIn K (.ref C_x11) "__setattr__" = some (some (.builtin "object.__setattr__")))
    (x11e : PySem.W.subIn K (.ref C_x11) (.type "BaseException") = some true)
    (x11f : PySem.W.typeIn K (.ref C_x11) = some (.type "type"))
    (x11g : PySem.W.keepIn K (.ref C_x11) = true)
    (x11h : PySem.W.mroIn K C_x11 (.ref D0) = some true)
    (x11i : PySem.W.ks_superIn K C_x11 D0 "__init__" = some (some (.builtin "ValueError.__init__")))
    (x11j : PySem.W.subIn K (.ref C_x11) (.type "ValueError") = some true)
    (x11k : PySem.W.findIn K (.ref C_x11) "value" = some none)
    (x11l : PySem.W.findIn K (.ref C_x11) "__getattribute__" = some (some (.builtin "BaseException.__getattribute__")))
    (x11m : PySem.W.findIn K (.ref C_x11) "__getattr__" = some none)
    (x11n : PySem.W.hasDictIn K C_x11 = true)
    (x11o : PySem.W.findIn K (.ref C_x11) "__class__" = some (some (.builtin "object.__class__")))
    (x11p : PySem.W.specialIn K (.builtin "object.__class__") "__get__" = some (some (.builtin "getset_descriptor.__get__")))
    (x11q : PySem.W.takesIn K (.builtin "object.__class__") = some true)
    (x11r : PySem.W.mroIn K C_x11 (.type "object") = some true)
    (x11s : PySem.W.findIn K (.ref C_x11) "__init__" = some (some (.ref fI)))
    (x12a : PySem.W.nsIn K mainGlobals "InvalidText" = some (some (.ref C_x12)))
    (x12b : K.lookup C_x12 = some (excClassObj nm_x12 q_x12 C_x12 N_x12 bs_x12 bm_x12 true sn_x12 sub_x12 ab_x12 col_x12 dd_x12 k0_x12 k1_x12 k2_x12 k3_x12 k5_x12 "ValueError.__new__"))
    (x12c : PySem.HandSPX.refsVE bm_x12 = true)
    (x12d : PySem.W.findIn K (.ref C_x12) "__setattr__" = some (some (.builtin "object.__setattr__")))
    (x12e : PySem.W.subIn K (.ref C_x12) (.type "BaseException") = some true)
    (x12f : PySem.W.typeIn K (.ref C_x12) = some (.type "type"))
    (x12g : PySem.W.keepIn K (.ref C_x12) = true)
    (x12h : PySem.W.mroIn K C_x12 (.ref D0) = some true)
    (x12i : PySem.W.ks_superIn K C_x12 D0 "__init__" = some (some (.builtin "ValueError.__init__")))
    (x12j : PySem.W.subIn K (.ref C_x12) (.type "ValueError") = some true)
    (x12k : PySem.W.findIn K (.ref C_x12) "value" = some none)
    (x12l : PySem.W.findIn K (.ref C_x12) "__getattribute__" = some (some (.builtin "BaseException.__getattribute__")))
    (x12m : PySem.W.findIn K (.ref C_x12) "__getattr__" = some none)
    (x12n : PySem.W.hasDictIn K C_x12 = true)
    (x12o : PySem.W.findIn K (.ref C_x12) "__class__" = some (some (.builtin "object.__class__")))
    (x12p : PySem.W.specialIn K (.builtin "object.__class__") "__get__" = some (some (.builtin "getset_descriptor.__get__")))
    (x12q : PySem.W.takesIn K (.builtin "object.__class__") = some true)
    (x12r : PySem.W.mroIn K C_x12 (.type "object") = some true)
    (x12s : PySem.W.findIn K (.ref C_x12) "__init__" = some (some (.ref fI)))
    (x13a : PySem.W.nsIn K mainGlobals "InvalidAddresses" = some (some (.ref C_x13)))
    (x13b : K.lookup C_x13 = some (excClassObj nm_x13 q_x13 C_x13 N_x13 bs_x13 bm_x13 true sn_x13 sub_x13 ab_x13 col_x13 dd_x13 k0_x13 k1_x13 k2_x13 k3_x13 k5_x13 "ValueError.__new__"))
    (x13c : PySem.HandSPX.refsVE bm_x13 = true)
    (x13d : PySem.W.findIn K (.ref C_x13) "__setattr__" = some (some (.builtin "object.__setattr__")))
    (x13e : PySem.W.subIn K (.ref C_x13) (.type "BaseException") = some true)
    (x13f : PySem.W.typeIn K (.ref C_x13) = some (.type "type"))
    (x13g : PySem.W.keepIn K (.ref C_x13) = true)
    (x13h : PySem.W.mroIn K C_x13 (.ref D0) = some true)
    (x13i : PySem.W.ks_superIn K C_x13 D0 "__init__" = some (some (.builtin "ValueError.__init__")))
    (x13j : PySem.W.subIn K (.ref C_x13) (.type "ValueError") = some true)
    (x13k : PySem.W.findIn K (.ref C_x13) "value" = some none)
    (x13l : PySem.W.findIn K (.ref C_x13) "__getattribute__" = some (some (.builtin "BaseException.__getattribute__")))
    (x13m : PySem.W.findIn K (.ref C_x13) "__getattr__" = some none)
    (x13n : PySem.W.hasDictIn K C_x13 = true)
    (x13o : PySem.W.findIn K (.ref C_x13) "__class__" = some (some (.builtin "object.__class__")))
    (x13p : PySem.W.specialIn K (.builtin "object.__class__") "__get__" = some (some (.builtin "getset_descriptor.__get__")))
    (x13q : PySem.W.takesIn K (.builtin "object.__class__") = some true)
    (x13r : PySem.W.mroIn K C_x13 (.type "object") = some true)
    (x13s : PySem.W.findIn K (.ref C_x13) "__init__" = some (some (.ref fI)))
    (x14a : PySem.W.nsIn K mainGlobals "InvalidParents" = some (some (.ref C_x14)))
    (x14b : K.lookup C_x14 = some (excClassObj nm_x14 q_x14 C_x14 N_x14 bs_x14 bm_x14 true sn_x14 sub_x14 ab_x14 col_x14 dd_x14 k0_x14 k1_x14 k2_x14 k3_x14 k5_x14 "ValueError.__new__"))
    (x14c : PySem.HandSPX.refsVE bm_x14 = true)
    (x14d : PySem.W.findIn K (.ref C_x14) "__setattr__" = some (some (.builtin "object.__setattr__")))
    (x14e : PySem.W.subIn K (.ref C_x14) (.type "BaseException") = some true)
    (x14f : PySem.W.typeIn K (.ref C_x14) = some (.type "type"))
    (x14g : PySem.W.keepIn K (.ref C_x14) = true)
    (x14h : PySem.W.mroIn K C_x14 (.ref D0) = some true)
    (x14i : PySem.W.ks_superIn K C_x14 D0 "__init__" = some (some (.builtin "ValueError.__init__")))
    (x14j : PySem.W.subIn K (.ref C_x14) (.type "ValueError") = some true)
    (x14k : PySem.W.findIn K (.ref C_x14) "value" = some none)
    (x14l : PySem.W.findIn K (.ref C_x14) "__getattribute__" = some (some (.builtin "BaseException.__getattribute__")))
    (x14m : PySem.W.findIn K (.ref C_x14) "__getattr__" = some none)
    (x14n : PySem.W.hasDictIn K C_x14 = true)
    (x14o : PySem.W.findIn K (.ref C_x14) "__class__" = some (some (.builtin "object.__class__")))
    (x14p : PySem.W.specialIn K (.builtin "object.__class__") "__get__" = some (some (.builtin "getset_descriptor.__get__")))
    (x14q : PySem.W.takesIn K (.builtin "object.__class__") = some true)
    (x14r : PySem.W.mroIn K C_x14 (.type "object") = some true)
    (x14s : PySem.W.findIn K (.ref C_x14) "__init__" = some (some (.ref fI)))
    (x15a : PySem.W.nsIn K mainGlobals "InvalidTree" = some (some (.ref C_x15)))
    (x15b : K.lookup C_x15 = some (excClassObj nm_x15 q_x15 C_x15 N_x15 bs_x15 bm_x15 true sn_x15 sub_x15 ab_x15 col_x15 dd_x15 k0_x15 k1_x15 k2_x15 k3_x15 k5_x15 "ValueError.__new__"))
    (x15c : PySem.HandSPX.refsVE bm_x15 = true)
    (x15d : PySem.W.findIn K (.ref C_x15) "__setattr__" = some (some (.builtin "object.__setattr__")))
    (x15e : PySem.W.subIn K (.ref C_x15) (.type "BaseException") = some true)
    (x15f : PySem.W.typeIn K (.ref C_x15) = some (.type "type"))
    (x15g : PySem.W.keepIn K (.ref C_x15) = true)
    (x15h : PySem.W.mroIn K C_x15 (.ref D0) = some true)
    (x15i : PySem.W.ks_superIn K C_x15 D0 "__init__" = some (some (.builtin "ValueError.__init__")))
    (x15j : PySem.W.subIn K (.ref C_x15) (.type "ValueError") = some true)
    (x15k : PySem.W.findIn K (.ref C_x15) "value" = some none)
    (x15l : PySem.W.findIn K (.ref C_x15) "__getattribute__" = some (some (.builtin "BaseException.__getattribute__")))
    (x15m : PySem.W.findIn K (.ref C_x15) "__getattr__" = some none)
    (x15n : PySem.W.hasDictIn K C_x15 = true)
    (x15o : PySem.W.findIn K (.ref C_x15) "__class__" = some (some (.builtin "object.__class__")))
    (x15p : PySem.W.specialIn K (.builtin "object.__class__") "__get__" = some (some (.builtin "getset_descriptor.__get__")))
    (x15q : PySem.W.takesIn K (.builtin "object.__class__") = some true)
    (x15r : PySem.W.mroIn K C_x15 (.type "object") = some true)
    (x15s : PySem.W.findIn K (.ref C_x15) "__init__" = some (some (.ref fI)))
    (x16a : PySem.W.nsIn K mainGlobals "InvalidPairs" = some (some (.ref C_x16)))
    (x16b : K.lookup C_x16 = some (excClassObj nm_x16 q_x16 C_x16 N_x16 bs_x16 bm_x16 true sn_x16 sub_x16 ab_x16 col_x16 dd_x16 k0_x16 k1_x16 k2_x16 k3_x16 k5_x16 "ValueError.__new__"))
    (x16c : PySem.HandSPX.refsVE bm_x16 = true)
    (x16d : PySem.W.findIn K (.ref C_x16) "__setattr__" = some (some (.builtin "object.__setattr__")))
    (x16e : PySem.W.subIn K (.ref C_x16) (.type "BaseException") = some true)
    (x16f : PySem.W.typeIn K (.ref C_x16) = some (.type "type"))
    (x16g : PySem.W.keepIn K (.ref C_x16) = true)
    (x16h : PySem.W.mroIn K C_x16 (.ref D0) = some true)
    (x16i : PySem.W.ks_superIn K C_x16 D0 "__init__" = some (some (.builtin "ValueError.__init__")))
    (x16j : PySem.W.subIn K (.ref C_x16) (.type "ValueError") = some true)
    (x16k : PySem.W.findIn K (.ref C_x16) "value" = some none)
    (x16l : PySem.W.findIn K (.ref C_x16) "__getattribute__" = some (some (.builtin "BaseException.__getattribute__")))
    (x16m : PySem.W.findIn K (.ref C_x16) "__getattr__" = some none)
    (x16n : PySem.W.hasDictIn K C_x16 = true)
    (x16o : PySem.W.findIn K (.ref C_x16) "__class__" = some (some (.builtin "object.__class__")))
    (x16p : PySem.W.specialIn K (.builtin "object.__class__") "__get__" = some (some (.builtin "getset_descriptor.__get__")))
    (x16q : PySem.W.takesIn K (.builtin "object.__class__") = some true)
    (x16r : PySem.W.mroIn K C_x16 (.type "object") = some true)
    (x16s : PySem.W.findIn K (.ref C_x16) "__init__" = some (some (.ref fI)))
    (x17a : PySem.W.nsIn K mainGlobals "InvalidRow" = some (some (.ref C_x17)))
    (x17b : K.lookup C_x17 = some (excClassObj nm_x17 q_x17 C_x17 N_x17 bs_x17 bm_x17 true sn_x17 sub_x17 ab_x17 col_x17 dd_x17 k0_x17 k1_x17 k2_x17 k3_x17 k5_x17 "ValueError.__new__"))
    (x17c : PySem.HandSPX.refsVE bm_x17 = true)
    (x17d : PySem.W.findIn K (.ref C_x17) "__setattr__" = some (some (.builtin "object.__setattr__")))
    (x17e : PySem.W.subIn K (.ref C_x17) (.type "BaseException") = some true)
    (x17f : PySem.W.typeIn K (.ref C_x17) = some (.type "type"))
    (x17g : PySem.W.keepIn K (.ref C_x17) = true)
    (x17h : PySem.W.mroIn K C_x17 (.ref D0) = some true)
    (x17i : PySem.W.ks_superIn K C_x17 D0 "__init__" = some (some (.builtin "ValueError.__init__")))
    (x17j : PySem.W.subIn K (.ref C_x17) (.type "ValueError") = some true)
    (x17k : PySem.W.findIn K (.ref C_x17) "value" = some none)
    (x17l : PySem.W.findIn K (.ref C_x17) "__getattribute__" = some (some (.builtin "BaseException.__getattribute__")))
    (x17m : PySem.W.findIn K (.ref C_x17) "__getattr__" = some none)
    (x17n : PySem.W.hasDictIn K C_x17 = true)
    (x17o : PySem.W.findIn K (.ref C_x17) "__class__" = some (some (.builtin "object.__class__")))
    (x17p : PySem.W.specialIn K (.builtin "object.__class__") "__get__" = some (some (.builtin "getset_descriptor.__get__")))
    (x17q : PySem.W.takesIn K (.builtin "object.__class__") = some true)
    (x17r : PySem.W.mroIn K C_x17 (.type "object") = some true)
    (x17s : PySem.W.findIn K (.ref C_x17) "__init__" = some (some (.ref fI)))
    (x18a : PySem.W.nsIn K mainGlobals "InvalidSide" = some (some (.ref C_x18)))
    (x18b : K.lookup C_x18 = some (excClassObj nm_x18 q_x18 C_x18 N_x18 bs_x18 bm_x18 true sn_x18 sub_x18 ab_x18 col_x18 dd_x18 k0_x18 k1_x18 k2_x18 k3_x18 k5_x18 "ValueError.__new__"))
    (x18c : PySem.HandSPX.refsVE bm_x18 = true)
    (x18d : PySem.W.findIn K (.ref C_x18) "__setattr__" = some (some (.builtin "object.__setattr__")))
    (x18e : PySem.W.subIn K (.ref C_x18) (.type "BaseException") = some true)
    (x18f : PySem.W.typeIn K (.ref C_x18) = some (.type "type"))
    (x18g : PySem.W.keepIn K (.ref C_x18) = true)
    (x18h : PySem.W.mroIn K C_x18 (.ref D0) = some true)
    (x18i : PySem.W.ks_superIn K C_x18 D0 "__init__" = some (some (.builtin "ValueError.__init__")))
    (x18j : PySem.W.subIn K (.ref C_x18) (.type "ValueError") = some true)
    (x18k : PySem.W.findIn K (.ref C_x18) "value" = some none)
    (x18l : PySem.W.findIn K (.ref C_x18) "__getattribute__" = some (some (.builtin "BaseException.__getattribute__")))
    (x18m : PySem.W.findIn K (.ref C_x18) "__getattr__" = some none)
    (x18n : PySem.W.hasDictIn K C_x18 = true)
    (x18o : PySem.W.findIn K (.ref C_x18) "__class__" = some (some (.builtin "object.__class__")))
    (x18p : PySem.W.specialIn K (.builtin "object.__class__") "__get__" = some (some (.builtin "getset_descriptor.__get__")))
    (x18q : PySem.W.takesIn K (.builtin "object.__class__") = some true)
    (x18r : PySem.W.mroIn K C_x18 (.type "object") = some true)
    (x18s : PySem.W.findIn K (.ref C_x18) "__init__" = some (some (.ref fI)))
    (x19a : PySem.W.nsIn K mainGlobals "InvalidName" = some (some (.ref C_x19)))
    (x19b : K.lookup C_x19 = some (excClassObj nm_x19 q_x19 C_x19 N_x19 bs_x19 bm_x19 true sn_x19 sub_x19 ab_x19 col_x19 dd_x19 k0_x19 k1_x19 k2_x19 k3_x19 k5_x19 "ValueError.__new__"))
    (x19c : PySem.HandSPX.refsVE bm_x19 = true)
    (x19d : PySem.W.findIn K (.ref C_x19) "__setattr__" = some (some (.builtin "object.__setattr__")))
    (x19e : PySem.W.subIn K (.ref C_x19) (.type "BaseException") = some true)
    (x19f : PySem.W.typeIn K (.ref C_x19) = some (.type "type"))
    (x19g : PySem.W.keepIn K (.ref C_x19) = true)
    (x19h : PySem.W.mroIn K C_x19 (.ref D0) = some true)
    (x19i : PySem.W.ks_superIn K C_x19 D0 "__init__" = some (some (.builtin "ValueError.__init__")))
    (x19j : PySem.W.subIn K (.ref C_x19) (.type "ValueError") = some true)
    (x19k : PySem.W.findIn K (.ref C_x19) "value" = some none)
    (x19l : PySem.W.findIn K (.ref C_x19) "__getattribute__" = some (some (.builtin "BaseException.__getattribute__")))
    (x19m : PySem.W.findIn K (.ref C_x19) "__getattr__" = some none)
    (x19n : PySem.W.hasDictIn K C_x19 = true)
    (x19o : PySem.W.findIn K (.ref C_x19) "__class__" = some (some (.builtin "object.__class__")))
    (x19p : PySem.W.specialIn K (.builtin "object.__class__") "__get__" = some (some (.builtin "getset_descriptor.__get__")))
    (x19q : PySem.W.takesIn K (.builtin "object.__class__") = some true)
    (x19r : PySem.W.mroIn K C_x19 (.type "object") = some true)
    (x19s : PySem.W.findIn K (.ref C_x19) "__init__" = some (some (.ref fI)))
    (x20a : PySem.W.nsIn K mainGlobals "InvalidDeed" = some (some (.ref C_x20)))
    (x20b : K.lookup C_x20 = some (excClassObj nm_x20 q_x20 C_x20 N_x20 bs_x20 bm_x20 true sn_x20 sub_x20 ab_x20 col_x20 dd_x20 k0_x20 k1_x20 k2_x20 k3_x20 k5_x20 "ValueError.__new__"))
    (x20c : PySem.HandSPX.refsVE bm_x20 = true)
    (x20d : PySem.W.findIn K (.ref C_x20) "__setattr__" = some (some (.builtin "object.__setattr__")))
    (x20e : PySem.W.subIn K (.ref C_x20) (.type "BaseException") = some true)
    (x20f : PySem.W.typeIn K (.ref C_x20) = some (.type "type"))
    (x20g : PySem.W.keepIn K (.ref C_x20) = true)
    (x20h : PySem.W.mroIn K C_x20 (.ref D0) = some true)
    (x20i : PySem.W.ks_superIn K C_x20 D0 "__init__" = some (some (.builtin "ValueError.__init__")))
    (x20j : PySem.W.subIn K (.ref C_x20) (.type "ValueError") = some true)
    (x20k : PySem.W.findIn K (.ref C_x20) "value" = some none)
    (x20l : PySem.W.findIn K (.ref C_x20) "__getattribute__" = some (some (.builtin "BaseException.__getattribute__")))
    (x20m : PySem.W.findIn K (.ref C_x20) "__getattr__" = some none)
    (x20n : PySem.W.hasDictIn K C_x20 = true)
    (x20o : PySem.W.findIn K (.ref C_x20) "__class__" = some (some (.builtin "object.__class__")))
    (x20p : PySem.W.specialIn K (.builtin "object.__class__") "__get__" = some (some (.builtin "getset_descriptor.__get__")))
    (x20q : PySem.W.takesIn K (.builtin "object.__class__") = some true)
    (x20r : PySem.W.mroIn K C_x20 (.type "object") = some true)
    (x20s : PySem.W.findIn K (.ref C_x20) "__init__" = some (some (.ref fI)))
    (x21a : PySem.W.nsIn K mainGlobals "InvalidDeeds" = some (some (.ref C_x21)))
    (x21b : K.lookup C_x21 = some (excClassObj nm_x21 q_x21 C_x21 N_x21 bs_x21 bm_x21 true sn_x21 sub_x21 ab_x21 col_x21 dd_x21 k0_x21 k1_x21 k2_x21 k3_x21 k5_x21 "ValueError.__new__"))
    (x21c : PySem.HandSPX.refsVE bm_x21 = true)
    (x21d : PySem.W.findIn K (.ref C_x21) "__setattr__" = some (some (.builtin "object.__setattr__")))
    (x21e : PySem.W.subIn K (.ref C_x21) (.type "BaseException") = some true)
    (x21f : PySem.W.typeIn K (.ref C_x21) = some (.type "type"))
    (x21g : PySem.W.keepIn K (.ref C_x21) = true)
    (x21h : PySem.W.mroIn K C_x21 (.ref D0) = some true)
    (x21i : PySem.W.ks_superIn K C_x21 D0 "__init__" = some (some (.builtin "ValueError.__init__")))
    (x21j : PySem.W.subIn K (.ref C_x21) (.type "ValueError") = some true)
    (x21k : PySem.W.findIn K (.ref C_x21) "value" = some none)
    (x21l : PySem.W.findIn K (.ref C_x21) "__getattribute__" = some (some (.builtin "BaseException.__getattribute__")))
    (x21m : PySem.W.findIn K (.ref C_x21) "__getattr__" = some none)
    (x21n : PySem.W.hasDictIn K C_x21 = true)
    (x21o : PySem.W.findIn K (.ref C_x21) "__class__" = some (some (.builtin "object.__class__")))
    (x21p : PySem.W.specialIn K (.builtin "object.__class__") "__get__" = some (some (.builtin "getset_descriptor.__get__")))
    (x21q : PySem.W.takesIn K (.builtin "object.__class__") = some true)
    (x21r : PySem.W.mroIn K C_x21 (.type "object") = some true)
    (x21s : PySem.W.findIn K (.ref C_x21) "__init__" = some (some (.ref fI)))
    (x22a : PySem.W.nsIn K mainGlobals "InvalidLine" = some (some (.ref C_x22)))
    (x22b : K.lookup C_x22 = some (excClassObj nm_x22 q_x22 C_x22 N_x22 bs_x22 bm_x22 true sn_x22 sub_x22 ab_x22 col_x22 dd_x22 k0_x22 k1_x22 k2_x22 k3_x22 k5_x22 "ValueError.__new__"))
    (x22c : PySem.HandSPX.refsVE bm_x22 = true)
    (x22d : PySem.W.findIn K (.ref C_x22) "__setattr__" = some (some (.builtin "object.__setattr__")))
    (x22e : PySem.W.subIn K (.ref C_x22) (.type "BaseException") = some true)
    (x22f : PySem.W.typeIn K (.ref C_x22) = some (.type "type"))
    (x22g : PySem.W.keepIn K (.ref C_x22) = true)
    (x22h : PySem.W.mroIn K C_x22 (.ref D0) = some true)
    (x22i : PySem.W.ks_superIn K C_x22 D0 "__init__" = some (some (.builtin "ValueError.__init__")))
    (x22j : PySem.W.subIn K (.ref C_x22) (.type "ValueError") = some true)
    (x22k : PySem.W.findIn K (.ref C_x22) "value" = some none)
    (x22l : PySem.W.findIn K (.ref C_x22) "__getattribute__" = some (some (.builtin "BaseException.__getattribute__")))
    (x22m : PySem.W.findIn K (.ref C_x22) "__getattr__" = some none)
    (x22n : PySem.W.hasDictIn K C_x22 = true)
    (x22o : PySem.W.findIn K (.ref C_x22) "__class__" = some (some (.builtin "object.__class__")))
    (x22p : PySem.W.specialIn K (.builtin "object.__class__") "__get__" = some (some (.builtin "getset_descriptor.__get__")))
    (x22q : PySem.W.takesIn K (.builtin "object.__class__") = some true)
    (x22r : PySem.W.mroIn K C_x22 (.type "object") = some true)
    (x22s : PySem.W.findIn K (.ref C_x22) "__init__" = some (some (.ref fI)))
    (x23a : PySem.W.nsIn K mainGlobals "UnknownName" = some (some (.ref C_x23)))
    (x23b : K.lookup C_x23 = some (excClassObj nm_x23 q_x23 C_x23 N_x23 bs_x23 bm_x23 true sn_x23 sub_x23 ab_x23 col_x23 dd_x23 k0_x23 k1_x23 k2_x23 k3_x23 k5_x23 "ValueError.__new__"))
    (x23c : PySem.HandSPX.refsVE bm_x23 = true)
    (x23d : PySem.W.findIn K (.ref C_x23) "__setattr__" = some (some (.builtin "object.__setattr__")))
    (x23e : PySem.W.subIn K (.ref C_x23) (.type "BaseException") = some true)
    (x23f : PySem.W.typeIn K (.ref C_x23) = some (.type "type"))
    (x23g : PySem.W.keepIn K (.ref C_x23) = true)
    (x23h : PySem.W.mroIn K C_x23 (.ref D0) = some true)
    (x23i : PySem.W.ks_superIn K C_x23 D0 "__init__" = some (some (.builtin "ValueError.__init__")))
    (x23j : PySem.W.subIn K (.ref C_x23) (.type "ValueError") = some true)
    (x23k : PySem.W.findIn K (.ref C_x23) "value" = some none)
    (x23l : PySem.W.findIn K (.ref C_x23) "__getattribute__" = some (some (.builtin "BaseException.__getattribute__")))
    (x23m : PySem.W.findIn K (.ref C_x23) "__getattr__" = some none)
    (x23n : PySem.W.hasDictIn K C_x23 = true)
    (x23o : PySem.W.findIn K (.ref C_x23) "__class__" = some (some (.builtin "object.__class__")))
    (x23p : PySem.W.specialIn K (.builtin "object.__class__") "__get__" = some (some (.builtin "getset_descriptor.__get__")))
    (x23q : PySem.W.takesIn K (.builtin "object.__class__") = some true)
    (x23r : PySem.W.mroIn K C_x23 (.type "object") = some true)
    (x23s : PySem.W.findIn K (.ref C_x23) "__init__" = some (some (.ref fI)))
    (x24a : PySem.W.nsIn K mainGlobals "NameTaken" = some (some (.ref C_x24)))
    (x24b : K.lookup C_x24 = some (excClassObj nm_x24 q_x24 C_x24 N_x24 bs_x24 bm_x24 true sn_x24 sub_x24 ab_x24 col_x24 dd_x24 k0_x24 k1_x24 k2_x24 k3_x24 k5_x24 "ValueError.__new__"))
    (x24c : PySem.HandSPX.refsVE bm_x24 = true)
    (x24d : PySem.W.findIn K (.ref C_x24) "__setattr__" = some (some (.builtin "object.__setattr__")))
    (x24e : PySem.W.subIn K (.ref C_x24) (.type "BaseException") = some true)
    (x24f : PySem.W.typeIn K (.ref C_x24) = some (.type "type"))
    (x24g : PySem.W.keepIn K (.ref C_x24) = true)
    (x24h : PySem.W.mroIn K C_x24 (.ref D0) = some true)
    (x24i : PySem.W.ks_superIn K C_x24 D0 "__init__" = some (some (.builtin "ValueError.__init__")))
    (x24j : PySem.W.subIn K (.ref C_x24) (.type "ValueError") = some true)
    (x24k : PySem.W.findIn K (.ref C_x24) "value" = some none)
    (x24l : PySem.W.findIn K (.ref C_x24) "__getattribute__" = some (some (.builtin "BaseException.__getattribute__")))
    (x24m : PySem.W.findIn K (.ref C_x24) "__getattr__" = some none)
    (x24n : PySem.W.hasDictIn K C_x24 = true)
    (x24o : PySem.W.findIn K (.ref C_x24) "__class__" = some (some (.builtin "object.__class__")))
    (x24p : PySem.W.specialIn K (.builtin "object.__class__") "__get__" = some (some (.builtin "getset_descriptor.__get__")))
    (x24q : PySem.W.takesIn K (.builtin "object.__class__") = some true)
    (x24r : PySem.W.mroIn K C_x24 (.type "object") = some true)
    (x24s : PySem.W.findIn K (.ref C_x24) "__init__" = some (some (.ref fI)))
    (x25a : PySem.W.nsIn K mainGlobals "NotJoined" = some (some (.ref C_x25)))
    (x25b : K.lookup C_x25 = some (excClassObj nm_x25 q_x25 C_x25 N_x25 bs_x25 bm_x25 true sn_x25 sub_x25 ab_x25 col_x25 dd_x25 k0_x25 k1_x25 k2_x25 k3_x25 k5_x25 "ValueError.__new__"))
    (x25c : PySem.HandSPX.refsVE bm_x25 = true)
    (x25d : PySem.W.findIn K (.ref C_x25) "__setattr__" = some (some (.builtin "object.__setattr__")))
    (x25e : PySem.W.subIn K (.ref C_x25) (.type "BaseException") = some true)
    (x25f : PySem.W.typeIn K (.ref C_x25) = some (.type "type"))
    (x25g : PySem.W.keepIn K (.ref C_x25) = true)
    (x25h : PySem.W.mroIn K C_x25 (.ref D0) = some true)
    (x25i : PySem.W.ks_superIn K C_x25 D0 "__init__" = some (some (.builtin "ValueError.__init__")))
    (x25j : PySem.W.subIn K (.ref C_x25) (.type "ValueError") = some true)
    (x25k : PySem.W.findIn K (.ref C_x25) "value" = some none)
    (x25l : PySem.W.findIn K (.ref C_x25) "__getattribute__" = some (some (.builtin "BaseException.__getattribute__")))
    (x25m : PySem.W.findIn K (.ref C_x25) "__getattr__" = some none)
    (x25n : PySem.W.hasDictIn K C_x25 = true)
    (x25o : PySem.W.findIn K (.ref C_x25) "__class__" = some (some (.builtin "object.__class__")))
    (x25p : PySem.W.specialIn K (.builtin "object.__class__") "__get__" = some (some (.builtin "getset_descriptor.__get__")))
    (x25q : PySem.W.takesIn K (.builtin "object.__class__") = some true)
    (x25r : PySem.W.mroIn K C_x25 (.type "object") = some true)
    (x25s : PySem.W.findIn K (.ref C_x25) "__init__" = some (some (.ref fI)))
    (x26a : PySem.W.nsIn K mainGlobals "NotKept" = some (some (.ref C_x26)))
    (x26b : K.lookup C_x26 = some (excClassObj nm_x26 q_x26 C_x26 N_x26 bs_x26 bm_x26 true sn_x26 sub_x26 ab_x26 col_x26 dd_x26 k0_x26 k1_x26 k2_x26 k3_x26 k5_x26 "ValueError.__new__"))
    (x26c : PySem.HandSPX.refsVE bm_x26 = true)
    (x26d : PySem.W.findIn K (.ref C_x26) "__setattr__" = some (some (.builtin "object.__setattr__")))
    (x26e : PySem.W.subIn K (.ref C_x26) (.type "BaseException") = some true)
    (x26f : PySem.W.typeIn K (.ref C_x26) = some (.type "type"))
    (x26g : PySem.W.keepIn K (.ref C_x26) = true)
    (x26h : PySem.W.mroIn K C_x26 (.ref D0) = some true)
    (x26i : PySem.W.ks_superIn K C_x26 D0 "__init__" = some (some (.builtin "ValueError.__init__")))
    (x26j : PySem.W.subIn K (.ref C_x26) (.type "ValueError") = some true)
    (x26k : PySem.W.findIn K (.ref C_x26) "value" = some none)
    (x26l : PySem.W.findIn K (.ref C_x26) "__getattribute__" = some (some (.builtin "BaseException.__getattribute__")))
    (x26m : PySem.W.findIn K (.ref C_x26) "__getattr__" = some none)
    (x26n : PySem.W.hasDictIn K C_x26 = true)
    (x26o : PySem.W.findIn K (.ref C_x26) "__class__" = some (some (.builtin "object.__class__")))
    (x26p : PySem.W.specialIn K (.builtin "object.__class__") "__get__" = some (some (.builtin "getset_descriptor.__get__")))
    (x26q : PySem.W.takesIn K (.builtin "object.__class__") = some true)
    (x26r : PySem.W.mroIn K C_x26 (.type "object") = some true)
    (x26s : PySem.W.findIn K (.ref C_x26) "__init__" = some (some (.ref fI)))
    (x27a : PySem.W.nsIn K mainGlobals "TooLarge" = some (some (.ref C_x27)))
    (x27b : K.lookup C_x27 = some (excClassObj nm_x27 q_x27 C_x27 N_x27 bs_x27 bm_x27 true sn_x27 sub_x27 ab_x27 col_x27 dd_x27 k0_x27 k1_x27 k2_x27 k3_x27 k5_x27 "ValueError.__new__"))
    (x27c : PySem.HandSPX.refsVE bm_x27 = true)
    (x27d : PySem.W.findIn K (.ref C_x27) "__setattr__" = some (some (.builtin "object.__setattr__")))
    (x27e : PySem.W.subIn K (.ref C_x27) (.type "BaseException") = some true)
    (x27f : PySem.W.typeIn K (.ref C_x27) = some (.type "type"))
    (x27g : PySem.W.keepIn K (.ref C_x27) = true)
    (x27h : PySem.W.mroIn K C_x27 (.ref D0) = some true)
    (x27i : PySem.W.ks_superIn K C_x27 D0 "__init__" = some (some (.builtin "ValueError.__init__")))
    (x27j : PySem.W.subIn K (.ref C_x27) (.type "ValueError") = some true)
    (x27k : PySem.W.findIn K (.ref C_x27) "value" = some none)
    (x27l : PySem.W.findIn K (.ref C_x27) "__getattribute__" = some (some (.builtin "BaseException.__getattribute__")))
    (x27m : PySem.W.findIn K (.ref C_x27) "__getattr__" = some none)
    (x27n : PySem.W.hasDictIn K C_x27 = true)
    (x27o : PySem.W.findIn K (.ref C_x27) "__class__" = some (some (.builtin "object.__class__")))
    (x27p : PySem.W.specialIn K (.builtin "object.__class__") "__get__" = some (some (.builtin "getset_descriptor.__get__")))
    (x27q : PySem.W.takesIn K (.builtin "object.__class__") = some true)
    (x27r : PySem.W.mroIn K C_x27 (.type "object") = some true)
    (x27s : PySem.W.findIn K (.ref C_x27) "__init__" = some (some (.ref fI)))
    (x28a : PySem.W.nsIn K mainGlobals "NothingToUndo" = some (some (.ref C_x28)))
    (x28b : K.lookup C_x28 = some (excClassObj nm_x28 q_x28 C_x28 N_x28 bs_x28 bm_x28 true sn_x28 sub_x28 ab_x28 col_x28 dd_x28 k0_x28 k1_x28 k2_x28 k3_x28 k5_x28 "ValueError.__new__"))
    (x28c : PySem.HandSPX.refsVE bm_x28 = true)
    (x28d : PySem.W.findIn K (.ref C_x28) "__setattr__" = some (some (.builtin "object.__setattr__")))
    (x28e : PySem.W.subIn K (.ref C_x28) (.type "BaseException") = some true)
    (x28f : PySem.W.typeIn K (.ref C_x28) = some (.type "type"))
    (x28g : PySem.W.keepIn K (.ref C_x28) = true)
    (x28h : PySem.W.mroIn K C_x28 (.ref D0) = some true)
    (x28i : PySem.W.ks_superIn K C_x28 D0 "__init__" = some (some (.builtin "ValueError.__init__")))
    (x28j : PySem.W.subIn K (.ref C_x28) (.type "ValueError") = some true)
    (x28k : PySem.W.findIn K (.ref C_x28) "value" = some none)
    (x28l : PySem.W.findIn K (.ref C_x28) "__getattribute__" = some (some (.builtin "BaseException.__getattribute__")))
    (x28m : PySem.W.findIn K (.ref C_x28) "__getattr__" = some none)
    (x28n : PySem.W.hasDictIn K C_x28 = true)
    (x28o : PySem.W.findIn K (.ref C_x28) "__class__" = some (some (.builtin "object.__class__")))
    (x28p : PySem.W.specialIn K (.builtin "object.__class__") "__get__" = some (some (.builtin "getset_descriptor.__get__")))
    (x28q : PySem.W.takesIn K (.builtin "object.__class__") = some true)
    (x28r : PySem.W.mroIn K C_x28 (.type "object") = some true)
    (x28s : PySem.W.findIn K (.ref C_x28) "__init__" = some (some (.ref fI)))
    (xm_OpenpostsError_InvalidPlace : PySem.W.exmOne K (.ref C_x0) (.ref C_x4) = some false)
    (xm_OpenpostsError_OpenpostsError : PySem.W.exmOne K (.ref C_x0) (.ref C_x0) = some true)
    (xm_InvalidNumber_InvalidPlace : PySem.W.exmOne K (.ref C_x1) (.ref C_x4) = some false)
    (xm_InvalidNumber_OpenpostsError : PySem.W.exmOne K (.ref C_x1) (.ref C_x0) = some true)
    (xm_InvalidWord_InvalidPlace : PySem.W.exmOne K (.ref C_x2) (.ref C_x4) = some false)
    (xm_InvalidWord_OpenpostsError : PySem.W.exmOne K (.ref C_x2) (.ref C_x0) = some true)
    (xm_InvalidWords_InvalidPlace : PySem.W.exmOne K (.ref C_x3) (.ref C_x4) = some false)
    (xm_InvalidWords_OpenpostsError : PySem.W.exmOne K (.ref C_x3) (.ref C_x0) = some true)
    (xm_InvalidPlace_InvalidPlace : PySem.W.exmOne K (.ref C_x4) (.ref C_x4) = some true)
    (xm_InvalidPlace_OpenpostsError : PySem.W.exmOne K (.ref C_x4) (.ref C_x0) = some true)
    (xm_UnlikeLengths_InvalidPlace : PySem.W.exmOne K (.ref C_x5) (.ref C_x4) = some false)
    (xm_UnlikeLengths_OpenpostsError : PySem.W.exmOne K (.ref C_x5) (.ref C_x0) = some true)
    (xm_InvalidHouse_InvalidPlace : PySem.W.exmOne K (.ref C_x6) (.ref C_x4) = some false)
    (xm_InvalidHouse_OpenpostsError : PySem.W.exmOne K (.ref C_x6) (.ref C_x0) = some true)
    (xm_InvalidHouses_InvalidPlace : PySem.W.exmOne K (.ref C_x7) (.ref C_x4) = some false)
    (xm_InvalidHouses_OpenpostsError : PySem.W.exmOne K (.ref C_x7) (.ref C_x0) = some true)
    (xm_InvalidTie_InvalidPlace : PySem.W.exmOne K (.ref C_x8) (.ref C_x4) = some false)
    (xm_InvalidTie_OpenpostsError : PySem.W.exmOne K (.ref C_x8) (.ref C_x0) = some true)
    (xm_InvalidTies_InvalidPlace : PySem.W.exmOne K (.ref C_x9) (.ref C_x4) = some false)
    (xm_InvalidTies_OpenpostsError : PySem.W.exmOne K (.ref C_x9) (.ref C_x0) = some true)
    (xm_InvalidWeb_InvalidPlace : PySem.W.exmOne K (.ref C_x10) (.ref C_x4) = some false)
    (xm_InvalidWeb_OpenpostsError : PySem.W.exmOne K (.ref C_x10) (.ref C_x0) = some true)
    (xm_InvalidOrder_InvalidPlace : PySem.W.exmOne K (.ref C_x11) (.ref C_x4) = some false)
    (xm_InvalidOrder_OpenpostsError : PySem.W.exmOne K (.ref C_x11) (.ref C_x0) = some true)
    (xm_InvalidText_InvalidPlace : PySem.W.exmOne K (.ref C_x12) (.ref C_x4) = some false)
    (xm_InvalidText_OpenpostsError : PySem.W.exmOne K (.ref C_x12) (.ref C_x0) = some true)
    (xm_InvalidAddresses_InvalidPlace : PySem.W.exmOne K (.ref C_x13) (.ref C_x4) = some false)
    (xm_InvalidAddresses_OpenpostsError : PySem.W.exmOne K (.ref C_x13) (.ref C_x0) = some true)
    (xm_InvalidParents_InvalidPlace : PySem.W.exmOne K (.ref C_x14) (.ref C_x4) = some false)
    (xm_InvalidParents_OpenpostsError : PySem.W.exmOne K (.ref C_x14) (.ref C_x0) = some true)
    (xm_InvalidTree_InvalidPlace : PySem.W.exmOne K (.ref C_x15) (.ref C_x4) = some false)
    (xm_InvalidTree_OpenpostsError : PySem.W.exmOne K (.ref C_x15) (.ref C_x0) = some true)
    (xm_InvalidPairs_InvalidPlace : PySem.W.exmOne K (.ref C_x16) (.ref C_x4) = some false)
    (xm_InvalidPairs_OpenpostsError : PySem.W.exmOne K (.ref C_x16) (.ref C_x0) = some true)
    (xm_InvalidRow_InvalidPlace : PySem.W.exmOne K (.ref C_x17) (.ref C_x4) = some false)
    (xm_InvalidRow_OpenpostsError : PySem.W.exmOne K (.ref C_x17) (.ref C_x0) = some true)
    (xm_InvalidSide_InvalidPlace : PySem.W.exmOne K (.ref C_x18) (.ref C_x4) = some false)
    (xm_InvalidSide_OpenpostsError : PySem.W.exmOne K (.ref C_x18) (.ref C_x0) = some true)
    (xm_InvalidName_InvalidPlace : PySem.W.exmOne K (.ref C_x19) (.ref C_x4) = some false)
    (xm_InvalidName_OpenpostsError : PySem.W.exmOne K (.ref C_x19) (.ref C_x0) = some true)
    (xm_InvalidDeed_InvalidPlace : PySem.W.exmOne K (.ref C_x20) (.ref C_x4) = some false)
    (xm_InvalidDeed_OpenpostsError : PySem.W.exmOne K (.ref C_x20) (.ref C_x0) = some true)
    (xm_InvalidDeeds_InvalidPlace : PySem.W.exmOne K (.ref C_x21) (.ref C_x4) = some false)
    (xm_InvalidDeeds_OpenpostsError : PySem.W.exmOne K (.ref C_x21) (.ref C_x0) = some true)
    (xm_InvalidLine_InvalidPlace : PySem.W.exmOne K (.ref C_x22) (.ref C_x4) = some false)
    (xm_InvalidLine_OpenpostsError : PySem.W.exmOne K (.ref C_x22) (.ref C_x0) = some true)
    (xm_UnknownName_InvalidPlace : PySem.W.exmOne K (.ref C_x23) (.ref C_x4) = some false)
    (xm_UnknownName_OpenpostsError : PySem.W.exmOne K (.ref C_x23) (.ref C_x0) = some true)
    (xm_NameTaken_InvalidPlace : PySem.W.exmOne K (.ref C_x24) (.ref C_x4) = some false)
    (xm_NameTaken_OpenpostsError : PySem.W.exmOne K (.ref C_x24) (.ref C_x0) = some true)
    (xm_NotJoined_InvalidPlace : PySem.W.exmOne K (.ref C_x25) (.ref C_x4) = some false)
    (xm_NotJoined_OpenpostsError : PySem.W.exmOne K (.ref C_x25) (.ref C_x0) = some true)
    (xm_NotKept_InvalidPlace : PySem.W.exmOne K (.ref C_x26) (.ref C_x4) = some false)
    (xm_NotKept_OpenpostsError : PySem.W.exmOne K (.ref C_x26) (.ref C_x0) = some true)
    (xm_TooLarge_InvalidPlace : PySem.W.exmOne K (.ref C_x27) (.ref C_x4) = some false)
    (xm_TooLarge_OpenpostsError : PySem.W.exmOne K (.ref C_x27) (.ref C_x0) = some true)
    (xm_NothingToUndo_InvalidPlace : PySem.W.exmOne K (.ref C_x28) (.ref C_x4) = some false)
    (xm_NothingToUndo_OpenpostsError : PySem.W.exmOne K (.ref C_x28) (.ref C_x0) = some true)
    (kx : DN.kxB K [("OpenpostsError", C_x0), ("InvalidNumber", C_x1), ("InvalidWord", C_x2), ("InvalidWords", C_x3), ("InvalidPlace", C_x4), ("UnlikeLengths", C_x5), ("InvalidHouse", C_x6), ("InvalidHouses", C_x7), ("InvalidTie", C_x8), ("InvalidTies", C_x9), ("InvalidWeb", C_x10), ("InvalidOrder", C_x11), ("InvalidText", C_x12), ("InvalidAddresses", C_x13), ("InvalidParents", C_x14), ("InvalidTree", C_x15), ("InvalidPairs", C_x16), ("InvalidRow", C_x17), ("InvalidSide", C_x18), ("InvalidName", C_x19), ("InvalidDeed", C_x20), ("InvalidDeeds", C_x21), ("InvalidLine", C_x22), ("UnknownName", C_x23), ("NameTaken", C_x24), ("NotJoined", C_x25), ("NotKept", C_x26), ("TooLarge", C_x27), ("NothingToUndo", C_x28)] = true)  :
    ∃ fd : FuncData, (∀ (s : Shared) (v : Value), BindsTo s fd ⟨[v], []⟩ [("_law_script", v)]) ∧ ∀ base : Heap, K.In base → base.Ns mainGlobals mg → DN.FnG true PP w K mg base (L2N.CX PP w) 5 fa fd ["_law_script"] (DN.spLaw K) := by
  have e := hfa.symm.trans (PySem.W.mg_of X G a11)
  cases e
  have F1 := fun_mk (st := s_law_box) l1 c1 k1
  have b1 := F1.binds (ps := ["_law_number"]) fun _ _ _ _ _ _ us hl => match us, hl with | [_], _ => rfl
  have F2 := fun_mk (st := s_law_take) l2 c2 k2
  have b2 := F2.binds (ps := ["_law_box_here", "_law_many"]) fun _ _ _ _ _ _ us hl => match us, hl with | [_, _], _ => rfl
  have F3 := fun_mk (st := s_law_values) l3 c3 k3
  have b3 := F3.binds (ps := ["_law_box_here"]) fun _ _ _ _ _ _ us hl => match us, hl with | [_], _ => rfl
  have F4 := fun_mk (st := s_law_cell_at) l4 c4 k4
  have b4 := F4.binds (ps := ["_law_script", "_law_k"]) fun _ _ _ _ _ _ us hl => match us, hl with | [_, _], _ => rfl
  have F5 := fun_mk (st := s_law_first) l5 c5 k5
  have b5 := F5.binds (ps := ["_law_number", "_law_value"]) fun _ _ _ _ _ _ us hl => match us, hl with | [_, _], _ => rfl
  have F6 := fun_mk (st := s_law_second) l6 c6 k6
  have b6 := F6.binds (ps := ["_law_number", "_law_value"]) fun _ _ _ _ _ _ us hl => match us, hl with | [_, _], _ => rfl
  have F7 := fun_mk (st := s_law_third) l7 c7 k7
  have b7 := F7.binds (ps := ["_law_number", "_law_value"]) fun _ _ _ _ _ _ us hl => match us, hl with | [_, _], _ => rfl
  have F8 := fun_mk (st := s_law_made) l8 c8 k8
  have b8 := F8.binds (ps := ["_law_number", "_law_value"]) fun _ _ _ _ _ _ us hl => match us, hl with | [_, _], _ => rfl
  have F9 := fun_mk (st := s_law_is) l9 c9 k9
  have b9 := F9.binds (ps := ["_law_error"]) fun _ _ _ _ _ _ us hl => match us, hl with | [_], _ => rfl
  have F10 := fun_mk (st := s_law_raised) l10 c10 k10
  have b10 := F10.binds (ps := ["_law_value"]) fun _ _ _ _ _ _ us hl => match us, hl with | [_], _ => rfl
  have F11 := fun_mk (st := s_law) l11 c11 k11
  have b11 := F11.binds (ps := ["_law_script"]) fun _ _ _ _ _ _ us hl => match us, hl with | [_], _ => rfl
  have BI : OpenB PP K D0 cc cda := ⟨⟨_, _, _, D0e⟩, ⟨_, _, _, _, _, _, D0f, D0g, D0h⟩, ⟨_, D0i⟩, by decide +kernel, D0o⟩
  have okI : ∀ (w : World) (base : Heap) (CX : CXT), FnOk PP w K mg base CX 1 fI (PySem.W.ksFn "__init__" "OpenpostsError.__init__" (defArgs s_init) (defBody s_init) (defScope s_init) .none kVI dcI pmI anI (.ref cda) ctI cc) ["self", "value"] (spInit K D0) := fun w base CX =>
    fn_init (ar := initArg) rfl D0l D0c rfl rfl (by decide +kernel) rfl rfl rfl rfl rfl rfl rfl (fun _ => rfl) (fun _ => rfl) (fun _ => rfl) (fun _ => rfl) (fun _ => rfl) BI (PySem.W.mg_none_of X G D0s)
  have bI : Binds K (PySem.W.ksFn "__init__" "OpenpostsError.__init__" (defArgs s_init) (defBody s_init) (defScope s_init) .none kVI dcI pmI anI (.ref cda) ctI cc) ["self", "value"] [] := .all fun us hl => match us, hl with | [_, _], _ => rfl
  have T : TX K mg := ⟨_, _, F1, b1, (PySem.W.mg_of X G a1), _, _, F2, b2, (PySem.W.mg_of X G a2), _, _, F3, b3, (PySem.W.mg_of X G a3), _, _, F4, b4, (PySem.W.mg_of X G a4), _, _, F5, b5, (PySem.W.mg_of X G a5), _, _, F6, b6, (PySem.W.mg_of X G a6), _, _, F7, b7, (PySem.W.mg_of X G a7), _, _, F8, b8, (PySem.W.mg_of X G a8), _, _, F9, b9, (PySem.W.mg_of X G a9), _, _, F10, b10, (PySem.W.mg_of X G a10), _, _, F11, b11, (PySem.W.mg_of X G a11), (PySem.W.mg_none_of X G z0), (PySem.W.mg_none_of X G z1), (PySem.W.mg_none_of X G z2), (PySem.W.mg_none_of X G z3), (PySem.W.mg_none_of X G z4), (PySem.W.mg_none_of X G z5), (PySem.W.mg_none_of X G z6), (PySem.W.mg_none_of X G z7), (PySem.W.mg_none_of X G z8), (PySem.W.mg_none_of X G z9), sm0, D0, (PySem.W.mg_of X G D0a), fI, _, bI, D0t, okI, C_x0, (PySem.W.mg_of X G x0a), ⟨⟨⟨_, _, _, _, _, _, _, _, _, _, _, _, _, _, _, x0b, x0c⟩, x0d, x0e, x0f, x0g⟩, x0h, x0i, x0j, x0k⟩, ⟨x0l, x0m, x0e, x0n, x0o, x0p, x0q, x0r⟩, x0s, C_x1, (PySem.W.mg_of X G x1a), ⟨⟨⟨_, _, _, _, _, _, _, _, _, _, _, _, _, _, _, x1b, x1c⟩, x1d, x1e, x1f, x1g⟩, x1h, x1i, x1j, x1k⟩, ⟨x1l, x1m, x1e, x1n, x1o, x1p, x1q, x1r⟩, x1s, C_x2, (PySem.W.mg_of X G x2a), ⟨⟨⟨_, _, _, _, _, _, _, _, _, _, _, _, _, _, _, x2b, x2c⟩, x2d, x2e, x2f, x2g⟩, x2h, x2i, x2j, x2k⟩, ⟨x2l, x2m, x2e, x2n, x2o, x2p, x2q, x2r⟩, x2s, C_x3, (PySem.W.mg_of X G x3a), ⟨⟨⟨_, _, _, _, _, _, _, _, _, _, _, _, _, _, _, x3b, x3c⟩, x3d, x3e, x3f, x3g⟩, x3h, x3i, x3j, x3k⟩, ⟨x3l, x3m, x3e, x3n, x3o, x3p, x3q, x3r⟩, x3s, C_x4, (PySem.W.mg_of X G x4a), ⟨⟨⟨_, _, _, _, _, _, _, _, _, _, _, _, _, _, _, x4b, x4c⟩, x4d, x4e, x4f, x4g⟩, x4h, x4i, x4j, x4k⟩, ⟨x4l, x4m, x4e, x4n, x4o, x4p, x4q, x4r⟩, x4s, C_x5, (PySem.W.mg_of X G x5a), ⟨⟨⟨_, _, _, _, _, _, _, _, _, _, _, _, _, _, _, x5b, x5c⟩, x5d, x5e, x5f, x5g⟩, x5h, x5i, x5j, x5k⟩, ⟨x5l, x5m, x5e, x5n, x5o, x5p, x5q, x5r⟩, x5s, C_x6, (PySem.W.mg_of X G x6a), ⟨⟨⟨_, _, _, _, _, _, _, _, _, _, _, _, _, _, _, x6b, x6c⟩, x6d, x6e, x6f, x6g⟩, x6h, x6i, x6j, x6k⟩, ⟨x6l, x6m, x6e, x6n, x6o, x6p, x6q, x6r⟩, x6s, C_x7, (PySem.W.mg_of X G x7a), ⟨⟨⟨_, _, _, _, _, _, _, _, _, _, _, _, _, _, _, x7b, x7c⟩, x7d, x7e, x7f, x7g⟩, x7h, x7i, x7j, x7k⟩, ⟨x7l, x7m, x7e, x7n, x7o, x7p, x7q, x7r⟩, x7s, C_x8, (PySem.W.mg_of X G x8a), ⟨⟨⟨_, _, _, _, _, _, _, _, _, _, _, _, _, _, _, x8b, x8c⟩, x8d, x8e, x8f, x8g⟩, x8h, x8i, x8j, x8k⟩, ⟨x8l, x8m, x8e, x8n, x8o, x8p, x8q, x8r⟩, x8s, C_x9, (PySem.W.mg_of X G x9a), ⟨⟨⟨_, _, _, _, _, _, _, _, _, _, _, _, _, _, _, x9b, x9c⟩, x9d, x9e, x9f, x9g⟩, x9h, x9i, x9j, x9k⟩, ⟨x9l, x9m, x9e, x9n, x9o, x9p, x9q, x9r⟩, x9s, C_x10, (PySem.W.mg_of X G x10a), ⟨⟨⟨_, _, _, _, _, _, _, _, _, _, _, _, _, _, _, x10b, x10c⟩, x10d, x10e, x10f, x10g⟩, x10h, x10i, x10j, x10k⟩, ⟨x10l, x10m, x10e, x10n, x10o, x10p, x10q, x10r⟩, x10s, C_x11, (PySem.W.mg_of X G x11a), ⟨⟨⟨_, _, _, _, _, _, _, _, _, _, _, _, _, _, _, x11b, x11c⟩, x11d, x11e, x11f, x11g⟩, x11h, x11i, x11j, x11k⟩, ⟨x11l, x11m, x11e, x11n, x11o, x11p, x11q, x11r⟩, x11s, C_x12, (PySem.W.mg_of X G x12a), ⟨⟨⟨_, _, _, _, _, _, _, _, _, _, _, _, _, _, _, x12b, x12c⟩, x12d, x12e, x12f, x12g⟩, x12h, x12i, x12j, x12k⟩, ⟨x12l, x12m, x12e, x12n, x12o, x12p, x12q, x12r⟩, x12s, C_x13, (PySem.W.mg_of X G x13a), ⟨⟨⟨_, _, _, _, _, _, _, _, _, _, _, _, _, _, _, x13b, x13c⟩, x13d, x13e, x13f, x13g⟩, x13h, x13i, x13j, x13k⟩, ⟨x13l, x13m, x13e, x13n, x13o, x13p, x13q, x13r⟩, x13s, C_x14, (PySem.W.mg_of X G x14a), ⟨⟨⟨_, _, _, _, _, _, _, _, _, _, _, _, _, _, _, x14b, x14c⟩, x14d, x14e, x14f, x14g⟩, x14h, x14i, x14j, x14k⟩, ⟨x14l, x14m, x14e, x14n, x14o, x14p, x14q, x14r⟩, x14s, C_x15, (PySem.W.mg_of X G x15a), ⟨⟨⟨_, _, _, _, _, _, _, _, _, _, _, _, _, _, _, x15b, x15c⟩, x15d, x15e, x15f, x15g⟩, x15h, x15i, x15j, x15k⟩, ⟨x15l, x15m, x15e, x15n, x15o, x15p, x15q, x15r⟩, x15s, C_x16, (PySem.W.mg_of X G x16a), ⟨⟨⟨_, _, _, _, _, _, _, _, _, _, _, _, _, _, _, x16b, x16c⟩, x16d, x16e, x16f, x16g⟩, x16h, x16i, x16j, x16k⟩, ⟨x16l, x16m, x16e, x16n, x16o, x16p, x16q, x16r⟩, x16s, C_x17, (PySem.W.mg_of X G x17a), ⟨⟨⟨_, _, _, _, _, _, _, _, _, _, _, _, _, _, _, x17b, x17c⟩, x17d, x17e, x17f, x17g⟩, x17h, x17i, x17j, x17k⟩, ⟨x17l, x17m, x17e, x17n, x17o, x17p, x17q, x17r⟩, x17s, C_x18, (PySem.W.mg_of X G x18a), ⟨⟨⟨_, _, _, _, _, _, _, _, _, _, _, _, _, _, _, x18b, x18c⟩, x18d, x18e, x18f, x18g⟩, x18h, x18i, x18j, x18k⟩, ⟨x18l, x18m, x18e, x18n, x18o, x18p, x18q, x18r⟩, x18s, C_x19, (PySem.W.mg_of X G x19a), ⟨⟨⟨_, _, _, _, _, _, _, _, _, _, _, _, _, _, _, x19b, x19c⟩, x19d, x19e, x19f, x19g⟩, x19h, x19i, x19j, x19k⟩, ⟨x19l, x19m, x19e, x19n, x19o, x19p, x19q, x19r⟩, x19s, C_x20, (PySem.W.mg_of X G x20a), ⟨⟨⟨_, _, _, _, _, _, _, _, _, _, _, _, _, _, _, x20b, x20c⟩, x20d, x20e, x20f, x20g⟩, x20h, x20i, x20j, x20k⟩, ⟨x20l, x20m, x20e, x20n, x20o, x20p, x20q, x20r⟩, x20s, C_x21, (PySem.W.mg_of X G x21a), ⟨⟨⟨_, _, _, _, _, _, _, _, _, _, _, _, _, _, _, x21b, x21c⟩, x21d, x21e, x21f, x21g⟩, x21h, x21i, x21j, x21k⟩, ⟨x21l, x21m, x21e, x21n, x21o, x21p, x21q, x21r⟩, x21s, C_x22, (PySem.W.mg_of X G x22a), ⟨⟨⟨_, _, _, _, _, _, _, _, _, _, _, _, _, _, _, x22b, x22c⟩, x22d, x22e, x22f, x22g⟩, x22h, x22i, x22j, x22k⟩, ⟨x22l, x22m, x22e, x22n, x22o, x22p, x22q, x22r⟩, x22s, C_x23, (PySem.W.mg_of X G x23a), ⟨⟨⟨_, _, _, _, _, _, _, _, _, _, _, _, _, _, _, x23b, x23c⟩, x23d, x23e, x23f, x23g⟩, x23h, x23i, x23j, x23k⟩, ⟨x23l, x23m, x23e, x23n, x23o, x23p, x23q, x23r⟩, x23s, C_x24, (PySem.W.mg_of X G x24a), ⟨⟨⟨_, _, _, _, _, _, _, _, _, _, _, _, _, _, _, x24b, x24c⟩, x24d, x24e, x24f, x24g⟩, x24h, x24i, x24j, x24k⟩, ⟨x24l, x24m, x24e, x24n, x24o, x24p, x24q, x24r⟩, x24s, C_x25, (PySem.W.mg_of X G x25a), ⟨⟨⟨_, _, _, _, _, _, _, _, _, _, _, _, _, _, _, x25b, x25c⟩, x25d, x25e, x25f, x25g⟩, x25h, x25i, x25j, x25k⟩, ⟨x25l, x25m, x25e, x25n, x25o, x25p, x25q, x25r⟩, x25s, C_x26, (PySem.W.mg_of X G x26a), ⟨⟨⟨_, _, _, _, _, _, _, _, _, _, _, _, _, _, _, x26b, x26c⟩, x26d, x26e, x26f, x26g⟩, x26h, x26i, x26j, x26k⟩, ⟨x26l, x26m, x26e, x26n, x26o, x26p, x26q, x26r⟩, x26s, C_x27, (PySem.W.mg_of X G x27a), ⟨⟨⟨_, _, _, _, _, _, _, _, _, _, _, _, _, _, _, x27b, x27c⟩, x27d, x27e, x27f, x27g⟩, x27h, x27i, x27j, x27k⟩, ⟨x27l, x27m, x27e, x27n, x27o, x27p, x27q, x27r⟩, x27s, C_x28, (PySem.W.mg_of X G x28a), ⟨⟨⟨_, _, _, _, _, _, _, _, _, _, _, _, _, _, _, x28b, x28c⟩, x28d, x28e, x28f, x28g⟩, x28h, x28i, x28j, x28k⟩, ⟨x28l, x28m, x28e, x28n, x28o, x28p, x28q, x28r⟩, x28s, xm_OpenpostsError_InvalidPlace, xm_OpenpostsError_OpenpostsError, xm_InvalidNumber_InvalidPlace, xm_InvalidNumber_OpenpostsError, xm_InvalidWord_InvalidPlace, xm_InvalidWord_OpenpostsError, xm_InvalidWords_InvalidPlace, xm_InvalidWords_OpenpostsError, xm_InvalidPlace_InvalidPlace, xm_InvalidPlace_OpenpostsError, xm_UnlikeLengths_InvalidPlace, xm_UnlikeLengths_OpenpostsError, xm_InvalidHouse_InvalidPlace, xm_InvalidHouse_OpenpostsError, xm_InvalidHouses_InvalidPlace, xm_InvalidHouses_OpenpostsError, xm_InvalidTie_InvalidPlace, xm_InvalidTie_OpenpostsError, xm_InvalidTies_InvalidPlace, xm_InvalidTies_OpenpostsError, xm_InvalidWeb_InvalidPlace, xm_InvalidWeb_OpenpostsError, xm_InvalidOrder_InvalidPlace, xm_InvalidOrder_OpenpostsError, xm_InvalidText_InvalidPlace, xm_InvalidText_OpenpostsError, xm_InvalidAddresses_InvalidPlace, xm_InvalidAddresses_OpenpostsError, xm_InvalidParents_InvalidPlace, xm_InvalidParents_OpenpostsError, xm_InvalidTree_InvalidPlace, xm_InvalidTree_OpenpostsError, xm_InvalidPairs_InvalidPlace, xm_InvalidPairs_OpenpostsError, xm_InvalidRow_InvalidPlace, xm_InvalidRow_OpenpostsError, xm_InvalidSide_InvalidPlace, xm_InvalidSide_OpenpostsError, xm_InvalidName_InvalidPlace, xm_InvalidName_OpenpostsError, xm_InvalidDeed_InvalidPlace, xm_InvalidDeed_OpenpostsError, xm_InvalidDeeds_InvalidPlace, xm_InvalidDeeds_OpenpostsError, xm_InvalidLine_InvalidPlace, xm_InvalidLine_OpenpostsError, xm_UnknownName_InvalidPlace, xm_UnknownName_OpenpostsError, xm_NameTaken_InvalidPlace, xm_NameTaken_OpenpostsError, xm_NotJoined_InvalidPlace, xm_NotJoined_OpenpostsError, xm_NotKept_InvalidPlace, xm_NotKept_OpenpostsError, xm_TooLarge_InvalidPlace, xm_TooLarge_OpenpostsError, xm_NothingToUndo_InvalidPlace, xm_NothingToUndo_OpenpostsError, kx⟩
  exact ⟨PySem.W.fnOf "law" "law" (defArgs s_law) (defBody s_law) (defScope s_law) .none kV11 dc11 pm11 an11 cd11 ct11, fun s v => .of_eq rfl, fun base _ _ => (G_law_end T F11).imp (DN.law_sp (Z := zt T) law_true)⟩
def ck_0 (K : PySem.W.Frag) : Bool := decide (PySem.W.nsIn K mainGlobals "_law_box" = some (some (.ref (He.ga K "_law_box")))) && (decide (PySem.W.keepIn K (.ref (He.ga K "_law_box")) = true) && (decide (DN.fnB K (He.ga K "_law_box") (DN.fn0B K "_law_box") = true) && (true)))
theorem ok_0 {K : PySem.W.Frag} (h : ck_0 K = true) : (PySem.W.nsIn K mainGlobals "_law_box" = some (some (.ref (He.ga K "_law_box")))) ∧ (PySem.W.keepIn K (.ref (He.ga K "_law_box")) = true) ∧ (DN.fnB K (He.ga K "_law_box") (DN.fn0B K "_law_box") = true) ∧ True := by
  unfold ck_0 at h
  obtain ⟨e0, h⟩ := DN.an2 h
  obtain ⟨e1, h⟩ := DN.an2 h
  obtain ⟨e2, h⟩ := DN.an2 h
  exact ⟨e0, e1, e2, trivial⟩
def ck_1 (K : PySem.W.Frag) : Bool := decide (PySem.W.nsIn K mainGlobals "_law_take" = some (some (.ref (He.ga K "_law_take")))) && (decide (PySem.W.keepIn K (.ref (He.ga K "_law_take")) = true) && (decide (DN.fnB K (He.ga K "_law_take") (DN.fn0B K "_law_take") = true) && (true)))
theorem ok_1 {K : PySem.W.Frag} (h : ck_1 K = true) : (PySem.W.nsIn K mainGlobals "_law_take" = some (some (.ref (He.ga K "_law_take")))) ∧ (PySem.W.keepIn K (.ref (He.ga K "_law_take")) = true) ∧ (DN.fnB K (He.ga K "_law_take") (DN.fn0B K "_law_take") = true) ∧ True := by
  unfold ck_1 at h
  obtain ⟨e0, h⟩ := DN.an2 h
  obtain ⟨e1, h⟩ := DN.an2 h
  obtain ⟨e2, h⟩ := DN.an2 h
  exact ⟨e0, e1, e2, trivial⟩
def ck_2 (K : PySem.W.Frag) : Bool := decide (PySem.W.nsIn K mainGlobals "_law_values" = some (some (.ref (He.ga K "_law_values")))) && (decide (PySem.W.keepIn K (.ref (He.ga K "_law_values")) = true) && (decide (DN.fnB K (He.ga K "_law_values") (DN.fn0B K "_law_values") = true) && (true)))
theorem ok_2 {K : PySem.W.Frag} (h : ck_2 K = true) : (PySem.W.nsIn K mainGlobals "_law_values" = some (some (.ref (He.ga K "_law_values")))) ∧ (PySem.W.keepIn K (.ref (He.ga K "_law_values")) = true) ∧ (DN.fnB K (He.ga K "_law_values") (DN.fn0B K "_law_values") = true) ∧ True := by
  unfold ck_2 at h
  obtain ⟨e0, h⟩ := DN.an2 h
  obtain ⟨e1, h⟩ := DN.an2 h
  obtain ⟨e2, h⟩ := DN.an2 h
  exact ⟨e0, e1, e2, trivial⟩
def ck_3 (K : PySem.W.Frag) : Bool := decide (PySem.W.nsIn K mainGlobals "_law_cell_at" = some (some (.ref (He.ga K "_law_cell_at")))) && (decide (PySem.W.keepIn K (.ref (He.ga K "_law_cell_at")) = true) && (decide (DN.fnB K (He.ga K "_law_cell_at") (DN.fn0B K "_law_cell_at") = true) && (true)))
theorem ok_3 {K : PySem.W.Frag} (h : ck_3 K = true) : (PySem.W.nsIn K mainGlobals "_law_cell_at" = some (some (.ref (He.ga K "_law_cell_at")))) ∧ (PySem.W.keepIn K (.ref (He.ga K "_law_cell_at")) = true) ∧ (DN.fnB K (He.ga K "_law_cell_at") (DN.fn0B K "_law_cell_at") = true) ∧ True := by
  unfold ck_3 at h
  obtain ⟨e0, h⟩ := DN.an2 h
  obtain ⟨e1, h⟩ := DN.an2 h
  obtain ⟨e2, h⟩ := DN.an2 h
  exact ⟨e0, e1, e2, trivial⟩
def ck_4 (K : PySem.W.Frag) : Bool := decide (PySem.W.nsIn K mainGlobals "_law_first" = some (some (.ref (He.ga K "_law_first")))) && (decide (PySem.W.keepIn K (.ref (He.ga K "_law_first")) = true) && (decide (DN.fnB K (He.ga K "_law_first") (DN.fn0B K "_law_first") = true) && (true)))
theorem ok_4 {K : PySem.W.Frag} (h : ck_4 K = true) : (PySem.W.nsIn K mainGlobals "_law_first" = some (some (.ref (He.ga K "_law_first")))) ∧ (PySem.W.keepIn K (.ref (He.ga K "_law_first")) = true) ∧ (DN.fnB K (He.ga K "_law_first") (DN.fn0B K "_law_first") = true) ∧ True := by
  unfold ck_4 at h
  obtain ⟨e0, h⟩ := DN.an2 h
  obtain ⟨e1, h⟩ := DN.an2 h
  obtain ⟨e2, h⟩ := DN.an2 h
  exact ⟨e0, e1, e2, trivial⟩
def ck_5 (K : PySem.W.Frag) : Bool := decide (PySem.W.nsIn K mainGlobals "_law_second" = some (some (.ref (He.ga K "_law_second")))) && (decide (PySem.W.keepIn K (.ref (He.ga K "_law_second")) = true) && (decide (DN.fnB K (He.ga K "_law_second") (DN.fn0B K "_law_second") = true) && (true)))
theorem ok_5 {K : PySem.W.Frag} (h : ck_5 K = true) : (PySem.W.nsIn K mainGlobals "_law_second" = some (some (.ref (He.ga K "_law_second")))) ∧ (PySem.W.keepIn K (.ref (He.ga K "_law_second")) = true) ∧ (DN.fnB K (He.ga K "_law_second") (DN.fn0B K "_law_second") = true) ∧ True := by
  unfold ck_5 at h
  obtain ⟨e0, h⟩ := DN.an2 h
  obtain ⟨e1, h⟩ := DN.an2 h
  obtain ⟨e2, h⟩ := DN.an2 h
  exact ⟨e0, e1, e2, trivial⟩
def ck_6 (K : PySem.W.Frag) : Bool := decide (PySem.W.nsIn K mainGlobals "_law_third" = some (some (.ref (He.ga K "_law_third")))) && (decide (PySem.W.keepIn K (.ref (He.ga K "_law_third")) = true) && (decide (DN.fnB K (He.ga K "_law_third") (DN.fn0B K "_law_third") = true) && (true)))
theorem ok_6 {K : PySem.W.Frag} (h : ck_6 K = true) : (PySem.W.nsIn K mainGlobals "_law_third" = some (some (.ref (He.ga K "_law_third")))) ∧ (PySem.W.keepIn K (.ref (He.ga K "_law_third")) = true) ∧ (DN.fnB K (He.ga K "_law_third") (DN.fn0B K "_law_third") = true) ∧ True := by
  unfold ck_6 at h
  obtain ⟨e0, h⟩ := DN.an2 h
  obtain ⟨e1, h⟩ := DN.an2 h
  obtain ⟨e2, h⟩ := DN.an2 h
  exact ⟨e0, e1, e2, trivial⟩
def ck_7 (K : PySem.W.Frag) : Bool := decide (PySem.W.nsIn K mainGlobals "_law_made" = some (some (.ref (He.ga K "_law_made")))) && (decide (PySem.W.keepIn K (.ref (He.ga K "_law_made")) = true) && (decide (DN.fnB K (He.ga K "_law_made") (DN.fn0B K "_law_made") = true) && (true)))
theorem ok_7 {K : PySem.W.Frag} (h : ck_7 K = true) : (PySem.W.nsIn K mainGlobals "_law_made" = some (some (.ref (He.ga K "_law_made")))) ∧ (PySem.W.keepIn K (.ref (He.ga K "_law_made")) = true) ∧ (DN.fnB K (He.ga K "_law_made") (DN.fn0B K "_law_made") = true) ∧ True := by
  unfold ck_7 at h
  obtain ⟨e0, h⟩ := DN.an2 h
  obtain ⟨e1, h⟩ := DN.an2 h
  obtain ⟨e2, h⟩ := DN.an2 h
  exact ⟨e0, e1, e2, trivial⟩
def ck_8 (K : PySem.W.Frag) : Bool := decide (PySem.W.nsIn K mainGlobals "_law_is" = some (some (.ref (He.ga K "_law_is")))) && (decide (PySem.W.keepIn K (.ref (He.ga K "_law_is")) = true) && (decide (DN.fnB K (He.ga K "_law_is") (DN.fn0B K "_law_is") = true) && (true)))
theorem ok_8 {K : PySem.W.Frag} (h : ck_8 K = true) : (PySem.W.nsIn K mainGlobals "_law_is" = some (some (.ref (He.ga K "_law_is")))) ∧ (PySem.W.keepIn K (.ref (He.ga K "_law_is")) = true) ∧ (DN.fnB K (He.ga K "_law_is") (DN.fn0B K "_law_is") = true) ∧ True := by
  unfold ck_8 at h
  obtain ⟨e0, h⟩ := DN.an2 h
  obtain ⟨e1, h⟩ := DN.an2 h
  obtain ⟨e2, h⟩ := DN.an2 h
  exact ⟨e0, e1, e2, trivial⟩
def ck_9 (K : PySem.W.Frag) : Bool := decide (PySem.W.nsIn K mainGlobals "_law_raised" = some (some (.ref (He.ga K "_law_raised")))) && (decide (PySem.W.keepIn K (.ref (He.ga K "_law_raised")) = true) && (decide (DN.fnB K (He.ga K "_law_raised") (DN.fn0B K "_law_raised") = true) && (true)))
theorem ok_9 {K : PySem.W.Frag} (h : ck_9 K = true) : (PySem.W.nsIn K mainGlobals "_law_raised" = some (some (.ref (He.ga K "_law_raised")))) ∧ (PySem.W.keepIn K (.ref (He.ga K "_law_raised")) = true) ∧ (DN.fnB K (He.ga K "_law_raised") (DN.fn0B K "_law_raised") = true) ∧ True := by
  unfold ck_9 at h
  obtain ⟨e0, h⟩ := DN.an2 h
  obtain ⟨e1, h⟩ := DN.an2 h
  obtain ⟨e2, h⟩ := DN.an2 h
  exact ⟨e0, e1, e2, trivial⟩
def ck_10 (K : PySem.W.Frag) : Bool := decide (PySem.W.nsIn K mainGlobals "law" = some (some (.ref (He.ga K "law")))) && (decide (PySem.W.keepIn K (.ref (He.ga K "law")) = true) && (decide (DN.fnB K (He.ga K "law") (DN.fn0B K "law") = true) && (true)))
theorem ok_10 {K : PySem.W.Frag} (h : ck_10 K = true) : (PySem.W.nsIn K mainGlobals "law" = some (some (.ref (He.ga K "law")))) ∧ (PySem.W.keepIn K (.ref (He.ga K "law")) = true) ∧ (DN.fnB K (He.ga K "law") (DN.fn0B K "law") = true) ∧ True := by
  unfold ck_10 at h
  obtain ⟨e0, h⟩ := DN.an2 h
  obtain ⟨e1, h⟩ := DN.an2 h
  obtain ⟨e2, h⟩ := DN.an2 h
  exact ⟨e0, e1, e2, trivial⟩
def ck_11 (K : PySem.W.Frag) : Bool := decide (PySem.W.nsIn K mainGlobals "OpenpostsError" = some (some (.ref (He.ga K "OpenpostsError")))) && (decide (PySem.W.findIn K (.ref (He.ga K "OpenpostsError")) "__init__" = some (some (.ref (He.ma K (He.ga K "OpenpostsError") "__init__")))) && (decide (PySem.W.typeIn K (.ref (He.ma K (He.ga K "OpenpostsError") "__init__")) = some (.type "function")) && (decide (PySem.W.nsIn K cStatics "thirdparty.any" = some none) && (decide (PySem.W.nsIn K mainGlobals "super" = some none) && (decide (DN.fnB K (He.ma K (He.ga K "OpenpostsError") "__init__") (DN.initB PP K (He.ga K "OpenpostsError")) = true) && (decide ((PySem.W.clsIn K (He.ga K "OpenpostsError")).isSome = true) && (true)))))))
theorem ok_11 {K : PySem.W.Frag} (h : ck_11 K = true) : (PySem.W.nsIn K mainGlobals "OpenpostsError" = some (some (.ref (He.ga K "OpenpostsError")))) ∧ (PySem.W.findIn K (.ref (He.ga K "OpenpostsError")) "__init__" = some (some (.ref (He.ma K (He.ga K "OpenpostsError") "__init__")))) ∧ (PySem.W.typeIn K (.ref (He.ma K (He.ga K "OpenpostsError") "__init__")) = some (.type "function")) ∧ (PySem.W.nsIn K cStatics "thirdparty.any" = some none) ∧ (PySem.W.nsIn K mainGlobals "super" = some none) ∧ (DN.fnB K (He.ma K (He.ga K "OpenpostsError") "__init__") (DN.initB PP K (He.ga K "OpenpostsError")) = true) ∧ ((PySem.W.clsIn K (He.ga K "OpenpostsError")).isSome = true) ∧ True := by
  unfold ck_11 at h
  obtain ⟨e0, h⟩ := DN.an2 h
  obtain ⟨e1, h⟩ := DN.an2 h
  obtain ⟨e2, h⟩ := DN.an2 h
  obtain ⟨e3, h⟩ := DN.an2 h
  obtain ⟨e4, h⟩ := DN.an2 h
  obtain ⟨e5, h⟩ := DN.an2 h
  obtain ⟨e6, h⟩ := DN.an2 h
  exact ⟨e0, e1, e2, e3, e4, e5, e6, trivial⟩
def ck_12 (K : PySem.W.Frag) : Bool := decide (PySem.W.nsIn K mainGlobals "OpenpostsError" = some (some (.ref (He.ga K "OpenpostsError")))) && (decide (PySem.W.findIn K (.ref (He.ga K "OpenpostsError")) "__setattr__" = some (some (.builtin "object.__setattr__"))) && (decide (PySem.W.subIn K (.ref (He.ga K "OpenpostsError")) (.type "BaseException") = some true) && (decide (PySem.W.typeIn K (.ref (He.ga K "OpenpostsError")) = some (.type "type")) && (decide (PySem.W.keepIn K (.ref (He.ga K "OpenpostsError")) = true) && (decide (PySem.W.mroIn K (He.ga K "OpenpostsError") (.ref (He.ga K "OpenpostsError")) = some true) && (decide (PySem.W.ks_superIn K (He.ga K "OpenpostsError") (He.ga K "OpenpostsError") "__init__" = some (some (.builtin "ValueError.__init__"))) && (decide (PySem.W.subIn K (.ref (He.ga K "OpenpostsError")) (.type "ValueError") = some true) && (decide (PySem.W.findIn K (.ref (He.ga K "OpenpostsError")) "value" = some none) && (decide (PySem.W.findIn K (.ref (He.ga K "OpenpostsError")) "__getattribute__" = some (some (.builtin "BaseException.__getattribute__"))) && (decide (PySem.W.findIn K (.ref (He.ga K "OpenpostsError")) "__getattr__" = some none) && (decide (PySem.W.hasDictIn K (He.ga K "OpenpostsError") = true) && (decide (PySem.W.findIn K (.ref (He.ga K "OpenpostsError")) "__class__" = some (some (.builtin "object.__class__"))) && (decide (PySem.W.specialIn K (.builtin "object.__class__") "__get__" = some (some (.builtin "getset_descriptor.__get__"))) && (decide (PySem.W.takesIn K (.builtin "object.__class__") = some true) && (decide (PySem.W.mroIn K (He.ga K "OpenpostsError") (.type "object") = some true) && (decide (PySem.W.findIn K (.ref (He.ga K "OpenpostsError")) "__init__" = some (some (.ref (He.ma K (He.ga K "OpenpostsError") "__init__")))) && (decide (DN.excB K (He.ga K "OpenpostsError") = true) && (true))))))))))))))))))
theorem ok_12 {K : PySem.W.Frag} (h : ck_12 K = true) : (PySem.W.nsIn K mainGlobals "OpenpostsError" = some (some (.ref (He.ga K "OpenpostsError")))) ∧ (PySem.W.findIn K (.ref (He.ga K "OpenpostsError")) "__setattr__" = some (some (.builtin "object.__setattr__"))) ∧ (PySem.W.subIn K (.ref (He.ga K "OpenpostsError")) (.type "BaseException") = some true) ∧ (PySem.W.typeIn K (.ref (He.ga K "OpenpostsError")) = some (.type "type")) ∧ (PySem.W.keepIn K (.ref (He.ga K "OpenpostsError")) = true) ∧ (PySem.W.mroIn K (He.ga K "OpenpostsError") (.ref (He.ga K "OpenpostsError")) = some true) ∧ (PySem.W.ks_superIn K (He.ga K "OpenpostsError") (He.ga K "OpenpostsError") "__init__" = some (some (.builtin "ValueError.__init__"))) ∧ (PySem.W.subIn K (.ref (He.ga K "OpenpostsError")) (.type "ValueError") = some true) ∧ (PySem.W.findIn K (.ref (He.ga K "OpenpostsError")) "value" = some none) ∧ (PySem.W.findIn K (.ref (He.ga K "OpenpostsError")) "__getattribute__" = some (some (.builtin "BaseException.__getattribute__"))) ∧ (PySem.W.findIn K (.ref (He.ga K "OpenpostsError")) "__getattr__" = some none) ∧ (PySem.W.hasDictIn K (He.ga K "OpenpostsError") = true) ∧ (PySem.W.findIn K (.ref (He.ga K "OpenpostsError")) "__class__" = some (some (.builtin "object.__class__"))) ∧ (PySem.W.specialIn K (.builtin "object.__class__") "__get__" = some (some (.builtin "getset_descriptor.__get__"))) ∧ (PySem.W.takesIn K (.builtin "object.__class__") = some true) ∧ (PySem.W.mroIn K (He.ga K "OpenpostsError") (.type "object") = some true) ∧ (PySem.W.findIn K (.ref (He.ga K "OpenpostsError")) "__init__" = some (some (.ref (He.ma K (He.ga K "OpenpostsError") "__init__")))) ∧ (DN.excB K (He.ga K "OpenpostsError") = true) ∧ True := by
  unfold ck_12 at h
  obtain ⟨e0, h⟩ := DN.an2 h
  obtain ⟨e1, h⟩ := DN.an2 h
  obtain ⟨e2, h⟩ := DN.an2 h
  obtain ⟨e3, h⟩ := DN.an2 h
  obtain ⟨e4, h⟩ := DN.an2 h
  obtain ⟨e5, h⟩ := DN.an2 h
  obtain ⟨e6, h⟩ := DN.an2 h
  obtain ⟨e7, h⟩ := DN.an2 h
  obtain ⟨e8, h⟩ := DN.an2 h
  obtain ⟨e9, h⟩ := DN.an2 h
  obtain ⟨e10, h⟩ := DN.an2 h
  obtain ⟨e11, h⟩ := DN.an2 h
  obtain ⟨e12, h⟩ := DN.an2 h
  obtain ⟨e13, h⟩ := DN.an2 h
  obtain ⟨e14, h⟩ := DN.an2 h
  obtain ⟨e15, h⟩ := DN.an2 h
  obtain ⟨e16, h⟩ := DN.an2 h
  obtain ⟨e17, h⟩ := DN.an2 h
  exact ⟨e0, e1, e2, e3, e4, e5, e6, e7, e8, e9, e10, e11, e12, e13, e14, e15, e16, e17, trivial⟩
def ck_13 (K : PySem.W.Frag) : Bool := decide (PySem.W.nsIn K mainGlobals "InvalidNumber" = some (some (.ref (He.ga K "InvalidNumber")))) && (decide (PySem.W.findIn K (.ref (He.ga K "InvalidNumber")) "__setattr__" = some (some (.builtin "object.__setattr__"))) && (decide (PySem.W.subIn K (.ref (He.ga K "InvalidNumber")) (.type "BaseException") = some true) && (decide (PySem.W.typeIn K (.ref (He.ga K "InvalidNumber")) = some (.type "type")) && (decide (PySem.W.keepIn K (.ref (He.ga K "InvalidNumber")) = true) && (decide (PySem.W.mroIn K (He.ga K "InvalidNumber") (.ref (He.ga K "OpenpostsError")) = some true) && (decide (PySem.W.ks_superIn K (He.ga K "InvalidNumber") (He.ga K "OpenpostsError") "__init__" = some (some (.builtin "ValueError.__init__"))) && (decide (PySem.W.subIn K (.ref (He.ga K "InvalidNumber")) (.type "ValueError") = some true) && (decide (PySem.W.findIn K (.ref (He.ga K "InvalidNumber")) "value" = some none) && (decide (PySem.W.findIn K (.ref (He.ga K "InvalidNumber")) "__getattribute__" = some (some (.builtin "BaseException.__getattribute__"))) && (decide (PySem.W.findIn K (.ref (He.ga K "InvalidNumber")) "__getattr__" = some none) && (decide (PySem.W.hasDictIn K (He.ga K "InvalidNumber") = true) && (decide (PySem.W.findIn K (.ref (He.ga K "InvalidNumber")) "__class__" = some (some (.builtin "object.__class__"))) && (decide (PySem.W.specialIn K (.builtin "object.__class__") "__get__" = some (some (.builtin "getset_descriptor.__get__"))) && (decide (PySem.W.takesIn K (.builtin "object.__class__") = some true) && (decide (PySem.W.mroIn K (He.ga K "InvalidNumber") (.type "object") = some true) && (decide (PySem.W.findIn K (.ref (He.ga K "InvalidNumber")) "__init__" = some (some (.ref (He.ma K (He.ga K "OpenpostsError") "__init__")))) && (decide (DN.excB K (He.ga K "InvalidNumber") = true) && (true))))))))))))))))))
theorem ok_13 {K : PySem.W.Frag} (h : ck_13 K = true) : (PySem.W.nsIn K mainGlobals "InvalidNumber" = some (some (.ref (He.ga K "InvalidNumber")))) ∧ (PySem.W.findIn K (.ref (He.ga K "InvalidNumber")) "__setattr__" = some (some (.builtin "object.__setattr__"))) ∧ (PySem.W.subIn K (.ref (He.ga K "InvalidNumber")) (.type "BaseException") = some true) ∧ (PySem.W.typeIn K (.ref (He.ga K "InvalidNumber")) = some (.type "type")) ∧ (PySem.W.keepIn K (.ref (He.ga K "InvalidNumber")) = true) ∧ (PySem.W.mroIn K (He.ga K "InvalidNumber") (.ref (He.ga K "OpenpostsError")) = some true) ∧ (PySem.W.ks_superIn K (He.ga K "InvalidNumber") (He.ga K "OpenpostsError") "__init__" = some (some (.builtin "ValueError.__init__"))) ∧ (PySem.W.subIn K (.ref (He.ga K "InvalidNumber")) (.type "ValueError") = some true) ∧ (PySem.W.findIn K (.ref (He.ga K "InvalidNumber")) "value" = some none) ∧ (PySem.W.findIn K (.ref (He.ga K "InvalidNumber")) "__getattribute__" = some (some (.builtin "BaseException.__getattribute__"))) ∧ (PySem.W.findIn K (.ref (He.ga K "InvalidNumber")) "__getattr__" = some none) ∧ (PySem.W.hasDictIn K (He.ga K "InvalidNumber") = true) ∧ (PySem.W.findIn K (.ref (He.ga K "InvalidNumber")) "__class__" = some (some (.builtin "object.__class__"))) ∧ (PySem.W.specialIn K (.builtin "object.__class__") "__get__" = some (some (.builtin "getset_descriptor.__get__"))) ∧ (PySem.W.takesIn K (.builtin "object.__class__") = some true) ∧ (PySem.W.mroIn K (He.ga K "InvalidNumber") (.type "object") = some true) ∧ (PySem.W.findIn K (.ref (He.ga K "InvalidNumber")) "__init__" = some (some (.ref (He.ma K (He.ga K "OpenpostsError") "__init__")))) ∧ (DN.excB K (He.ga K "InvalidNumber") = true) ∧ True := by
  unfold ck_13 at h
  obtain ⟨e0, h⟩ := DN.an2 h
  obtain ⟨e1, h⟩ := DN.an2 h
  obtain ⟨e2, h⟩ := DN.an2 h
  obtain ⟨e3, h⟩ := DN.an2 h
  obtain ⟨e4, h⟩ := DN.an2 h
  obtain ⟨e5, h⟩ := DN.an2 h
  obtain ⟨e6, h⟩ := DN.an2 h
  obtain ⟨e7, h⟩ := DN.an2 h
  obtain ⟨e8, h⟩ := DN.an2 h
  obtain ⟨e9, h⟩ := DN.an2 h
  obtain ⟨e10, h⟩ := DN.an2 h
  obtain ⟨e11, h⟩ := DN.an2 h
  obtain ⟨e12, h⟩ := DN.an2 h
  obtain ⟨e13, h⟩ := DN.an2 h
  obtain ⟨e14, h⟩ := DN.an2 h
  obtain ⟨e15, h⟩ := DN.an2 h
  obtain ⟨e16, h⟩ := DN.an2 h
  obtain ⟨e17, h⟩ := DN.an2 h
  exact ⟨e0, e1, e2, e3, e4, e5, e6, e7, e8, e9, e10, e11, e12, e13, e14, e15, e16, e17, trivial⟩
def ck_14 (K : PySem.W.Frag) : Bool := decide (PySem.W.nsIn K mainGlobals "InvalidWord" = some (some (.ref (He.ga K "InvalidWord")))) && (decide (PySem.W.findIn K (.ref (He.ga K "InvalidWord")) "__setattr__" = some (some (.builtin "object.__setattr__"))) && (decide (PySem.W.subIn K (.ref (He.ga K "InvalidWord")) (.type "BaseException") = some true) && (decide (PySem.W.typeIn K (.ref (He.ga K "InvalidWord")) = some (.type "type")) && (decide (PySem.W.keepIn K (.ref (He.ga K "InvalidWord")) = true) && (decide (PySem.W.mroIn K (He.ga K "InvalidWord") (.ref (He.ga K "OpenpostsError")) = some true) && (decide (PySem.W.ks_superIn K (He.ga K "InvalidWord") (He.ga K "OpenpostsError") "__init__" = some (some (.builtin "ValueError.__init__"))) && (decide (PySem.W.subIn K (.ref (He.ga K "InvalidWord")) (.type "ValueError") = some true) && (decide (PySem.W.findIn K (.ref (He.ga K "InvalidWord")) "value" = some none) && (decide (PySem.W.findIn K (.ref (He.ga K "InvalidWord")) "__getattribute__" = some (some (.builtin "BaseException.__getattribute__"))) && (decide (PySem.W.findIn K (.ref (He.ga K "InvalidWord")) "__getattr__" = some none) && (decide (PySem.W.hasDictIn K (He.ga K "InvalidWord") = true) && (decide (PySem.W.findIn K (.ref (He.ga K "InvalidWord")) "__class__" = some (some (.builtin "object.__class__"))) && (decide (PySem.W.specialIn K (.builtin "object.__class__") "__get__" = some (some (.builtin "getset_descriptor.__get__"))) && (decide (PySem.W.takesIn K (.builtin "object.__class__") = some true) && (decide (PySem.W.mroIn K (He.ga K "InvalidWord") (.type "object") = some true) && (decide (PySem.W.findIn K (.ref (He.ga K "InvalidWord")) "__init__" = some (some (.ref (He.ma K (He.ga K "OpenpostsError") "__init__")))) && (decide (DN.excB K (He.ga K "InvalidWord") = true) && (true))))))))))))))))))
theorem ok_14 {K : PySem.W.Frag} (h : ck_14 K = true) : (PySem.W.nsIn K mainGlobals "InvalidWord" = some (some (.ref (He.ga K "InvalidWord")))) ∧ (PySem.W.findIn K (.ref (He.ga K "InvalidWord")) "__setattr__" = some (some (.builtin "object.__setattr__"))) ∧ (PySem.W.subIn K (.ref (He.ga K "InvalidWord")) (.type "BaseException") = some true) ∧ (PySem.W.typeIn K (.ref (He.ga K "InvalidWord")) = some (.type "type")) ∧ (PySem.W.keepIn K (.ref (He.ga K "InvalidWord")) = true) ∧ (PySem.W.mroIn K (He.ga K "InvalidWord") (.ref (He.ga K "OpenpostsError")) = some true) ∧ (PySem.W.ks_superIn K (He.ga K "InvalidWord") (He.ga K "OpenpostsError") "__init__" = some (some (.builtin "ValueError.__init__"))) ∧ (PySem.W.subIn K (.ref (He.ga K "InvalidWord")) (.type "ValueError") = some true) ∧ (PySem.W.findIn K (.ref (He.ga K "InvalidWord")) "value" = some none) ∧ (PySem.W.findIn K (.ref (He.ga K "InvalidWord")) "__getattribute__" = some (some (.builtin "BaseException.__getattribute__"))) ∧ (PySem.W.findIn K (.ref (He.ga K "InvalidWord")) "__getattr__" = some none) ∧ (PySem.W.hasDictIn K (He.ga K "InvalidWord") = true) ∧ (PySem.W.findIn K (.ref (He.ga K "InvalidWord")) "__class__" = some (some (.builtin "object.__class__"))) ∧ (PySem.W.specialIn K (.builtin "object.__class__") "__get__" = some (some (.builtin "getset_descriptor.__get__"))) ∧ (PySem.W.takesIn K (.builtin "object.__class__") = some true) ∧ (PySem.W.mroIn K (He.ga K "InvalidWord") (.type "object") = some true) ∧ (PySem.W.findIn K (.ref (He.ga K "InvalidWord")) "__init__" = some (some (.ref (He.ma K (He.ga K "OpenpostsError") "__init__")))) ∧ (DN.excB K (He.ga K "InvalidWord") = true) ∧ True := by
  unfold ck_14 at h
  obtain ⟨e0, h⟩ := DN.an2 h
  obtain ⟨e1, h⟩ := DN.an2 h
  obtain ⟨e2, h⟩ := DN.an2 h
  obtain ⟨e3, h⟩ := DN.an2 h
  obtain ⟨e4, h⟩ := DN.an2 h
  obtain ⟨e5, h⟩ := DN.an2 h
  obtain ⟨e6, h⟩ := DN.an2 h
  obtain ⟨e7, h⟩ := DN.an2 h
  obtain ⟨e8, h⟩ := DN.an2 h
  obtain ⟨e9, h⟩ := DN.an2 h
  obtain ⟨e10, h⟩ := DN.an2 h
  obtain ⟨e11, h⟩ := DN.an2 h
  obtain ⟨e12, h⟩ := DN.an2 h
  obtain ⟨e13, h⟩ := DN.an2 h
  obtain ⟨e14, h⟩ := DN.an2 h
  obtain ⟨e15, h⟩ := DN.an2 h
  obtain ⟨e16, h⟩ := DN.an2 h
  obtain ⟨e17, h⟩ := DN.an2 h
  exact ⟨e0, e1, e2, e3, e4, e5, e6, e7, e8, e9, e10, e11, e12, e13, e14, e15, e16, e17, trivial⟩
def ck_15 (K : PySem.W.Frag) : Bool := decide (PySem.W.nsIn K mainGlobals "InvalidWords" = some (some (.ref (He.ga K "InvalidWords")))) && (decide (PySem.W.findIn K (.ref (He.ga K "InvalidWords")) "__setattr__" = some (some (.builtin "object.__setattr__"))) && (decide (PySem.W.subIn K (.ref (He.ga K "InvalidWords")) (.type "BaseException") = some true) && (decide (PySem.W.typeIn K (.ref (He.ga K "InvalidWords")) = some (.type "type")) && (decide (PySem.W.keepIn K (.ref (He.ga K "InvalidWords")) = true) && (decide (PySem.W.mroIn K (He.ga K "InvalidWords") (.ref (He.ga K "OpenpostsError")) = some true) && (decide (PySem.W.ks_superIn K (He.ga K "InvalidWords") (He.ga K "OpenpostsError") "__init__" = some (some (.builtin "ValueError.__init__"))) && (decide (PySem.W.subIn K (.ref (He.ga K "InvalidWords")) (.type "ValueError") = some true) && (decide (PySem.W.findIn K (.ref (He.ga K "InvalidWords")) "value" = some none) && (decide (PySem.W.findIn K (.ref (He.ga K "InvalidWords")) "__getattribute__" = some (some (.builtin "BaseException.__getattribute__"))) && (decide (PySem.W.findIn K (.ref (He.ga K "InvalidWords")) "__getattr__" = some none) && (decide (PySem.W.hasDictIn K (He.ga K "InvalidWords") = true) && (decide (PySem.W.findIn K (.ref (He.ga K "InvalidWords")) "__class__" = some (some (.builtin "object.__class__"))) && (decide (PySem.W.specialIn K (.builtin "object.__class__") "__get__" = some (some (.builtin "getset_descriptor.__get__"))) && (decide (PySem.W.takesIn K (.builtin "object.__class__") = some true) && (decide (PySem.W.mroIn K (He.ga K "InvalidWords") (.type "object") = some true) && (decide (PySem.W.findIn K (.ref (He.ga K "InvalidWords")) "__init__" = some (some (.ref (He.ma K (He.ga K "OpenpostsError") "__init__")))) && (decide (DN.excB K (He.ga K "InvalidWords") = true) && (true))))))))))))))))))
theorem ok_15 {K : PySem.W.Frag} (h : ck_15 K = true) : (PySem.W.nsIn K mainGlobals "InvalidWords" = some (some (.ref (He.ga K "InvalidWords")))) ∧ (PySem.W.findIn K (.ref (He.ga K "InvalidWords")) "__setattr__" = some (some (.builtin "object.__setattr__"))) ∧ (PySem.W.subIn K (.ref (He.ga K "InvalidWords")) (.type "BaseException") = some true) ∧ (PySem.W.typeIn K (.ref (He.ga K "InvalidWords")) = some (.type "type")) ∧ (PySem.W.keepIn K (.ref (He.ga K "InvalidWords")) = true) ∧ (PySem.W.mroIn K (He.ga K "InvalidWords") (.ref (He.ga K "OpenpostsError")) = some true) ∧ (PySem.W.ks_superIn K (He.ga K "InvalidWords") (He.ga K "OpenpostsError") "__init__" = some (some (.builtin "ValueError.__init__"))) ∧ (PySem.W.subIn K (.ref (He.ga K "InvalidWords")) (.type "ValueError") = some true) ∧ (PySem.W.findIn K (.ref (He.ga K "InvalidWords")) "value" = some none) ∧ (PySem.W.findIn K (.ref (He.ga K "InvalidWords")) "__getattribute__" = some (some (.builtin "BaseException.__getattribute__"))) ∧ (PySem.W.findIn K (.ref (He.ga K "InvalidWords")) "__getattr__" = some none) ∧ (PySem.W.hasDictIn K (He.ga K "InvalidWords") = true) ∧ (PySem.W.findIn K (.ref (He.ga K "InvalidWords")) "__class__" = some (some (.builtin "object.__class__"))) ∧ (PySem.W.specialIn K (.builtin "object.__class__") "__get__" = some (some (.builtin "getset_descriptor.__get__"))) ∧ (PySem.W.takesIn K (.builtin "object.__class__") = some true) ∧ (PySem.W.mroIn K (He.ga K "InvalidWords") (.type "object") = some true) ∧ (PySem.W.findIn K (.ref (He.ga K "InvalidWords")) "__init__" = some (some (.ref (He.ma K (He.ga K "OpenpostsError") "__init__")))) ∧ (DN.excB K (He.ga K "InvalidWords") = true) ∧ True := by
  unfold ck_15 at h
  obtain ⟨e0, h⟩ := DN.an2 h
  obtain ⟨e1, h⟩ := DN.an2 h
  obtain ⟨e2, h⟩ := DN.an2 h
  obtain ⟨e3, h⟩ := DN.an2 h
  obtain ⟨e4, h⟩ := DN.an2 h
  obtain ⟨e5, h⟩ := DN.an2 h
  obtain ⟨e6, h⟩ := DN.an2 h
  obtain ⟨e7, h⟩ := DN.an2 h
  obtain ⟨e8, h⟩ := DN.an2 h
  obtain ⟨e9, h⟩ := DN.an2 h
  obtain ⟨e10, h⟩ := DN.an2 h
  obtain ⟨e11, h⟩ := DN.an2 h
  obtain ⟨e12, h⟩ := DN.an2 h
  obtain ⟨e13, h⟩ := DN.an2 h
  obtain ⟨e14, h⟩ := DN.an2 h
  obtain ⟨e15, h⟩ := DN.an2 h
  obtain ⟨e16, h⟩ := DN.an2 h
  obtain ⟨e17, h⟩ := DN.an2 h
  exact ⟨e0, e1, e2, e3, e4, e5, e6, e7, e8, e9, e10, e11, e12, e13, e14, e15, e16, e17, trivial⟩
def ck_16 (K : PySem.W.Frag) : Bool := decide (PySem.W.nsIn K mainGlobals "InvalidPlace" = some (some (.ref (He.ga K "InvalidPlace")))) && (decide (PySem.W.findIn K (.ref (He.ga K "InvalidPlace")) "__setattr__" = some (some (.builtin "object.__setattr__"))) && (decide (PySem.W.subIn K (.ref (He.ga K "InvalidPlace")) (.type "BaseException") = some true) && (decide (PySem.W.typeIn K (.ref (He.ga K "InvalidPlace")) = some (.type "type")) && (decide (PySem.W.keepIn K (.ref (He.ga K "InvalidPlace")) = true) && (decide (PySem.W.mroIn K (He.ga K "InvalidPlace") (.ref (He.ga K "OpenpostsError")) = some true) && (decide (PySem.W.ks_superIn K (He.ga K "InvalidPlace") (He.ga K "OpenpostsError") "__init__" = some (some (.builtin "ValueError.__init__"))) && (decide (PySem.W.subIn K (.ref (He.ga K "InvalidPlace")) (.type "ValueError") = some true) && (decide (PySem.W.findIn K (.ref (He.ga K "InvalidPlace")) "value" = some none) && (decide (PySem.W.findIn K (.ref (He.ga K "InvalidPlace")) "__getattribute__" = some (some (.builtin "BaseException.__getattribute__"))) && (decide (PySem.W.findIn K (.ref (He.ga K "InvalidPlace")) "__getattr__" = some none) && (decide (PySem.W.hasDictIn K (He.ga K "InvalidPlace") = true) && (decide (PySem.W.findIn K (.ref (He.ga K "InvalidPlace")) "__class__" = some (some (.builtin "object.__class__"))) && (decide (PySem.W.specialIn K (.builtin "object.__class__") "__get__" = some (some (.builtin "getset_descriptor.__get__"))) && (decide (PySem.W.takesIn K (.builtin "object.__class__") = some true) && (decide (PySem.W.mroIn K (He.ga K "InvalidPlace") (.type "object") = some true) && (decide (PySem.W.findIn K (.ref (He.ga K "InvalidPlace")) "__init__" = some (some (.ref (He.ma K (He.ga K "OpenpostsError") "__init__")))) && (decide (DN.excB K (He.ga K "InvalidPlace") = true) && (true))))))))))))))))))
theorem ok_16 {K : PySem.W.Frag} (h : ck_16 K = true) : (PySem.W.nsIn K mainGlobals "InvalidPlace" = some (some (.ref (He.ga K "InvalidPlace")))) ∧ (PySem.W.findIn K (.ref (He.ga K "InvalidPlace")) "__setattr__" = some (some (.builtin "object.__setattr__"))) ∧ (PySem.W.subIn K (.ref (He.ga K "InvalidPlace")) (.type "BaseException") = some true) ∧ (PySem.W.typeIn K (.ref (He.ga K "InvalidPlace")) = some (.type "type")) ∧ (PySem.W.keepIn K (.ref (He.ga K "InvalidPlace")) = true) ∧ (PySem.W.mroIn K (He.ga K "InvalidPlace") (.ref (He.ga K "OpenpostsError")) = some true) ∧ (PySem.W.ks_superIn K (He.ga K "InvalidPlace") (He.ga K "OpenpostsError") "__init__" = some (some (.builtin "ValueError.__init__"))) ∧ (PySem.W.subIn K (.ref (He.ga K "InvalidPlace")) (.type "ValueError") = some true) ∧ (PySem.W.findIn K (.ref (He.ga K "InvalidPlace")) "value" = some none) ∧ (PySem.W.findIn K (.ref (He.ga K "InvalidPlace")) "__getattribute__" = some (some (.builtin "BaseException.__getattribute__"))) ∧ (PySem.W.findIn K (.ref (He.ga K "InvalidPlace")) "__getattr__" = some none) ∧ (PySem.W.hasDictIn K (He.ga K "InvalidPlace") = true) ∧ (PySem.W.findIn K (.ref (He.ga K "InvalidPlace")) "__class__" = some (some (.builtin "object.__class__"))) ∧ (PySem.W.specialIn K (.builtin "object.__class__") "__get__" = some (some (.builtin "getset_descriptor.__get__"))) ∧ (PySem.W.takesIn K (.builtin "object.__class__") = some true) ∧ (PySem.W.mroIn K (He.ga K "InvalidPlace") (.type "object") = some true) ∧ (PySem.W.findIn K (.ref (He.ga K "InvalidPlace")) "__init__" = some (some (.ref (He.ma K (He.ga K "OpenpostsError") "__init__")))) ∧ (DN.excB K (He.ga K "InvalidPlace") = true) ∧ True := by
  unfold ck_16 at h
  obtain ⟨e0, h⟩ := DN.an2 h
  obtain ⟨e1, h⟩ := DN.an2 h
  obtain ⟨e2, h⟩ := DN.an2 h
  obtain ⟨e3, h⟩ := DN.an2 h
  obtain ⟨e4, h⟩ := DN.an2 h
  obtain ⟨e5, h⟩ := DN.an2 h
  obtain ⟨e6, h⟩ := DN.an2 h
  obtain ⟨e7, h⟩ := DN.an2 h
  obtain ⟨e8, h⟩ := DN.an2 h
  obtain ⟨e9, h⟩ := DN.an2 h
  obtain ⟨e10, h⟩ := DN.an2 h
  obtain ⟨e11, h⟩ := DN.an2 h
  obtain ⟨e12, h⟩ := DN.an2 h
  obtain ⟨e13, h⟩ := DN.an2 h
  obtain ⟨e14, h⟩ := DN.an2 h
  obtain ⟨e15, h⟩ := DN.an2 h
  obtain ⟨e16, h⟩ := DN.an2 h
  obtain ⟨e17, h⟩ := DN.an2 h
  exact ⟨e0, e1, e2, e3, e4, e5, e6, e7, e8, e9, e10, e11, e12, e13, e14, e15, e16, e17, trivial⟩
def ck_17 (K : PySem.W.Frag) : Bool := decide (PySem.W.nsIn K mainGlobals "UnlikeLengths" = some (some (.ref (He.ga K "UnlikeLengths")))) && (decide (PySem.W.findIn K (.ref (He.ga K "UnlikeLengths")) "__setattr__" = some (some (.builtin "object.__setattr__"))) && (decide (PySem.W.subIn K (.ref (He.ga K "UnlikeLengths")) (.type "BaseException") = some true) && (decide (PySem.W.typeIn K (.ref (He.ga K "UnlikeLengths")) = some (.type "type")) && (decide (PySem.W.keepIn K (.ref (He.ga K "UnlikeLengths")) = true) && (decide (PySem.W.mroIn K (He.ga K "UnlikeLengths") (.ref (He.ga K "OpenpostsError")) = some true) && (decide (PySem.W.ks_superIn K (He.ga K "UnlikeLengths") (He.ga K "OpenpostsError") "__init__" = some (some (.builtin "ValueError.__init__"))) && (decide (PySem.W.subIn K (.ref (He.ga K "UnlikeLengths")) (.type "ValueError") = some true) && (decide (PySem.W.findIn K (.ref (He.ga K "UnlikeLengths")) "value" = some none) && (decide (PySem.W.findIn K (.ref (He.ga K "UnlikeLengths")) "__getattribute__" = some (some (.builtin "BaseException.__getattribute__"))) && (decide (PySem.W.findIn K (.ref (He.ga K "UnlikeLengths")) "__getattr__" = some none) && (decide (PySem.W.hasDictIn K (He.ga K "UnlikeLengths") = true) && (decide (PySem.W.findIn K (.ref (He.ga K "UnlikeLengths")) "__class__" = some (some (.builtin "object.__class__"))) && (decide (PySem.W.specialIn K (.builtin "object.__class__") "__get__" = some (some (.builtin "getset_descriptor.__get__"))) && (decide (PySem.W.takesIn K (.builtin "object.__class__") = some true) && (decide (PySem.W.mroIn K (He.ga K "UnlikeLengths") (.type "object") = some true) && (decide (PySem.W.findIn K (.ref (He.ga K "UnlikeLengths")) "__init__" = some (some (.ref (He.ma K (He.ga K "OpenpostsError") "__init__")))) && (decide (DN.excB K (He.ga K "UnlikeLengths") = true) && (true))))))))))))))))))
theorem ok_17 {K : PySem.W.Frag} (h : ck_17 K = true) : (PySem.W.nsIn K mainGlobals "UnlikeLengths" = some (some (.ref (He.ga K "UnlikeLengths")))) ∧ (PySem.W.findIn K (.ref (He.ga K "UnlikeLengths")) "__setattr__" = some (some (.builtin "object.__setattr__"))) ∧ (PySem.W.subIn K (.ref (He.ga K "UnlikeLengths")) (.type "BaseException") = some true) ∧ (PySem.W.typeIn K (.ref (He.ga K "UnlikeLengths")) = some (.type "type")) ∧ (PySem.W.keepIn K (.ref (He.ga K "UnlikeLengths")) = true) ∧ (PySem.W.mroIn K (He.ga K "UnlikeLengths") (.ref (He.ga K "OpenpostsError")) = some true) ∧ (PySem.W.ks_superIn K (He.ga K "UnlikeLengths") (He.ga K "OpenpostsError") "__init__" = some (some (.builtin "ValueError.__init__"))) ∧ (PySem.W.subIn K (.ref (He.ga K "UnlikeLengths")) (.type "ValueError") = some true) ∧ (PySem.W.findIn K (.ref (He.ga K "UnlikeLengths")) "value" = some none) ∧ (PySem.W.findIn K (.ref (He.ga K "UnlikeLengths")) "__getattribute__" = some (some (.builtin "BaseException.__getattribute__"))) ∧ (PySem.W.findIn K (.ref (He.ga K "UnlikeLengths")) "__getattr__" = some none) ∧ (PySem.W.hasDictIn K (He.ga K "UnlikeLengths") = true) ∧ (PySem.W.findIn K (.ref (He.ga K "UnlikeLengths")) "__class__" = some (some (.builtin "object.__class__"))) ∧ (PySem.W.specialIn K (.builtin "object.__class__") "__get__" = some (some (.builtin "getset_descriptor.__get__"))) ∧ (PySem.W.takesIn K (.builtin "object.__class__") = some true) ∧ (PySem.W.mroIn K (He.ga K "UnlikeLengths") (.type "object") = some true) ∧ (PySem.W.findIn K (.ref (He.ga K "UnlikeLengths")) "__init__" = some (some (.ref (He.ma K (He.ga K "OpenpostsError") "__init__")))) ∧ (DN.excB K (He.ga K "UnlikeLengths") = true) ∧ True := by
  unfold ck_17 at h
  obtain ⟨e0, h⟩ := DN.an2 h
  obtain ⟨e1, h⟩ := DN.an2 h
  obtain ⟨e2, h⟩ := DN.an2 h
  obtain ⟨e3, h⟩ := DN.an2 h
  obtain ⟨e4, h⟩ := DN.an2 h
  obtain ⟨e5, h⟩ := DN.an2 h
  obtain ⟨e6, h⟩ := DN.an2 h
  obtain ⟨e7, h⟩ := DN.an2 h
  obtain ⟨e8, h⟩ := DN.an2 h
  obtain ⟨e9, h⟩ := DN.an2 h
  obtain ⟨e10, h⟩ := DN.an2 h
  obtain ⟨e11, h⟩ := DN.an2 h
  obtain ⟨e12, h⟩ := DN.an2 h
  obtain ⟨e13, h⟩ := DN.an2 h
  obtain ⟨e14, h⟩ := DN.an2 h
  obtain ⟨e15, h⟩ := DN.an2 h
  obtain ⟨e16, h⟩ := DN.an2 h
  obtain ⟨e17, h⟩ := DN.an2 h
  exact ⟨e0, e1, e2, e3, e4, e5, e6, e7, e8, e9, e10, e11, e12, e13, e14, e15, e16, e17, trivial⟩
def ck_18 (K : PySem.W.Frag) : Bool := decide (PySem.W.nsIn K mainGlobals "InvalidHouse" = some (some (.ref (He.ga K "InvalidHouse")))) && (decide (PySem.W.findIn K (.ref (He.ga K "InvalidHouse")) "__setattr__" = some (some (.builtin "object.__setattr__"))) && (decide (PySem.W.subIn K (.ref (He.ga K "InvalidHouse")) (.type "BaseException") = some true) && (decide (PySem.W.typeIn K (.ref (He.ga K "InvalidHouse")) = some (.type "type")) && (decide (PySem.W.keepIn K (.ref (He.ga K "InvalidHouse")) = true) && (decide (PySem.W.mroIn K (He.ga K "InvalidHouse") (.ref (He.ga K "OpenpostsError")) = some true) && (decide (PySem.W.ks_superIn K (He.ga K "InvalidHouse") (He.ga K "OpenpostsError") "__init__" = some (some (.builtin "ValueError.__init__"))) && (decide (PySem.W.subIn K (.ref (He.ga K "InvalidHouse")) (.type "ValueError") = some true) && (decide (PySem.W.findIn K (.ref (He.ga K "InvalidHouse")) "value" = some none) && (decide (PySem.W.findIn K (.ref (He.ga K "InvalidHouse")) "__getattribute__" = some (some (.builtin "BaseException.__getattribute__"))) && (decide (PySem.W.findIn K (.ref (He.ga K "InvalidHouse")) "__getattr__" = some none) && (decide (PySem.W.hasDictIn K (He.ga K "InvalidHouse") = true) && (decide (PySem.W.findIn K (.ref (He.ga K "InvalidHouse")) "__class__" = some (some (.builtin "object.__class__"))) && (decide (PySem.W.specialIn K (.builtin "object.__class__") "__get__" = some (some (.builtin "getset_descriptor.__get__"))) && (decide (PySem.W.takesIn K (.builtin "object.__class__") = some true) && (decide (PySem.W.mroIn K (He.ga K "InvalidHouse") (.type "object") = some true) && (decide (PySem.W.findIn K (.ref (He.ga K "InvalidHouse")) "__init__" = some (some (.ref (He.ma K (He.ga K "OpenpostsError") "__init__")))) && (decide (DN.excB K (He.ga K "InvalidHouse") = true) && (true))))))))))))))))))
theorem ok_18 {K : PySem.W.Frag} (h : ck_18 K = true) : (PySem.W.nsIn K mainGlobals "InvalidHouse" = some (some (.ref (He.ga K "InvalidHouse")))) ∧ (PySem.W.findIn K (.ref (He.ga K "InvalidHouse")) "__setattr__" = some (some (.builtin "object.__setattr__"))) ∧ (PySem.W.subIn K (.ref (He.ga K "InvalidHouse")) (.type "BaseException") = some true) ∧ (PySem.W.typeIn K (.ref (He.ga K "InvalidHouse")) = some (.type "type")) ∧ (PySem.W.keepIn K (.ref (He.ga K "InvalidHouse")) = true) ∧ (PySem.W.mroIn K (He.ga K "InvalidHouse") (.ref (He.ga K "OpenpostsError")) = some true) ∧ (PySem.W.ks_superIn K (He.ga K "InvalidHouse") (He.ga K "OpenpostsError") "__init__" = some (some (.builtin "ValueError.__init__"))) ∧ (PySem.W.subIn K (.ref (He.ga K "InvalidHouse")) (.type "ValueError") = some true) ∧ (PySem.W.findIn K (.ref (He.ga K "InvalidHouse")) "value" = some none) ∧ (PySem.W.findIn K (.ref (He.ga K "InvalidHouse")) "__getattribute__" = some (some (.builtin "BaseException.__getattribute__"))) ∧ (PySem.W.findIn K (.ref (He.ga K "InvalidHouse")) "__getattr__" = some none) ∧ (PySem.W.hasDictIn K (He.ga K "InvalidHouse") = true) ∧ (PySem.W.findIn K (.ref (He.ga K "InvalidHouse")) "__class__" = some (some (.builtin "object.__class__"))) ∧ (PySem.W.specialIn K (.builtin "object.__class__") "__get__" = some (some (.builtin "getset_descriptor.__get__"))) ∧ (PySem.W.takesIn K (.builtin "object.__class__") = some true) ∧ (PySem.W.mroIn K (He.ga K "InvalidHouse") (.type "object") = some true) ∧ (PySem.W.findIn K (.ref (He.ga K "InvalidHouse")) "__init__" = some (some (.ref (He.ma K (He.ga K "OpenpostsError") "__init__")))) ∧ (DN.excB K (He.ga K "InvalidHouse") = true) ∧ True := by
  unfold ck_18 at h
  obtain ⟨e0, h⟩ := DN.an2 h
  obtain ⟨e1, h⟩ := DN.an2 h
  obtain ⟨e2, h⟩ := DN.an2 h
  obtain ⟨e3, h⟩ := DN.an2 h
  obtain ⟨e4, h⟩ := DN.an2 h
  obtain ⟨e5, h⟩ := DN.an2 h
  obtain ⟨e6, h⟩ := DN.an2 h
  obtain ⟨e7, h⟩ := DN.an2 h
  obtain ⟨e8, h⟩ := DN.an2 h
  obtain ⟨e9, h⟩ := DN.an2 h
  obtain ⟨e10, h⟩ := DN.an2 h
  obtain ⟨e11, h⟩ := DN.an2 h
  obtain ⟨e12, h⟩ := DN.an2 h
  obtain ⟨e13, h⟩ := DN.an2 h
  obtain ⟨e14, h⟩ := DN.an2 h
  obtain ⟨e15, h⟩ := DN.an2 h
  obtain ⟨e16, h⟩ := DN.an2 h
  obtain ⟨e17, h⟩ := DN.an2 h
  exact ⟨e0, e1, e2, e3, e4, e5, e6, e7, e8, e9, e10, e11, e12, e13, e14, e15, e16, e17, trivial⟩
def ck_19 (K : PySem.W.Frag) : Bool := decide (PySem.W.nsIn K mainGlobals "InvalidHouses" = some (some (.ref (He.ga K "InvalidHouses")))) && (decide (PySem.W.findIn K (.ref (He.ga K "InvalidHouses")) "__setattr__" = some (some (.builtin "object.__setattr__"))) && (decide (PySem.W.subIn K (.ref (He.ga K "InvalidHouses")) (.type "BaseException") = some true) && (decide (PySem.W.typeIn K (.ref (He.ga K "InvalidHouses")) = some (.type "type")) && (decide (PySem.W.keepIn K (.ref (He.ga K "InvalidHouses")) = true) && (decide (PySem.W.mroIn K (He.ga K "InvalidHouses") (.ref (He.ga K "OpenpostsError")) = some true) && (decide (PySem.W.ks_superIn K (He.ga K "InvalidHouses") (He.ga K "OpenpostsError") "__init__" = some (some (.builtin "ValueError.__init__"))) && (decide (PySem.W.subIn K (.ref (He.ga K "InvalidHouses")) (.type "ValueError") = some true) && (decide (PySem.W.findIn K (.ref (He.ga K "InvalidHouses")) "value" = some none) && (decide (PySem.W.findIn K (.ref (He.ga K "InvalidHouses")) "__getattribute__" = some (some (.builtin "BaseException.__getattribute__"))) && (decide (PySem.W.findIn K (.ref (He.ga K "InvalidHouses")) "__getattr__" = some none) && (decide (PySem.W.hasDictIn K (He.ga K "InvalidHouses") = true) && (decide (PySem.W.findIn K (.ref (He.ga K "InvalidHouses")) "__class__" = some (some (.builtin "object.__class__"))) && (decide (PySem.W.specialIn K (.builtin "object.__class__") "__get__" = some (some (.builtin "getset_descriptor.__get__"))) && (decide (PySem.W.takesIn K (.builtin "object.__class__") = some true) && (decide (PySem.W.mroIn K (He.ga K "InvalidHouses") (.type "object") = some true) && (decide (PySem.W.findIn K (.ref (He.ga K "InvalidHouses")) "__init__" = some (some (.ref (He.ma K (He.ga K "OpenpostsError") "__init__")))) && (decide (DN.excB K (He.ga K "InvalidHouses") = true) && (true))))))))))))))))))
theorem ok_19 {K : PySem.W.Frag} (h : ck_19 K = true) : (PySem.W.nsIn K mainGlobals "InvalidHouses" = some (some (.ref (He.ga K "InvalidHouses")))) ∧ (PySem.W.findIn K (.ref (He.ga K "InvalidHouses")) "__setattr__" = some (some (.builtin "object.__setattr__"))) ∧ (PySem.W.subIn K (.ref (He.ga K "InvalidHouses")) (.type "BaseException") = some true) ∧ (PySem.W.typeIn K (.ref (He.ga K "InvalidHouses")) = some (.type "type")) ∧ (PySem.W.keepIn K (.ref (He.ga K "InvalidHouses")) = true) ∧ (PySem.W.mroIn K (He.ga K "InvalidHouses") (.ref (He.ga K "OpenpostsError")) = some true) ∧ (PySem.W.ks_superIn K (He.ga K "InvalidHouses") (He.ga K "OpenpostsError") "__init__" = some (some (.builtin "ValueError.__init__"))) ∧ (PySem.W.subIn K (.ref (He.ga K "InvalidHouses")) (.type "ValueError") = some true) ∧ (PySem.W.findIn K (.ref (He.ga K "InvalidHouses")) "value" = some none) ∧ (PySem.W.findIn K (.ref (He.ga K "InvalidHouses")) "__getattribute__" = some (some (.builtin "BaseException.__getattribute__"))) ∧ (PySem.W.findIn K (.ref (He.ga K "InvalidHouses")) "__getattr__" = some none) ∧ (PySem.W.hasDictIn K (He.ga K "InvalidHouses") = true) ∧ (PySem.W.findIn K (.ref (He.ga K "InvalidHouses")) "__class__" = some (some (.builtin "object.__class__"))) ∧ (PySem.W.specialIn K (.builtin "object.__class__") "__get__" = some (some (.builtin "getset_descriptor.__get__"))) ∧ (PySem.W.takesIn K (.builtin "object.__class__") = some true) ∧ (PySem.W.mroIn K (He.ga K "InvalidHouses") (.type "object") = some true) ∧ (PySem.W.findIn K (.ref (He.ga K "InvalidHouses")) "__init__" = some (some (.ref (He.ma K (He.ga K "OpenpostsError") "__init__")))) ∧ (DN.excB K (He.ga K "InvalidHouses") = true) ∧ True := by
  unfold ck_19 at h
  obtain ⟨e0, h⟩ := DN.an2 h
  obtain ⟨e1, h⟩ := DN.an2 h
  obtain ⟨e2, h⟩ := DN.an2 h
  obtain ⟨e3, h⟩ := DN.an2 h
  obtain ⟨e4, h⟩ := DN.an2 h
  obtain ⟨e5, h⟩ := DN.an2 h
  obtain ⟨e6, h⟩ := DN.an2 h
  obtain ⟨e7, h⟩ := DN.an2 h
  obtain ⟨e8, h⟩ := DN.an2 h
  obtain ⟨e9, h⟩ := DN.an2 h
  obtain ⟨e10, h⟩ := DN.an2 h
  obtain ⟨e11, h⟩ := DN.an2 h
  obtain ⟨e12, h⟩ := DN.an2 h
  obtain ⟨e13, h⟩ := DN.an2 h
  obtain ⟨e14, h⟩ := DN.an2 h
  obtain ⟨e15, h⟩ := DN.an2 h
  obtain ⟨e16, h⟩ := DN.an2 h
  obtain ⟨e17, h⟩ := DN.an2 h
  exact ⟨e0, e1, e2, e3, e4, e5, e6, e7, e8, e9, e10, e11, e12, e13, e14, e15, e16, e17, trivial⟩
def ck_20 (K : PySem.W.Frag) : Bool := decide (PySem.W.nsIn K mainGlobals "InvalidTie" = some (some (.ref (He.ga K "InvalidTie")))) && (decide (PySem.W.findIn K (.ref (He.ga K "InvalidTie")) "__setattr__" = some (some (.builtin "object.__setattr__"))) && (decide (PySem.W.subIn K (.ref (He.ga K "InvalidTie")) (.type "BaseException") = some true) && (decide (PySem.W.typeIn K (.ref (He.ga K "InvalidTie")) = some (.type "type")) && (decide (PySem.W.keepIn K (.ref (He.ga K "InvalidTie")) = true) && (decide (PySem.W.mroIn K (He.ga K "InvalidTie") (.ref (He.ga K "OpenpostsError")) = some true) && (decide (PySem.W.ks_superIn K (He.ga K "InvalidTie") (He.ga K "OpenpostsError") "__init__" = some (some (.builtin "ValueError.__init__"))) && (decide (PySem.W.subIn K (.ref (He.ga K "InvalidTie")) (.type "ValueError") = some true) && (decide (PySem.W.findIn K (.ref (He.ga K "InvalidTie")) "value" = some none) && (decide (PySem.W.findIn K (.ref (He.ga K "InvalidTie")) "__getattribute__" = some (some (.builtin "BaseException.__getattribute__"))) && (decide (PySem.W.findIn K (.ref (He.ga K "InvalidTie")) "__getattr__" = some none) && (decide (PySem.W.hasDictIn K (He.ga K "InvalidTie") = true) && (decide (PySem.W.findIn K (.ref (He.ga K "InvalidTie")) "__class__" = some (some (.builtin "object.__class__"))) && (decide (PySem.W.specialIn K (.builtin "object.__class__") "__get__" = some (some (.builtin "getset_descriptor.__get__"))) && (decide (PySem.W.takesIn K (.builtin "object.__class__") = some true) && (decide (PySem.W.mroIn K (He.ga K "InvalidTie") (.type "object") = some true) && (decide (PySem.W.findIn K (.ref (He.ga K "InvalidTie")) "__init__" = some (some (.ref (He.ma K (He.ga K "OpenpostsError") "__init__")))) && (decide (DN.excB K (He.ga K "InvalidTie") = true) && (true))))))))))))))))))
theorem ok_20 {K : PySem.W.Frag} (h : ck_20 K = true) : (PySem.W.nsIn K mainGlobals "InvalidTie" = some (some (.ref (He.ga K "InvalidTie")))) ∧ (PySem.W.findIn K (.ref (He.ga K "InvalidTie")) "__setattr__" = some (some (.builtin "object.__setattr__"))) ∧ (PySem.W.subIn K (.ref (He.ga K "InvalidTie")) (.type "BaseException") = some true) ∧ (PySem.W.typeIn K (.ref (He.ga K "InvalidTie")) = some (.type "type")) ∧ (PySem.W.keepIn K (.ref (He.ga K "InvalidTie")) = true) ∧ (PySem.W.mroIn K (He.ga K "InvalidTie") (.ref (He.ga K "OpenpostsError")) = some true) ∧ (PySem.W.ks_superIn K (He.ga K "InvalidTie") (He.ga K "OpenpostsError") "__init__" = some (some (.builtin "ValueError.__init__"))) ∧ (PySem.W.subIn K (.ref (He.ga K "InvalidTie")) (.type "ValueError") = some true) ∧ (PySem.W.findIn K (.ref (He.ga K "InvalidTie")) "value" = some none) ∧ (PySem.W.findIn K (.ref (He.ga K "InvalidTie")) "__getattribute__" = some (some (.builtin "BaseException.__getattribute__"))) ∧ (PySem.W.findIn K (.ref (He.ga K "InvalidTie")) "__getattr__" = some none) ∧ (PySem.W.hasDictIn K (He.ga K "InvalidTie") = true) ∧ (PySem.W.findIn K (.ref (He.ga K "InvalidTie")) "__class__" = some (some (.builtin "object.__class__"))) ∧ (PySem.W.specialIn K (.builtin "object.__class__") "__get__" = some (some (.builtin "getset_descriptor.__get__"))) ∧ (PySem.W.takesIn K (.builtin "object.__class__") = some true) ∧ (PySem.W.mroIn K (He.ga K "InvalidTie") (.type "object") = some true) ∧ (PySem.W.findIn K (.ref (He.ga K "InvalidTie")) "__init__" = some (some (.ref (He.ma K (He.ga K "OpenpostsError") "__init__")))) ∧ (DN.excB K (He.ga K "InvalidTie") = true) ∧ True := by
  unfold ck_20 at h
  obtain ⟨e0, h⟩ := DN.an2 h
  obtain ⟨e1, h⟩ := DN.an2 h
  obtain ⟨e2, h⟩ := DN.an2 h
  obtain ⟨e3, h⟩ := DN.an2 h
  obtain ⟨e4, h⟩ := DN.an2 h
  obtain ⟨e5, h⟩ := DN.an2 h
  obtain ⟨e6, h⟩ := DN.an2 h
  obtain ⟨e7, h⟩ := DN.an2 h
  obtain ⟨e8, h⟩ := DN.an2 h
  obtain ⟨e9, h⟩ := DN.an2 h
  obtain ⟨e10, h⟩ := DN.an2 h
  obtain ⟨e11, h⟩ := DN.an2 h
  obtain ⟨e12, h⟩ := DN.an2 h
  obtain ⟨e13, h⟩ := DN.an2 h
  obtain ⟨e14, h⟩ := DN.an2 h
  obtain ⟨e15, h⟩ := DN.an2 h
  obtain ⟨e16, h⟩ := DN.an2 h
  obtain ⟨e17, h⟩ := DN.an2 h
  exact ⟨e0, e1, e2, e3, e4, e5, e6, e7, e8, e9, e10, e11, e12, e13, e14, e15, e16, e17, trivial⟩
def ck_21 (K : PySem.W.Frag) : Bool := decide (PySem.W.nsIn K mainGlobals "InvalidTies" = some (some (.ref (He.ga K "InvalidTies")))) && (decide (PySem.W.findIn K (.ref (He.ga K "InvalidTies")) "__setattr__" = some (some (.builtin "object.__setattr__"))) && (decide (PySem.W.subIn K (.ref (He.ga K "InvalidTies")) (.type "BaseException") = some true) && (decide (PySem.W.typeIn K (.ref (He.ga K "InvalidTies")) = some (.type "type")) && (decide (PySem.W.keepIn K (.ref (He.ga K "InvalidTies")) = true) && (decide (PySem.W.mroIn K (He.ga K "InvalidTies") (.ref (He.ga K "OpenpostsError")) = some true) && (decide (PySem.W.ks_superIn K (He.ga K "InvalidTies") (He.ga K "OpenpostsError") "__init__" = some (some (.builtin "ValueError.__init__"))) && (decide (PySem.W.subIn K (.ref (He.ga K "InvalidTies")) (.type "ValueError") = some true) && (decide (PySem.W.findIn K (.ref (He.ga K "InvalidTies")) "value" = some none) && (decide (PySem.W.findIn K (.ref (He.ga K "InvalidTies")) "__getattribute__" = some (some (.builtin "BaseException.__getattribute__"))) && (decide (PySem.W.findIn K (.ref (He.ga K "InvalidTies")) "__getattr__" = some none) && (decide (PySem.W.hasDictIn K (He.ga K "InvalidTies") = true) && (decide (PySem.W.findIn K (.ref (He.ga K "InvalidTies")) "__class__" = some (some (.builtin "object.__class__"))) && (decide (PySem.W.specialIn K (.builtin "object.__class__") "__get__" = some (some (.builtin "getset_descriptor.__get__"))) && (decide (PySem.W.takesIn K (.builtin "object.__class__") = some true) && (decide (PySem.W.mroIn K (He.ga K "InvalidTies") (.type "object") = some true) && (decide (PySem.W.findIn K (.ref (He.ga K "InvalidTies")) "__init__" = some (some (.ref (He.ma K (He.ga K "OpenpostsError") "__init__")))) && (decide (DN.excB K (He.ga K "InvalidTies") = true) && (true))))))))))))))))))
theorem ok_21 {K : PySem.W.Frag} (h : ck_21 K = true) : (PySem.W.nsIn K mainGlobals "InvalidTies" = some (some (.ref (He.ga K "InvalidTies")))) ∧ (PySem.W.findIn K (.ref (He.ga K "InvalidTies")) "__setattr__" = some (some (.builtin "object.__setattr__"))) ∧ (PySem.W.subIn K (.ref (He.ga K "InvalidTies")) (.type "BaseException") = some true) ∧ (PySem.W.typeIn K (.ref (He.ga K "InvalidTies")) = some (.type "type")) ∧ (PySem.W.keepIn K (.ref (He.ga K "InvalidTies")) = true) ∧ (PySem.W.mroIn K (He.ga K "InvalidTies") (.ref (He.ga K "OpenpostsError")) = some true) ∧ (PySem.W.ks_superIn K (He.ga K "InvalidTies") (He.ga K "OpenpostsError") "__init__" = some (some (.builtin "ValueError.__init__"))) ∧ (PySem.W.subIn K (.ref (He.ga K "InvalidTies")) (.type "ValueError") = some true) ∧ (PySem.W.findIn K (.ref (He.ga K "InvalidTies")) "value" = some none) ∧ (PySem.W.findIn K (.ref (He.ga K "InvalidTies")) "__getattribute__" = some (some (.builtin "BaseException.__getattribute__"))) ∧ (PySem.W.findIn K (.ref (He.ga K "InvalidTies")) "__getattr__" = some none) ∧ (PySem.W.hasDictIn K (He.ga K "InvalidTies") = true) ∧ (PySem.W.findIn K (.ref (He.ga K "InvalidTies")) "__class__" = some (some (.builtin "object.__class__"))) ∧ (PySem.W.specialIn K (.builtin "object.__class__") "__get__" = some (some (.builtin "getset_descriptor.__get__"))) ∧ (PySem.W.takesIn K (.builtin "object.__class__") = some true) ∧ (PySem.W.mroIn K (He.ga K "InvalidTies") (.type "object") = some true) ∧ (PySem.W.findIn K (.ref (He.ga K "InvalidTies")) "__init__" = some (some (.ref (He.ma K (He.ga K "OpenpostsError") "__init__")))) ∧ (DN.excB K (He.ga K "InvalidTies") = true) ∧ True := by
  unfold ck_21 at h
  obtain ⟨e0, h⟩ := DN.an2 h
  obtain ⟨e1, h⟩ := DN.an2 h
  obtain ⟨e2, h⟩ := DN.an2 h
  obtain ⟨e3, h⟩ := DN.an2 h
  obtain ⟨e4, h⟩ := DN.an2 h
  obtain ⟨e5, h⟩ := DN.an2 h
  obtain ⟨e6, h⟩ := DN.an2 h
  obtain ⟨e7, h⟩ := DN.an2 h
  obtain ⟨e8, h⟩ := DN.an2 h
  obtain ⟨e9, h⟩ := DN.an2 h
  obtain ⟨e10, h⟩ := DN.an2 h
  obtain ⟨e11, h⟩ := DN.an2 h
  obtain ⟨e12, h⟩ := DN.an2 h
  obtain ⟨e13, h⟩ := DN.an2 h
  obtain ⟨e14, h⟩ := DN.an2 h
  obtain ⟨e15, h⟩ := DN.an2 h
  obtain ⟨e16, h⟩ := DN.an2 h
  obtain ⟨e17, h⟩ := DN.an2 h
  exact ⟨e0, e1, e2, e3, e4, e5, e6, e7, e8, e9, e10, e11, e12, e13, e14, e15, e16, e17, trivial⟩
def ck_22 (K : PySem.W.Frag) : Bool := decide (PySem.W.nsIn K mainGlobals "InvalidWeb" = some (some (.ref (He.ga K "InvalidWeb")))) && (decide (PySem.W.findIn K (.ref (He.ga K "InvalidWeb")) "__setattr__" = some (some (.builtin "object.__setattr__"))) && (decide (PySem.W.subIn K (.ref (He.ga K "InvalidWeb")) (.type "BaseException") = some true) && (decide (PySem.W.typeIn K (.ref (He.ga K "InvalidWeb")) = some (.type "type")) && (decide (PySem.W.keepIn K (.ref (He.ga K "InvalidWeb")) = true) && (decide (PySem.W.mroIn K (He.ga K "InvalidWeb") (.ref (He.ga K "OpenpostsError")) = some true) && (decide (PySem.W.ks_superIn K (He.ga K "InvalidWeb") (He.ga K "OpenpostsError") "__init__" = some (some (.builtin "ValueError.__init__"))) && (decide (PySem.W.subIn K (.ref (He.ga K "InvalidWeb")) (.type "ValueError") = some true) && (decide (PySem.W.findIn K (.ref (He.ga K "InvalidWeb")) "value" = some none) && (decide (PySem.W.findIn K (.ref (He.ga K "InvalidWeb")) "__getattribute__" = some (some (.builtin "BaseException.__getattribute__"))) && (decide (PySem.W.findIn K (.ref (He.ga K "InvalidWeb")) "__getattr__" = some none) && (decide (PySem.W.hasDictIn K (He.ga K "InvalidWeb") = true) && (decide (PySem.W.findIn K (.ref (He.ga K "InvalidWeb")) "__class__" = some (some (.builtin "object.__class__"))) && (decide (PySem.W.specialIn K (.builtin "object.__class__") "__get__" = some (some (.builtin "getset_descriptor.__get__"))) && (decide (PySem.W.takesIn K (.builtin "object.__class__") = some true) && (decide (PySem.W.mroIn K (He.ga K "InvalidWeb") (.type "object") = some true) && (decide (PySem.W.findIn K (.ref (He.ga K "InvalidWeb")) "__init__" = some (some (.ref (He.ma K (He.ga K "OpenpostsError") "__init__")))) && (decide (DN.excB K (He.ga K "InvalidWeb") = true) && (true))))))))))))))))))
theorem ok_22 {K : PySem.W.Frag} (h : ck_22 K = true) : (PySem.W.nsIn K mainGlobals "InvalidWeb" = some (some (.ref (He.ga K "InvalidWeb")))) ∧ (PySem.W.findIn K (.ref (He.ga K "InvalidWeb")) "__setattr__" = some (some (.builtin "object.__setattr__"))) ∧ (PySem.W.subIn K (.ref (He.ga K "InvalidWeb")) (.type "BaseException") = some true) ∧ (PySem.W.typeIn K (.ref (He.ga K "InvalidWeb")) = some (.type "type")) ∧ (PySem.W.keepIn K (.ref (He.ga K "InvalidWeb")) = true) ∧ (PySem.W.mroIn K (He.ga K "InvalidWeb") (.ref (He.ga K "OpenpostsError")) = some true) ∧ (PySem.W.ks_superIn K (He.ga K "InvalidWeb") (He.ga K "OpenpostsError") "__init__" = some (some (.builtin "ValueError.__init__"))) ∧ (PySem.W.subIn K (.ref (He.ga K "InvalidWeb")) (.type "ValueError") = some true) ∧ (PySem.W.findIn K (.ref (He.ga K "InvalidWeb")) "value" = some none) ∧ (PySem.W.findIn K (.ref (He.ga K "InvalidWeb")) "__getattribute__" = some (some (.builtin "BaseException.__getattribute__"))) ∧ (PySem.W.findIn K (.ref (He.ga K "InvalidWeb")) "__getattr__" = some none) ∧ (PySem.W.hasDictIn K (He.ga K "InvalidWeb") = true) ∧ (PySem.W.findIn K (.ref (He.ga K "InvalidWeb")) "__class__" = some (some (.builtin "object.__class__"))) ∧ (PySem.W.specialIn K (.builtin "object.__class__") "__get__" = some (some (.builtin "getset_descriptor.__get__"))) ∧ (PySem.W.takesIn K (.builtin "object.__class__") = some true) ∧ (PySem.W.mroIn K (He.ga K "InvalidWeb") (.type "object") = some true) ∧ (PySem.W.findIn K (.ref (He.ga K "InvalidWeb")) "__init__" = some (some (.ref (He.ma K (He.ga K "OpenpostsError") "__init__")))) ∧ (DN.excB K (He.ga K "InvalidWeb") = true) ∧ True := by
  unfold ck_22 at h
  obtain ⟨e0, h⟩ := DN.an2 h
  obtain ⟨e1, h⟩ := DN.an2 h
  obtain ⟨e2, h⟩ := DN.an2 h
  obtain ⟨e3, h⟩ := DN.an2 h
  obtain ⟨e4, h⟩ := DN.an2 h
  obtain ⟨e5, h⟩ := DN.an2 h
  obtain ⟨e6, h⟩ := DN.an2 h
  obtain ⟨e7, h⟩ := DN.an2 h
  obtain ⟨e8, h⟩ := DN.an2 h
  obtain ⟨e9, h⟩ := DN.an2 h
  obtain ⟨e10, h⟩ := DN.an2 h
  obtain ⟨e11, h⟩ := DN.an2 h
  obtain ⟨e12, h⟩ := DN.an2 h
  obtain ⟨e13, h⟩ := DN.an2 h
  obtain ⟨e14, h⟩ := DN.an2 h
  obtain ⟨e15, h⟩ := DN.an2 h
  obtain ⟨e16, h⟩ := DN.an2 h
  obtain ⟨e17, h⟩ := DN.an2 h
  exact ⟨e0, e1, e2, e3, e4, e5, e6, e7, e8, e9, e10, e11, e12, e13, e14, e15, e16, e17, trivial⟩
def ck_23 (K : PySem.W.Frag) : Bool := decide (PySem.W.nsIn K mainGlobals "InvalidOrder" = some (some (.ref (He.ga K "InvalidOrder")))) && (decide (PySem.W.findIn K (.ref (He.ga K "InvalidOrder")) "__setattr__" = some (some (.builtin "object.__setattr__"))) && (decide (PySem.W.subIn K (.ref (He.ga K "InvalidOrder")) (.type "BaseException") = some true) && (decide (PySem.W.typeIn K (.ref (He.ga K "InvalidOrder")) = some (.type "type")) && (decide (PySem.W.keepIn K (.ref (He.ga K "InvalidOrder")) = true) && (decide (PySem.W.mroIn K (He.ga K "InvalidOrder") (.ref (He.ga K "OpenpostsError")) = some true) && (decide (PySem.W.ks_superIn K (He.ga K "InvalidOrder") (He.ga K "OpenpostsError") "__init__" = some (some (.builtin "ValueError.__init__"))) && (decide (PySem.W.subIn K (.ref (He.ga K "InvalidOrder")) (.type "ValueError") = some true) && (decide (PySem.W.findIn K (.ref (He.ga K "InvalidOrder")) "value" = some none) && (decide (PySem.W.findIn K (.ref (He.ga K "InvalidOrder")) "__getattribute__" = some (some (.builtin "BaseException.__getattribute__"))) && (decide (PySem.W.findIn K (.ref (He.ga K "InvalidOrder")) "__getattr__" = some none) && (decide (PySem.W.hasDictIn K (He.ga K "InvalidOrder") = true) && (decide (PySem.W.findIn K (.ref (He.ga K "InvalidOrder")) "__class__" = some (some (.builtin "object.__class__"))) && (decide (PySem.W.specialIn K (.builtin "object.__class__") "__get__" = some (some (.builtin "getset_descriptor.__get__"))) && (decide (PySem.W.takesIn K (.builtin "object.__class__") = some true) && (decide (PySem.W.mroIn K (He.ga K "InvalidOrder") (.type "object") = some true) && (decide (PySem.W.findIn K (.ref (He.ga K "InvalidOrder")) "__init__" = some (some (.ref (He.ma K (He.ga K "OpenpostsError") "__init__")))) && (decide (DN.excB K (He.ga K "InvalidOrder") = true) && (true))))))))))))))))))
theorem ok_23 {K : PySem.W.Frag} (h : ck_23 K = true) : (PySem.W.nsIn K mainGlobals "InvalidOrder" = some (some (.ref (He.ga K "InvalidOrder")))) ∧ (PySem.W.findIn K (.ref (He.ga K "InvalidOrder")) "__setattr__" = some (some (.builtin "object.__setattr__"))) ∧ (PySem.W.subIn K (.ref (He.ga K "InvalidOrder")) (.type "BaseException") = some true) ∧ (PySem.W.typeIn K (.ref (He.ga K "InvalidOrder")) = some (.type "type")) ∧ (PySem.W.keepIn K (.ref (He.ga K "InvalidOrder")) = true) ∧ (PySem.W.mroIn K (He.ga K "InvalidOrder") (.ref (He.ga K "OpenpostsError")) = some true) ∧ (PySem.W.ks_superIn K (He.ga K "InvalidOrder") (He.ga K "OpenpostsError") "__init__" = some (some (.builtin "ValueError.__init__"))) ∧ (PySem.W.subIn K (.ref (He.ga K "InvalidOrder")) (.type "ValueError") = some true) ∧ (PySem.W.findIn K (.ref (He.ga K "InvalidOrder")) "value" = some none) ∧ (PySem.W.findIn K (.ref (He.ga K "InvalidOrder")) "__getattribute__" = some (some (.builtin "BaseException.__getattribute__"))) ∧ (PySem.W.findIn K (.ref (He.ga K "InvalidOrder")) "__getattr__" = some none) ∧ (PySem.W.hasDictIn K (He.ga K "InvalidOrder") = true) ∧ (PySem.W.findIn K (.ref (He.ga K "InvalidOrder")) "__class__" = some (some (.builtin "object.__class__"))) ∧ (PySem.W.specialIn K (.builtin "object.__class__") "__get__" = some (some (.builtin "getset_descriptor.__get__"))) ∧ (PySem.W.takesIn K (.builtin "object.__class__") = some true) ∧ (PySem.W.mroIn K (He.ga K "InvalidOrder") (.type "object") = some true) ∧ (PySem.W.findIn K (.ref (He.ga K "InvalidOrder")) "__init__" = some (some (.ref (He.ma K (He.ga K "OpenpostsError") "__init__")))) ∧ (DN.excB K (He.ga K "InvalidOrder") = true) ∧ True := by
  unfold ck_23 at h
  obtain ⟨e0, h⟩ := DN.an2 h
  obtain ⟨e1, h⟩ := DN.an2 h
  obtain ⟨e2, h⟩ := DN.an2 h
  obtain ⟨e3, h⟩ := DN.an2 h
  obtain ⟨e4, h⟩ := DN.an2 h
  obtain ⟨e5, h⟩ := DN.an2 h
  obtain ⟨e6, h⟩ := DN.an2 h
  obtain ⟨e7, h⟩ := DN.an2 h
  obtain ⟨e8, h⟩ := DN.an2 h
  obtain ⟨e9, h⟩ := DN.an2 h
  obtain ⟨e10, h⟩ := DN.an2 h
  obtain ⟨e11, h⟩ := DN.an2 h
  obtain ⟨e12, h⟩ := DN.an2 h
  obtain ⟨e13, h⟩ := DN.an2 h
  obtain ⟨e14, h⟩ := DN.an2 h
  obtain ⟨e15, h⟩ := DN.an2 h
  obtain ⟨e16, h⟩ := DN.an2 h
  obtain ⟨e17, h⟩ := DN.an2 h
  exact ⟨e0, e1, e2, e3, e4, e5, e6, e7, e8, e9, e10, e11, e12, e13, e14, e15, e16, e17, trivial⟩
def ck_24 (K : PySem.W.Frag) : Bool := decide (PySem.W.nsIn K mainGlobals "InvalidText" = some (some (.ref (He.ga K "InvalidText")))) && (decide (PySem.W.findIn K (.ref (He.ga K "InvalidText")) "__setattr__" = some (some (.builtin "object.__setattr__"))) && (decide (PySem.W.subIn K (.ref (He.ga K "InvalidText")) (.type "BaseException") = some true) && (decide (PySem.W.typeIn K (.ref (He.ga K "InvalidText")) = some (.type "type")) && (decide (PySem.W.keepIn K (.ref (He.ga K "InvalidText")) = true) && (decide (PySem.W.mroIn K (He.ga K "InvalidText") (.ref (He.ga K "OpenpostsError")) = some true) && (decide (PySem.W.ks_superIn K (He.ga K "InvalidText") (He.ga K "OpenpostsError") "__init__" = some (some (.builtin "ValueError.__init__"))) && (decide (PySem.W.subIn K (.ref (He.ga K "InvalidText")) (.type "ValueError") = some true) && (decide (PySem.W.findIn K (.ref (He.ga K "InvalidText")) "value" = some none) && (decide (PySem.W.findIn K (.ref (He.ga K "InvalidText")) "__getattribute__" = some (some (.builtin "BaseException.__getattribute__"))) && (decide (PySem.W.findIn K (.ref (He.ga K "InvalidText")) "__getattr__" = some none) && (decide (PySem.W.hasDictIn K (He.ga K "InvalidText") = true) && (decide (PySem.W.findIn K (.ref (He.ga K "InvalidText")) "__class__" = some (some (.builtin "object.__class__"))) && (decide (PySem.W.specialIn K (.builtin "object.__class__") "__get__" = some (some (.builtin "getset_descriptor.__get__"))) && (decide (PySem.W.takesIn K (.builtin "object.__class__") = some true) && (decide (PySem.W.mroIn K (He.ga K "InvalidText") (.type "object") = some true) && (decide (PySem.W.findIn K (.ref (He.ga K "InvalidText")) "__init__" = some (some (.ref (He.ma K (He.ga K "OpenpostsError") "__init__")))) && (decide (DN.excB K (He.ga K "InvalidText") = true) && (true))))))))))))))))))
theorem ok_24 {K : PySem.W.Frag} (h : ck_24 K = true) : (PySem.W.nsIn K mainGlobals "InvalidText" = some (some (.ref (He.ga K "InvalidText")))) ∧ (PySem.W.findIn K (.ref (He.ga K "InvalidText")) "__setattr__" = some (some (.builtin "object.__setattr__"))) ∧ (PySem.W.subIn K (.ref (He.ga K "InvalidText")) (.type "BaseException") = some true) ∧ (PySem.W.typeIn K (.ref (He.ga K "InvalidText")) = some (.type "type")) ∧ (PySem.W.keepIn K (.ref (He.ga K "InvalidText")) = true) ∧ (PySem.W.mroIn K (He.ga K "InvalidText") (.ref (He.ga K "OpenpostsError")) = some true) ∧ (PySem.W.ks_superIn K (He.ga K "InvalidText") (He.ga K "OpenpostsError") "__init__" = some (some (.builtin "ValueError.__init__"))) ∧ (PySem.W.subIn K (.ref (He.ga K "InvalidText")) (.type "ValueError") = some true) ∧ (PySem.W.findIn K (.ref (He.ga K "InvalidText")) "value" = some none) ∧ (PySem.W.findIn K (.ref (He.ga K "InvalidText")) "__getattribute__" = some (some (.builtin "BaseException.__getattribute__"))) ∧ (PySem.W.findIn K (.ref (He.ga K "InvalidText")) "__getattr__" = some none) ∧ (PySem.W.hasDictIn K (He.ga K "InvalidText") = true) ∧ (PySem.W.findIn K (.ref (He.ga K "InvalidText")) "__class__" = some (some (.builtin "object.__class__"))) ∧ (PySem.W.specialIn K (.builtin "object.__class__") "__get__" = some (some (.builtin "getset_descriptor.__get__"))) ∧ (PySem.W.takesIn K (.builtin "object.__class__") = some true) ∧ (PySem.W.mroIn K (He.ga K "InvalidText") (.type "object") = some true) ∧ (PySem.W.findIn K (.ref (He.ga K "InvalidText")) "__init__" = some (some (.ref (He.ma K (He.ga K "OpenpostsError") "__init__")))) ∧ (DN.excB K (He.ga K "InvalidText") = true) ∧ True := by
  unfold ck_24 at h
  obtain ⟨e0, h⟩ := DN.an2 h
  obtain ⟨e1, h⟩ := DN.an2 h
  obtain ⟨e2, h⟩ := DN.an2 h
  obtain ⟨e3, h⟩ := DN.an2 h
  obtain ⟨e4, h⟩ := DN.an2 h
  obtain ⟨e5, h⟩ := DN.an2 h
  obtain ⟨e6, h⟩ := DN.an2 h
  obtain ⟨e7, h⟩ := DN.an2 h
  obtain ⟨e8, h⟩ := DN.an2 h
  obtain ⟨e9, h⟩ := DN.an2 h
  obtain ⟨e10, h⟩ := DN.an2 h
  obtain ⟨e11, h⟩ := DN.an2 h
  obtain ⟨e12, h⟩ := DN.an2 h
  obtain ⟨e13, h⟩ := DN.an2 h
  obtain ⟨e14, h⟩ := DN.an2 h
  obtain ⟨e15, h⟩ := DN.an2 h
  obtain ⟨e16, h⟩ := DN.an2 h
  obtain ⟨e17, h⟩ := DN.an2 h
  exact ⟨e0, e1, e2, e3, e4, e5, e6, e7, e8, e9, e10, e11, e12, e13, e14, e15, e16, e17, trivial⟩
def ck_25 (K : PySem.W.Frag) : Bool := decide (PySem.W.nsIn K mainGlobals "InvalidAddresses" = some (some (.ref (He.ga K "InvalidAddresses")))) && (decide (PySem.W.findIn K (.ref (He.ga K "InvalidAddresses")) "__setattr__" = some (some (.builtin "object.__setattr__"))) && (decide (PySem.W.subIn K (.ref (He.ga K "InvalidAddresses")) (.type "BaseException") = some true) && (decide (PySem.W.typeIn K (.ref (He.ga K "InvalidAddresses")) = some (.type "type")) && (decide (PySem.W.keepIn K (.ref (He.ga K "InvalidAddresses")) = true) && (decide (PySem.W.mroIn K (He.ga K "InvalidAddresses") (.ref (He.ga K "OpenpostsError")) = some true) && (decide (PySem.W.ks_superIn K (He.ga K "InvalidAddresses") (He.ga K "OpenpostsError") "__init__" = some (some (.builtin "ValueError.__init__"))) && (decide (PySem.W.subIn K (.ref (He.ga K "InvalidAddresses")) (.type "ValueError") = some true) && (decide (PySem.W.findIn K (.ref (He.ga K "InvalidAddresses")) "value" = some none) && (decide (PySem.W.findIn K (.ref (He.ga K "InvalidAddresses")) "__getattribute__" = some (some (.builtin "BaseException.__getattribute__"))) && (decide (PySem.W.findIn K (.ref (He.ga K "InvalidAddresses")) "__getattr__" = some none) && (decide (PySem.W.hasDictIn K (He.ga K "InvalidAddresses") = true) && (decide (PySem.W.findIn K (.ref (He.ga K "InvalidAddresses")) "__class__" = some (some (.builtin "object.__class__"))) && (decide (PySem.W.specialIn K (.builtin "object.__class__") "__get__" = some (some (.builtin "getset_descriptor.__get__"))) && (decide (PySem.W.takesIn K (.builtin "object.__class__") = some true) && (decide (PySem.W.mroIn K (He.ga K "InvalidAddresses") (.type "object") = some true) && (decide (PySem.W.findIn K (.ref (He.ga K "InvalidAddresses")) "__init__" = some (some (.ref (He.ma K (He.ga K "OpenpostsError") "__init__")))) && (decide (DN.excB K (He.ga K "InvalidAddresses") = true) && (true))))))))))))))))))
theorem ok_25 {K : PySem.W.Frag} (h : ck_25 K = true) : (PySem.W.nsIn K mainGlobals "InvalidAddresses" = some (some (.ref (He.ga K "InvalidAddresses")))) ∧ (PySem.W.findIn K (.ref (He.ga K "InvalidAddresses")) "__setattr__" = some (some (.builtin "object.__setattr__"))) ∧ (PySem.W.subIn K (.ref (He.ga K "InvalidAddresses")) (.type "BaseException") = some true) ∧ (PySem.W.typeIn K (.ref (He.ga K "InvalidAddresses")) = some (.type "type")) ∧ (PySem.W.keepIn K (.ref (He.ga K "InvalidAddresses")) = true) ∧ (PySem.W.mroIn K (He.ga K "InvalidAddresses") (.ref (He.ga K "OpenpostsError")) = some true) ∧ (PySem.W.ks_superIn K (He.ga K "InvalidAddresses") (He.ga K "OpenpostsError") "__init__" = some (some (.builtin "ValueError.__init__"))) ∧ (PySem.W.subIn K (.ref (He.ga K "InvalidAddresses")) (.type "ValueError") = some true) ∧ (PySem.W.findIn K (.ref (He.ga K "InvalidAddresses")) "value" = some none) ∧ (PySem.W.findIn K (.ref (He.ga K "InvalidAddresses")) "__getattribute__" = some (some (.builtin "BaseException.__getattribute__"))) ∧ (PySem.W.findIn K (.ref (He.ga K "InvalidAddresses")) "__getattr__" = some none) ∧ (PySem.W.hasDictIn K (He.ga K "InvalidAddresses") = true) ∧ (PySem.W.findIn K (.ref (He.ga K "InvalidAddresses")) "__class__" = some (some (.builtin "object.__class__"))) ∧ (PySem.W.specialIn K (.builtin "object.__class__") "__get__" = some (some (.builtin "getset_descriptor.__get__"))) ∧ (PySem.W.takesIn K (.builtin "object.__class__") = some true) ∧ (PySem.W.mroIn K (He.ga K "InvalidAddresses") (.type "object") = some true) ∧ (PySem.W.findIn K (.ref (He.ga K "InvalidAddresses")) "__init__" = some (some (.ref (He.ma K (He.ga K "OpenpostsError") "__init__")))) ∧ (DN.excB K (He.ga K "InvalidAddresses") = true) ∧ True := by
  unfold ck_25 at h
  obtain ⟨e0, h⟩ := DN.an2 h
  obtain ⟨e1, h⟩ := DN.an2 h
  obtain ⟨e2, h⟩ := DN.an2 h
  obtain ⟨e3, h⟩ := DN.an2 h
  obtain ⟨e4, h⟩ := DN.an2 h
  obtain ⟨e5, h⟩ := DN.an2 h
  obtain ⟨e6, h⟩ := DN.an2 h
  obtain ⟨e7, h⟩ := DN.an2 h
  obtain ⟨e8, h⟩ := DN.an2 h
  obtain ⟨e9, h⟩ := DN.an2 h
  obtain ⟨e10, h⟩ := DN.an2 h
  obtain ⟨e11, h⟩ := DN.an2 h
  obtain ⟨e12, h⟩ := DN.an2 h
  obtain ⟨e13, h⟩ := DN.an2 h
  obtain ⟨e14, h⟩ := DN.an2 h
  obtain ⟨e15, h⟩ := DN.an2 h
  obtain ⟨e16, h⟩ := DN.an2 h
  obtain ⟨e17, h⟩ := DN.an2 h
  exact ⟨e0, e1, e2, e3, e4, e5, e6, e7, e8, e9, e10, e11, e12, e13, e14, e15, e16, e17, trivial⟩
def ck_26 (K : PySem.W.Frag) : Bool := decide (PySem.W.nsIn K mainGlobals "InvalidParents" = some (some (.ref (He.ga K "InvalidParents")))) && (decide (PySem.W.findIn K (.ref (He.ga K "InvalidParents")) "__setattr__" = some (some (.builtin "object.__setattr__"))) && (decide (PySem.W.subIn K (.ref (He.ga K "InvalidParents")) (.type "BaseException") = some true) && (decide (PySem.W.typeIn K (.ref (He.ga K "InvalidParents")) = some (.type "type")) && (decide (PySem.W.keepIn K (.ref (He.ga K "InvalidParents")) = true) && (decide (PySem.W.mroIn K (He.ga K "InvalidParents") (.ref (He.ga K "OpenpostsError")) = some true) && (decide (PySem.W.ks_superIn K (He.ga K "InvalidParents") (He.ga K "OpenpostsError") "__init__" = some (some (.builtin "ValueError.__init__"))) && (decide (PySem.W.subIn K (.ref (He.ga K "InvalidParents")) (.type "ValueError") = some true) && (decide (PySem.W.findIn K (.ref (He.ga K "InvalidParents")) "value" = some none) && (decide (PySem.W.findIn K (.ref (He.ga K "InvalidParents")) "__getattribute__" = some (some (.builtin "BaseException.__getattribute__"))) && (decide (PySem.W.findIn K (.ref (He.ga K "InvalidParents")) "__getattr__" = some none) && (decide (PySem.W.hasDictIn K (He.ga K "InvalidParents") = true) && (decide (PySem.W.findIn K (.ref (He.ga K "InvalidParents")) "__class__" = some (some (.builtin "object.__class__"))) && (decide (PySem.W.specialIn K (.builtin "object.__class__") "__get__" = some (some (.builtin "getset_descriptor.__get__"))) && (decide (PySem.W.takesIn K (.builtin "object.__class__") = some true) && (decide (PySem.W.mroIn K (He.ga K "InvalidParents") (.type "object") = some true) && (decide (PySem.W.findIn K (.ref (He.ga K "InvalidParents")) "__init__" = some (some (.ref (He.ma K (He.ga K "OpenpostsError") "__init__")))) && (decide (DN.excB K (He.ga K "InvalidParents") = true) && (true))))))))))))))))))
theorem ok_26 {K : PySem.W.Frag} (h : ck_26 K = true) : (PySem.W.nsIn K mainGlobals "InvalidParents" = some (some (.ref (He.ga K "InvalidParents")))) ∧ (PySem.W.findIn K (.ref (He.ga K "InvalidParents")) "__setattr__" = some (some (.builtin "object.__setattr__"))) ∧ (PySem.W.subIn K (.ref (He.ga K "InvalidParents")) (.type "BaseException") = some true) ∧ (PySem.W.typeIn K (.ref (He.ga K "InvalidParents")) = some (.type "type")) ∧ (PySem.W.keepIn K (.ref (He.ga K "InvalidParents")) = true) ∧ (PySem.W.mroIn K (He.ga K "InvalidParents") (.ref (He.ga K "OpenpostsError")) = some true) ∧ (PySem.W.ks_superIn K (He.ga K "InvalidParents") (He.ga K "OpenpostsError") "__init__" = some (some (.builtin "ValueError.__init__"))) ∧ (PySem.W.subIn K (.ref (He.ga K "InvalidParents")) (.type "ValueError") = some true) ∧ (PySem.W.findIn K (.ref (He.ga K "InvalidParents")) "value" = some none) ∧ (PySem.W.findIn K (.ref (He.ga K "InvalidParents")) "__getattribute__" = some (some (.builtin "BaseException.__getattribute__"))) ∧ (PySem.W.findIn K (.ref (He.ga K "InvalidParents")) "__getattr__" = some none) ∧ (PySem.W.hasDictIn K (He.ga K "InvalidParents") = true) ∧ (PySem.W.findIn K (.ref (He.ga K "InvalidParents")) "__class__" = some (some (.builtin "object.__class__"))) ∧ (PySem.W.specialIn K (.builtin "object.__class__") "__get__" = some (some (.builtin "getset_descriptor.__get__"))) ∧ (PySem.W.takesIn K (.builtin "object.__class__") = some true) ∧ (PySem.W.mroIn K (He.ga K "InvalidParents") (.type "object") = some true) ∧ (PySem.W.findIn K (.ref (He.ga K "InvalidParents")) "__init__" = some (some (.ref (He.ma K (He.ga K "OpenpostsError") "__init__")))) ∧ (DN.excB K (He.ga K "InvalidParents") = true) ∧ True := by
  unfold ck_26 at h
  obtain ⟨e0, h⟩ := DN.an2 h
  obtain ⟨e1, h⟩ := DN.an2 h
  obtain ⟨e2, h⟩ := DN.an2 h
  obtain ⟨e3, h⟩ := DN.an2 h
  obtain ⟨e4, h⟩ := DN.an2 h
  obtain ⟨e5, h⟩ := DN.an2 h
  obtain ⟨e6, h⟩ := DN.an2 h
  obtain ⟨e7, h⟩ := DN.an2 h
  obtain ⟨e8, h⟩ := DN.an2 h
  obtain ⟨e9, h⟩ := DN.an2 h
  obtain ⟨e10, h⟩ := DN.an2 h
  obtain ⟨e11, h⟩ := DN.an2 h
  obtain ⟨e12, h⟩ := DN.an2 h
  obtain ⟨e13, h⟩ := DN.an2 h
  obtain ⟨e14, h⟩ := DN.an2 h
  obtain ⟨e15, h⟩ := DN.an2 h
  obtain ⟨e16, h⟩ := DN.an2 h
  obtain ⟨e17, h⟩ := DN.an2 h
  exact ⟨e0, e1, e2, e3, e4, e5, e6, e7, e8, e9, e10, e11, e12, e13, e14, e15, e16, e17, trivial⟩
def ck_27 (K : PySem.W.Frag) : Bool := decide (PySem.W.nsIn K mainGlobals "InvalidTree" = some (some (.ref (He.ga K "InvalidTree")))) && (decide (PySem.W.findIn K (.ref (He.ga K "InvalidTree")) "__setattr__" = some (some (.builtin "object.__setattr__"))) && (decide (PySem.W.subIn K (.ref (He.ga K "InvalidTree")) (.type "BaseException") = some true) && (decide (PySem.W.typeIn K (.ref (He.ga K "InvalidTree")) = some (.type "type")) && (decide (PySem.W.keepIn K (.ref (He.ga K "InvalidTree")) = true) && (decide (PySem.W.mroIn K (He.ga K "InvalidTree") (.ref (He.ga K "OpenpostsError")) = some true) && (decide (PySem.W.ks_superIn K (He.ga K "InvalidTree") (He.ga K "OpenpostsError") "__init__" = some (some (.builtin "ValueError.__init__"))) && (decide (PySem.W.subIn K (.ref (He.ga K "InvalidTree")) (.type "ValueError") = some true) && (decide (PySem.W.findIn K (.ref (He.ga K "InvalidTree")) "value" = some none) && (decide (PySem.W.findIn K (.ref (He.ga K "InvalidTree")) "__getattribute__" = some (some (.builtin "BaseException.__getattribute__"))) && (decide (PySem.W.findIn K (.ref (He.ga K "InvalidTree")) "__getattr__" = some none) && (decide (PySem.W.hasDictIn K (He.ga K "InvalidTree") = true) && (decide (PySem.W.findIn K (.ref (He.ga K "InvalidTree")) "__class__" = some (some (.builtin "object.__class__"))) && (decide (PySem.W.specialIn K (.builtin "object.__class__") "__get__" = some (some (.builtin "getset_descriptor.__get__"))) && (decide (PySem.W.takesIn K (.builtin "object.__class__") = some true) && (decide (PySem.W.mroIn K (He.ga K "InvalidTree") (.type "object") = some true) && (decide (PySem.W.findIn K (.ref (He.ga K "InvalidTree")) "__init__" = some (some (.ref (He.ma K (He.ga K "OpenpostsError") "__init__")))) && (decide (DN.excB K (He.ga K "InvalidTree") = true) && (true))))))))))))))))))
theorem ok_27 {K : PySem.W.Frag} (h : ck_27 K = true) : (PySem.W.nsIn K mainGlobals "InvalidTree" = some (some (.ref (He.ga K "InvalidTree")))) ∧ (PySem.W.findIn K (.ref (He.ga K "InvalidTree")) "__setattr__" = some (some (.builtin "object.__setattr__"))) ∧ (PySem.W.subIn K (.ref (He.ga K "InvalidTree")) (.type "BaseException") = some true) ∧ (PySem.W.typeIn K (.ref (He.ga K "InvalidTree")) = some (.type "type")) ∧ (PySem.W.keepIn K (.ref (He.ga K "InvalidTree")) = true) ∧ (PySem.W.mroIn K (He.ga K "InvalidTree") (.ref (He.ga K "OpenpostsError")) = some true) ∧ (PySem.W.ks_superIn K (He.ga K "InvalidTree") (He.ga K "OpenpostsError") "__init__" = some (some (.builtin "ValueError.__init__"))) ∧ (PySem.W.subIn K (.ref (He.ga K "InvalidTree")) (.type "ValueError") = some true) ∧ (PySem.W.findIn K (.ref (He.ga K "InvalidTree")) "value" = some none) ∧ (PySem.W.findIn K (.ref (He.ga K "InvalidTree")) "__getattribute__" = some (some (.builtin "BaseException.__getattribute__"))) ∧ (PySem.W.findIn K (.ref (He.ga K "InvalidTree")) "__getattr__" = some none) ∧ (PySem.W.hasDictIn K (He.ga K "InvalidTree") = true) ∧ (PySem.W.findIn K (.ref (He.ga K "InvalidTree")) "__class__" = some (some (.builtin "object.__class__"))) ∧ (PySem.W.specialIn K (.builtin "object.__class__") "__get__" = some (some (.builtin "getset_descriptor.__get__"))) ∧ (PySem.W.takesIn K (.builtin "object.__class__") = some true) ∧ (PySem.W.mroIn K (He.ga K "InvalidTree") (.type "object") = some true) ∧ (PySem.W.findIn K (.ref (He.ga K "InvalidTree")) "__init__" = some (some (.ref (He.ma K (He.ga K "OpenpostsError") "__init__")))) ∧ (DN.excB K (He.ga K "InvalidTree") = true) ∧ True := by
  unfold ck_27 at h
  obtain ⟨e0, h⟩ := DN.an2 h
  obtain ⟨e1, h⟩ := DN.an2 h
  obtain ⟨e2, h⟩ := DN.an2 h
  obtain ⟨e3, h⟩ := DN.an2 h
  obtain ⟨e4, h⟩ := DN.an2 h
  obtain ⟨e5, h⟩ := DN.an2 h
  obtain ⟨e6, h⟩ := DN.an2 h
  obtain ⟨e7, h⟩ := DN.an2 h
  obtain ⟨e8, h⟩ := DN.an2 h
  obtain ⟨e9, h⟩ := DN.an2 h
  obtain ⟨e10, h⟩ := DN.an2 h
  obtain ⟨e11, h⟩ := DN.an2 h
  obtain ⟨e12, h⟩ := DN.an2 h
  obtain ⟨e13, h⟩ := DN.an2 h
  obtain ⟨e14, h⟩ := DN.an2 h
  obtain ⟨e15, h⟩ := DN.an2 h
  obtain ⟨e16, h⟩ := DN.an2 h
  obtain ⟨e17, h⟩ := DN.an2 h
  exact ⟨e0, e1, e2, e3, e4, e5, e6, e7, e8, e9, e10, e11, e12, e13, e14, e15, e16, e17, trivial⟩
def ck_28 (K : PySem.W.Frag) : Bool := decide (PySem.W.nsIn K mainGlobals "InvalidPairs" = some (some (.ref (He.ga K "InvalidPairs")))) && (decide (PySem.W.findIn K (.ref (He.ga K "InvalidPairs")) "__setattr__" = some (some (.builtin "object.__setattr__"))) && (decide (PySem.W.subIn K (.ref (He.ga K "InvalidPairs")) (.type "BaseException") = some true) && (decide (PySem.W.typeIn K (.ref (He.ga K "InvalidPairs")) = some (.type "type")) && (decide (PySem.W.keepIn K (.ref (He.ga K "InvalidPairs")) = true) && (decide (PySem.W.mroIn K (He.ga K "InvalidPairs") (.ref (He.ga K "OpenpostsError")) = some true) && (decide (PySem.W.ks_superIn K (He.ga K "InvalidPairs") (He.ga K "OpenpostsError") "__init__" = some (some (.builtin "ValueError.__init__"))) && (decide (PySem.W.subIn K (.ref (He.ga K "InvalidPairs")) (.type "ValueError") = some true) && (decide (PySem.W.findIn K (.ref (He.ga K "InvalidPairs")) "value" = some none) && (decide (PySem.W.findIn K (.ref (He.ga K "InvalidPairs")) "__getattribute__" = some (some (.builtin "BaseException.__getattribute__"))) && (decide (PySem.W.findIn K (.ref (He.ga K "InvalidPairs")) "__getattr__" = some none) && (decide (PySem.W.hasDictIn K (He.ga K "InvalidPairs") = true) && (decide (PySem.W.findIn K (.ref (He.ga K "InvalidPairs")) "__class__" = some (some (.builtin "object.__class__"))) && (decide (PySem.W.specialIn K (.builtin "object.__class__") "__get__" = some (some (.builtin "getset_descriptor.__get__"))) && (decide (PySem.W.takesIn K (.builtin "object.__class__") = some true) && (decide (PySem.W.mroIn K (He.ga K "InvalidPairs") (.type "object") = some true) && (decide (PySem.W.findIn K (.ref (He.ga K "InvalidPairs")) "__init__" = some (some (.ref (He.ma K (He.ga K "OpenpostsError") "__init__")))) && (decide (DN.excB K (He.ga K "InvalidPairs") = true) && (true))))))))))))))))))
theorem ok_28 {K : PySem.W.Frag} (h : ck_28 K = true) : (PySem.W.nsIn K mainGlobals "InvalidPairs" = some (some (.ref (He.ga K "InvalidPairs")))) ∧ (PySem.W.findIn K (.ref (He.ga K "InvalidPairs")) "__setattr__" = some (some (.builtin "object.__setattr__"))) ∧ (PySem.W.subIn K (.ref (He.ga K "InvalidPairs")) (.type "BaseException") = some true) ∧ (PySem.W.typeIn K (.ref (He.ga K "InvalidPairs")) = some (.type "type")) ∧ (PySem.W.keepIn K (.ref (He.ga K "InvalidPairs")) = true) ∧ (PySem.W.mroIn K (He.ga K "InvalidPairs") (.ref (He.ga K "OpenpostsError")) = some true) ∧ (PySem.W.ks_superIn K (He.ga K "InvalidPairs") (He.ga K "OpenpostsError") "__init__" = some (some (.builtin "ValueError.__init__"))) ∧ (PySem.W.subIn K (.ref (He.ga K "InvalidPairs")) (.type "ValueError") = some true) ∧ (PySem.W.findIn K (.ref (He.ga K "InvalidPairs")) "value" = some none) ∧ (PySem.W.findIn K (.ref (He.ga K "InvalidPairs")) "__getattribute__" = some (some (.builtin "BaseException.__getattribute__"))) ∧ (PySem.W.findIn K (.ref (He.ga K "InvalidPairs")) "__getattr__" = some none) ∧ (PySem.W.hasDictIn K (He.ga K "InvalidPairs") = true) ∧ (PySem.W.findIn K (.ref (He.ga K "InvalidPairs")) "__class__" = some (some (.builtin "object.__class__"))) ∧ (PySem.W.specialIn K (.builtin "object.__class__") "__get__" = some (some (.builtin "getset_descriptor.__get__"))) ∧ (PySem.W.takesIn K (.builtin "object.__class__") = some true) ∧ (PySem.W.mroIn K (He.ga K "InvalidPairs") (.type "object") = some true) ∧ (PySem.W.findIn K (.ref (He.ga K "InvalidPairs")) "__init__" = some (some (.ref (He.ma K (He.ga K "OpenpostsError") "__init__")))) ∧ (DN.excB K (He.ga K "InvalidPairs") = true) ∧ True := by
  unfold ck_28 at h
  obtain ⟨e0, h⟩ := DN.an2 h
  obtain ⟨e1, h⟩ := DN.an2 h
  obtain ⟨e2, h⟩ := DN.an2 h
  obtain ⟨e3, h⟩ := DN.an2 h
  obtain ⟨e4, h⟩ := DN.an2 h
  obtain ⟨e5, h⟩ := DN.an2 h
  obtain ⟨e6, h⟩ := DN.an2 h
  obtain ⟨e7, h⟩ := DN.an2 h
  obtain ⟨e8, h⟩ := DN.an2 h
  obtain ⟨e9, h⟩ := DN.an2 h
  obtain ⟨e10, h⟩ := DN.an2 h
  obtain ⟨e11, h⟩ := DN.an2 h
  obtain ⟨e12, h⟩ := DN.an2 h
  obtain ⟨e13, h⟩ := DN.an2 h
  obtain ⟨e14, h⟩ := DN.an2 h
  obtain ⟨e15, h⟩ := DN.an2 h
  obtain ⟨e16, h⟩ := DN.an2 h
  obtain ⟨e17, h⟩ := DN.an2 h
  exact ⟨e0, e1, e2, e3, e4, e5, e6, e7, e8, e9, e10, e11, e12, e13, e14, e15, e16, e17, trivial⟩
def ck_29 (K : PySem.W.Frag) : Bool := decide (PySem.W.nsIn K mainGlobals "InvalidRow" = some (some (.ref (He.ga K "InvalidRow")))) && (decide (PySem.W.findIn K (.ref (He.ga K "InvalidRow")) "__setattr__" = some (some (.builtin "object.__setattr__"))) && (decide (PySem.W.subIn K (.ref (He.ga K "InvalidRow")) (.type "BaseException") = some true) && (decide (PySem.W.typeIn K (.ref (He.ga K "InvalidRow")) = some (.type "type")) && (decide (PySem.W.keepIn K (.ref (He.ga K "InvalidRow")) = true) && (decide (PySem.W.mroIn K (He.ga K "InvalidRow") (.ref (He.ga K "OpenpostsError")) = some true) && (decide (PySem.W.ks_superIn K (He.ga K "InvalidRow") (He.ga K "OpenpostsError") "__init__" = some (some (.builtin "ValueError.__init__"))) && (decide (PySem.W.subIn K (.ref (He.ga K "InvalidRow")) (.type "ValueError") = some true) && (decide (PySem.W.findIn K (.ref (He.ga K "InvalidRow")) "value" = some none) && (decide (PySem.W.findIn K (.ref (He.ga K "InvalidRow")) "__getattribute__" = some (some (.builtin "BaseException.__getattribute__"))) && (decide (PySem.W.findIn K (.ref (He.ga K "InvalidRow")) "__getattr__" = some none) && (decide (PySem.W.hasDictIn K (He.ga K "InvalidRow") = true) && (decide (PySem.W.findIn K (.ref (He.ga K "InvalidRow")) "__class__" = some (some (.builtin "object.__class__"))) && (decide (PySem.W.specialIn K (.builtin "object.__class__") "__get__" = some (some (.builtin "getset_descriptor.__get__"))) && (decide (PySem.W.takesIn K (.builtin "object.__class__") = some true) && (decide (PySem.W.mroIn K (He.ga K "InvalidRow") (.type "object") = some true) && (decide (PySem.W.findIn K (.ref (He.ga K "InvalidRow")) "__init__" = some (some (.ref (He.ma K (He.ga K "OpenpostsError") "__init__")))) && (decide (DN.excB K (He.ga K "InvalidRow") = true) && (true))))))))))))))))))
theorem ok_29 {K : PySem.W.Frag} (h : ck_29 K = true) : (PySem.W.nsIn K mainGlobals "InvalidRow" = some (some (.ref (He.ga K "InvalidRow")))) ∧ (PySem.W.findIn K (.ref (He.ga K "InvalidRow")) "__setattr__" = some (some (.builtin "object.__setattr__"))) ∧ (PySem.W.subIn K (.ref (He.ga K "InvalidRow")) (.type "BaseException") = some true) ∧ (PySem.W.typeIn K (.ref (He.ga K "InvalidRow")) = some (.type "type")) ∧ (PySem.W.keepIn K (.ref (He.ga K "InvalidRow")) = true) ∧ (PySem.W.mroIn K (He.ga K "InvalidRow") (.ref (He.ga K "OpenpostsError")) = some true) ∧ (PySem.W.ks_superIn K (He.ga K "InvalidRow") (He.ga K "OpenpostsError") "__init__" = some (some (.builtin "ValueError.__init__"))) ∧ (PySem.W.subIn K (.ref (He.ga K "InvalidRow")) (.type "ValueError") = some true) ∧ (PySem.W.findIn K (.ref (He.ga K "InvalidRow")) "value" = some none) ∧ (PySem.W.findIn K (.ref (He.ga K "InvalidRow")) "__getattribute__" = some (some (.builtin "BaseException.__getattribute__"))) ∧ (PySem.W.findIn K (.ref (He.ga K "InvalidRow")) "__getattr__" = some none) ∧ (PySem.W.hasDictIn K (He.ga K "InvalidRow") = true) ∧ (PySem.W.findIn K (.ref (He.ga K "InvalidRow")) "__class__" = some (some (.builtin "object.__class__"))) ∧ (PySem.W.specialIn K (.builtin "object.__class__") "__get__" = some (some (.builtin "getset_descriptor.__get__"))) ∧ (PySem.W.takesIn K (.builtin "object.__class__") = some true) ∧ (PySem.W.mroIn K (He.ga K "InvalidRow") (.type "object") = some true) ∧ (PySem.W.findIn K (.ref (He.ga K "InvalidRow")) "__init__" = some (some (.ref (He.ma K (He.ga K "OpenpostsError") "__init__")))) ∧ (DN.excB K (He.ga K "InvalidRow") = true) ∧ True := by
  unfold ck_29 at h
  obtain ⟨e0, h⟩ := DN.an2 h
  obtain ⟨e1, h⟩ := DN.an2 h
  obtain ⟨e2, h⟩ := DN.an2 h
  obtain ⟨e3, h⟩ := DN.an2 h
  obtain ⟨e4, h⟩ := DN.an2 h
  obtain ⟨e5, h⟩ := DN.an2 h
  obtain ⟨e6, h⟩ := DN.an2 h
  obtain ⟨e7, h⟩ := DN.an2 h
  obtain ⟨e8, h⟩ := DN.an2 h
  obtain ⟨e9, h⟩ := DN.an2 h
  obtain ⟨e10, h⟩ := DN.an2 h
  obtain ⟨e11, h⟩ := DN.an2 h
  obtain ⟨e12, h⟩ := DN.an2 h
  obtain ⟨e13, h⟩ := DN.an2 h
  obtain ⟨e14, h⟩ := DN.an2 h
  obtain ⟨e15, h⟩ := DN.an2 h
  obtain ⟨e16, h⟩ := DN.an2 h
  obtain ⟨e17, h⟩ := DN.an2 h
  exact ⟨e0, e1, e2, e3, e4, e5, e6, e7, e8, e9, e10, e11, e12, e13, e14, e15, e16, e17, trivial⟩
def ck_30 (K : PySem.W.Frag) : Bool := decide (PySem.W.nsIn K mainGlobals "InvalidSide" = some (some (.ref (He.ga K "InvalidSide")))) && (decide (PySem.W.findIn K (.ref (He.ga K "InvalidSide")) "__setattr__" = some (some (.builtin "object.__setattr__"))) && (decide (PySem.W.subIn K (.ref (He.ga K "InvalidSide")) (.type "BaseException") = some true) && (decide (PySem.W.typeIn K (.ref (He.ga K "InvalidSide")) = some (.type "type")) && (decide (PySem.W.keepIn K (.ref (He.ga K "InvalidSide")) = true) && (decide (PySem.W.mroIn K (He.ga K "InvalidSide") (.ref (He.ga K "OpenpostsError")) = some true) && (decide (PySem.W.ks_superIn K (He.ga K "InvalidSide") (He.ga K "OpenpostsError") "__init__" = some (some (.builtin "ValueError.__init__"))) && (decide (PySem.W.subIn K (.ref (He.ga K "InvalidSide")) (.type "ValueError") = some true) && (decide (PySem.W.findIn K (.ref (He.ga K "InvalidSide")) "value" = some none) && (decide (PySem.W.findIn K (.ref (He.ga K "InvalidSide")) "__getattribute__" = some (some (.builtin "BaseException.__getattribute__"))) && (decide (PySem.W.findIn K (.ref (He.ga K "InvalidSide")) "__getattr__" = some none) && (decide (PySem.W.hasDictIn K (He.ga K "InvalidSide") = true) && (decide (PySem.W.findIn K (.ref (He.ga K "InvalidSide")) "__class__" = some (some (.builtin "object.__class__"))) && (decide (PySem.W.specialIn K (.builtin "object.__class__") "__get__" = some (some (.builtin "getset_descriptor.__get__"))) && (decide (PySem.W.takesIn K (.builtin "object.__class__") = some true) && (decide (PySem.W.mroIn K (He.ga K "InvalidSide") (.type "object") = some true) && (decide (PySem.W.findIn K (.ref (He.ga K "InvalidSide")) "__init__" = some (some (.ref (He.ma K (He.ga K "OpenpostsError") "__init__")))) && (decide (DN.excB K (He.ga K "InvalidSide") = true) && (true))))))))))))))))))
theorem ok_30 {K : PySem.W.Frag} (h : ck_30 K = true) : (PySem.W.nsIn K mainGlobals "InvalidSide" = some (some (.ref (He.ga K "InvalidSide")))) ∧ (PySem.W.findIn K (.ref (He.ga K "InvalidSide")) "__setattr__" = some (some (.builtin "object.__setattr__"))) ∧ (PySem.W.subIn K (.ref (He.ga K "InvalidSide")) (.type "BaseException") = some true) ∧ (PySem.W.typeIn K (.ref (He.ga K "InvalidSide")) = some (.type "type")) ∧ (PySem.W.keepIn K (.ref (He.ga K "InvalidSide")) = true) ∧ (PySem.W.mroIn K (He.ga K "InvalidSide") (.ref (He.ga K "OpenpostsError")) = some true) ∧ (PySem.W.ks_superIn K (He.ga K "InvalidSide") (He.ga K "OpenpostsError") "__init__" = some (some (.builtin "ValueError.__init__"))) ∧ (PySem.W.subIn K (.ref (He.ga K "InvalidSide")) (.type "ValueError") = some true) ∧ (PySem.W.findIn K (.ref (He.ga K "InvalidSide")) "value" = some none) ∧ (PySem.W.findIn K (.ref (He.ga K "InvalidSide")) "__getattribute__" = some (some (.builtin "BaseException.__getattribute__"))) ∧ (PySem.W.findIn K (.ref (He.ga K "InvalidSide")) "__getattr__" = some none) ∧ (PySem.W.hasDictIn K (He.ga K "InvalidSide") = true) ∧ (PySem.W.findIn K (.ref (He.ga K "InvalidSide")) "__class__" = some (some (.builtin "object.__class__"))) ∧ (PySem.W.specialIn K (.builtin "object.__class__") "__get__" = some (some (.builtin "getset_descriptor.__get__"))) ∧ (PySem.W.takesIn K (.builtin "object.__class__") = some true) ∧ (PySem.W.mroIn K (He.ga K "InvalidSide") (.type "object") = some true) ∧ (PySem.W.findIn K (.ref (He.ga K "InvalidSide")) "__init__" = some (some (.ref (He.ma K (He.ga K "OpenpostsError") "__init__")))) ∧ (DN.excB K (He.ga K "InvalidSide") = true) ∧ True := by
  unfold ck_30 at h
  obtain ⟨e0, h⟩ := DN.an2 h
  obtain ⟨e1, h⟩ := DN.an2 h
  obtain ⟨e2, h⟩ := DN.an2 h
  obtain ⟨e3, h⟩ := DN.an2 h
  obtain ⟨e4, h⟩ := DN.an2 h
  obtain ⟨e5, h⟩ := DN.an2 h
  obtain ⟨e6, h⟩ := DN.an2 h
  obtain ⟨e7, h⟩ := DN.an2 h
  obtain ⟨e8, h⟩ := DN.an2 h
  obtain ⟨e9, h⟩ := DN.an2 h
  obtain ⟨e10, h⟩ := DN.an2 h
  obtain ⟨e11, h⟩ := DN.an2 h
  obtain ⟨e12, h⟩ := DN.an2 h
  obtain ⟨e13, h⟩ := DN.an2 h
  obtain ⟨e14, h⟩ := DN.an2 h
  obtain ⟨e15, h⟩ := DN.an2 h
  obtain ⟨e16, h⟩ := DN.an2 h
  obtain ⟨e17, h⟩ := DN.an2 h
  exact ⟨e0, e1, e2, e3, e4, e5, e6, e7, e8, e9, e10, e11, e12, e13, e14, e15, e16, e17, trivial⟩
def ck_31 (K : PySem.W.Frag) : Bool := decide (PySem.W.nsIn K mainGlobals "InvalidName" = some (some (.ref (He.ga K "InvalidName")))) && (decide (PySem.W.findIn K (.ref (He.ga K "InvalidName")) "__setattr__" = some (some (.builtin "object.__setattr__"))) && (decide (PySem.W.subIn K (.ref (He.ga K "InvalidName")) (.type "BaseException") = some true) && (decide (PySem.W.typeIn K (.ref (He.ga K "InvalidName")) = some (.type "type")) && (decide (PySem.W.keepIn K (.ref (He.ga K "InvalidName")) = true) && (decide (PySem.W.mroIn K (He.ga K "InvalidName") (.ref (He.ga K "OpenpostsError")) = some true) && (decide (PySem.W.ks_superIn K (He.ga K "InvalidName") (He.ga K "OpenpostsError") "__init__" = some (some (.builtin "ValueError.__init__"))) && (decide (PySem.W.subIn K (.ref (He.ga K "InvalidName")) (.type "ValueError") = some true) && (decide (PySem.W.findIn K (.ref (He.ga K "InvalidName")) "value" = some none) && (decide (PySem.W.findIn K (.ref (He.ga K "InvalidName")) "__getattribute__" = some (some (.builtin "BaseException.__getattribute__"))) && (decide (PySem.W.findIn K (.ref (He.ga K "InvalidName")) "__getattr__" = some none) && (decide (PySem.W.hasDictIn K (He.ga K "InvalidName") = true) && (decide (PySem.W.findIn K (.ref (He.ga K "InvalidName")) "__class__" = some (some (.builtin "object.__class__"))) && (decide (PySem.W.specialIn K (.builtin "object.__class__") "__get__" = some (some (.builtin "getset_descriptor.__get__"))) && (decide (PySem.W.takesIn K (.builtin "object.__class__") = some true) && (decide (PySem.W.mroIn K (He.ga K "InvalidName") (.type "object") = some true) && (decide (PySem.W.findIn K (.ref (He.ga K "InvalidName")) "__init__" = some (some (.ref (He.ma K (He.ga K "OpenpostsError") "__init__")))) && (decide (DN.excB K (He.ga K "InvalidName") = true) && (true))))))))))))))))))
theorem ok_31 {K : PySem.W.Frag} (h : ck_31 K = true) : (PySem.W.nsIn K mainGlobals "InvalidName" = some (some (.ref (He.ga K "InvalidName")))) ∧ (PySem.W.findIn K (.ref (He.ga K "InvalidName")) "__setattr__" = some (some (.builtin "object.__setattr__"))) ∧ (PySem.W.subIn K (.ref (He.ga K "InvalidName")) (.type "BaseException") = some true) ∧ (PySem.W.typeIn K (.ref (He.ga K "InvalidName")) = some (.type "type")) ∧ (PySem.W.keepIn K (.ref (He.ga K "InvalidName")) = true) ∧ (PySem.W.mroIn K (He.ga K "InvalidName") (.ref (He.ga K "OpenpostsError")) = some true) ∧ (PySem.W.ks_superIn K (He.ga K "InvalidName") (He.ga K "OpenpostsError") "__init__" = some (some (.builtin "ValueError.__init__"))) ∧ (PySem.W.subIn K (.ref (He.ga K "InvalidName")) (.type "ValueError") = some true) ∧ (PySem.W.findIn K (.ref (He.ga K "InvalidName")) "value" = some none) ∧ (PySem.W.findIn K (.ref (He.ga K "InvalidName")) "__getattribute__" = some (some (.builtin "BaseException.__getattribute__"))) ∧ (PySem.W.findIn K (.ref (He.ga K "InvalidName")) "__getattr__" = some none) ∧ (PySem.W.hasDictIn K (He.ga K "InvalidName") = true) ∧ (PySem.W.findIn K (.ref (He.ga K "InvalidName")) "__class__" = some (some (.builtin "object.__class__"))) ∧ (PySem.W.specialIn K (.builtin "object.__class__") "__get__" = some (some (.builtin "getset_descriptor.__get__"))) ∧ (PySem.W.takesIn K (.builtin "object.__class__") = some true) ∧ (PySem.W.mroIn K (He.ga K "InvalidName") (.type "object") = some true) ∧ (PySem.W.findIn K (.ref (He.ga K "InvalidName")) "__init__" = some (some (.ref (He.ma K (He.ga K "OpenpostsError") "__init__")))) ∧ (DN.excB K (He.ga K "InvalidName") = true) ∧ True := by
  unfold ck_31 at h
  obtain ⟨e0, h⟩ := DN.an2 h
  obtain ⟨e1, h⟩ := DN.an2 h
  obtain ⟨e2, h⟩ := DN.an2 h
  obtain ⟨e3, h⟩ := DN.an2 h
  obtain ⟨e4, h⟩ := DN.an2 h
  obtain ⟨e5, h⟩ := DN.an2 h
  obtain ⟨e6, h⟩ := DN.an2 h
  obtain ⟨e7, h⟩ := DN.an2 h
  obtain ⟨e8, h⟩ := DN.an2 h
  obtain ⟨e9, h⟩ := DN.an2 h
  obtain ⟨e10, h⟩ := DN.an2 h
  obtain ⟨e11, h⟩ := DN.an2 h
  obtain ⟨e12, h⟩ := DN.an2 h
  obtain ⟨e13, h⟩ := DN.an2 h
  obtain ⟨e14, h⟩ := DN.an2 h
  obtain ⟨e15, h⟩ := DN.an2 h
  obtain ⟨e16, h⟩ := DN.an2 h
  obtain ⟨e17, h⟩ := DN.an2 h
  exact ⟨e0, e1, e2, e3, e4, e5, e6, e7, e8, e9, e10, e11, e12, e13, e14, e15, e16, e17, trivial⟩
def ck_32 (K : PySem.W.Frag) : Bool := decide (PySem.W.nsIn K mainGlobals "InvalidDeed" = some (some (.ref (He.ga K "InvalidDeed")))) && (decide (PySem.W.findIn K (.ref (He.ga K "InvalidDeed")) "__setattr__" = some (some (.builtin "object.__setattr__"))) && (decide (PySem.W.subIn K (.ref (He.ga K "InvalidDeed")) (.type "BaseException") = some true) && (decide (PySem.W.typeIn K (.ref (He.ga K "InvalidDeed")) = some (.type "type")) && (decide (PySem.W.keepIn K (.ref (He.ga K "InvalidDeed")) = true) && (decide (PySem.W.mroIn K (He.ga K "InvalidDeed") (.ref (He.ga K "OpenpostsError")) = some true) && (decide (PySem.W.ks_superIn K (He.ga K "InvalidDeed") (He.ga K "OpenpostsError") "__init__" = some (some (.builtin "ValueError.__init__"))) && (decide (PySem.W.subIn K (.ref (He.ga K "InvalidDeed")) (.type "ValueError") = some true) && (decide (PySem.W.findIn K (.ref (He.ga K "InvalidDeed")) "value" = some none) && (decide (PySem.W.findIn K (.ref (He.ga K "InvalidDeed")) "__getattribute__" = some (some (.builtin "BaseException.__getattribute__"))) && (decide (PySem.W.findIn K (.ref (He.ga K "InvalidDeed")) "__getattr__" = some none) && (decide (PySem.W.hasDictIn K (He.ga K "InvalidDeed") = true) && (decide (PySem.W.findIn K (.ref (He.ga K "InvalidDeed")) "__class__" = some (some (.builtin "object.__class__"))) && (decide (PySem.W.specialIn K (.builtin "object.__class__") "__get__" = some (some (.builtin "getset_descriptor.__get__"))) && (decide (PySem.W.takesIn K (.builtin "object.__class__") = some true) && (decide (PySem.W.mroIn K (He.ga K "InvalidDeed") (.type "object") = some true) && (decide (PySem.W.findIn K (.ref (He.ga K "InvalidDeed")) "__init__" = some (some (.ref (He.ma K (He.ga K "OpenpostsError") "__init__")))) && (decide (DN.excB K (He.ga K "InvalidDeed") = true) && (true))))))))))))))))))
theorem ok_32 {K : PySem.W.Frag} (h : ck_32 K = true) : (PySem.W.nsIn K mainGlobals "InvalidDeed" = some (some (.ref (He.ga K "InvalidDeed")))) ∧ (PySem.W.findIn K (.ref (He.ga K "InvalidDeed")) "__setattr__" = some (some (.builtin "object.__setattr__"))) ∧ (PySem.W.subIn K (.ref (He.ga K "InvalidDeed")) (.type "BaseException") = some true) ∧ (PySem.W.typeIn K (.ref (He.ga K "InvalidDeed")) = some (.type "type")) ∧ (PySem.W.keepIn K (.ref (He.ga K "InvalidDeed")) = true) ∧ (PySem.W.mroIn K (He.ga K "InvalidDeed") (.ref (He.ga K "OpenpostsError")) = some true) ∧ (PySem.W.ks_superIn K (He.ga K "InvalidDeed") (He.ga K "OpenpostsError") "__init__" = some (some (.builtin "ValueError.__init__"))) ∧ (PySem.W.subIn K (.ref (He.ga K "InvalidDeed")) (.type "ValueError") = some true) ∧ (PySem.W.findIn K (.ref (He.ga K "InvalidDeed")) "value" = some none) ∧ (PySem.W.findIn K (.ref (He.ga K "InvalidDeed")) "__getattribute__" = some (some (.builtin "BaseException.__getattribute__"))) ∧ (PySem.W.findIn K (.ref (He.ga K "InvalidDeed")) "__getattr__" = some none) ∧ (PySem.W.hasDictIn K (He.ga K "InvalidDeed") = true) ∧ (PySem.W.findIn K (.ref (He.ga K "InvalidDeed")) "__class__" = some (some (.builtin "object.__class__"))) ∧ (PySem.W.specialIn K (.builtin "object.__class__") "__get__" = some (some (.builtin "getset_descriptor.__get__"))) ∧ (PySem.W.takesIn K (.builtin "object.__class__") = some true) ∧ (PySem.W.mroIn K (He.ga K "InvalidDeed") (.type "object") = some true) ∧ (PySem.W.findIn K (.ref (He.ga K "InvalidDeed")) "__init__" = some (some (.ref (He.ma K (He.ga K "OpenpostsError") "__init__")))) ∧ (DN.excB K (He.ga K "InvalidDeed") = true) ∧ True := by
  unfold ck_32 at h
  obtain ⟨e0, h⟩ := DN.an2 h
  obtain ⟨e1, h⟩ := DN.an2 h
  obtain ⟨e2, h⟩ := DN.an2 h
  obtain ⟨e3, h⟩ := DN.an2 h
  obtain ⟨e4, h⟩ := DN.an2 h
  obtain ⟨e5, h⟩ := DN.an2 h
  obtain ⟨e6, h⟩ := DN.an2 h
  obtain ⟨e7, h⟩ := DN.an2 h
  obtain ⟨e8, h⟩ := DN.an2 h
  obtain ⟨e9, h⟩ := DN.an2 h
  obtain ⟨e10, h⟩ := DN.an2 h
  obtain ⟨e11, h⟩ := DN.an2 h
  obtain ⟨e12, h⟩ := DN.an2 h
  obtain ⟨e13, h⟩ := DN.an2 h
  obtain ⟨e14, h⟩ := DN.an2 h
  obtain ⟨e15, h⟩ := DN.an2 h
  obtain ⟨e16, h⟩ := DN.an2 h
  obtain ⟨e17, h⟩ := DN.an2 h
  exact ⟨e0, e1, e2, e3, e4, e5, e6, e7, e8, e9, e10, e11, e12, e13, e14, e15, e16, e17, trivial⟩
def ck_33 (K : PySem.W.Frag) : Bool := decide (PySem.W.nsIn K mainGlobals "InvalidDeeds" = some (some (.ref (He.ga K "InvalidDeeds")))) && (decide (PySem.W.findIn K (.ref (He.ga K "InvalidDeeds")) "__setattr__" = some (some (.builtin "object.__setattr__"))) && (decide (PySem.W.subIn K (.ref (He.ga K "InvalidDeeds")) (.type "BaseException") = some true) && (decide (PySem.W.typeIn K (.ref (He.ga K "InvalidDeeds")) = some (.type "type")) && (decide (PySem.W.keepIn K (.ref (He.ga K "InvalidDeeds")) = true) && (decide (PySem.W.mroIn K (He.ga K "InvalidDeeds") (.ref (He.ga K "OpenpostsError")) = some true) && (decide (PySem.W.ks_superIn K (He.ga K "InvalidDeeds") (He.ga K "OpenpostsError") "__init__" = some (some (.builtin "ValueError.__init__"))) && (decide (PySem.W.subIn K (.ref (He.ga K "InvalidDeeds")) (.type "ValueError") = some true) && (decide (PySem.W.findIn K (.ref (He.ga K "InvalidDeeds")) "value" = some none) && (decide (PySem.W.findIn K (.ref (He.ga K "InvalidDeeds")) "__getattribute__" = some (some (.builtin "BaseException.__getattribute__"))) && (decide (PySem.W.findIn K (.ref (He.ga K "InvalidDeeds")) "__getattr__" = some none) && (decide (PySem.W.hasDictIn K (He.ga K "InvalidDeeds") = true) && (decide (PySem.W.findIn K (.ref (He.ga K "InvalidDeeds")) "__class__" = some (some (.builtin "object.__class__"))) && (decide (PySem.W.specialIn K (.builtin "object.__class__") "__get__" = some (some (.builtin "getset_descriptor.__get__"))) && (decide (PySem.W.takesIn K (.builtin "object.__class__") = some true) && (decide (PySem.W.mroIn K (He.ga K "InvalidDeeds") (.type "object") = some true) && (decide (PySem.W.findIn K (.ref (He.ga K "InvalidDeeds")) "__init__" = some (some (.ref (He.ma K (He.ga K "OpenpostsError") "__init__")))) && (decide (DN.excB K (He.ga K "InvalidDeeds") = true) && (true))))))))))))))))))
theorem ok_33 {K : PySem.W.Frag} (h : ck_33 K = true) : (PySem.W.nsIn K mainGlobals "InvalidDeeds" = some (some (.ref (He.ga K "InvalidDeeds")))) ∧ (PySem.W.findIn K (.ref (He.ga K "InvalidDeeds")) "__setattr__" = some (some (.builtin "object.__setattr__"))) ∧ (PySem.W.subIn K (.ref (He.ga K "InvalidDeeds")) (.type "BaseException") = some true) ∧ (PySem.W.typeIn K (.ref (He.ga K "InvalidDeeds")) = some (.type "type")) ∧ (PySem.W.keepIn K (.ref (He.ga K "InvalidDeeds")) = true) ∧ (PySem.W.mroIn K (He.ga K "InvalidDeeds") (.ref (He.ga K "OpenpostsError")) = some true) ∧ (PySem.W.ks_superIn K (He.ga K "InvalidDeeds") (He.ga K "OpenpostsError") "__init__" = some (some (.builtin "ValueError.__init__"))) ∧ (PySem.W.subIn K (.ref (He.ga K "InvalidDeeds")) (.type "ValueError") = some true) ∧ (PySem.W.findIn K (.ref (He.ga K "InvalidDeeds")) "value" = some none) ∧ (PySem.W.findIn K (.ref (He.ga K "InvalidDeeds")) "__getattribute__" = some (some (.builtin "BaseException.__getattribute__"))) ∧ (PySem.W.findIn K (.ref (He.ga K "InvalidDeeds")) "__getattr__" = some none) ∧ (PySem.W.hasDictIn K (He.ga K "InvalidDeeds") = true) ∧ (PySem.W.findIn K (.ref (He.ga K "InvalidDeeds")) "__class__" = some (some (.builtin "object.__class__"))) ∧ (PySem.W.specialIn K (.builtin "object.__class__") "__get__" = some (some (.builtin "getset_descriptor.__get__"))) ∧ (PySem.W.takesIn K (.builtin "object.__class__") = some true) ∧ (PySem.W.mroIn K (He.ga K "InvalidDeeds") (.type "object") = some true) ∧ (PySem.W.findIn K (.ref (He.ga K "InvalidDeeds")) "__init__" = some (some (.ref (He.ma K (He.ga K "OpenpostsError") "__init__")))) ∧ (DN.excB K (He.ga K "InvalidDeeds") = true) ∧ True := by
  unfold ck_33 at h
  obtain ⟨e0, h⟩ := DN.an2 h
  obtain ⟨e1, h⟩ := DN.an2 h
  obtain ⟨e2, h⟩ := DN.an2 h
  obtain ⟨e3, h⟩ := DN.an2 h
  obtain ⟨e4, h⟩ := DN.an2 h
  obtain ⟨e5, h⟩ := DN.an2 h
  obtain ⟨e6, h⟩ := DN.an2 h
  obtain ⟨e7, h⟩ := DN.an2 h
  obtain ⟨e8, h⟩ := DN.an2 h
  obtain ⟨e9, h⟩ := DN.an2 h
  obtain ⟨e10, h⟩ := DN.an2 h
  obtain ⟨e11, h⟩ := DN.an2 h
  obtain ⟨e12, h⟩ := DN.an2 h
  obtain ⟨e13, h⟩ := DN.an2 h
  obtain ⟨e14, h⟩ := DN.an2 h
  obtain ⟨e15, h⟩ := DN.an2 h
  obtain ⟨e16, h⟩ := DN.an2 h
  obtain ⟨e17, h⟩ := DN.an2 h
  exact ⟨e0, e1, e2, e3, e4, e5, e6, e7, e8, e9, e10, e11, e12, e13, e14, e15, e16, e17, trivial⟩
def ck_34 (K : PySem.W.Frag) : Bool := decide (PySem.W.nsIn K mainGlobals "InvalidLine" = some (some (.ref (He.ga K "InvalidLine")))) && (decide (PySem.W.findIn K (.ref (He.ga K "InvalidLine")) "__setattr__" = some (some (.builtin "object.__setattr__"))) && (decide (PySem.W.subIn K (.ref (He.ga K "InvalidLine")) (.type "BaseException") = some true) && (decide (PySem.W.typeIn K (.ref (He.ga K "InvalidLine")) = some (.type "type")) && (decide (PySem.W.keepIn K (.ref (He.ga K "InvalidLine")) = true) && (decide (PySem.W.mroIn K (He.ga K "InvalidLine") (.ref (He.ga K "OpenpostsError")) = some true) && (decide (PySem.W.ks_superIn K (He.ga K "InvalidLine") (He.ga K "OpenpostsError") "__init__" = some (some (.builtin "ValueError.__init__"))) && (decide (PySem.W.subIn K (.ref (He.ga K "InvalidLine")) (.type "ValueError") = some true) && (decide (PySem.W.findIn K (.ref (He.ga K "InvalidLine")) "value" = some none) && (decide (PySem.W.findIn K (.ref (He.ga K "InvalidLine")) "__getattribute__" = some (some (.builtin "BaseException.__getattribute__"))) && (decide (PySem.W.findIn K (.ref (He.ga K "InvalidLine")) "__getattr__" = some none) && (decide (PySem.W.hasDictIn K (He.ga K "InvalidLine") = true) && (decide (PySem.W.findIn K (.ref (He.ga K "InvalidLine")) "__class__" = some (some (.builtin "object.__class__"))) && (decide (PySem.W.specialIn K (.builtin "object.__class__") "__get__" = some (some (.builtin "getset_descriptor.__get__"))) && (decide (PySem.W.takesIn K (.builtin "object.__class__") = some true) && (decide (PySem.W.mroIn K (He.ga K "InvalidLine") (.type "object") = some true) && (decide (PySem.W.findIn K (.ref (He.ga K "InvalidLine")) "__init__" = some (some (.ref (He.ma K (He.ga K "OpenpostsError") "__init__")))) && (decide (DN.excB K (He.ga K "InvalidLine") = true) && (true))))))))))))))))))
theorem ok_34 {K : PySem.W.Frag} (h : ck_34 K = true) : (PySem.W.nsIn K mainGlobals "InvalidLine" = some (some (.ref (He.ga K "InvalidLine")))) ∧ (PySem.W.findIn K (.ref (He.ga K "InvalidLine")) "__setattr__" = some (some (.builtin "object.__setattr__"))) ∧ (PySem.W.subIn K (.ref (He.ga K "InvalidLine")) (.type "BaseException") = some true) ∧ (PySem.W.typeIn K (.ref (He.ga K "InvalidLine")) = some (.type "type")) ∧ (PySem.W.keepIn K (.ref (He.ga K "InvalidLine")) = true) ∧ (PySem.W.mroIn K (He.ga K "InvalidLine") (.ref (He.ga K "OpenpostsError")) = some true) ∧ (PySem.W.ks_superIn K (He.ga K "InvalidLine") (He.ga K "OpenpostsError") "__init__" = some (some (.builtin "ValueError.__init__"))) ∧ (PySem.W.subIn K (.ref (He.ga K "InvalidLine")) (.type "ValueError") = some true) ∧ (PySem.W.findIn K (.ref (He.ga K "InvalidLine")) "value" = some none) ∧ (PySem.W.findIn K (.ref (He.ga K "InvalidLine")) "__getattribute__" = some (some (.builtin "BaseException.__getattribute__"))) ∧ (PySem.W.findIn K (.ref (He.ga K "InvalidLine")) "__getattr__" = some none) ∧ (PySem.W.hasDictIn K (He.ga K "InvalidLine") = true) ∧ (PySem.W.findIn K (.ref (He.ga K "InvalidLine")) "__class__" = some (some (.builtin "object.__class__"))) ∧ (PySem.W.specialIn K (.builtin "object.__class__") "__get__" = some (some (.builtin "getset_descriptor.__get__"))) ∧ (PySem.W.takesIn K (.builtin "object.__class__") = some true) ∧ (PySem.W.mroIn K (He.ga K "InvalidLine") (.type "object") = some true) ∧ (PySem.W.findIn K (.ref (He.ga K "InvalidLine")) "__init__" = some (some (.ref (He.ma K (He.ga K "OpenpostsError") "__init__")))) ∧ (DN.excB K (He.ga K "InvalidLine") = true) ∧ True := by
  unfold ck_34 at h
  obtain ⟨e0, h⟩ := DN.an2 h
  obtain ⟨e1, h⟩ := DN.an2 h
  obtain ⟨e2, h⟩ := DN.an2 h
  obtain ⟨e3, h⟩ := DN.an2 h
  obtain ⟨e4, h⟩ := DN.an2 h
  obtain ⟨e5, h⟩ := DN.an2 h
  obtain ⟨e6, h⟩ := DN.an2 h
  obtain ⟨e7, h⟩ := DN.an2 h
  obtain ⟨e8, h⟩ := DN.an2 h
  obtain ⟨e9, h⟩ := DN.an2 h
  obtain ⟨e10, h⟩ := DN.an2 h
  obtain ⟨e11, h⟩ := DN.an2 h
  obtain ⟨e12, h⟩ := DN.an2 h
  obtain ⟨e13, h⟩ := DN.an2 h
  obtain ⟨e14, h⟩ := DN.an2 h
  obtain ⟨e15, h⟩ := DN.an2 h
  obtain ⟨e16, h⟩ := DN.an2 h
  obtain ⟨e17, h⟩ := DN.an2 h
  exact ⟨e0, e1, e2, e3, e4, e5, e6, e7, e8, e9, e10, e11, e12, e13, e14, e15, e16, e17, trivial⟩
def ck_35 (K : PySem.W.Frag) : Bool := decide (PySem.W.nsIn K mainGlobals "UnknownName" = some (some (.ref (He.ga K "UnknownName")))) && (decide (PySem.W.findIn K (.ref (He.ga K "UnknownName")) "__setattr__" = some (some (.builtin "object.__setattr__"))) && (decide (PySem.W.subIn K (.ref (He.ga K "UnknownName")) (.type "BaseException") = some true) && (decide (PySem.W.typeIn K (.ref (He.ga K "UnknownName")) = some (.type "type")) && (decide (PySem.W.keepIn K (.ref (He.ga K "UnknownName")) = true) && (decide (PySem.W.mroIn K (He.ga K "UnknownName") (.ref (He.ga K "OpenpostsError")) = some true) && (decide (PySem.W.ks_superIn K (He.ga K "UnknownName") (He.ga K "OpenpostsError") "__init__" = some (some (.builtin "ValueError.__init__"))) && (decide (PySem.W.subIn K (.ref (He.ga K "UnknownName")) (.type "ValueError") = some true) && (decide (PySem.W.findIn K (.ref (He.ga K "UnknownName")) "value" = some none) && (decide (PySem.W.findIn K (.ref (He.ga K "UnknownName")) "__getattribute__" = some (some (.builtin "BaseException.__getattribute__"))) && (decide (PySem.W.findIn K (.ref (He.ga K "UnknownName")) "__getattr__" = some none) && (decide (PySem.W.hasDictIn K (He.ga K "UnknownName") = true) && (decide (PySem.W.findIn K (.ref (He.ga K "UnknownName")) "__class__" = some (some (.builtin "object.__class__"))) && (decide (PySem.W.specialIn K (.builtin "object.__class__") "__get__" = some (some (.builtin "getset_descriptor.__get__"))) && (decide (PySem.W.takesIn K (.builtin "object.__class__") = some true) && (decide (PySem.W.mroIn K (He.ga K "UnknownName") (.type "object") = some true) && (decide (PySem.W.findIn K (.ref (He.ga K "UnknownName")) "__init__" = some (some (.ref (He.ma K (He.ga K "OpenpostsError") "__init__")))) && (decide (DN.excB K (He.ga K "UnknownName") = true) && (true))))))))))))))))))
theorem ok_35 {K : PySem.W.Frag} (h : ck_35 K = true) : (PySem.W.nsIn K mainGlobals "UnknownName" = some (some (.ref (He.ga K "UnknownName")))) ∧ (PySem.W.findIn K (.ref (He.ga K "UnknownName")) "__setattr__" = some (some (.builtin "object.__setattr__"))) ∧ (PySem.W.subIn K (.ref (He.ga K "UnknownName")) (.type "BaseException") = some true) ∧ (PySem.W.typeIn K (.ref (He.ga K "UnknownName")) = some (.type "type")) ∧ (PySem.W.keepIn K (.ref (He.ga K "UnknownName")) = true) ∧ (PySem.W.mroIn K (He.ga K "UnknownName") (.ref (He.ga K "OpenpostsError")) = some true) ∧ (PySem.W.ks_superIn K (He.ga K "UnknownName") (He.ga K "OpenpostsError") "__init__" = some (some (.builtin "ValueError.__init__"))) ∧ (PySem.W.subIn K (.ref (He.ga K "UnknownName")) (.type "ValueError") = some true) ∧ (PySem.W.findIn K (.ref (He.ga K "UnknownName")) "value" = some none) ∧ (PySem.W.findIn K (.ref (He.ga K "UnknownName")) "__getattribute__" = some (some (.builtin "BaseException.__getattribute__"))) ∧ (PySem.W.findIn K (.ref (He.ga K "UnknownName")) "__getattr__" = some none) ∧ (PySem.W.hasDictIn K (He.ga K "UnknownName") = true) ∧ (PySem.W.findIn K (.ref (He.ga K "UnknownName")) "__class__" = some (some (.builtin "object.__class__"))) ∧ (PySem.W.specialIn K (.builtin "object.__class__") "__get__" = some (some (.builtin "getset_descriptor.__get__"))) ∧ (PySem.W.takesIn K (.builtin "object.__class__") = some true) ∧ (PySem.W.mroIn K (He.ga K "UnknownName") (.type "object") = some true) ∧ (PySem.W.findIn K (.ref (He.ga K "UnknownName")) "__init__" = some (some (.ref (He.ma K (He.ga K "OpenpostsError") "__init__")))) ∧ (DN.excB K (He.ga K "UnknownName") = true) ∧ True := by
  unfold ck_35 at h
  obtain ⟨e0, h⟩ := DN.an2 h
  obtain ⟨e1, h⟩ := DN.an2 h
  obtain ⟨e2, h⟩ := DN.an2 h
  obtain ⟨e3, h⟩ := DN.an2 h
  obtain ⟨e4, h⟩ := DN.an2 h
  obtain ⟨e5, h⟩ := DN.an2 h
  obtain ⟨e6, h⟩ := DN.an2 h
  obtain ⟨e7, h⟩ := DN.an2 h
  obtain ⟨e8, h⟩ := DN.an2 h
  obtain ⟨e9, h⟩ := DN.an2 h
  obtain ⟨e10, h⟩ := DN.an2 h
  obtain ⟨e11, h⟩ := DN.an2 h
  obtain ⟨e12, h⟩ := DN.an2 h
  obtain ⟨e13, h⟩ := DN.an2 h
  obtain ⟨e14, h⟩ := DN.an2 h
  obtain ⟨e15, h⟩ := DN.an2 h
  obtain ⟨e16, h⟩ := DN.an2 h
  obtain ⟨e17, h⟩ := DN.an2 h
  exact ⟨e0, e1, e2, e3, e4, e5, e6, e7, e8, e9, e10, e11, e12, e13, e14, e15, e16, e17, trivial⟩
def ck_36 (K : PySem.W.Frag) : Bool := decide (PySem.W.nsIn K mainGlobals "NameTaken" = some (some (.ref (He.ga K "NameTaken")))) && (decide (PySem.W.findIn K (.ref (He.ga K "NameTaken")) "__setattr__" = some (some (.builtin "object.__setattr__"))) && (decide (PySem.W.subIn K (.ref (He.ga K "NameTaken")) (.type "BaseException") = some true) && (decide (PySem.W.typeIn K (.ref (He.ga K "NameTaken")) = some (.type "type")) && (decide (PySem.W.keepIn K (.ref (He.ga K "NameTaken")) = true) && (decide (PySem.W.mroIn K (He.ga K "NameTaken") (.ref (He.ga K "OpenpostsError")) = some true) && (decide (PySem.W.ks_superIn K (He.ga K "NameTaken") (He.ga K "OpenpostsError") "__init__" = some (some (.builtin "ValueError.__init__"))) && (decide (PySem.W.subIn K (.ref (He.ga K "NameTaken")) (.type "ValueError") = some true) && (decide (PySem.W.findIn K (.ref (He.ga K "NameTaken")) "value" = some none) && (decide (PySem.W.findIn K (.ref (He.ga K "NameTaken")) "__getattribute__" = some (some (.builtin "BaseException.__getattribute__"))) && (decide (PySem.W.findIn K (.ref (He.ga K "NameTaken")) "__getattr__" = some none) && (decide (PySem.W.hasDictIn K (He.ga K "NameTaken") = true) && (decide (PySem.W.findIn K (.ref (He.ga K "NameTaken")) "__class__" = some (some (.builtin "object.__class__"))) && (decide (PySem.W.specialIn K (.builtin "object.__class__") "__get__" = some (some (.builtin "getset_descriptor.__get__"))) && (decide (PySem.W.takesIn K (.builtin "object.__class__") = some true) && (decide (PySem.W.mroIn K (He.ga K "NameTaken") (.type "object") = some true) && (decide (PySem.W.findIn K (.ref (He.ga K "NameTaken")) "__init__" = some (some (.ref (He.ma K (He.ga K "OpenpostsError") "__init__")))) && (decide (DN.excB K (He.ga K "NameTaken") = true) && (true))))))))))))))))))
theorem ok_36 {K : PySem.W.Frag} (h : ck_36 K = true) : (PySem.W.nsIn K mainGlobals "NameTaken" = some (some (.ref (He.ga K "NameTaken")))) ∧ (PySem.W.findIn K (.ref (He.ga K "NameTaken")) "__setattr__" = some (some (.builtin "object.__setattr__"))) ∧ (PySem.W.subIn K (.ref (He.ga K "NameTaken")) (.type "BaseException") = some true) ∧ (PySem.W.typeIn K (.ref (He.ga K "NameTaken")) = some (.type "type")) ∧ (PySem.W.keepIn K (.ref (He.ga K "NameTaken")) = true) ∧ (PySem.W.mroIn K (He.ga K "NameTaken") (.ref (He.ga K "OpenpostsError")) = some true) ∧ (PySem.W.ks_superIn K (He.ga K "NameTaken") (He.ga K "OpenpostsError") "__init__" = some (some (.builtin "ValueError.__init__"))) ∧ (PySem.W.subIn K (.ref (He.ga K "NameTaken")) (.type "ValueError") = some true) ∧ (PySem.W.findIn K (.ref (He.ga K "NameTaken")) "value" = some none) ∧ (PySem.W.findIn K (.ref (He.ga K "NameTaken")) "__getattribute__" = some (some (.builtin "BaseException.__getattribute__"))) ∧ (PySem.W.findIn K (.ref (He.ga K "NameTaken")) "__getattr__" = some none) ∧ (PySem.W.hasDictIn K (He.ga K "NameTaken") = true) ∧ (PySem.W.findIn K (.ref (He.ga K "NameTaken")) "__class__" = some (some (.builtin "object.__class__"))) ∧ (PySem.W.specialIn K (.builtin "object.__class__") "__get__" = some (some (.builtin "getset_descriptor.__get__"))) ∧ (PySem.W.takesIn K (.builtin "object.__class__") = some true) ∧ (PySem.W.mroIn K (He.ga K "NameTaken") (.type "object") = some true) ∧ (PySem.W.findIn K (.ref (He.ga K "NameTaken")) "__init__" = some (some (.ref (He.ma K (He.ga K "OpenpostsError") "__init__")))) ∧ (DN.excB K (He.ga K "NameTaken") = true) ∧ True := by
  unfold ck_36 at h
  obtain ⟨e0, h⟩ := DN.an2 h
  obtain ⟨e1, h⟩ := DN.an2 h
  obtain ⟨e2, h⟩ := DN.an2 h
  obtain ⟨e3, h⟩ := DN.an2 h
  obtain ⟨e4, h⟩ := DN.an2 h
  obtain ⟨e5, h⟩ := DN.an2 h
  obtain ⟨e6, h⟩ := DN.an2 h
  obtain ⟨e7, h⟩ := DN.an2 h
  obtain ⟨e8, h⟩ := DN.an2 h
  obtain ⟨e9, h⟩ := DN.an2 h
  obtain ⟨e10, h⟩ := DN.an2 h
  obtain ⟨e11, h⟩ := DN.an2 h
  obtain ⟨e12, h⟩ := DN.an2 h
  obtain ⟨e13, h⟩ := DN.an2 h
  obtain ⟨e14, h⟩ := DN.an2 h
  obtain ⟨e15, h⟩ := DN.an2 h
  obtain ⟨e16, h⟩ := DN.an2 h
  obtain ⟨e17, h⟩ := DN.an2 h
  exact ⟨e0, e1, e2, e3, e4, e5, e6, e7, e8, e9, e10, e11, e12, e13, e14, e15, e16, e17, trivial⟩
def ck_37 (K : PySem.W.Frag) : Bool := decide (PySem.W.nsIn K mainGlobals "NotJoined" = some (some (.ref (He.ga K "NotJoined")))) && (decide (PySem.W.findIn K (.ref (He.ga K "NotJoined")) "__setattr__" = some (some (.builtin "object.__setattr__"))) && (decide (PySem.W.subIn K (.ref (He.ga K "NotJoined")) (.type "BaseException") = some true) && (decide (PySem.W.typeIn K (.ref (He.ga K "NotJoined")) = some (.type "type")) && (decide (PySem.W.keepIn K (.ref (He.ga K "NotJoined")) = true) && (decide (PySem.W.mroIn K (He.ga K "NotJoined") (.ref (He.ga K "OpenpostsError")) = some true) && (decide (PySem.W.ks_superIn K (He.ga K "NotJoined") (He.ga K "OpenpostsError") "__init__" = some (some (.builtin "ValueError.__init__"))) && (decide (PySem.W.subIn K (.ref (He.ga K "NotJoined")) (.type "ValueError") = some true) && (decide (PySem.W.findIn K (.ref (He.ga K "NotJoined")) "value" = some none) && (decide (PySem.W.findIn K (.ref (He.ga K "NotJoined")) "__getattribute__" = some (some (.builtin "BaseException.__getattribute__"))) && (decide (PySem.W.findIn K (.ref (He.ga K "NotJoined")) "__getattr__" = some none) && (decide (PySem.W.hasDictIn K (He.ga K "NotJoined") = true) && (decide (PySem.W.findIn K (.ref (He.ga K "NotJoined")) "__class__" = some (some (.builtin "object.__class__"))) && (decide (PySem.W.specialIn K (.builtin "object.__class__") "__get__" = some (some (.builtin "getset_descriptor.__get__"))) && (decide (PySem.W.takesIn K (.builtin "object.__class__") = some true) && (decide (PySem.W.mroIn K (He.ga K "NotJoined") (.type "object") = some true) && (decide (PySem.W.findIn K (.ref (He.ga K "NotJoined")) "__init__" = some (some (.ref (He.ma K (He.ga K "OpenpostsError") "__init__")))) && (decide (DN.excB K (He.ga K "NotJoined") = true) && (true))))))))))))))))))
theorem ok_37 {K : PySem.W.Frag} (h : ck_37 K = true) : (PySem.W.nsIn K mainGlobals "NotJoined" = some (some (.ref (He.ga K "NotJoined")))) ∧ (PySem.W.findIn K (.ref (He.ga K "NotJoined")) "__setattr__" = some (some (.builtin "object.__setattr__"))) ∧ (PySem.W.subIn K (.ref (He.ga K "NotJoined")) (.type "BaseException") = some true) ∧ (PySem.W.typeIn K (.ref (He.ga K "NotJoined")) = some (.type "type")) ∧ (PySem.W.keepIn K (.ref (He.ga K "NotJoined")) = true) ∧ (PySem.W.mroIn K (He.ga K "NotJoined") (.ref (He.ga K "OpenpostsError")) = some true) ∧ (PySem.W.ks_superIn K (He.ga K "NotJoined") (He.ga K "OpenpostsError") "__init__" = some (some (.builtin "ValueError.__init__"))) ∧ (PySem.W.subIn K (.ref (He.ga K "NotJoined")) (.type "ValueError") = some true) ∧ (PySem.W.findIn K (.ref (He.ga K "NotJoined")) "value" = some none) ∧ (PySem.W.findIn K (.ref (He.ga K "NotJoined")) "__getattribute__" = some (some (.builtin "BaseException.__getattribute__"))) ∧ (PySem.W.findIn K (.ref (He.ga K "NotJoined")) "__getattr__" = some none) ∧ (PySem.W.hasDictIn K (He.ga K "NotJoined") = true) ∧ (PySem.W.findIn K (.ref (He.ga K "NotJoined")) "__class__" = some (some (.builtin "object.__class__"))) ∧ (PySem.W.specialIn K (.builtin "object.__class__") "__get__" = some (some (.builtin "getset_descriptor.__get__"))) ∧ (PySem.W.takesIn K (.builtin "object.__class__") = some true) ∧ (PySem.W.mroIn K (He.ga K "NotJoined") (.type "object") = some true) ∧ (PySem.W.findIn K (.ref (He.ga K "NotJoined")) "__init__" = some (some (.ref (He.ma K (He.ga K "OpenpostsError") "__init__")))) ∧ (DN.excB K (He.ga K "NotJoined") = true) ∧ True := by
  unfold ck_37 at h
  obtain ⟨e0, h⟩ := DN.an2 h
  obtain ⟨e1, h⟩ := DN.an2 h
  obtain ⟨e2, h⟩ := DN.an2 h
  obtain ⟨e3, h⟩ := DN.an2 h
  obtain ⟨e4, h⟩ := DN.an2 h
  obtain ⟨e5, h⟩ := DN.an2 h
  obtain ⟨e6, h⟩ := DN.an2 h
  obtain ⟨e7, h⟩ := DN.an2 h
  obtain ⟨e8, h⟩ := DN.an2 h
  obtain ⟨e9, h⟩ := DN.an2 h
  obtain ⟨e10, h⟩ := DN.an2 h
  obtain ⟨e11, h⟩ := DN.an2 h
  obtain ⟨e12, h⟩ := DN.an2 h
  obtain ⟨e13, h⟩ := DN.an2 h
  obtain ⟨e14, h⟩ := DN.an2 h
  obtain ⟨e15, h⟩ := DN.an2 h
  obtain ⟨e16, h⟩ := DN.an2 h
  obtain ⟨e17, h⟩ := DN.an2 h
  exact ⟨e0, e1, e2, e3, e4, e5, e6, e7, e8, e9, e10, e11, e12, e13, e14, e15, e16, e17, trivial⟩
def ck_38 (K : PySem.W.Frag) : Bool := decide (PySem.W.nsIn K mainGlobals "NotKept" = some (some (.ref (He.ga K "NotKept")))) && (decide (PySem.W.findIn K (.ref (He.ga K "NotKept")) "__setattr__" = some (some (.builtin "object.__setattr__"))) && (decide (PySem.W.subIn K (.ref (He.ga K "NotKept")) (.type "BaseException") = some true) && (decide (PySem.W.typeIn K (.ref (He.ga K "NotKept")) = some (.type "type")) && (decide (PySem.W.keepIn K (.ref (He.ga K "NotKept")) = true) && (decide (PySem.W.mroIn K (He.ga K "NotKept") (.ref (He.ga K "OpenpostsError")) = some true) && (decide (PySem.W.ks_superIn K (He.ga K "NotKept") (He.ga K "OpenpostsError") "__init__" = some (some (.builtin "ValueError.__init__"))) && (decide (PySem.W.subIn K (.ref (He.ga K "NotKept")) (.type "ValueError") = some true) && (decide (PySem.W.findIn K (.ref (He.ga K "NotKept")) "value" = some none) && (decide (PySem.W.findIn K (.ref (He.ga K "NotKept")) "__getattribute__" = some (some (.builtin "BaseException.__getattribute__"))) && (decide (PySem.W.findIn K (.ref (He.ga K "NotKept")) "__getattr__" = some none) && (decide (PySem.W.hasDictIn K (He.ga K "NotKept") = true) && (decide (PySem.W.findIn K (.ref (He.ga K "NotKept")) "__class__" = some (some (.builtin "object.__class__"))) && (decide (PySem.W.specialIn K (.builtin "object.__class__") "__get__" = some (some (.builtin "getset_descriptor.__get__"))) && (decide (PySem.W.takesIn K (.builtin "object.__class__") = some true) && (decide (PySem.W.mroIn K (He.ga K "NotKept") (.type "object") = some true) && (decide (PySem.W.findIn K (.ref (He.ga K "NotKept")) "__init__" = some (some (.ref (He.ma K (He.ga K "OpenpostsError") "__init__")))) && (decide (DN.excB K (He.ga K "NotKept") = true) && (true))))))))))))))))))
theorem ok_38 {K : PySem.W.Frag} (h : ck_38 K = true) : (PySem.W.nsIn K mainGlobals "NotKept" = some (some (.ref (He.ga K "NotKept")))) ∧ (PySem.W.findIn K (.ref (He.ga K "NotKept")) "__setattr__" = some (some (.builtin "object.__setattr__"))) ∧ (PySem.W.subIn K (.ref (He.ga K "NotKept")) (.type "BaseException") = some true) ∧ (PySem.W.typeIn K (.ref (He.ga K "NotKept")) = some (.type "type")) ∧ (PySem.W.keepIn K (.ref (He.ga K "NotKept")) = true) ∧ (PySem.W.mroIn K (He.ga K "NotKept") (.ref (He.ga K "OpenpostsError")) = some true) ∧ (PySem.W.ks_superIn K (He.ga K "NotKept") (He.ga K "OpenpostsError") "__init__" = some (some (.builtin "ValueError.__init__"))) ∧ (PySem.W.subIn K (.ref (He.ga K "NotKept")) (.type "ValueError") = some true) ∧ (PySem.W.findIn K (.ref (He.ga K "NotKept")) "value" = some none) ∧ (PySem.W.findIn K (.ref (He.ga K "NotKept")) "__getattribute__" = some (some (.builtin "BaseException.__getattribute__"))) ∧ (PySem.W.findIn K (.ref (He.ga K "NotKept")) "__getattr__" = some none) ∧ (PySem.W.hasDictIn K (He.ga K "NotKept") = true) ∧ (PySem.W.findIn K (.ref (He.ga K "NotKept")) "__class__" = some (some (.builtin "object.__class__"))) ∧ (PySem.W.specialIn K (.builtin "object.__class__") "__get__" = some (some (.builtin "getset_descriptor.__get__"))) ∧ (PySem.W.takesIn K (.builtin "object.__class__") = some true) ∧ (PySem.W.mroIn K (He.ga K "NotKept") (.type "object") = some true) ∧ (PySem.W.findIn K (.ref (He.ga K "NotKept")) "__init__" = some (some (.ref (He.ma K (He.ga K "OpenpostsError") "__init__")))) ∧ (DN.excB K (He.ga K "NotKept") = true) ∧ True := by
  unfold ck_38 at h
  obtain ⟨e0, h⟩ := DN.an2 h
  obtain ⟨e1, h⟩ := DN.an2 h
  obtain ⟨e2, h⟩ := DN.an2 h
  obtain ⟨e3, h⟩ := DN.an2 h
  obtain ⟨e4, h⟩ := DN.an2 h
  obtain ⟨e5, h⟩ := DN.an2 h
  obtain ⟨e6, h⟩ := DN.an2 h
  obtain ⟨e7, h⟩ := DN.an2 h
  obtain ⟨e8, h⟩ := DN.an2 h
  obtain ⟨e9, h⟩ := DN.an2 h
  obtain ⟨e10, h⟩ := DN.an2 h
  obtain ⟨e11, h⟩ := DN.an2 h
  obtain ⟨e12, h⟩ := DN.an2 h
  obtain ⟨e13, h⟩ := DN.an2 h
  obtain ⟨e14, h⟩ := DN.an2 h
  obtain ⟨e15, h⟩ := DN.an2 h
  obtain ⟨e16, h⟩ := DN.an2 h
  obtain ⟨e17, h⟩ := DN.an2 h
  exact ⟨e0, e1, e2, e3, e4, e5, e6, e7, e8, e9, e10, e11, e12, e13, e14, e15, e16, e17, trivial⟩
def ck_39 (K : PySem.W.Frag) : Bool := decide (PySem.W.nsIn K mainGlobals "TooLarge" = some (some (.ref (He.ga K "TooLarge")))) && (decide (PySem.W.findIn K (.ref (He.ga K "TooLarge")) "__setattr__" = some (some (.builtin "object.__setattr__"))) && (decide (PySem.W.subIn K (.ref (He.ga K "TooLarge")) (.type "BaseException") = some true) && (decide (PySem.W.typeIn K (.ref (He.ga K "TooLarge")) = some (.type "type")) && (decide (PySem.W.keepIn K (.ref (He.ga K "TooLarge")) = true) && (decide (PySem.W.mroIn K (He.ga K "TooLarge") (.ref (He.ga K "OpenpostsError")) = some true) && (decide (PySem.W.ks_superIn K (He.ga K "TooLarge") (He.ga K "OpenpostsError") "__init__" = some (some (.builtin "ValueError.__init__"))) && (decide (PySem.W.subIn K (.ref (He.ga K "TooLarge")) (.type "ValueError") = some true) && (decide (PySem.W.findIn K (.ref (He.ga K "TooLarge")) "value" = some none) && (decide (PySem.W.findIn K (.ref (He.ga K "TooLarge")) "__getattribute__" = some (some (.builtin "BaseException.__getattribute__"))) && (decide (PySem.W.findIn K (.ref (He.ga K "TooLarge")) "__getattr__" = some none) && (decide (PySem.W.hasDictIn K (He.ga K "TooLarge") = true) && (decide (PySem.W.findIn K (.ref (He.ga K "TooLarge")) "__class__" = some (some (.builtin "object.__class__"))) && (decide (PySem.W.specialIn K (.builtin "object.__class__") "__get__" = some (some (.builtin "getset_descriptor.__get__"))) && (decide (PySem.W.takesIn K (.builtin "object.__class__") = some true) && (decide (PySem.W.mroIn K (He.ga K "TooLarge") (.type "object") = some true) && (decide (PySem.W.findIn K (.ref (He.ga K "TooLarge")) "__init__" = some (some (.ref (He.ma K (He.ga K "OpenpostsError") "__init__")))) && (decide (DN.excB K (He.ga K "TooLarge") = true) && (true))))))))))))))))))
theorem ok_39 {K : PySem.W.Frag} (h : ck_39 K = true) : (PySem.W.nsIn K mainGlobals "TooLarge" = some (some (.ref (He.ga K "TooLarge")))) ∧ (PySem.W.findIn K (.ref (He.ga K "TooLarge")) "__setattr__" = some (some (.builtin "object.__setattr__"))) ∧ (PySem.W.subIn K (.ref (He.ga K "TooLarge")) (.type "BaseException") = some true) ∧ (PySem.W.typeIn K (.ref (He.ga K "TooLarge")) = some (.type "type")) ∧ (PySem.W.keepIn K (.ref (He.ga K "TooLarge")) = true) ∧ (PySem.W.mroIn K (He.ga K "TooLarge") (.ref (He.ga K "OpenpostsError")) = some true) ∧ (PySem.W.ks_superIn K (He.ga K "TooLarge") (He.ga K "OpenpostsError") "__init__" = some (some (.builtin "ValueError.__init__"))) ∧ (PySem.W.subIn K (.ref (He.ga K "TooLarge")) (.type "ValueError") = some true) ∧ (PySem.W.findIn K (.ref (He.ga K "TooLarge")) "value" = some none) ∧ (PySem.W.findIn K (.ref (He.ga K "TooLarge")) "__getattribute__" = some (some (.builtin "BaseException.__getattribute__"))) ∧ (PySem.W.findIn K (.ref (He.ga K "TooLarge")) "__getattr__" = some none) ∧ (PySem.W.hasDictIn K (He.ga K "TooLarge") = true) ∧ (PySem.W.findIn K (.ref (He.ga K "TooLarge")) "__class__" = some (some (.builtin "object.__class__"))) ∧ (PySem.W.specialIn K (.builtin "object.__class__") "__get__" = some (some (.builtin "getset_descriptor.__get__"))) ∧ (PySem.W.takesIn K (.builtin "object.__class__") = some true) ∧ (PySem.W.mroIn K (He.ga K "TooLarge") (.type "object") = some true) ∧ (PySem.W.findIn K (.ref (He.ga K "TooLarge")) "__init__" = some (some (.ref (He.ma K (He.ga K "OpenpostsError") "__init__")))) ∧ (DN.excB K (He.ga K "TooLarge") = true) ∧ True := by
  unfold ck_39 at h
  obtain ⟨e0, h⟩ := DN.an2 h
  obtain ⟨e1, h⟩ := DN.an2 h
  obtain ⟨e2, h⟩ := DN.an2 h
  obtain ⟨e3, h⟩ := DN.an2 h
  obtain ⟨e4, h⟩ := DN.an2 h
  obtain ⟨e5, h⟩ := DN.an2 h
  obtain ⟨e6, h⟩ := DN.an2 h
  obtain ⟨e7, h⟩ := DN.an2 h
  obtain ⟨e8, h⟩ := DN.an2 h
  obtain ⟨e9, h⟩ := DN.an2 h
  obtain ⟨e10, h⟩ := DN.an2 h
  obtain ⟨e11, h⟩ := DN.an2 h
  obtain ⟨e12, h⟩ := DN.an2 h
  obtain ⟨e13, h⟩ := DN.an2 h
  obtain ⟨e14, h⟩ := DN.an2 h
  obtain ⟨e15, h⟩ := DN.an2 h
  obtain ⟨e16, h⟩ := DN.an2 h
  obtain ⟨e17, h⟩ := DN.an2 h
  exact ⟨e0, e1, e2, e3, e4, e5, e6, e7, e8, e9, e10, e11, e12, e13, e14, e15, e16, e17, trivial⟩
def ck_40 (K : PySem.W.Frag) : Bool := decide (PySem.W.nsIn K mainGlobals "NothingToUndo" = some (some (.ref (He.ga K "NothingToUndo")))) && (decide (PySem.W.findIn K (.ref (He.ga K "NothingToUndo")) "__setattr__" = some (some (.builtin "object.__setattr__"))) && (decide (PySem.W.subIn K (.ref (He.ga K "NothingToUndo")) (.type "BaseException") = some true) && (decide (PySem.W.typeIn K (.ref (He.ga K "NothingToUndo")) = some (.type "type")) && (decide (PySem.W.keepIn K (.ref (He.ga K "NothingToUndo")) = true) && (decide (PySem.W.mroIn K (He.ga K "NothingToUndo") (.ref (He.ga K "OpenpostsError")) = some true) && (decide (PySem.W.ks_superIn K (He.ga K "NothingToUndo") (He.ga K "OpenpostsError") "__init__" = some (some (.builtin "ValueError.__init__"))) && (decide (PySem.W.subIn K (.ref (He.ga K "NothingToUndo")) (.type "ValueError") = some true) && (decide (PySem.W.findIn K (.ref (He.ga K "NothingToUndo")) "value" = some none) && (decide (PySem.W.findIn K (.ref (He.ga K "NothingToUndo")) "__getattribute__" = some (some (.builtin "BaseException.__getattribute__"))) && (decide (PySem.W.findIn K (.ref (He.ga K "NothingToUndo")) "__getattr__" = some none) && (decide (PySem.W.hasDictIn K (He.ga K "NothingToUndo") = true) && (decide (PySem.W.findIn K (.ref (He.ga K "NothingToUndo")) "__class__" = some (some (.builtin "object.__class__"))) && (decide (PySem.W.specialIn K (.builtin "object.__class__") "__get__" = some (some (.builtin "getset_descriptor.__get__"))) && (decide (PySem.W.takesIn K (.builtin "object.__class__") = some true) && (decide (PySem.W.mroIn K (He.ga K "NothingToUndo") (.type "object") = some true) && (decide (PySem.W.findIn K (.ref (He.ga K "NothingToUndo")) "__init__" = some (some (.ref (He.ma K (He.ga K "OpenpostsError") "__init__")))) && (decide (DN.excB K (He.ga K "NothingToUndo") = true) && (true))))))))))))))))))
theorem ok_40 {K : PySem.W.Frag} (h : ck_40 K = true) : (PySem.W.nsIn K mainGlobals "NothingToUndo" = some (some (.ref (He.ga K "NothingToUndo")))) ∧ (PySem.W.findIn K (.ref (He.ga K "NothingToUndo")) "__setattr__" = some (some (.builtin "object.__setattr__"))) ∧ (PySem.W.subIn K (.ref (He.ga K "NothingToUndo")) (.type "BaseException") = some true) ∧ (PySem.W.typeIn K (.ref (He.ga K "NothingToUndo")) = some (.type "type")) ∧ (PySem.W.keepIn K (.ref (He.ga K "NothingToUndo")) = true) ∧ (PySem.W.mroIn K (He.ga K "NothingToUndo") (.ref (He.ga K "OpenpostsError")) = some true) ∧ (PySem.W.ks_superIn K (He.ga K "NothingToUndo") (He.ga K "OpenpostsError") "__init__" = some (some (.builtin "ValueError.__init__"))) ∧ (PySem.W.subIn K (.ref (He.ga K "NothingToUndo")) (.type "ValueError") = some true) ∧ (PySem.W.findIn K (.ref (He.ga K "NothingToUndo")) "value" = some none) ∧ (PySem.W.findIn K (.ref (He.ga K "NothingToUndo")) "__getattribute__" = some (some (.builtin "BaseException.__getattribute__"))) ∧ (PySem.W.findIn K (.ref (He.ga K "NothingToUndo")) "__getattr__" = some none) ∧ (PySem.W.hasDictIn K (He.ga K "NothingToUndo") = true) ∧ (PySem.W.findIn K (.ref (He.ga K "NothingToUndo")) "__class__" = some (some (.builtin "object.__class__"))) ∧ (PySem.W.specialIn K (.builtin "object.__class__") "__get__" = some (some (.builtin "getset_descriptor.__get__"))) ∧ (PySem.W.takesIn K (.builtin "object.__class__") = some true) ∧ (PySem.W.mroIn K (He.ga K "NothingToUndo") (.type "object") = some true) ∧ (PySem.W.findIn K (.ref (He.ga K "NothingToUndo")) "__init__" = some (some (.ref (He.ma K (He.ga K "OpenpostsError") "__init__")))) ∧ (DN.excB K (He.ga K "NothingToUndo") = true) ∧ True := by
  unfold ck_40 at h
  obtain ⟨e0, h⟩ := DN.an2 h
  obtain ⟨e1, h⟩ := DN.an2 h
  obtain ⟨e2, h⟩ := DN.an2 h
  obtain ⟨e3, h⟩ := DN.an2 h
  obtain ⟨e4, h⟩ := DN.an2 h
  obtain ⟨e5, h⟩ := DN.an2 h
  obtain ⟨e6, h⟩ := DN.an2 h
  obtain ⟨e7, h⟩ := DN.an2 h
  obtain ⟨e8, h⟩ := DN.an2 h
  obtain ⟨e9, h⟩ := DN.an2 h
  obtain ⟨e10, h⟩ := DN.an2 h
  obtain ⟨e11, h⟩ := DN.an2 h
  obtain ⟨e12, h⟩ := DN.an2 h
  obtain ⟨e13, h⟩ := DN.an2 h
  obtain ⟨e14, h⟩ := DN.an2 h
  obtain ⟨e15, h⟩ := DN.an2 h
  obtain ⟨e16, h⟩ := DN.an2 h
  obtain ⟨e17, h⟩ := DN.an2 h
  exact ⟨e0, e1, e2, e3, e4, e5, e6, e7, e8, e9, e10, e11, e12, e13, e14, e15, e16, e17, trivial⟩
def ck_41 (K : PySem.W.Frag) : Bool := decide (PySem.W.nsIn K mainGlobals "max" = some none) && (decide (PySem.W.nsIn K mainGlobals "range" = some none) && (decide (PySem.W.nsIn K mainGlobals "len" = some none) && (decide (PySem.W.nsIn K mainGlobals "isinstance" = some none) && (decide (PySem.W.nsIn K mainGlobals "repr" = some none) && (decide (PySem.W.nsIn K mainGlobals "min" = some none) && (decide (PySem.W.nsIn K mainGlobals "list" = some none) && (decide (PySem.W.nsIn K mainGlobals "dict" = some none) && (decide (PySem.W.nsIn K mainGlobals "tuple" = some none) && (decide (PySem.W.nsIn K mainGlobals "ValueError" = some none) && (decide ((K.lookup sysModules).isSome = true) && (decide (PySem.W.exmOne K (.ref (He.ga K "OpenpostsError")) (.ref (He.ga K "InvalidPlace")) = some false) && (true))))))))))))
theorem ok_41 {K : PySem.W.Frag} (h : ck_41 K = true) : (PySem.W.nsIn K mainGlobals "max" = some none) ∧ (PySem.W.nsIn K mainGlobals "range" = some none) ∧ (PySem.W.nsIn K mainGlobals "len" = some none) ∧ (PySem.W.nsIn K mainGlobals "isinstance" = some none) ∧ (PySem.W.nsIn K mainGlobals "repr" = some none) ∧ (PySem.W.nsIn K mainGlobals "min" = some none) ∧ (PySem.W.nsIn K mainGlobals "list" = some none) ∧ (PySem.W.nsIn K mainGlobals "dict" = some none) ∧ (PySem.W.nsIn K mainGlobals "tuple" = some none) ∧ (PySem.W.nsIn K mainGlobals "ValueError" = some none) ∧ ((K.lookup sysModules).isSome = true) ∧ (PySem.W.exmOne K (.ref (He.ga K "OpenpostsError")) (.ref (He.ga K "InvalidPlace")) = some false) ∧ True := by
  unfold ck_41 at h
  obtain ⟨e0, h⟩ := DN.an2 h
  obtain ⟨e1, h⟩ := DN.an2 h
  obtain ⟨e2, h⟩ := DN.an2 h
  obtain ⟨e3, h⟩ := DN.an2 h
  obtain ⟨e4, h⟩ := DN.an2 h
  obtain ⟨e5, h⟩ := DN.an2 h
  obtain ⟨e6, h⟩ := DN.an2 h
  obtain ⟨e7, h⟩ := DN.an2 h
  obtain ⟨e8, h⟩ := DN.an2 h
  obtain ⟨e9, h⟩ := DN.an2 h
  obtain ⟨e10, h⟩ := DN.an2 h
  obtain ⟨e11, h⟩ := DN.an2 h
  exact ⟨e0, e1, e2, e3, e4, e5, e6, e7, e8, e9, e10, e11, trivial⟩
def ck_42 (K : PySem.W.Frag) : Bool := decide (PySem.W.exmOne K (.ref (He.ga K "OpenpostsError")) (.ref (He.ga K "OpenpostsError")) = some true) && (decide (PySem.W.exmOne K (.ref (He.ga K "InvalidNumber")) (.ref (He.ga K "InvalidPlace")) = some false) && (decide (PySem.W.exmOne K (.ref (He.ga K "InvalidNumber")) (.ref (He.ga K "OpenpostsError")) = some true) && (decide (PySem.W.exmOne K (.ref (He.ga K "InvalidWord")) (.ref (He.ga K "InvalidPlace")) = some false) && (decide (PySem.W.exmOne K (.ref (He.ga K "InvalidWord")) (.ref (He.ga K "OpenpostsError")) = some true) && (decide (PySem.W.exmOne K (.ref (He.ga K "InvalidWords")) (.ref (He.ga K "InvalidPlace")) = some false) && (decide (PySem.W.exmOne K (.ref (He.ga K "InvalidWords")) (.ref (He.ga K "OpenpostsError")) = some true) && (decide (PySem.W.exmOne K (.ref (He.ga K "InvalidPlace")) (.ref (He.ga K "InvalidPlace")) = some true) && (decide (PySem.W.exmOne K (.ref (He.ga K "InvalidPlace")) (.ref (He.ga K "OpenpostsError")) = some true) && (decide (PySem.W.exmOne K (.ref (He.ga K "UnlikeLengths")) (.ref (He.ga K "InvalidPlace")) = some false) && (decide (PySem.W.exmOne K (.ref (He.ga K "UnlikeLengths")) (.ref (He.ga K "OpenpostsError")) = some true) && (decide (PySem.W.exmOne K (.ref (He.ga K "InvalidHouse")) (.ref (He.ga K "InvalidPlace")) = some false) && (true))))))))))))
theorem ok_42 {K : PySem.W.Frag} (h : ck_42 K = true) : (PySem.W.exmOne K (.ref (He.ga K "OpenpostsError")) (.ref (He.ga K "OpenpostsError")) = some true) ∧ (PySem.W.exmOne K (.ref (He.ga K "InvalidNumber")) (.ref (He.ga K "InvalidPlace")) = some false) ∧ (PySem.W.exmOne K (.ref (He.ga K "InvalidNumber")) (.ref (He.ga K "OpenpostsError")) = some true) ∧ (PySem.W.exmOne K (.ref (He.ga K "InvalidWord")) (.ref (He.ga K "InvalidPlace")) = some false) ∧ (PySem.W.exmOne K (.ref (He.ga K "InvalidWord")) (.ref (He.ga K "OpenpostsError")) = some true) ∧ (PySem.W.exmOne K (.ref (He.ga K "InvalidWords")) (.ref (He.ga K "InvalidPlace")) = some false) ∧ (PySem.W.exmOne K (.ref (He.ga K "InvalidWords")) (.ref (He.ga K "OpenpostsError")) = some true) ∧ (PySem.W.exmOne K (.ref (He.ga K "InvalidPlace")) (.ref (He.ga K "InvalidPlace")) = some true) ∧ (PySem.W.exmOne K (.ref (He.ga K "InvalidPlace")) (.ref (He.ga K "OpenpostsError")) = some true) ∧ (PySem.W.exmOne K (.ref (He.ga K "UnlikeLengths")) (.ref (He.ga K "InvalidPlace")) = some false) ∧ (PySem.W.exmOne K (.ref (He.ga K "UnlikeLengths")) (.ref (He.ga K "OpenpostsError")) = some true) ∧ (PySem.W.exmOne K (.ref (He.ga K "InvalidHouse")) (.ref (He.ga K "InvalidPlace")) = some false) ∧ True := by
  unfold ck_42 at h
  obtain ⟨e0, h⟩ := DN.an2 h
  obtain ⟨e1, h⟩ := DN.an2 h
  obtain ⟨e2, h⟩ := DN.an2 h
  obtain ⟨e3, h⟩ := DN.an2 h
  obtain ⟨e4, h⟩ := DN.an2 h
  obtain ⟨e5, h⟩ := DN.an2 h
  obtain ⟨e6, h⟩ := DN.an2 h
  obtain ⟨e7, h⟩ := DN.an2 h
  obtain ⟨e8, h⟩ := DN.an2 h
  obtain ⟨e9, h⟩ := DN.an2 h
  obtain ⟨e10, h⟩ := DN.an2 h
  obtain ⟨e11, h⟩ := DN.an2 h
  exact ⟨e0, e1, e2, e3, e4, e5, e6, e7, e8, e9, e10, e11, trivial⟩
def ck_43 (K : PySem.W.Frag) : Bool := decide (PySem.W.exmOne K (.ref (He.ga K "InvalidHouse")) (.ref (He.ga K "OpenpostsError")) = some true) && (decide (PySem.W.exmOne K (.ref (He.ga K "InvalidHouses")) (.ref (He.ga K "InvalidPlace")) = some false) && (decide (PySem.W.exmOne K (.ref (He.ga K "InvalidHouses")) (.ref (He.ga K "OpenpostsError")) = some true) && (decide (PySem.W.exmOne K (.ref (He.ga K "InvalidTie")) (.ref (He.ga K "InvalidPlace")) = some false) && (decide (PySem.W.exmOne K (.ref (He.ga K "InvalidTie")) (.ref (He.ga K "OpenpostsError")) = some true) && (decide (PySem.W.exmOne K (.ref (He.ga K "InvalidTies")) (.ref (He.ga K "InvalidPlace")) = some false) && (decide (PySem.W.exmOne K (.ref (He.ga K "InvalidTies")) (.ref (He.ga K "OpenpostsError")) = some true) && (decide (PySem.W.exmOne K (.ref (He.ga K "InvalidWeb")) (.ref (He.ga K "InvalidPlace")) = some false) && (decide (PySem.W.exmOne K (.ref (He.ga K "InvalidWeb")) (.ref (He.ga K "OpenpostsError")) = some true) && (decide (PySem.W.exmOne K (.ref (He.ga K "InvalidOrder")) (.ref (He.ga K "InvalidPlace")) = some false) && (decide (PySem.W.exmOne K (.ref (He.ga K "InvalidOrder")) (.ref (He.ga K "OpenpostsError")) = some true) && (decide (PySem.W.exmOne K (.ref (He.ga K "InvalidText")) (.ref (He.ga K "InvalidPlace")) = some false) && (true))))))))))))
theorem ok_43 {K : PySem.W.Frag} (h : ck_43 K = true) : (PySem.W.exmOne K (.ref (He.ga K "InvalidHouse")) (.ref (He.ga K "OpenpostsError")) = some true) ∧ (PySem.W.exmOne K (.ref (He.ga K "InvalidHouses")) (.ref (He.ga K "InvalidPlace")) = some false) ∧ (PySem.W.exmOne K (.ref (He.ga K "InvalidHouses")) (.ref (He.ga K "OpenpostsError")) = some true) ∧ (PySem.W.exmOne K (.ref (He.ga K "InvalidTie")) (.ref (He.ga K "InvalidPlace")) = some false) ∧ (PySem.W.exmOne K (.ref (He.ga K "InvalidTie")) (.ref (He.ga K "OpenpostsError")) = some true) ∧ (PySem.W.exmOne K (.ref (He.ga K "InvalidTies")) (.ref (He.ga K "InvalidPlace")) = some false) ∧ (PySem.W.exmOne K (.ref (He.ga K "InvalidTies")) (.ref (He.ga K "OpenpostsError")) = some true) ∧ (PySem.W.exmOne K (.ref (He.ga K "InvalidWeb")) (.ref (He.ga K "InvalidPlace")) = some false) ∧ (PySem.W.exmOne K (.ref (He.ga K "InvalidWeb")) (.ref (He.ga K "OpenpostsError")) = some true) ∧ (PySem.W.exmOne K (.ref (He.ga K "InvalidOrder")) (.ref (He.ga K "InvalidPlace")) = some false) ∧ (PySem.W.exmOne K (.ref (He.ga K "InvalidOrder")) (.ref (He.ga K "OpenpostsError")) = some true) ∧ (PySem.W.exmOne K (.ref (He.ga K "InvalidText")) (.ref (He.ga K "InvalidPlace")) = some false) ∧ True := by
  unfold ck_43 at h
  obtain ⟨e0, h⟩ := DN.an2 h
  obtain ⟨e1, h⟩ := DN.an2 h
  obtain ⟨e2, h⟩ := DN.an2 h
  obtain ⟨e3, h⟩ := DN.an2 h
  obtain ⟨e4, h⟩ := DN.an2 h
  obtain ⟨e5, h⟩ := DN.an2 h
  obtain ⟨e6, h⟩ := DN.an2 h
  obtain ⟨e7, h⟩ := DN.an2 h
  obtain ⟨e8, h⟩ := DN.an2 h
  obtain ⟨e9, h⟩ := DN.an2 h
  obtain ⟨e10, h⟩ := DN.an2 h
  obtain ⟨e11, h⟩ := DN.an2 h
  exact ⟨e0, e1, e2, e3, e4, e5, e6, e7, e8, e9, e10, e11, trivial⟩
def ck_44 (K : PySem.W.Frag) : Bool := decide (PySem.W.exmOne K (.ref (He.ga K "InvalidText")) (.ref (He.ga K "OpenpostsError")) = some true) && (decide (PySem.W.exmOne K (.ref (He.ga K "InvalidAddresses")) (.ref (He.ga K "InvalidPlace")) = some false) && (decide (PySem.W.exmOne K (.ref (He.ga K "InvalidAddresses")) (.ref (He.ga K "OpenpostsError")) = some true) && (decide (PySem.W.exmOne K (.ref (He.ga K "InvalidParents")) (.ref (He.ga K "InvalidPlace")) = some false) && (decide (PySem.W.exmOne K (.ref (He.ga K "InvalidParents")) (.ref (He.ga K "OpenpostsError")) = some true) && (decide (PySem.W.exmOne K (.ref (He.ga K "InvalidTree")) (.ref (He.ga K "InvalidPlace")) = some false) && (decide (PySem.W.exmOne K (.ref (He.ga K "InvalidTree")) (.ref (He.ga K "OpenpostsError")) = some true) && (decide (PySem.W.exmOne K (.ref (He.ga K "InvalidPairs")) (.ref (He.ga K "InvalidPlace")) = some false) && (decide (PySem.W.exmOne K (.ref (He.ga K "InvalidPairs")) (.ref (He.ga K "OpenpostsError")) = some true) && (decide (PySem.W.exmOne K (.ref (He.ga K "InvalidRow")) (.ref (He.ga K "InvalidPlace")) = some false) && (decide (PySem.W.exmOne K (.ref (He.ga K "InvalidRow")) (.ref (He.ga K "OpenpostsError")) = some true) && (decide (PySem.W.exmOne K (.ref (He.ga K "InvalidSide")) (.ref (He.ga K "InvalidPlace")) = some false) && (true))))))))))))
theorem ok_44 {K : PySem.W.Frag} (h : ck_44 K = true) : (PySem.W.exmOne K (.ref (He.ga K "InvalidText")) (.ref (He.ga K "OpenpostsError")) = some true) ∧ (PySem.W.exmOne K (.ref (He.ga K "InvalidAddresses")) (.ref (He.ga K "InvalidPlace")) = some false) ∧ (PySem.W.exmOne K (.ref (He.ga K "InvalidAddresses")) (.ref (He.ga K "OpenpostsError")) = some true) ∧ (PySem.W.exmOne K (.ref (He.ga K "InvalidParents")) (.ref (He.ga K "InvalidPlace")) = some false) ∧ (PySem.W.exmOne K (.ref (He.ga K "InvalidParents")) (.ref (He.ga K "OpenpostsError")) = some true) ∧ (PySem.W.exmOne K (.ref (He.ga K "InvalidTree")) (.ref (He.ga K "InvalidPlace")) = some false) ∧ (PySem.W.exmOne K (.ref (He.ga K "InvalidTree")) (.ref (He.ga K "OpenpostsError")) = some true) ∧ (PySem.W.exmOne K (.ref (He.ga K "InvalidPairs")) (.ref (He.ga K "InvalidPlace")) = some false) ∧ (PySem.W.exmOne K (.ref (He.ga K "InvalidPairs")) (.ref (He.ga K "OpenpostsError")) = some true) ∧ (PySem.W.exmOne K (.ref (He.ga K "InvalidRow")) (.ref (He.ga K "InvalidPlace")) = some false) ∧ (PySem.W.exmOne K (.ref (He.ga K "InvalidRow")) (.ref (He.ga K "OpenpostsError")) = some true) ∧ (PySem.W.exmOne K (.ref (He.ga K "InvalidSide")) (.ref (He.ga K "InvalidPlace")) = some false) ∧ True := by
  unfold ck_44 at h
  obtain ⟨e0, h⟩ := DN.an2 h
  obtain ⟨e1, h⟩ := DN.an2 h
  obtain ⟨e2, h⟩ := DN.an2 h
  obtain ⟨e3, h⟩ := DN.an2 h
  obtain ⟨e4, h⟩ := DN.an2 h
  obtain ⟨e5, h⟩ := DN.an2 h
  obtain ⟨e6, h⟩ := DN.an2 h
  obtain ⟨e7, h⟩ := DN.an2 h
  obtain ⟨e8, h⟩ := DN.an2 h
  obtain ⟨e9, h⟩ := DN.an2 h
  obtain ⟨e10, h⟩ := DN.an2 h
  obtain ⟨e11, h⟩ := DN.an2 h
  exact ⟨e0, e1, e2, e3, e4, e5, e6, e7, e8, e9, e10, e11, trivial⟩
def ck_45 (K : PySem.W.Frag) : Bool := decide (PySem.W.exmOne K (.ref (He.ga K "InvalidSide")) (.ref (He.ga K "OpenpostsError")) = some true) && (decide (PySem.W.exmOne K (.ref (He.ga K "InvalidName")) (.ref (He.ga K "InvalidPlace")) = some false) && (decide (PySem.W.exmOne K (.ref (He.ga K "InvalidName")) (.ref (He.ga K "OpenpostsError")) = some true) && (decide (PySem.W.exmOne K (.ref (He.ga K "InvalidDeed")) (.ref (He.ga K "InvalidPlace")) = some false) && (decide (PySem.W.exmOne K (.ref (He.ga K "InvalidDeed")) (.ref (He.ga K "OpenpostsError")) = some true) && (decide (PySem.W.exmOne K (.ref (He.ga K "InvalidDeeds")) (.ref (He.ga K "InvalidPlace")) = some false) && (decide (PySem.W.exmOne K (.ref (He.ga K "InvalidDeeds")) (.ref (He.ga K "OpenpostsError")) = some true) && (decide (PySem.W.exmOne K (.ref (He.ga K "InvalidLine")) (.ref (He.ga K "InvalidPlace")) = some false) && (decide (PySem.W.exmOne K (.ref (He.ga K "InvalidLine")) (.ref (He.ga K "OpenpostsError")) = some true) && (decide (PySem.W.exmOne K (.ref (He.ga K "UnknownName")) (.ref (He.ga K "InvalidPlace")) = some false) && (decide (PySem.W.exmOne K (.ref (He.ga K "UnknownName")) (.ref (He.ga K "OpenpostsError")) = some true) && (decide (PySem.W.exmOne K (.ref (He.ga K "NameTaken")) (.ref (He.ga K "InvalidPlace")) = some false) && (true))))))))))))
theorem ok_45 {K : PySem.W.Frag} (h : ck_45 K = true) : (PySem.W.exmOne K (.ref (He.ga K "InvalidSide")) (.ref (He.ga K "OpenpostsError")) = some true) ∧ (PySem.W.exmOne K (.ref (He.ga K "InvalidName")) (.ref (He.ga K "InvalidPlace")) = some false) ∧ (PySem.W.exmOne K (.ref (He.ga K "InvalidName")) (.ref (He.ga K "OpenpostsError")) = some true) ∧ (PySem.W.exmOne K (.ref (He.ga K "InvalidDeed")) (.ref (He.ga K "InvalidPlace")) = some false) ∧ (PySem.W.exmOne K (.ref (He.ga K "InvalidDeed")) (.ref (He.ga K "OpenpostsError")) = some true) ∧ (PySem.W.exmOne K (.ref (He.ga K "InvalidDeeds")) (.ref (He.ga K "InvalidPlace")) = some false) ∧ (PySem.W.exmOne K (.ref (He.ga K "InvalidDeeds")) (.ref (He.ga K "OpenpostsError")) = some true) ∧ (PySem.W.exmOne K (.ref (He.ga K "InvalidLine")) (.ref (He.ga K "InvalidPlace")) = some false) ∧ (PySem.W.exmOne K (.ref (He.ga K "InvalidLine")) (.ref (He.ga K "OpenpostsError")) = some true) ∧ (PySem.W.exmOne K (.ref (He.ga K "UnknownName")) (.ref (He.ga K "InvalidPlace")) = some false) ∧ (PySem.W.exmOne K (.ref (He.ga K "UnknownName")) (.ref (He.ga K "OpenpostsError")) = some true) ∧ (PySem.W.exmOne K (.ref (He.ga K "NameTaken")) (.ref (He.ga K "InvalidPlace")) = some false) ∧ True := by
  unfold ck_45 at h
  obtain ⟨e0, h⟩ := DN.an2 h
  obtain ⟨e1, h⟩ := DN.an2 h
  obtain ⟨e2, h⟩ := DN.an2 h
  obtain ⟨e3, h⟩ := DN.an2 h
  obtain ⟨e4, h⟩ := DN.an2 h
  obtain ⟨e5, h⟩ := DN.an2 h
  obtain ⟨e6, h⟩ := DN.an2 h
  obtain ⟨e7, h⟩ := DN.an2 h
  obtain ⟨e8, h⟩ := DN.an2 h
  obtain ⟨e9, h⟩ := DN.an2 h
  obtain ⟨e10, h⟩ := DN.an2 h
  obtain ⟨e11, h⟩ := DN.an2 h
  exact ⟨e0, e1, e2, e3, e4, e5, e6, e7, e8, e9, e10, e11, trivial⟩
def ck_46 (K : PySem.W.Frag) : Bool := decide (PySem.W.exmOne K (.ref (He.ga K "NameTaken")) (.ref (He.ga K "OpenpostsError")) = some true) && (decide (PySem.W.exmOne K (.ref (He.ga K "NotJoined")) (.ref (He.ga K "InvalidPlace")) = some false) && (decide (PySem.W.exmOne K (.ref (He.ga K "NotJoined")) (.ref (He.ga K "OpenpostsError")) = some true) && (decide (PySem.W.exmOne K (.ref (He.ga K "NotKept")) (.ref (He.ga K "InvalidPlace")) = some false) && (decide (PySem.W.exmOne K (.ref (He.ga K "NotKept")) (.ref (He.ga K "OpenpostsError")) = some true) && (decide (PySem.W.exmOne K (.ref (He.ga K "TooLarge")) (.ref (He.ga K "InvalidPlace")) = some false) && (decide (PySem.W.exmOne K (.ref (He.ga K "TooLarge")) (.ref (He.ga K "OpenpostsError")) = some true) && (decide (PySem.W.exmOne K (.ref (He.ga K "NothingToUndo")) (.ref (He.ga K "InvalidPlace")) = some false) && (decide (PySem.W.exmOne K (.ref (He.ga K "NothingToUndo")) (.ref (He.ga K "OpenpostsError")) = some true) && (decide (DN.kxB K [("OpenpostsError", (He.ga K "OpenpostsError")), ("InvalidNumber", (He.ga K "InvalidNumber")), ("InvalidWord", (He.ga K "InvalidWord")), ("InvalidWords", (He.ga K "InvalidWords")), ("InvalidPlace", (He.ga K "InvalidPlace")), ("UnlikeLengths", (He.ga K "UnlikeLengths")), ("InvalidHouse", (He.ga K "InvalidHouse")), ("InvalidHouses", (He.ga K "InvalidHouses")), ("InvalidTie", (He.ga K "InvalidTie")), ("InvalidTies", (He.ga K "InvalidTies")), ("InvalidWeb", (He.ga K "InvalidWeb")), ("InvalidOrder", (He.ga K "InvalidOrder")), ("InvalidText", (He.ga K "InvalidText")), ("InvalidAddresses", (He.ga K "InvalidAddresses")), ("InvalidParents", (He.ga K "InvalidParents")), ("InvalidTree", (He.ga K "InvalidTree")), ("InvalidPairs", (He.ga K "InvalidPairs")), ("InvalidRow", (He.ga K "InvalidRow")), ("InvalidSide", (He.ga K "InvalidSide")), ("InvalidName", (He.ga K "InvalidName")), ("InvalidDeed", (He.ga K "InvalidDeed")), ("InvalidDeeds", (He.ga K "InvalidDeeds")), ("InvalidLine", (He.ga K "InvalidLine")), ("UnknownName", (He.ga K "UnknownName")), ("NameTaken", (He.ga K "NameTaken")), ("NotJoined", (He.ga K "NotJoined")), ("NotKept", (He.ga K "NotKept")), ("TooLarge", (He.ga K "TooLarge")), ("NothingToUndo", (He.ga K "NothingToUndo"))] = true) && (true))))))))))
theorem ok_46 {K : PySem.W.Frag} (h : ck_46 K = true) : (PySem.W.exmOne K (.ref (He.ga K "NameTaken")) (.ref (He.ga K "OpenpostsError")) = some true) ∧ (PySem.W.exmOne K (.ref (He.ga K "NotJoined")) (.ref (He.ga K "InvalidPlace")) = some false) ∧ (PySem.W.exmOne K (.ref (He.ga K "NotJoined")) (.ref (He.ga K "OpenpostsError")) = some true) ∧ (PySem.W.exmOne K (.ref (He.ga K "NotKept")) (.ref (He.ga K "InvalidPlace")) = some false) ∧ (PySem.W.exmOne K (.ref (He.ga K "NotKept")) (.ref (He.ga K "OpenpostsError")) = some true) ∧ (PySem.W.exmOne K (.ref (He.ga K "TooLarge")) (.ref (He.ga K "InvalidPlace")) = some false) ∧ (PySem.W.exmOne K (.ref (He.ga K "TooLarge")) (.ref (He.ga K "OpenpostsError")) = some true) ∧ (PySem.W.exmOne K (.ref (He.ga K "NothingToUndo")) (.ref (He.ga K "InvalidPlace")) = some false) ∧ (PySem.W.exmOne K (.ref (He.ga K "NothingToUndo")) (.ref (He.ga K "OpenpostsError")) = some true) ∧ (DN.kxB K [("OpenpostsError", (He.ga K "OpenpostsError")), ("InvalidNumber", (He.ga K "InvalidNumber")), ("InvalidWord", (He.ga K "InvalidWord")), ("InvalidWords", (He.ga K "InvalidWords")), ("InvalidPlace", (He.ga K "InvalidPlace")), ("UnlikeLengths", (He.ga K "UnlikeLengths")), ("InvalidHouse", (He.ga K "InvalidHouse")), ("InvalidHouses", (He.ga K "InvalidHouses")), ("InvalidTie", (He.ga K "InvalidTie")), ("InvalidTies", (He.ga K "InvalidTies")), ("InvalidWeb", (He.ga K "InvalidWeb")), ("InvalidOrder", (He.ga K "InvalidOrder")), ("InvalidText", (He.ga K "InvalidText")), ("InvalidAddresses", (He.ga K "InvalidAddresses")), ("InvalidParents", (He.ga K "InvalidParents")), ("InvalidTree", (He.ga K "InvalidTree")), ("InvalidPairs", (He.ga K "InvalidPairs")), ("InvalidRow", (He.ga K "InvalidRow")), ("InvalidSide", (He.ga K "InvalidSide")), ("InvalidName", (He.ga K "InvalidName")), ("InvalidDeed", (He.ga K "InvalidDeed")), ("InvalidDeeds", (He.ga K "InvalidDeeds")), ("InvalidLine", (He.ga K "InvalidLine")), ("UnknownName", (He.ga K "UnknownName")), ("NameTaken", (He.ga K "NameTaken")), ("NotJoined", (He.ga K "NotJoined")), ("NotKept", (He.ga K "NotKept")), ("TooLarge", (He.ga K "TooLarge")), ("NothingToUndo", (He.ga K "NothingToUndo"))] = true) ∧ True := by
  unfold ck_46 at h
  obtain ⟨e0, h⟩ := DN.an2 h
  obtain ⟨e1, h⟩ := DN.an2 h
  obtain ⟨e2, h⟩ := DN.an2 h
  obtain ⟨e3, h⟩ := DN.an2 h
  obtain ⟨e4, h⟩ := DN.an2 h
  obtain ⟨e5, h⟩ := DN.an2 h
  obtain ⟨e6, h⟩ := DN.an2 h
  obtain ⟨e7, h⟩ := DN.an2 h
  obtain ⟨e8, h⟩ := DN.an2 h
  obtain ⟨e9, h⟩ := DN.an2 h
  exact ⟨e0, e1, e2, e3, e4, e5, e6, e7, e8, e9, trivial⟩
def exs (K : PySem.W.Frag) : List Bool := [ck_0 K, ck_1 K, ck_2 K, ck_3 K, ck_4 K, ck_5 K, ck_6 K, ck_7 K, ck_8 K, ck_9 K, ck_10 K, ck_11 K, ck_12 K, ck_13 K, ck_14 K, ck_15 K, ck_16 K, ck_17 K, ck_18 K, ck_19 K, ck_20 K, ck_21 K, ck_22 K, ck_23 K, ck_24 K, ck_25 K, ck_26 K, ck_27 K, ck_28 K, ck_29 K, ck_30 K, ck_31 K, ck_32 K, ck_33 K, ck_34 K, ck_35 K, ck_36 K, ck_37 K, ck_38 K, ck_39 K, ck_40 K, ck_41 K, ck_42 K, ck_43 K, ck_44 K, ck_45 K, ck_46 K]
def fns : List DN.FnX := [
  ⟨fun K => (He.ga K "_law_box"), "_law_box", "_law_box", defArgs s_law_box, defBody s_law_box, defScope s_law_box, []⟩,
  ⟨fun K => (He.ga K "_law_take"), "_law_take", "_law_take", defArgs s_law_take, defBody s_law_take, defScope s_law_take, []⟩,
  ⟨fun K => (He.ga K "_law_values"), "_law_values", "_law_values", defArgs s_law_values, defBody s_law_values, defScope s_law_values, []⟩,
  ⟨fun K => (He.ga K "_law_cell_at"), "_law_cell_at", "_law_cell_at", defArgs s_law_cell_at, defBody s_law_cell_at, defScope s_law_cell_at, []⟩,
  ⟨fun K => (He.ga K "_law_first"), "_law_first", "_law_first", defArgs s_law_first, defBody s_law_first, defScope s_law_first, []⟩,
  ⟨fun K => (He.ga K "_law_second"), "_law_second", "_law_second", defArgs s_law_second, defBody s_law_second, defScope s_law_second, []⟩,
  ⟨fun K => (He.ga K "_law_third"), "_law_third", "_law_third", defArgs s_law_third, defBody s_law_third, defScope s_law_third, []⟩,
  ⟨fun K => (He.ga K "_law_made"), "_law_made", "_law_made", defArgs s_law_made, defBody s_law_made, defScope s_law_made, []⟩,
  ⟨fun K => (He.ga K "_law_is"), "_law_is", "_law_is", defArgs s_law_is, defBody s_law_is, defScope s_law_is, []⟩,
  ⟨fun K => (He.ga K "_law_raised"), "_law_raised", "_law_raised", defArgs s_law_raised, defBody s_law_raised, defScope s_law_raised, []⟩,
  ⟨fun K => (He.ga K "law"), "law", "law", defArgs s_law, defBody s_law, defScope s_law, []⟩,
  ⟨fun K => (He.ma K (He.ga K "OpenpostsError") "__init__"), "__init__", "OpenpostsError.__init__", defArgs s_init, defBody s_init, defScope s_init, ["__class__"]⟩]
def tabs : List He.Tab := []
theorem told {w : World} {K : PySem.W.Frag} {h : Heap} {mg : Str → Option Value} {fa : Addr} (X : K.In h) (G : h.Ns mainGlobals mg) (hfa : mg "law" = some (.ref fa)) (c : DN.SaysZ exs fns tabs w K) :
    ∃ fd : FuncData, (∀ (s : Shared) (v : Value), BindsTo s fd ⟨[v], []⟩ [("_law_script", v)]) ∧ ∀ base : Heap, K.In base → base.Ns mainGlobals mg → DN.FnG true PP w K mg base (L2N.CX PP w) 5 fa fd ["_law_script"] (DN.spLaw K) := by
  obtain ⟨a1, k1, fb1, -⟩ := ok_0 (c.b 0 rfl)
  obtain ⟨oc1, od1, sl1, kV1, dc1, pm1, an1, cd1, ct1, l1, c1, oo1⟩ := DN.fn0_ok (c.fn 0 rfl : DN.FnIs K (He.ga K "_law_box") "_law_box" "_law_box" (defArgs s_law_box) (defBody s_law_box) (defScope s_law_box) []) fb1
  obtain ⟨a2, k2, fb2, -⟩ := ok_1 (c.b 1 rfl)
  obtain ⟨oc2, od2, sl2, kV2, dc2, pm2, an2, cd2, ct2, l2, c2, oo2⟩ := DN.fn0_ok (c.fn 1 rfl : DN.FnIs K (He.ga K "_law_take") "_law_take" "_law_take" (defArgs s_law_take) (defBody s_law_take) (defScope s_law_take) []) fb2
  obtain ⟨a3, k3, fb3, -⟩ := ok_2 (c.b 2 rfl)
  obtain ⟨oc3, od3, sl3, kV3, dc3, pm3, an3, cd3, ct3, l3, c3, oo3⟩ := DN.fn0_ok (c.fn 2 rfl : DN.FnIs K (He.ga K "_law_values") "_law_values" "_law_values" (defArgs s_law_values) (defBody s_law_values) (defScope s_law_values) []) fb3
  obtain ⟨a4, k4, fb4, -⟩ := ok_3 (c.b 3 rfl)
  obtain ⟨oc4, od4, sl4, kV4, dc4, pm4, an4, cd4, ct4, l4, c4, oo4⟩ := DN.fn0_ok (c.fn 3 rfl : DN.FnIs K (He.ga K "_law_cell_at") "_law_cell_at" "_law_cell_at" (defArgs s_law_cell_at) (defBody s_law_cell_at) (defScope s_law_cell_at) []) fb4
  obtain ⟨a5, k5, fb5, -⟩ := ok_4 (c.b 4 rfl)
  obtain ⟨oc5, od5, sl5, kV5, dc5, pm5, an5, cd5, ct5, l5, c5, oo5⟩ := DN.fn0_ok (c.fn 4 rfl : DN.FnIs K (He.ga K "_law_first") "_law_first" "_law_first" (defArgs s_law_first) (defBody s_law_first) (defScope s_law_first) []) fb5
  obtain ⟨a6, k6, fb6, -⟩ := ok_5 (c.b 5 rfl)
  obtain ⟨oc6, od6, sl6, kV6, dc6, pm6, an6, cd6, ct6, l6, c6, oo6⟩ := DN.fn0_ok (c.fn 5 rfl : DN.FnIs K (He.ga K "_law_second") "_law_second" "_law_second" (defArgs s_law_second) (defBody s_law_second) (defScope s_law_second) []) fb6
  obtain ⟨a7, k7, fb7, -⟩ := ok_6 (c.b 6 rfl)
  obtain ⟨oc7, od7, sl7, kV7, dc7, pm7, an7, cd7, ct7, l7, c7, oo7⟩ := DN.fn0_ok (c.fn 6 rfl : DN.FnIs K (He.ga K "_law_third") "_law_third" "_law_third" (defArgs s_law_third) (defBody s_law_third) (defScope s_law_third) []) fb7
  obtain ⟨a8, k8, fb8, -⟩ := ok_7 (c.b 7 rfl)
  obtain ⟨oc8, od8, sl8, kV8, dc8, pm8, an8, cd8, ct8, l8, c8, oo8⟩ := DN.fn0_ok (c.fn 7 rfl : DN.FnIs K (He.ga K "_law_made") "_law_made" "_law_made" (defArgs s_law_made) (defBody s_law_made) (defScope s_law_made) []) fb8
  obtain ⟨a9, k9, fb9, -⟩ := ok_8 (c.b 8 rfl)
  obtain ⟨oc9, od9, sl9, kV9, dc9, pm9, an9, cd9, ct9, l9, c9, oo9⟩ := DN.fn0_ok (c.fn 8 rfl : DN.FnIs K (He.ga K "_law_is") "_law_is" "_law_is" (defArgs s_law_is) (defBody s_law_is) (defScope s_law_is) []) fb9
  obtain ⟨a10, k10, fb10, -⟩ := ok_9 (c.b 9 rfl)
  obtain ⟨oc10, od10, sl10, kV10, dc10, pm10, an10, cd10, ct10, l10, c10, oo10⟩ := DN.fn0_ok (c.fn 9 rfl : DN.FnIs K (He.ga K "_law_raised") "_law_raised" "_law_raised" (defArgs s_law_raised) (defBody s_law_raised) (defScope s_law_raised) []) fb10
  obtain ⟨a11, k11, fb11, -⟩ := ok_10 (c.b 10 rfl)
  obtain ⟨oc11, od11, sl11, kV11, dc11, pm11, an11, cd11, ct11, l11, c11, oo11⟩ := DN.fn0_ok (c.fn 10 rfl : DN.FnIs K (He.ga K "law") "law" "law" (defArgs s_law) (defBody s_law) (defScope s_law) []) fb11
  obtain ⟨D0a, D0b, D0t, D0o, D0s, D0B, D0C, -⟩ := ok_11 (c.b 11 rfl)
  obtain ⟨cc, cda, ocI, odI, slI, kVI, dcI, pmI, anI, ctI, cl0, cld0, csl0, ccl0, cdd0, cvs0, ccs0, file0, tf0, D0l, D0c, D0e, D0f, D0g, D0h⟩ := DN.init_ok (c.fn 11 rfl : DN.FnIs K (He.ma K (He.ga K "OpenpostsError") "__init__") "__init__" "OpenpostsError.__init__" (defArgs s_init) (defBody s_init) (defScope s_init) ["__class__"]) D0B
  obtain ⟨cdD0, D0i⟩ := Option.isSome_iff_exists.mp D0C
  obtain ⟨x0a, x0d, x0e, x0f, x0g, x0h, x0i, x0j, x0k, x0l, x0m, x0n, x0o, x0p, x0q, x0r, x0s, x0B, -⟩ := ok_12 (c.b 12 rfl)
  obtain ⟨_, _, _, _, x0bm, _, _, _, _, _, _, _, _, _, _, x0b, x0c⟩ := DN.excB_ok x0B
  obtain ⟨x1a, x1d, x1e, x1f, x1g, x1h, x1i, x1j, x1k, x1l, x1m, x1n, x1o, x1p, x1q, x1r, x1s, x1B, -⟩ := ok_13 (c.b 13 rfl)
  obtain ⟨_, _, _, _, x1bm, _, _, _, _, _, _, _, _, _, _, x1b, x1c⟩ := DN.excB_ok x1B
  obtain ⟨x2a, x2d, x2e, x2f, x2g, x2h, x2i, x2j, x2k, x2l, x2m, x2n, x2o, x2p, x2q, x2r, x2s, x2B, -⟩ := ok_14 (c.b 14 rfl)
  obtain ⟨_, _, _, _, x2bm, _, _, _, _, _, _, _, _, _, _, x2b, x2c⟩ := DN.excB_ok x2B
  obtain ⟨x3a, x3d, x3e, x3f, x3g, x3h, x3i, x3j, x3k, x3l, x3m, x3n, x3o, x3p, x3q, x3r, x3s, x3B, -⟩ := ok_15 (c.b 15 rfl)
  obtain ⟨_, _, _, _, x3bm, _, _, _, _, _, _, _, _, _, _, x3b, x3c⟩ := DN.excB_ok x3B
  obtain ⟨x4a, x4d, x4e, x4f, x4g, x4h, x4i, x4j, x4k, x4l, x4m, x4n, x4o, x4p, x4q, x4r, x4s, x4B, -⟩ := ok_16 (c.b 16 rfl)
  obtain ⟨_, _, _, _, x4bm, _, _, _, _, _, _, _, _, _, _, x4b, x4c⟩ := DN.excB_ok x4B
  obtain ⟨x5a, x5d, x5e, x5f, x5g, x5h, x5i, x5j, x5k, x5l, x5m, x5n, x5o, x5p, x5q, x5r, x5s, x5B, -⟩ := ok_17 (c.b 17 rfl)
  obtain ⟨_, _, _, _, x5bm, _, _, _, _, _, _, _, _, _, _, x5b, x5c⟩ := DN.excB_ok x5B
  obtain ⟨x6a, x6d, x6e, x6f, x6g, x6h, x6i, x6j, x6k, x6l, x6m, x6n, x6o, x6p, x6q, x6r, x6s, x6B, -⟩ := ok_18 (c.b 18 rfl)
  obtain ⟨_, _, _, _, x6bm, _, _, _, _, _, _, _, _, _, _, x6b, x6c⟩ := DN.excB_ok x6B
  obtain ⟨x7a, x7d, x7e, x7f, x7g, x7h, x7i, x7j, x7k, x7l, x7m, x7n, x7o, x7p, x7q, x7r, x7s, x7B, -⟩ := ok_19 (c.b 19 rfl)
  obtain ⟨_, _, _, _, x7bm, _, _, _, _, _, _, _, _, _, _, x7b, x7c⟩ := DN.excB_ok x7B
  obtain ⟨x8a, x8d, x8e, x8f, x8g, x8h, x8i, x8j, x8k, x8l, x8m, x8n, x8o, x8p, x8q, x8r, x8s, x8B, -⟩ := ok_20 (c.b 20 rfl)
  obtain ⟨_, _, _, _, x8bm, _, _, _, _, _, _, _, _, _, _, x8b, x8c⟩ := DN.excB_ok x8B
  obtain ⟨x9a, x9d, x9e, x9f, x9g, x9h, x9i, x9j, x9k, x9l, x9m, x9n, x9o, x9p, x9q, x9r, x9s, x9B, -⟩ := ok_21 (c.b 21 rfl)
  obtain ⟨_, _, _, _, x9bm, _, _, _, _, _, _, _, _, _, _, x9b, x9c⟩ := DN.excB_ok x9B
  obtain ⟨x10a, x10d, x10e, x10f, x10g, x10h, x10i, x10j, x10k, x10l, x10m, x10n, x10o, x10p, x10q, x10r, x10s, x10B, -⟩ := ok_22 (c.b 22 rfl)
  obtain ⟨_, _, _, _, x10bm, _, _, _, _, _, _, _, _, _, _, x10b, x10c⟩ := DN.excB_ok x10B
  obtain ⟨x11a, x11d, x11e, x11f, x11g, x11h, x11i, x11j, x11k, x11l, x11m, x11n, x11o, x11p, x11q, x11r, x11s, x11B, -⟩ := ok_23 (c.b 23 rfl)
  obtain ⟨_, _, _, _, x11bm, _, _, _, _, _, _, _, _, _, _, x11b, x11c⟩ := DN.excB_ok x11B
  obtain ⟨x12a, x12d, x12e, x12f, x12g, x12h, x12i, x12j, x12k, x12l, x12m, x12n, x12o, x12p, x12q, x12r, x12s, x12B, -⟩ := ok_24 (c.b 24 rfl)
  obtain ⟨_, _, _, _, x12bm, _, _, _, _, _, _, _, _, _, _, x12b, x12c⟩ := DN.excB_ok x12B
  obtain ⟨x13a, x13d, x13e, x13f, x13g, x13h, x13i, x13j, x13k, x13l, x13m, x13n, x13o, x13p, x13q, x13r, x13s, x13B, -⟩ := ok_25 (c.b 25 rfl)
  obtain ⟨_, _, _, _, x13bm, _, _, _, _, _, _, _, _, _, _, x13b, x13c⟩ := DN.excB_ok x13B
  obtain ⟨x14a, x14d, x14e, x14f, x14g, x14h, x14i, x14j, x14k, x14l, x14m, x14n, x14o, x14p, x14q, x14r, x14s, x14B, -⟩ := ok_26 (c.b 26 rfl)
  obtain ⟨_, _, _, _, x14bm, _, _, _, _, _, _, _, _, _, _, x14b, x14c⟩ := DN.excB_ok x14B
  obtain ⟨x15a, x15d, x15e, x15f, x15g, x15h, x15i, x15j, x15k, x15l, x15m, x15n, x15o, x15p, x15q, x15r, x15s, x15B, -⟩ := ok_27 (c.b 27 rfl)
  obtain ⟨_, _, _, _, x15bm, _, _, _, _, _, _, _, _, _, _, x15b, x15c⟩ := DN.excB_ok x15B
  obtain ⟨x16a, x16d, x16e, x16f, x16g, x16h, x16i, x16j, x16k, x16l, x16m, x16n, x16o, x16p, x16q, x16r, x16s, x16B, -⟩ := ok_28 (c.b 28 rfl)
  obtain ⟨_, _, _, _, x16bm, _, _, _, _, _, _, _, _, _, _, x16b, x16c⟩ := DN.excB_ok x16B
  obtain ⟨x17a, x17d, x17e, x17f, x17g, x17h, x17i, x17j, x17k, x17l, x17m, x17n, x17o, x17p, x17q, x17r, x17s, x17B, -⟩ := ok_29 (c.b 29 rfl)
  obtain ⟨_, _, _, _, x17bm, _, _, _, _, _, _, _, _, _, _, x17b, x17c⟩ := DN.excB_ok x17B
  obtain ⟨x18a, x18d, x18e, x18f, x18g, x18h, x18i, x18j, x18k, x18l, x18m, x18n, x18o, x18p, x18q, x18r, x18s, x18B, -⟩ := ok_30 (c.b 30 rfl)
  obtain ⟨_, _, _, _, x18bm, _, _, _, _, _, _, _, _, _, _, x18b, x18c⟩ := DN.excB_ok x18B
  obtain ⟨x19a, x19d, x19e, x19f, x19g, x19h, x19i, x19j, x19k, x19l, x19m, x19n, x19o, x19p, x19q, x19r, x19s, x19B, -⟩ := ok_31 (c.b 31 rfl)
  obtain ⟨_, _, _, _, x19bm, _, _, _, _, _, _, _, _, _, _, x19b, x19c⟩ := DN.excB_ok x19B
  obtain ⟨x20a, x20d, x20e, x20f, x20g, x20h, x20i, x20j, x20k, x20l, x20m, x20n, x20o, x20p, x20q, x20r, x20s, x20B, -⟩ := ok_32 (c.b 32 rfl)
  obtain ⟨_, _, _, _, x20bm, _, _, _, _, _, _, _, _, _, _, x20b, x20c⟩ := DN.excB_ok x20B
  obtain ⟨x21a, x21d, x21e, x21f, x21g, x21h, x21i, x21j, x21k, x21l, x21m, x21n, x21o, x21p, x21q, x21r, x21s, x21B, -⟩ := ok_33 (c.b 33 rfl)
  obtain ⟨_, _, _, _, x21bm, _, _, _, _, _, _, _, _, _, _, x21b, x21c⟩ := DN.excB_ok x21B
  obtain ⟨x22a, x22d, x22e, x22f, x22g, x22h, x22i, x22j, x22k, x22l, x22m, x22n, x22o, x22p, x22q, x22r, x22s, x22B, -⟩ := ok_34 (c.b 34 rfl)
  obtain ⟨_, _, _, _, x22bm, _, _, _, _, _, _, _, _, _, _, x22b, x22c⟩ := DN.excB_ok x22B
  obtain ⟨x23a, x23d, x23e, x23f, x23g, x23h, x23i, x23j, x23k, x23l, x23m, x23n, x23o, x23p, x23q, x23r, x23s, x23B, -⟩ := ok_35 (c.b 35 rfl)
  obtain ⟨_, _, _, _, x23bm, _, _, _, _, _, _, _, _, _, _, x23b, x23c⟩ := DN.excB_ok x23B
  obtain ⟨x24a, x24d, x24e, x24f, x24g, x24h, x24i, x24j, x24k, x24l, x24m, x24n, x24o, x24p, x24q, x24r, x24s, x24B, -⟩ := ok_36 (c.b 36 rfl)
  obtain ⟨_, _, _, _, x24bm, _, _, _, _, _, _, _, _, _, _, x24b, x24c⟩ := DN.excB_ok x24B
  obtain ⟨x25a, x25d, x25e, x25f, x25g, x25h, x25i, x25j, x25k, x25l, x25m, x25n, x25o, x25p, x25q, x25r, x25s, x25B, -⟩ := ok_37 (c.b 37 rfl)
  obtain ⟨_, _, _, _, x25bm, _, _, _, _, _, _, _, _, _, _, x25b, x25c⟩ := DN.excB_ok x25B
  obtain ⟨x26a, x26d, x26e, x26f, x26g, x26h, x26i, x26j, x26k, x26l, x26m, x26n, x26o, x26p, x26q, x26r, x26s, x26B, -⟩ := ok_38 (c.b 38 rfl)
  obtain ⟨_, _, _, _, x26bm, _, _, _, _, _, _, _, _, _, _, x26b, x26c⟩ := DN.excB_ok x26B
  obtain ⟨x27a, x27d, x27e, x27f, x27g, x27h, x27i, x27j, x27k, x27l, x27m, x27n, x27o, x27p, x27q, x27r, x27s, x27B, -⟩ := ok_39 (c.b 39 rfl)
  obtain ⟨_, _, _, _, x27bm, _, _, _, _, _, _, _, _, _, _, x27b, x27c⟩ := DN.excB_ok x27B
  obtain ⟨x28a, x28d, x28e, x28f, x28g, x28h, x28i, x28j, x28k, x28l, x28m, x28n, x28o, x28p, x28q, x28r, x28s, x28B, -⟩ := ok_40 (c.b 40 rfl)
  obtain ⟨_, _, _, _, x28bm, _, _, _, _, _, _, _, _, _, _, x28b, x28c⟩ := DN.excB_ok x28B
  obtain ⟨z0, z1, z2, z3, z4, z5, z6, z7, z8, z9, sm0, xm_OpenpostsError_InvalidPlace, -⟩ := ok_41 (c.b 41 rfl)
  obtain ⟨xm_OpenpostsError_OpenpostsError, xm_InvalidNumber_InvalidPlace, xm_InvalidNumber_OpenpostsError, xm_InvalidWord_InvalidPlace, xm_InvalidWord_OpenpostsError, xm_InvalidWords_InvalidPlace, xm_InvalidWords_OpenpostsError, xm_InvalidPlace_InvalidPlace, xm_InvalidPlace_OpenpostsError, xm_UnlikeLengths_InvalidPlace, xm_UnlikeLengths_OpenpostsError, xm_InvalidHouse_InvalidPlace, -⟩ := ok_42 (c.b 42 rfl)
  obtain ⟨xm_InvalidHouse_OpenpostsError, xm_InvalidHouses_InvalidPlace, xm_InvalidHouses_OpenpostsError, xm_InvalidTie_InvalidPlace, xm_InvalidTie_OpenpostsError, xm_InvalidTies_InvalidPlace, xm_InvalidTies_OpenpostsError, xm_InvalidWeb_InvalidPlace, xm_InvalidWeb_OpenpostsError, xm_InvalidOrder_InvalidPlace, xm_InvalidOrder_OpenpostsError, xm_InvalidText_InvalidPlace, -⟩ := ok_43 (c.b 43 rfl)
  obtain ⟨xm_InvalidText_OpenpostsError, xm_InvalidAddresses_InvalidPlace, xm_InvalidAddresses_OpenpostsError, xm_InvalidParents_InvalidPlace, xm_InvalidParents_OpenpostsError, xm_InvalidTree_InvalidPlace, xm_InvalidTree_OpenpostsError, xm_InvalidPairs_InvalidPlace, xm_InvalidPairs_OpenpostsError, xm_InvalidRow_InvalidPlace, xm_InvalidRow_OpenpostsError, xm_InvalidSide_InvalidPlace, -⟩ := ok_44 (c.b 44 rfl)
  obtain ⟨xm_InvalidSide_OpenpostsError, xm_InvalidName_InvalidPlace, xm_InvalidName_OpenpostsError, xm_InvalidDeed_InvalidPlace, xm_InvalidDeed_OpenpostsError, xm_InvalidDeeds_InvalidPlace, xm_InvalidDeeds_OpenpostsError, xm_InvalidLine_InvalidPlace, xm_InvalidLine_OpenpostsError, xm_UnknownName_InvalidPlace, xm_UnknownName_OpenpostsError, xm_NameTaken_InvalidPlace, -⟩ := ok_45 (c.b 45 rfl)
  obtain ⟨xm_NameTaken_OpenpostsError, xm_NotJoined_InvalidPlace, xm_NotJoined_OpenpostsError, xm_NotKept_InvalidPlace, xm_NotKept_OpenpostsError, xm_TooLarge_InvalidPlace, xm_TooLarge_OpenpostsError, xm_NothingToUndo_InvalidPlace, xm_NothingToUndo_OpenpostsError, kx, -⟩ := ok_46 (c.b 46 rfl)
  exact all_mk X G hfa a1 l1 c1 k1 a2 l2 c2 k2 a3 l3 c3 k3 a4 l4 c4 k4 a5 l5 c5 k5 a6 l6 c6 k6 a7 l7 c7 k7 a8 l8 c8 k8 a9 l9 c9 k9 a10 l10 c10 k10 a11 l11 c11 k11 z0 z1 z2 z3 z4 z5 z6 z7 z8 z9 sm0 D0a D0b D0l D0c D0t D0e D0f D0g D0h D0i D0o D0s x0a x0b x0c x0d x0e x0f x0g x0h x0i x0j x0k x0l x0m x0n x0o x0p x0q x0r x0s x1a x1b x1c x1d x1e x1f x1g x1h x1i x1j x1k x1l x1m x1n x1o x1p x1q x1r x1s x2a x2b x2c x2d x2e x2f x2g x2h x2i x2j x2k x2l x2m x2n x2o x2p x2q x2r x2s x3a x3b x3c x3d x3e x3f x3g x3h x3i x3j x3k x3l x3m x3n x3o x3p x3q x3r x3s x4a x4b x4c x4d x4e x4f x4g x4h x4i x4j x4k x4l x4m x4n x4o x4p x4q x4r x4s x5a x5b x5c x5d x5e x5f x5g x5h x5i x5j x5k x5l x5m x5n x5o x5p x5q x5r x5s x6a x6b x6c x6d x6e x6f x6g x6h x6i x6j x6k x6l x6m x6n x6o x6p x6q x6r x6s x7a x7b x7c x7d x7e x7f x7g x7h x7i x7j x7k x7l x7m x7n x7o x7p x7q x7r x7s x8a x8b x8c x8d x8e x8f x8g x8h x8i x8j x8k x8l x8m x8n x8o x8p x8q x8r x8s x9a x9b x9c x9d x9e x9f x9g x9h x9i x9j x9k x9l x9m x9n x9o x9p x9q x9r x9s x10a x10b x10c x10d x10e x10f x10g x10h x10i x10j x10k x10l x10m x10n x10o x10p x10q x10r x10s x11a x11b x11c x11d x11e x11f x11g x11h x11i x11j x11k x11l x11m x11n x11o x11p x11q x11r x11s x12a x12b x12c x12d x12e x12f x12g x12h x12i x12j x12k x12l x12m x12n x12o x12p x12q x12r x12s x13a x13b x13c x13d x13e x13f x13g x13h x13i x13j x13k x13l x13m x13n x13o x13p x13q x13r x13s x14a x14b x14c x14d x14e x14f x14g x14h x14i x14j x14k x14l x14m x14n x14o x14p x14q x14r x14s x15a x15b x15c x15d x15e x15f x15g x15h x15i x15j x15k x15l x15m x15n x15o x15p x15q x15r x15s x16a x16b x16c x16d x16e x16f x16g x16h x16i x16j x16k x16l x16m x16n x16o x16p x16q x16r x16s x17a x17b x17c x17d x17e x17f x17g x17h x17i x17j x17k x17l x17m x17n x17o x17p x17q x17r x17s x18a x18b x18c x18d x18e x18f x18g x18h x18i x18j x18k x18l x18m x18n x18o x18p x18q x18r x18s x19a x19b x19c x19d x19e x19f x19g x19h x19i x19j x19k x19l x19m x19n x19o x19p x19q x19r x19s x20a x20b x20c x20d x20e x20f x20g x20h x20i x20j x20k x20l x20m x20n x20o x20p x20q x20r x20s x21a x21b x21c x21d x21e x21f x21g x21h x21i x21j x21k x21l x21m x21n x21o x21p x21q x21r x21s x22a x22b x22c x22d x22e x22f x22g x22h x22i x22j x22k x22l x22m x22n x22o x22p x22q x22r x22s x23a x23b x23c x23d x23e x23f x23g x23h x23i x23j x23k x23l x23m x23n x23o x23p x23q x23r x23s x24a x24b x24c x24d x24e x24f x24g x24h x24i x24j x24k x24l x24m x24n x24o x24p x24q x24r x24s x25a x25b x25c x25d x25e x25f x25g x25h x25i x25j x25k x25l x25m x25n x25o x25p x25q x25r x25s x26a x26b x26c x26d x26e x26f x26g x26h x26i x26j x26k x26l x26m x26n x26o x26p x26q x26r x26s x27a x27b x27c x27d x27e x27f x27g x27h x27i x27j x27k x27l x27m x27n x27o x27p x27q x27r x27s x28a x28b x28c x28d x28e x28f x28g x28h x28i x28j x28k x28l x28m x28n x28o x28p x28q x28r x28s xm_OpenpostsError_InvalidPlace xm_OpenpostsError_OpenpostsError xm_InvalidNumber_InvalidPlace xm_InvalidNumber_OpenpostsError xm_InvalidWord_InvalidPlace xm_InvalidWord_OpenpostsError xm_InvalidWords_InvalidPlace xm_InvalidWords_OpenpostsError xm_InvalidPlace_InvalidPlace xm_InvalidPlace_OpenpostsError xm_UnlikeLengths_InvalidPlace xm_UnlikeLengths_OpenpostsError xm_InvalidHouse_InvalidPlace xm_InvalidHouse_OpenpostsError xm_InvalidHouses_InvalidPlace xm_InvalidHouses_OpenpostsError xm_InvalidTie_InvalidPlace xm_InvalidTie_OpenpostsError xm_InvalidTies_InvalidPlace xm_InvalidTies_OpenpostsError xm_InvalidWeb_InvalidPlace xm_InvalidWeb_OpenpostsError xm_InvalidOrder_InvalidPlace xm_InvalidOrder_OpenpostsError xm_InvalidText_InvalidPlace xm_InvalidText_OpenpostsError xm_InvalidAddresses_InvalidPlace xm_InvalidAddresses_OpenpostsError xm_InvalidParents_InvalidPlace xm_InvalidParents_OpenpostsError xm_InvalidTree_InvalidPlace xm_InvalidTree_OpenpostsError xm_InvalidPairs_InvalidPlace xm_InvalidPairs_OpenpostsError xm_InvalidRow_InvalidPlace xm_InvalidRow_OpenpostsError xm_InvalidSide_InvalidPlace xm_InvalidSide_OpenpostsError xm_InvalidName_InvalidPlace xm_InvalidName_OpenpostsError xm_InvalidDeed_InvalidPlace xm_InvalidDeed_OpenpostsError xm_InvalidDeeds_InvalidPlace xm_InvalidDeeds_OpenpostsError xm_InvalidLine_InvalidPlace xm_InvalidLine_OpenpostsError xm_UnknownName_InvalidPlace xm_UnknownName_OpenpostsError xm_NameTaken_InvalidPlace xm_NameTaken_OpenpostsError xm_NotJoined_InvalidPlace xm_NotJoined_OpenpostsError xm_NotKept_InvalidPlace xm_NotKept_OpenpostsError xm_TooLarge_InvalidPlace xm_TooLarge_OpenpostsError xm_NothingToUndo_InvalidPlace xm_NothingToUndo_OpenpostsError kx
def nm0 : List Str := ["OpenpostsError", "InvalidNumber", "InvalidWord", "InvalidWords", "InvalidPlace", "UnlikeLengths", "InvalidHouse", "InvalidHouses", "InvalidTie", "InvalidTies", "InvalidWeb", "InvalidOrder", "InvalidText", "InvalidAddresses", "InvalidParents", "InvalidTree", "InvalidPairs", "InvalidRow", "InvalidSide", "InvalidName", "InvalidDeed", "InvalidDeeds", "InvalidLine", "UnknownName", "NameTaken", "NotJoined", "NotKept", "TooLarge", "NothingToUndo", "_law_cell_at"]
def nm1 : List Str := ["_law_box", "_law_take", "_law_first", "_law_second", "_law_third", "_law_made", "_law_is", "_law_values", "_law_raised"]
def names : List Str := nm0 ++ nm1
abbrev RW : PySem.W.OpenRow := PySem.W.OpenLaw.row PySem.Challenge.rw_openposts_k02_exceptions_apart
def lk1_0 : List Str := ["OpenpostsError", "InvalidNumber", "InvalidWord", "InvalidWords", "InvalidPlace", "UnlikeLengths", "InvalidHouse", "InvalidHouses", "InvalidTie", "InvalidTies", "InvalidWeb", "InvalidOrder", "InvalidText", "InvalidAddresses", "InvalidParents", "InvalidTree", "InvalidPairs", "InvalidRow", "InvalidSide", "InvalidName", "InvalidDeed", "InvalidDeeds", "InvalidLine", "UnknownName", "NameTaken", "NotJoined", "NotKept", "TooLarge", "NothingToUndo", "OpenpostsError"]
def lk2_0 : List Str := ["OpenpostsError"]
def lk3_0 : List Str := ["_law_box", "_law_take", "_law_values", "_law_cell_at", "_law_first", "_law_second", "_law_third", "_law_made", "_law_is", "_law_raised", "law"]
def looked : (Addr → Option Obj) → List Addr := DN.asZ (lk1_0) (lk2_0) (lk3_0) ([])
abbrev hk : PySem.W.Hook := DN.hookZ looked exs fns tabs
def ob (s : PySem.W.SharedT) : DN.AlZ := DN.obsZG looked exs fns tabs (HandSHeadRun.getT s)
theorem ob_eq (s : PySem.W.SharedT) : ob s = hk.obs s.abs := DN.obsZG_eq (HandSHeadRun.getT_eq s)
set_option maxHeartbeats 0 in
theorem run_ (w : World) : HandSHeadRun.RunEq RW (PySem.W.view RW.prog [41]) hk ob 60000 names w := by
  intro os
  kernel_rfl
end Q02
open PySem PySem.W PySem.Calls PyProof.Rows
set_option maxHeartbeats 0 in
theorem PySem.Challenge.cw_openposts_k02_exceptions_apart_holds : PySem.Challenge.rw_openposts_k02_exceptions_apart.Holds := by
  w_on; o_law
  refine HandSHeadRun.head_any (r := OpenLaw.row PySem.Challenge.rw_openposts_k02_exceptions_apart) (q := view (OpenLaw.row PySem.Challenge.rw_openposts_k02_exceptions_apart).prog [41]) (H := Q02.hk) (ob := Q02.ob) (M := 60000) (loose := Q02.names) (d := HandSHeadRun.topDef (OpenLaw.row PySem.Challenge.rw_openposts_k02_exceptions_apart).prog 41) (kwd := []) Q02.ob_eq
    (by kernel_rfl) (fun s => by kernel_rfl) Q02.run_ (by kernel_rfl) (by kernel_rfl) (by kernel_rfl) (by rfl) (by first | assumption | decide +kernel) (by decide +kernel) ⟨rfl, rfl, rfl, rfl, rfl, by decide +kernel⟩ ?hw ?hc
  case hw => w_witness2
  case hc =>
    refine DN.walk_ofG (l := PySem.Challenge.rw_openposts_k02_exceptions_apart) (n := 63) (k := 5) (x := "_law_script") (CX := fun w => L2N.CX PySem.Challenge.pw_openposts_k02_exceptions_apart w) rfl (by decide) (by kernel_rfl) ⟨⟨rfl, by decide, by decide⟩, fun _ => rfl⟩ ?F (fun _ _ _ _ _ h => DN.cx_no h)
    intro w mg fa h Y G hmg0
    obtain ⟨K, KX, c⟩ := Y
    have hmg : mg ("law" : PySem.Str) = some (.ref fa) := by
      have e : (HandSHeadRun.topDef (OpenLaw.row PySem.Challenge.rw_openposts_k02_exceptions_apart).prog 41).name = ("law" : PySem.Str) := by kernel_rfl
      rw [← e]
      exact hmg0
    obtain ⟨fd, hb, hF⟩ := Q02.told (w := w) KX G hmg c
    exact ⟨K, fd, DN.spLaw K, KX, hb, fun H a ns hl _ hS => ⟨a, ns, rfl, hS, hl, fun _ => rfl⟩, hF⟩
