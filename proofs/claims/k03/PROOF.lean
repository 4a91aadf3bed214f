import PyProof.Rows.All
import Wide.All
import OpenK.AllK
import Wide.FinOn
import HandS.ForMost
import HandS.ForExc
import HandS.ExcInit
import HandS.ExcSuper
import KE.KExcSuper
import PyProof.ListStr
import PyProof.StrOps2
import HandS.Evl
import HandS.IsInst
import HandS.RaiseMore
import KE.KExcIs
import HandS.ExcIs
import HandS.Walk
import HandS.TupAny
import KE.GoesEnum
import KE.KDictZip
import HandS.Deep
import HandS.Property
import PyProof.InstNe
import PyProof.Rows.PlainNe
import HandS.ClsMeth
import PyProof.CallStr
import PyProof.Rows.Range3
import OpenK.KOps
import HandS.CallLocal
import HandS.CallSlots
import HandS.ExcCtx
import HandS.HotCalls
import HandS.ExcInitHot
import HandS.StrMore
import HandS.SortInts
import HandS.Style
import HandS.WideBits
import HandS.Zip
import HandS.Conv
import HandS.Text
import KE.KIndexOf
import KE.GoesMore
import HandS.TupSets
import HandS.Strs
import HandS.DictComp
import HandS.Defaults
import HandS.Dict
import HandS.SortRule
import KE.KItemsList
import HandS.DictTup
import HandS.ExcField
import PyProof.ReprRoads
import HandS.FStr
import HandS.NoneIn
import HandS.More
import PySem.Challenge.RW_openposts_k03_words_side_by_side
set_option Elab.async false
set_option linter.all false
set_option maxRecDepth 100000
set_option maxHeartbeats 4000000
namespace OP
open PySem PySem.Spec PyProof.Rows L2
/-- what the written part says of the base class D of all errors, its __init__ at f -/
structure OpenB (P : Program) (K : PySem.W.Frag) (D cc cda : Addr) : Prop where
  cell : ∃ cl cld csl, K.lookup cc = some ⟨cl, cld, .cell (some (.ref D)), csl⟩
  code : ∃ ccl cdd vs ccs file tf, K.lookup cda = some ⟨ccl, cdd, .fields vs, ccs⟩ ∧ vs[2]? = some (.str file tf) ∧ ((P.main.file : Str) == file) = true
  cls : ∃ cdD, PySem.W.clsIn K D = some cdD
  top : (P.main.scope.names.lookup ("super" : Str)).isSome = false
  opq : PySem.W.nsIn K cStatics "thirdparty.any" = some none
/-- .. and of a class C of errors -/
structure OpenC (K : PySem.W.Frag) (D C : Addr) : Prop where
  ox : OexC K C
  sub : PySem.W.mroIn K C (.ref D) = some true
  ini : PySem.W.ks_superIn K C D "__init__" = some (some (.builtin "ValueError.__init__"))
  ve : PySem.W.subIn K (.ref C) (.type "ValueError") = some true
  nov : PySem.W.findIn K (.ref C) "value" = some none
def spInit (K : PySem.W.Frag) (D : Addr) : Sp := fun vs H Q _ => ∃ a C v, vs = [.ref a, v] ∧ OpenC K D C ∧ H a = some (exo a C none) ∧
  ∀ dx, H dx = none → dx ≠ a → Q .non (upd (upd H dx (exd dx [("value", v)])) a (exo a C (some dx)))
theorem fn_init {CX : CXT} {P : Program} {w : World} {K : PySem.W.Frag} {mg : Str → Option Value} {base : Heap} {k : Nat} {f D cc cda : Addr} {qual msg : Str} {params : Arguments} {scope : Scope} {dV kV doc pm ct oc : Value} {an od : Option Addr}
    {osl : Array (Option Value)} {j : Nat} {p0 p1 p2 p3 p4 p5 p6 p7 p8 p9 : Pos} {ar : Arg} {body : List Stmt}
    (hbd : body = [.Expr (.Call (.Attribute (.Call (.Name "super" p0) [] [] p1) "__init__" p2) [.Constant (.str msg) j p3] [] p4) p5, .Assign [.Attribute (.Name "self" p6) "value" p7] (.Name "value" p8) p9])
    (lk : K.lookup f = some ⟨oc, od, .func (PySem.W.ksFn "__init__" qual params body scope dV kV doc pm an (.ref cda) ct cc), osl⟩) (hcd : PySem.W.codeIn K (.ref cda) qual = true)
    (hpa : (params.posonlyargs ++ params.args).head? = some ar) (har : ar.arg = "self")
    (hcell : ∀ x ∈ scope.names, x.2 ≠ .cell) (hself : scope.names.lookup ("self" : Str) = some .local) (hval : scope.names.lookup ("value" : Str) = some .local)
    (hsup : scope.names.lookup ("super" : Str) = some .globalImplicit) (hcl : scope.names.lookup ("__class__" : Str) = some .free)
    (hk : scope.kind = .function) (hco : scope.isCoroutine = false) (hgen : scope.isGenerator = false)
    {pl : Sem Bool} (he : ∀ L, eval (.Call (.Attribute (.Call (.Name "super" p0) [] [] p1) "__init__" p2) [.Constant (.str msg) j p3] [] p4) (callEnv (PySem.W.ksFn "__init__" qual params body scope dV kV doc pm an (.ref cda) ct cc) L f) = (do
      let ov ← attributeBase (.Call (.Name "super" p0) [] [] p1) "__init__" (callEnv (PySem.W.ksFn "__init__" qual params body scope dV kV doc pm an (.ref cda) ct cc) L f) (eval (.Call (.Name "super" p0) [] [] p1) (callEnv (PySem.W.ksFn "__init__" qual params body scope dV kV doc pm an (.ref cda) ct cc) L f))
      standAt p2.atName
      let (g, first) ← holding [ov] (getMethod ov "__init__" pl)
      callWith p4 g first (backTo p4 (starEach [.Constant (.str msg) j p3] (callEnv (PySem.W.ksFn "__init__" qual params body scope dV kV doc pm an (.ref cda) ct cc) L f))) []))
    (hi : ∀ L, interactive (callEnv (PySem.W.ksFn "__init__" qual params body scope dV kV doc pm an (.ref cda) ct cc) L f) = false)
    (hs1 : ∀ L, swapsWith (.Call (.Attribute (.Call (.Name "super" p0) [] [] p1) "__init__" p2) [.Constant (.str msg) j p3] [] p4) none p5.line (callEnv (PySem.W.ksFn "__init__" qual params body scope dV kV doc pm an (.ref cda) ct cc) L f) = pure false)
    (hs2 : ∀ L, swapsWith (.Name "value" p8) (some (.Attribute (.Name "self" p6) "value" p7)) p9.line (callEnv (PySem.W.ksFn "__init__" qual params body scope dV kV doc pm an (.ref cda) ct cc) L f) = pure false)
    (hst : ∀ L, starEach [.Constant (.str msg) j p3] (callEnv (PySem.W.ksFn "__init__" qual params body scope dV kV doc pm an (.ref cda) ct cc) L f) = (false, eval (.Constant (.str msg) j p3) (callEnv (PySem.W.ksFn "__init__" qual params body scope dV kV doc pm an (.ref cda) ct cc) L f)) :: starEach [] (callEnv (PySem.W.ksFn "__init__" qual params body scope dV kV doc pm an (.ref cda) ct cc) L f))
    (B : OpenB P K D cc cda) (ms : mg "super" = none) :
    FnOk P w K mg base CX (k + 1) f (PySem.W.ksFn "__init__" qual params body scope dV kV doc pm an (.ref cda) ct cc) ["self", "value"] (spInit K D) := by
  refine ⟨fun vs H Q E h => ?_, fun A outer s H args us vs Q E hr e0 hb r hsp => ?_⟩
  · obtain ⟨a, C, v, rfl, _⟩ := h
    rfl
  · obtain ⟨a, C, v, rfl, T, ea, hq⟩ := hsp
    obtain ⟨u1, u2, rfl, r1, r2⟩ := vals2 r
    obtain rfl : u1 = Value.ref a := r1
    have KX : K.In s.heap := e0.mod.kin.keeps fun b o e => (e0.bs b o e).1
    have lim : s.heap.NoLimit := e0.mod.nolimit.keeps fun b o e => (e0.bs b o e).1
    obtain ⟨t1, hea⟩ := exo_at e0.hok ea
    refine ks_codeAny_call_defAt (fd := PySem.W.ksFn "__init__" qual params body scope dV kV doc pm an (.ref cda) ct cc) (body := body) (binds := [("self", .ref a), ("value", u2)]) hr.depth (KX _ _ lk) rfl lim (PySem.W.codeRec_of KX hcd) rfl hb hcell (fun x hx => ?_) (fun h0 hns hk0 => ?_) hco hgen hk
    · rcases List.mem_cons.mp hx with rfl | hx
      · exact hself
      · rcases List.mem_cons.mp hx with rfl | hx
        · exact hval
        · cases hx
    · have K0 : K.In h0 := fun b o e => hk0 _ _ (KX b o e)
      have hns' : h0.Ns s.heap.objs.size (fun x => if x = "value" then some u2 else if x = "self" then some (.ref a) else none) := by
        have hfe : (fun x => ([("self", Value.ref a), ("value", u2)] : List (Str × Value)).reverse.lookup x) = (fun x => if x = ("value" : Str) then some u2 else if x = ("self" : Str) then some (.ref a) else none) := ?_
        · rw [← hfe]
          exact hns
        funext x
        by_cases h1 : x = "value"
        · subst h1; rfl
        · by_cases h2 : x = "self"
          · subst h2; rfl
          · rw [if_neg h1, if_neg h2]
            have e1 : (x == ("value" : Str)) = false := by simpa using h1
            have e2 : (x == ("self" : Str)) = false := by simpa using h2
            simp [List.lookup, e1, e2]
      obtain ⟨nm, qn, N, bs, bm, sn, sub, ab, col, dd, k0, k1, k2, k3, k5, hC, hbm⟩ := T.ox.cls
      obtain ⟨cl, cld, csl, hcc⟩ := B.cell
      obtain ⟨ccl, cdd, cvs, ccs, file, tf, hcda, hvs, hfile⟩ := B.code
      obtain ⟨cdD, hD⟩ := B.cls
      obtain ⟨oD, hD1, hD2⟩ : ∃ oD, h0.get? D = some oD ∧ oD.data = .cls cdD := by
        unfold PySem.W.clsIn at hD
        split at hD
        · rename_i c d cd' sl ho
          cases hD
          exact ⟨_, K0 _ _ ho, rfl⟩
        · cases hD
      have a0 := hk0 _ _ hea
      have E0 : ∀ L, (callEnv (PySem.W.ksFn "__init__" qual params body scope dV kV doc pm an (.ref cda) ct cc) L f) = PySem.W.ksEnv qual scope L f (.ref cda) cc := fun L => rfl
      generalize hfd : PySem.W.ksFn "__init__" qual params body scope dV kV doc pm an (.ref cda) ct cc = fd at *
      rw [hbd]
      refine ks_wpAt_execs_cons (ks_wpAt_Expr_any (ks_wpAt_MethodCall (pl := pl) ?_ (he _)) (hi _) (hs1 _))
      have C0 : (K.In h0) := K0
      obtain ⟨mB, hmB, hmBx⟩ := e0.mod.blt
      rw [E0]
      have G0 : h0.Ns mainGlobals mg := e0.mod.glob.keeps fun b o e => hk0 _ _ (e0.bs b o e).1
      have B0 : h0.Ns builtinsNs mB := hmB.keeps fun b o e => hk0 _ _ (e0.bs b o e).1
      refine ks_wpAt_super_base (env := PySem.W.ksEnv qual scope s.heap.objs.size f (.ref cda) cc) hsup hcl rfl rfl (hk0 _ _ (KX _ _ lk)) rfl (by rw [← hfd]; exact hpa) rfl (K0 _ _ hcda) rfl hvs hfile B.top ?_
      refine PySem.W.ks_loadName_global hk hsup (PySem.Calls.loadGlobal_builtin (env := PySem.W.ksEnv qual scope s.heap.objs.size f (.ref cda) cc) G0 ms B0 ((hmBx "super" (by decide)).trans (by kernel_rfl)) ⟨rfl, ?_⟩)
      refine wpAny_loadName_free hk hcl rfl ⟨_, K0 _ _ hcc, rfl⟩ ?_
      refine wpAny_loadName_local hk (by rw [har]; exact hself) hns' (by rw [har]; rfl) ?_
      refine ks_wpAny_isType_cls hD1 hD2 ⟨rfl, ?_⟩
      have I0 : PySem.W.InstAt h0 a { cls := .ref C, data := .fields #[.ref t1, .none, .none, .none, .bool false, .none] } C none := ⟨a0, rfl, rfl, trivial⟩
      have hCl : ∃ cd, PySem.W.clsIn K C = some cd := by unfold PySem.W.clsIn; rw [hC]; exact ⟨_, rfl⟩
      obtain ⟨cdC, hcC⟩ := hCl
      refine ks_wpAny_call_super hD1 hD2 a0 rfl (fun c e => by cases e) (PySem.W.looks_mroIn K0 T.sub) (fun h1 hso hk1 => ?_)
      have K1 : K.In h1 := fun b o e => hk1 _ _ (K0 b o e)
      have a1 := hk1 _ _ a0
      have I1 : PySem.W.InstAt h1 a { cls := .ref C, data := .fields #[.ref t1, .none, .none, .none, .bool false, .none] } C none := ⟨a1, rfl, rfl, trivial⟩
      have hI : PySem.W.Looks (model P w) h1 (isInstance (.ref a) (.type "ValueError")) true := I1.type.andThen (PySem.W.looks_subIn K1 T.ve)
      have hm := T.ini
      unfold PySem.W.ks_superIn at hm
      rw [hcC] at hm
      refine PySem.W.kxs_getMethod PySem.W.kxs_ValueError hso (PySem.W.looks_opaque K1 B.opq) (l₀ := cdC.mro) (fun A Q E s k q => wpAny_bind ((PySem.W.looks_clsIn K1 hcC) A _ E s k (wpAny_pure q))) rfl K1 hm hI (PySem.W.ks_ne K1 I1 hcC) rfl ?_
      dsimp only
      rw [← E0, hst, E0]
      refine PySem.W.kxs_callWith (i := "ValueError.__init__") (x := a) rfl (PySem.Calls.evalArgs_plain ?_)
      refine PySem.Calls.spliced_cons (PySem.Calls.Constant_str (k := j) (pos := p3) (PySem.Calls.spliced_nil ⟨?_, ?_⟩))
      · exact Heap.get?_push_at rfl rfl
      have hg2 : ∀ {b : Addr} {o : Obj}, h1.get? b = some o → (h1.push (PySem.W.kxs_mw "ValueError.__init__" a)).get? b = some o := fun {b o} e => Heap.get?_push_of_some _ e
      have hw2 : (h1.push (PySem.W.kxs_mw "ValueError.__init__" a)).get? h1.objs.size = some (PySem.W.kxs_mw "ValueError.__init__" a) := Heap.get?_push_at rfl rfl
      generalize h1.push (PySem.W.kxs_mw "ValueError.__init__" a) = h2 at *
      have a2 := hg2 a1
      refine wpAny_call (codeAny_of_tree ?_)
      show wpAny _ (A.deeper _).in1 (callAny (.ref h1.objs.size) ⟨[.str msg _], []⟩) _ _ _
      simp only [callAny]
      refine wpAny_bind (wpAny_load hw2 ?_)
      simp only [PySem.W.kxs_mw, show (Value.type "method-wrapper" == Value.type "method" || Value.type "method-wrapper" == Value.type "builtin_function_or_method" || Value.type "method-wrapper" == Value.type "method-wrapper") = true by decide, if_true]
      refine PySem.W.KFB.if_so (by decide) ?_
      refine wpAny_bind (PySem.W.check_bound_init F.excBase_ValueError.toExcCallFacts (hg2 (K1 _ _ hC)) a2 rfl ?_)
      refine wpAny_bind (wpAny_pure (wpAny_pure ?_))
      refine ⟨plainId_quiet F.excBase_ValueError.init.plain _, codeAny_builtin F.excBase_ValueError.initEntry ?_⟩
      refine PySem.W.exc_init_tree (cls := .ref C) (t0 := t1) (dv := none) (c2 := .none) (c3 := .none) (b4 := .bool false) a2 (by show 1 ≤ sizeLine; decide) (fun h3 hk3 a3 htup => ?_)
      show PySem.wpAt (model P w) (A.deeper (PySem.W.ksEnv qual scope s.heap.objs.size f (Value.ref cda) cc)) _ (execs [Stmt.Assign [(Expr.Name (Str.ofString "self") p6).Attribute (Str.ofString "value") p7] (Expr.Name (Str.ofString "value") p8) p9] (PySem.W.ksEnv qual scope s.heap.objs.size f (Value.ref cda) cc)) _ _ _
      have neL : s.heap.objs.size ≠ a := Ne.symm (Nat.ne_of_lt (Heap.lt_size hea))
      have k03 : ∀ b o, b ≠ a → h0.get? b = some o → h3.get? b = some o := fun b o hb e => hk3 b o hb (hg2 (hk1 b o e))
      have n3 : h3.Ns s.heap.objs.size (fun x => if x = ("value" : Str) then some u2 else if x = ("self" : Str) then some (.ref a) else none) := by
        obtain ⟨oL, es, ep, hL, rr⟩ := hns'
        exact ⟨oL, es, ep, k03 _ _ neL hL, rr⟩
      have naC : ∀ b o, K.lookup b = some o → b ≠ a := fun b o e z => by
        have e1 := (e0.bs b o (e0.mod.kin b o e)).2
        rw [z, ea] at e1
        cases e1
      have K3 : K.In h3 := fun b o e => k03 _ _ (naC b o e) (K0 b o e)
      have hs2' := hs2 s.heap.objs.size
      rw [E0] at hs2'
      refine ks_wpAt_execs_cons (ks_wpAt_Assign_Attr (wpAt_of_wpAny (PySem.ESX.ldL n3 (by rfl) (PySem.ESX.ldL n3 (by rfl) ?_ hk hself) hk hval)) hs2')
      have hcl3 : PySem.W.clsIn K C = some { name := nm, bases := bs, mro := .ref C :: bm, ns := N, qualname := qn, hasDict := true, slotNames := sn, subclasses := sub, abstract := ab, collection := col, hasDel := false } := by unfold PySem.W.clsIn; rw [hC] <;> rfl
      refine PySem.W.set_plain (s := { heap := h3, gens := s.gens, drawn := s.drawn, toks := s.toks + 2 + 1 + 1, os := s.os }) K3 (ox := { cls := .ref C, dict := none, data := .fields #[.ref h2.objs.size, .none, .none, .none, .bool false, .none] }) (od := none) ⟨a3, rfl, rfl, trivial⟩ T.ox.sa ?_
      refine PySem.HandSPX.exc_osa K3 a3 hcl3 (show PySem.HandSPX.refsVE (.ref C :: bm) = true from hbm) rfl T.nov (fun h4 tk4 dx k4 dn dne hx4 hn4 => ?_)
      show PySem.wpAt _ _ _ (execs [] _) _ _ _
      refine wpAt_of_wpAny (wpAny_execs_nil ?_)
      show CE outer P w H s Q Value.none _
      have kk : ∀ b o, b ≠ a → s.heap.get? b = some o → h4.get? b = some o := fun b o hb e => k4 b o hb (k03 b o hb (hk0 b o e))
      have size3 : s.heap.objs.size ≤ dx := by
        have q1 : s.heap.objs.size < h3.objs.size := by
          obtain ⟨oL, _, _, hL, _⟩ := n3
          exact Heap.lt_size hL
        exact Nat.le_trans (Nat.le_of_lt q1) dn
      have hnd : H dx = none := e0.hok.fresh size3
      have nd : ∀ {b : Addr} {o : Obj}, s.heap.get? b = some o → b ≠ dx := fun {b o} q => Nat.ne_of_lt (Nat.lt_of_lt_of_le (Heap.lt_size q) size3)
      have na : ∀ {b : Addr}, H b = none → b ≠ a := fun {b} n z => by
        rw [z, ea] at n
        cases n
      have Un1 : Un (frs outer) [] H (upd (upd H dx (exd dx [("value", v)])) a (exo a C (some dx))) s.heap h4 := {
        keep := fun b o q n _ _ => kk b o (na n) q
        slot := fun b o q n _ _ => ⟨o.slots, kk b o (na n) q⟩
        free := fun b o q n _ => by rw [upd_ne (na n), upd_ne (nd q)]; exact n
        there := fun b o q _ => by
          by_cases hb : b = a
          · exact ⟨_, by rw [hb]; exact hx4⟩
          · exact ⟨o, kk b o hb q⟩
        tups := fun b xs q => by rw [upd_ne (at_ne ea q exo_tup), upd_ne (ne_of_none q hnd)]; exact q
        frzs := fun b o v q => by rw [upd_ne (at_ne ea q exo_frz), upd_ne (ne_of_none q hnd)]; exact q
        tbls := fun b ps q => ⟨#[], by rw [upd_ne (at_ne ea q exo_tbl), upd_ne (ne_of_none q hnd), q]; simp⟩ }
      refine ⟨.non, _, rfl, e0.bare, Un1, fun b o q => ?_, rfl, hq dx hnd dne⟩
      by_cases hb : b = a
      · subst hb
        rw [upd_same] at q
        cases q
        exact exo_ok hx4
      · rw [upd_ne hb] at q
        by_cases hd : b = dx
        · subst hd
          rw [upd_same] at q
          cases q
          exact exd_ok hn4 (relO_put (fs := []) r2 fun g => True.intro)
        · rw [upd_ne hd] at q
          exact (e0.hok b o q).stay (fun c v hc z => kk c v (by
              rcases hc with hc | hc
              · rw [hc]
                exact hb
              · exact at_ne ea hc exo_own) z)
            (fun c hc => by rw [upd_ne (at_ne ea hc exo_own), upd_ne (ne_of_none hc hnd)]; exact hc) (fun c xs hc => by rw [upd_ne (at_ne ea hc exo_tup), upd_ne (ne_of_none hc hnd)]; exact hc)
end OP
namespace OP
open PySem PySem.Spec PyProof.Rows L2
section
variable {X : Cx}
/-- the signs of a text as texts of one sign -/
def signsV (z : Str) : List V := z.cps.toList.map fun c => V.str ⟨#[c]⟩
theorem signsV_length (z : Str) : (signsV z).length = z.length := by
  unfold signsV
  rw [List.length_map]
  rfl
theorem call_list_text (hc : X.calm = true) : CallR X (.type "list") (fun xs H Q => ∃ z : Str, xs = [.str z] ∧ z.length ≤ sizeLine ∧ ∀ p, H p = none → Q (.ref p) (upd H p (.lst (signsV z)))) := by
  intro pins s σ H xs us Q I r h
  obtain ⟨z, rfl, hz, q⟩ := h
  obtain ⟨u, rfl, t, rfl⟩ := vals1 r
  refine call_list_str (I.ok.hd hc) z t (fun h' tk acc' c' hk hS hit => ?_) hz
  have hf : H s.heap.objs.size = none := I.hok.fresh (Nat.le_refl _)
  refine ⟨.ref s.heap.objs.size, upd H s.heap.objs.size (.lst (signsV z)), I.laid (t' := tk) hk (Nat.le_refl _) ?_, rfl, q _ hf⟩
  refine ⟨by rw [signsV_length]; exact hz, acc'.toList, c', ?_, by simpa using hS⟩
  obtain ⟨hl, hi⟩ := hit
  have key : ∀ (l : List Nat) (ys : List Value), l.length = ys.length → (∀ (i : Nat) v, ys[i]? = some v → ∃ c u, l[i]? = some c ∧ v = Value.str ⟨#[c]⟩ u) → Vals (l.map fun c => V.str ⟨#[c]⟩) ys := by
    intro l
    induction l with
    | nil =>
      intro ys e _
      cases ys with
      | nil => exact .nil
      | cons y r => cases e
    | cons c l ih =>
      intro ys e hh
      cases ys with
      | nil => cases e
      | cons y r =>
        obtain ⟨c', u, e1, e2⟩ := hh 0 y rfl
        cases e1
        exact .cons ⟨u, e2⟩ (ih r (Nat.succ.inj e) fun i v q => hh (i + 1) v q)
  refine key z.cps.toList acc'.toList (by simpa using hl.symm) fun i v hv => ?_
  obtain ⟨c, u, e1, e2⟩ := hi i v (by simpa using hv)
  exact ⟨c, u, by simpa using e1, e2⟩
/-- a text n times -/
def repS (z : Str) (n : Nat) : Str := ⟨(List.replicate n z.cps.toList).flatten.toArray⟩
theorem repS_fold (z : Str) (n : Nat) : (⟨(List.replicate n z.cps).foldl (· ++ ·) #[]⟩ : Str) = repS z n := by
  have key : ∀ (n : Nat) (a : Array Nat), (List.replicate n z.cps).foldl (· ++ ·) a = a ++ (List.replicate n z.cps.toList).flatten.toArray := by
    intro n
    induction n with
    | zero => intro a; simp
    | succ n ih =>
      intro a
      rw [List.replicate_succ, List.foldl_cons, ih, List.replicate_succ, List.flatten_cons]
      apply Array.ext'
      simp
  unfold repS
  rw [key n #[]]
  simp
theorem repS_length (z : Str) (n : Nat) : (repS z n).length = z.length * n := by
  show (List.replicate n z.cps.toList).flatten.toArray.size = z.cps.size * n
  rw [List.size_toArray, List.length_flatten, List.map_replicate, Array.length_toList]
  induction n with
  | zero => rfl
  | succ n ih =>
    rw [List.replicate_succ, List.sum_cons, ih, Nat.mul_succ, Nat.add_comm]
theorem op_mul_str : OpR X (binaryOp .Mult) (fun x y H Q => ∃ (z : Str) (n : Int), x = .str z ∧ y = .int n ∧ 0 ≤ n ∧ n ≤ 10000 ∧ z.length ≤ 1000 ∧ Q (.str (repS z n.toNat)) H) := by
  intro pins s σ H x y u v Q I rx ry h
  obtain ⟨z, n, rfl, rfl, h0, h1, hz, q⟩ := h
  obtain ⟨t, rfl⟩ := rx
  obtain ⟨t2, rfl⟩ := ry
  have hr : (decide (n < -(2 ^ 63 : Int)) || decide (n ≥ 2 ^ 63)) = false := by
    rw [decide_eq_false (by omega), decide_eq_false (by omega)]
    rfl
  refine PySem.P.mul_str hr (fun hn _ => ?_) (fun hn _ => ?_) ?_
  · have e : (1000 : Int) ≤ (2 ^ 63 - 1) / n := by
      rw [Int.le_ediv_iff_mul_le (by omega)]
      omega
    omega
  · have : z.length * n.toNat ≤ 1000 * 10000 := Nat.mul_le_mul hz (by omega)
    unfold Builtin.Str.tooLong
    have e : ¬ (z.length * n.toNat > sizeLine) := by rw [sizeLine_eq]; omega
    simpa using Nat.le_of_not_gt e
  · by_cases hn : n < 1
    · rw [if_pos hn]
      have e : n.toNat = 0 := by omega
      rw [e] at q
      exact ⟨by decide, .str _, H, I.tok _, ⟨_, rfl⟩, q⟩
    · rw [if_neg hn]
      by_cases h2 : (n == 1 || z.length == 0) = true
      · rw [if_pos h2]
        have e : repS z n.toNat = z := by
          rcases Bool.or_eq_true_iff.mp h2 with e | e
          · have : n = 1 := by simpa using e
            subst this
            show repS z 1 = z
            unfold repS
            simp
          · have e0 : z.cps = #[] := by
              have : z.length = 0 := by simpa using e
              exact Array.eq_empty_of_size_eq_zero this
            obtain ⟨cps⟩ := z
            dsimp only at e0
            subst e0
            unfold repS
            simp
        rw [e] at q
        exact ⟨.str z, H, I, ⟨_, rfl⟩, q⟩
      · rw [if_neg h2]
        refine ⟨?_, .str (repS z n.toNat), H, I.tok _, ⟨s.toks, ?_⟩, q⟩
        · have e := repS_length z n.toNat
          rw [← repS_fold] at e
          have : z.length * n.toNat ≤ 1000 * 10000 := Nat.mul_le_mul hz (by omega)
          rw [e, sizeLine_eq]
          omega
        · rw [← repS_fold]
end
end OP
namespace OP
open PySem PySem.Spec PyProof.Rows L2
/-- a value's type, errors of the package too -/
inductive TyZ (K : PySem.W.Frag) (H : Hp) : V → Value → Prop where
  | x {v : V} {t : Value} (h : TyX K H v t) : TyZ K H v t
  | exc {a C d : Addr} {fs : List (Str × V)} (T : ExcC K C) (e : H a = some (exo a C (some d))) (ed : H d = some (exd d fs)) : TyZ K H (.ref a) (.ref C)
theorem TyZ.mono {K : PySem.W.Frag} {H H' : Hp} {v : V} {t : Value} (e : Evl.Ex H H') (h : TyZ K H v t) : TyZ K H' v t := by
  cases h with
  | exc T h1 h2 => exact .exc T (e _ _ h1) (e _ _ h2)
  | x h =>
    refine .x ?_
    cases h with
    | byt b => exact .byt b
    | set h => exact .set (e _ _ h)
    | kList h c => exact .kList h c
    | kTuple h c => exact .kTuple h c
    | kDict h c => exact .kDict h c
    | fTuple h => exact .fTuple (e _ _ h)
    | fDict h => exact .fDict (e _ _ h)
    | base h =>
      refine .base ?_
      cases h with
      | non => exact .non
      | bl b => exact .bl b
      | int b => exact .int b
      | str b => exact .str b
      | flt b => exact .flt b
      | lst h => exact .lst (e _ _ h)
      | frz h => exact .frz (e _ _ h)
      | tup h => exact .tup (e _ _ h)
      | dK h => exact .dK (e _ _ h)
      | dT h => exact .dT (e _ _ h)
      | ins h a b c d f => exact .ins (e _ _ h) a b c d f
def rIsZ (K : PySem.W.Frag) : List V → Hp → VK → Prop := fun xs H Q => ∃ (x c : V) (t u : Value) (b : Bool), xs = [x, c] ∧ ClsV c u ∧ TyZ K H x t ∧ PySem.W.kitOne K t u = some b ∧ Q (.bl b) H
theorem call_isZ {X : Cx} : CallR X (.builtin "isinstance") (rIsZ X.K) := by
  intro pins s σ H xs us Q I r h
  obtain ⟨x, c, t, u, b, rfl, k, ty, e, q⟩ := h
  cases ty with
  | x ty => exact call_isi pins s σ H _ us Q I r ⟨x, c, t, u, b, rfl, k, ty, e, q⟩
  | @exc a C d fs T ea ed =>
    obtain ⟨u1, u2, rfl, r1, r2⟩ := vals2 r
    obtain rfl : u1 = Value.ref a := r1
    obtain rfl := k.eq r2
    obtain ⟨t1, hx⟩ := exo_at I.hok ea
    obtain ⟨mA, ⟨od, es, ep, hd, _⟩, _⟩ := exd_at I.hok ed
    have hcl : (PySem.W.clsIn X.K C).isSome = true := by
      obtain ⟨cd, hc, _⟩ := PySem.W.any_some T.hd
      rw [hc]
      rfl
    have J : PySem.W.InstAt s.heap a { cls := .ref C, dict := some d, data := .fields #[.ref t1, .none, .none, .none, .bool false, .none] } C (some od) := ⟨hx, rfl, rfl, hd⟩
    exact PySem.W.kia_one (PySem.W.kitx_exc hcl T.hg T.hk T.hs T.ha T.hn T.ht T.hm) I.kIn J e (fun z => nomatch z) fun tk => ⟨.bl b, H, I.tok tk, rfl, q⟩
end OP
namespace OP
open PySem PySem.Spec PyProof.Rows L2
def Box (n : Nat) (o : HO) : Prop := ∃ x y c : Int, o = .lst [.int x, .int y, .int c] ∧ 0 ≤ x ∧ 0 ≤ y ∧ y < 2147483648 ∧ 0 ≤ c ∧ c ≤ n
def BoxAt (H : Hp) (b : Addr) (n : Nat) : Prop := ∃ o, H b = some o ∧ Box n o
/-- all but b stands as it stood -/
def Eb (b : Addr) (H H' : Hp) : Prop := ∀ a o, a ≠ b → H a = some o → H' a = some o
theorem Eb.refl (b : Addr) (H : Hp) : Eb b H H := fun _ _ _ h => h
theorem Eb.trans {b : Addr} {H H1 H2 : Hp} (x : Eb b H H1) (y : Eb b H1 H2) : Eb b H H2 := fun a o n h => y a o n (x a o n h)
theorem Eb.of {b : Addr} {H H' : Hp} (x : Evl.Ex H H') : Eb b H H' := fun a o _ h => x a o h
theorem BoxAt.mono {H : Hp} {b : Addr} {n m : Nat} (h : BoxAt H b n) (l : n ≤ m) : BoxAt H b m := by
  obtain ⟨o, e, x, y, c, h1, h2, h3, h4, h5, h6⟩ := h
  exact ⟨o, e, x, y, c, h1, h2, h3, h4, h5, by omega⟩
theorem BoxAt.ex {H H' : Hp} {b : Addr} {n : Nat} (h : BoxAt H b n) (e : Evl.Ex H H') : BoxAt H' b n := by
  obtain ⟨o, q, r⟩ := h
  exact ⟨o, e _ _ q, r⟩
end OP
namespace OP
open PySem PySem.Spec PyProof.Rows L2 Evl
theorem str_ext {a b : Str} (h : a.cps.toList = b.cps.toList) : a = b := by
  obtain ⟨⟨a⟩⟩ := a
  obtain ⟨⟨b⟩⟩ := b
  dsimp only at h
  rw [h]
theorem join_fold (g : Str) : ∀ (ts : List Str) (a : Array Nat), (ts.foldl (fun acc p => acc ++ g.cps ++ p.cps) a).toList = a.toList ++ (ts.map fun p => g.cps.toList ++ p.cps.toList).flatten
  | [], a => by simp
  | t :: r, a => by
    rw [List.foldl_cons, join_fold g r, List.map_cons, List.flatten_cons]
    simp
theorem join_cons (g t : Str) (r : List Str) : (Txt.join g (t :: r)).cps.toList = t.cps.toList ++ (r.map fun p => g.cps.toList ++ p.cps.toList).flatten := join_fold g r t.cps
theorem flat_signs : ∀ cs : List Nat, (cs.map fun c => ([] : List Nat) ++ [c]).flatten = cs
  | [] => rfl
  | c :: r => by
    rw [List.map_cons, List.flatten_cons, flat_signs r]
    rfl
theorem join_signs : ∀ cs : List Nat, Txt.join "" (cs.map fun c => (⟨#[c]⟩ : Str)) = ⟨cs.toArray⟩
  | [] => rfl
  | c :: r => by
    apply str_ext
    rw [List.map_cons, join_cons, List.map_map]
    have e := flat_signs r
    show [c] ++ (r.map fun c => ([] : List Nat) ++ [c]).flatten = c :: r
    rw [e]
    rfl
end OP
namespace OP
open PySem PySem.Spec PyProof.Rows L2 Evl
section
variable {X : Cx} (K : PySem.W.Frag)
variable {tg o e : Expr} {es : List Expr} {to tl : TE} {t : TA} {name : Str} {apos cpos pos : Pos} {T id : String} {r : V → List V → Hp → VK → Prop}
theorem pi_listK (hl : PE X e tl) (h : X.K = K := by rfl) : PI X tg e (iList K tl) := h ▸ pi_list hl
theorem pi_tupK (hl : PE X e tl) (h : X.K = K := by rfl) : PI X tg e (iTup K tl) := h ▸ pi_tup hl
theorem pe_bmK (pa : PlainAttrs T) (slot : Slot T name id) (hty : typeOf (.builtin id) = pure (.type "method_descriptor")) (hm : MtR X id r) (ho : PE X o to) (ha : PA X (e :: es) t)
    (hbase : attributeBase o name X.env (eval o X.env) = eval o X.env := by rfl)
    (hfew : ((backTo cpos (starEach (e :: es) X.env)).all (fun x => !x.1) && (backToKw cpos (keywordEach [] X.env)).all (fun x => x.1.isSome)
      && decide ((e :: es).length + ([] : List Keyword).length + (if ([] : List Keyword).isEmpty then 0 else 1) < 30)) = true := by rfl)
    (hline : (apos.endLine == cpos.line) = true := by rfl) (hs : starEach (e :: es) X.env = (false, eval e X.env) :: starEach es X.env := by rfl) (hplain : (backTo cpos (starEach es X.env)).any (·.1) = false := by rfl) (hK : X.K = K := by rfl) :
    PE X (.Call (.Attribute o name apos) (e :: es) [] cpos) (tBM K T r to t) := hK ▸ pe_bm pa slot hty hm ho ha hbase hfew hline hs hplain
theorem pe_bm0K (pa : PlainAttrs T) (slot : Slot T name id) (hty : typeOf (.builtin id) = pure (.type "method_descriptor")) (hm : MtR X id r) (ho : PE X o to)
    (hbase : attributeBase o name X.env (eval o X.env) = eval o X.env := by rfl) (hline : (apos.endLine == cpos.line) = true := by rfl) (hK : X.K = K := by rfl) : PE X (.Call (.Attribute o name apos) [] [] cpos) (tBM0 K T r to) := hK ▸ pe_bm0 pa slot hty hm ho hbase hline
end
end OP
namespace OP
open PySem PySem.Spec PyProof.Rows L2
/-- a zip over two iterators, whatever it knows of the tuple that it gave out -/
abbrev IsZipR (h : Heap) (z TI TO : Addr) (f0 : Value) (f1 : Bool) : Prop :=
  h.get? z = some { cls := .type "zip", dict := none, data := .fields #[f0, .bool f1, .bool false, .ref TI, .ref TO], slots := #[] }
def RawOr (f0 : Value) : Prop := f0 = .none ∨ ∃ T : Nat, f0 = rawInt T
section
variable {prog : Program} {w : World} {A : Around} {E : Value → Shared → Prop} {s : Shared}
theorem alive {a : Addr} {Q : Option Obj → Shared → Prop} (h : Q (s.heap.get? a) s) : wpAny (model prog w) A (loadIfAlive a) Q E s := fun _ _ _ => h
theorem own_free {z TI TO : Addr} {f0 : Value} {f1 : Bool} {Q : Bool → Shared → Prop} (hz : IsZipR s.heap z TI TO f0 f1) (hf : RawOr f0)
    (h : ∀ b h' f1', IsZipR h' z TI TO f0 f1' → Heap.SameBut z s.heap h' → Q b { s with heap := h' }) : wpAny (model prog w) A (Builtin.SmallTypes.ownedTupleIsFree (.ref z)) Q E s := by
  unfold Builtin.SmallTypes.ownedTupleIsFree
  rcases hf with rfl | ⟨T, rfl⟩
  · refine wpAny_bind (wpAny_field hz rfl (x := .none) rfl (wpAny_pure ?_))
    exact h true s.heap f1 hz (Heap.SameBut.refl _ _)
  · refine wpAny_bind (wpAny_field hz rfl (x := rawInt T) rfl ?_)
    show wpAny _ _ (loadIfAlive ((T : Int).toNat) >>= _) _ _ _
    rw [Int.toNat_natCast]
    refine wpAny_bind (alive ?_)
    cases hT : s.heap.get? T with
    | none => exact wpAny_pure (h true s.heap f1 hz (Heap.SameBut.refl _ _))
    | some oT =>
      simp only [Option.isNone_some, Bool.false_eq_true, if_false]
      refine wpAny_bind (wpAny_field hz rfl (x := .bool f1) rfl ?_)
      cases f1 with
      | true =>
        rw [if_neg (show ¬ ((Value.bool true != Value.bool true) = true) from Bool.false_ne_true)]
        exact wpAny_pure (h false s.heap true hz (Heap.SameBut.refl _ _))
      | false =>
        rw [if_pos (show (Value.bool false != Value.bool true) = true from rfl)]
        exact wpAny_bind (wpAny_setField_rec hz (by simp) fun h₁ hz₁ hs₁ => wpAny_pure (h false h₁ true hz₁ hs₁))
theorem upd_tup2 {T : Addr} {a1 a2 x : Value} {k : Nat} {Q : Unit → Shared → Prop} (hT : IsTupOf2 s.heap T a1 a2)
    (h : ∀ h', h'.get? T = some { cls := .type "tuple", data := .seq ((#[a1, a2] : Array Value).setIfInBounds k x) } → Heap.SameBut T s.heap h' → Q () { s with heap := h' }) :
    wpAny (model prog w) A (updateSeq T (·.setIfInBounds k x)) Q E s := updateSeq_IsTupOf2 hT h
variable {z TI TO i1 i2 : Addr} {fp1 fp2 : List Addr} {n i : Nat} {P1 P2 : Nat → Value → Prop} {St1 St2 : Nat → Heap → Prop} {a1 a2 f0 : Value} {f1 : Bool}
/-- the next pair of a zip, whether its own tuple is free or not: a new tuple -/
theorem zip_next_any {Q : Value → Shared → Prop} (S : ZipSep2 z TI TO i1 i2 fp1 fp2) (D1 : Draws prog w A i1 fp1 n P1 St1) (D2 : Draws prog w A i2 fp2 n P2 St2)
    (hz : IsZipR s.heap z TI TO f0 f1) (hf : RawOr f0) (hTI : IsTupOf2 s.heap TI (.ref i1) (.ref i2)) (hTO : IsTupOf2 s.heap TO a1 a2) (st1 : St1 i s.heap) (st2 : St2 i s.heap) (hlt : i < n)
    (hQ : ∀ x1 x2 h' tk g0 g1 b1 b2, P1 i x1 → P2 i x2 → IsZipR h' z TI TO g0 g1 → RawOr g0 → IsTupOf2 h' TO b1 b2 → St1 (i + 1) h' → St2 (i + 1) h' → IsTupOf2 h' s.heap.objs.size x1 x2 → h'.objs.size = s.heap.objs.size + 1 →
      (∀ c o, c ≠ z → c ≠ TO → c ≠ i1 → c ≠ i2 → s.heap.get? c = some o → h'.get? c = some o) → Q (.ref s.heap.objs.size) { s with heap := h', toks := tk }) :
    wpAny (model prog w) A (Builtin.«zip.__next__» ⟨[.ref z], []⟩) (fun fin s' => ∃ v, fin = .done (.ret v) ∧ Q v s') E s := by
  obtain ⟨hp, g, d, tk0, os⟩ := s
  show wpAny _ _ (field (.ref z) 2 >>= _) _ _ _
  refine wpAny_bind (wpAny_field hz rfl (x := .bool false) rfl ?_)
  show wpAny _ _ (field (.ref z) 3 >>= _) _ _ _
  refine wpAny_bind (wpAny_field hz rfl (x := .ref TI) rfl ?_)
  refine wpAny_bind (wpAny_seqItems hTI rfl ?_)
  show wpAny _ _ (Builtin.SmallTypes.ownedTupleIsFree (.ref z) >>= _) _ _ _
  refine wpAny_bind (own_free hz hf fun b hq f1' hzq hsq => ?_)
  replace hsq : Heap.SameBut z hp hq := hsq
  have hTIq : IsTupOf2 hq TI (.ref i1) (.ref i2) := hsq.extBut _ _ S.TIz hTI
  have hTOq : IsTupOf2 hq TO a1 a2 := hsq.extBut _ _ S.TOz hTO
  have st1q := D1.over st1 hsq S.zf1
  have st2q := D2.over st2 hsq S.zf2
  cases b with
  | false =>
    simp only [Bool.false_eq_true, if_false]
    refine wpAny_bind ?_
    simp only [← Array.forIn_toList, List.forIn_cons, List.forIn_nil]
    refine wpAny_bind (wpAny_bind (wpAny_holding ?_))
    show wpAny _ _ (Builtin.SmallTypes.nextOf (.ref i1) >>= _) _ _ ⟨hq, g, d, tk0, os⟩
    refine wpAny_bind (D1.item i _ _ _ hlt st1q fun x1 p1 tk1 hx1 sn1 hp1 => wpAny_pure (wpAny_pure ?_))
    replace hp1 : Heap.SameBut i1 hq p1 := hp1
    refine wpAny_bind (wpAny_bind (wpAny_holding ?_))
    show wpAny _ _ (Builtin.SmallTypes.nextOf (.ref i2) >>= _) _ _ ⟨p1, g, d, tk1, os⟩
    refine wpAny_bind (D2.item i _ _ _ hlt (D2.over st2q hp1 S.sep1_2) fun x2 p2 tk2 hx2 sn2 hp2 => wpAny_pure (wpAny_pure (wpAny_pure ?_)))
    replace hp2 : Heap.SameBut i2 p1 p2 := hp2
    show wpAny _ _ (newTuple [x1, x2] >>= _) _ _ ⟨p2, g, d, tk2, os⟩
    refine wpAny_bind (wpAny_newTuple (wpAny_pure ⟨_, rfl, ?_⟩))
    have hsz : p2.objs.size = hp.objs.size := by rw [hp2.1, hp1.1, hsq.1]
    have hT : IsTupOf2 (p2.push { cls := .type "tuple", data := .seq #[x1, x2] }) hp.objs.size x1 x2 := by
      rw [← hsz]
      exact Heap.get?_push_size _ rfl
    have up : ∀ c o, p2.get? c = some o → (p2.push { cls := .type "tuple", data := .seq #[x1, x2] }).get? c = some o := fun c o e => Heap.get?_push_of_some _ e
    show Q (.ref p2.objs.size) ⟨p2.push { cls := .type "tuple", data := .seq #[x1, x2] }, g, d, tk2, os⟩
    rw [hsz]
    exact hQ x1 x2 _ tk2 _ _ _ _ hx1 hx2 (up _ _ (hp2.extBut _ _ S.zi2 (hp1.extBut _ _ S.zi1 hzq))) hf (up _ _ (hp2.extBut _ _ S.Ti2 (hp1.extBut _ _ S.Ti1 hTOq)))
      (D1.frame _ _ _ (D1.over sn1 hp2 S.sep2_1) fun b hb o e => up b o e) (D2.frame _ _ _ sn2 fun b hb o e => up b o e) hT (by rw [Heap.size_push, hsz])
      fun c o cz cT c1 c2 e => up c o (hp2.extBut _ _ c2 (hp1.extBut _ _ c1 (hsq.extBut _ _ cz e)))
  | true =>
    simp only [if_true]
    refine wpAny_bind (wpAny_rule ?_)
    refine wpAny_bind (wpAny_field (s := ⟨hq, g, d, tk0, os⟩) hzq rfl (x := .ref TO) rfl ?_)
    refine wpAny_bind (wpAny_setField_rec (s := ⟨hq, g, d, tk0, os⟩) hzq (by simp) fun g0 hz0 hs0 => ?_)
    replace hz0 : IsZipR g0 z TI TO .ellipsis f1' := hz0
    replace hs0 : Heap.SameBut z hq g0 := hs0
    refine wpAny_bind ?_
    simp only [List.zipIdx_cons, List.zipIdx_nil, List.forIn_cons, List.forIn_nil]
    refine wpAny_bind (wpAny_bind (wpAny_onRaise ?_))
    show wpAny _ _ (Builtin.SmallTypes.nextOf (.ref i1) >>= _) _ _ ⟨g0, g, d, tk0, os⟩
    refine wpAny_bind (D1.item i _ _ _ hlt (D1.over st1q hs0 S.zf1) fun x1 p1 tk1 hx1 sn1 hp1 => wpAny_pure ?_)
    replace hp1 : Heap.SameBut i1 g0 p1 := hp1
    have hU1 : IsTupOf2 p1 TO a1 a2 := hp1.extBut _ _ S.Ti1 (hs0.extBut _ _ S.TOz hTOq)
    refine wpAny_bind (wpAny_seqItems (s := ⟨p1, g, d, tk1, os⟩) hU1 rfl ?_)
    refine wpAny_bind (upd_tup2 (s := ⟨p1, g, d, tk1, os⟩) hU1 fun g1 hT1 hs1 => ?_)
    replace hT1 : IsTupOf2 g1 TO x1 a2 := hT1
    replace hs1 : Heap.SameBut TO p1 g1 := hs1
    refine wpAny_bind (wpAny_letGo (wpAny_pure ?_))
    refine wpAny_bind (wpAny_bind (wpAny_onRaise ?_))
    show wpAny _ _ (Builtin.SmallTypes.nextOf (.ref i2) >>= _) _ _ ⟨g1, g, d, tk1, os⟩
    refine wpAny_bind (D2.item i _ _ _ hlt (D2.over (D2.over (D2.over st2q hs0 S.zf2) hp1 S.sep1_2) hs1 S.Tf2) fun x2 p2 tk2 hx2 sn2 hp2 => wpAny_pure ?_)
    replace hp2 : Heap.SameBut i2 g1 p2 := hp2
    have hU2 : IsTupOf2 p2 TO x1 a2 := hp2.extBut _ _ S.Ti2 hT1
    refine wpAny_bind (wpAny_seqItems (s := ⟨p2, g, d, tk2, os⟩) hU2 rfl ?_)
    refine wpAny_bind (upd_tup2 (s := ⟨p2, g, d, tk2, os⟩) hU2 fun g2 hT2 hs2 => ?_)
    replace hT2 : IsTupOf2 g2 TO x1 x2 := hT2
    replace hs2 : Heap.SameBut TO p2 g2 := hs2
    refine wpAny_bind (wpAny_letGo (wpAny_pure (wpAny_pure ?_)))
    refine wpAny_bind (wpAny_seqItems (s := ⟨g2, g, d, tk2, os⟩) hT2 rfl ?_)
    refine wpAny_bind (wpAny_newTuple ?_)
    have hsz : g2.objs.size = hp.objs.size := by rw [hs2.1, hp2.1, hs1.1, hp1.1, hs0.1, hsq.1]
    have hzz : IsZipR g2 z TI TO .ellipsis f1' := (hs2.extBut _ _ S.TOz.symm (hp2.extBut _ _ S.zi2 (hs1.extBut _ _ S.TOz.symm (hp1.extBut _ _ S.zi1 hz0))))
    have hkk : ∀ c o, c ≠ z → c ≠ TO → c ≠ i1 → c ≠ i2 → hp.get? c = some o → g2.get? c = some o := fun c o cz cT c1 c2 e =>
      (hs2.extBut _ _ cT (hp2.extBut _ _ c2 (hs1.extBut _ _ cT (hp1.extBut _ _ c1 (hs0.extBut _ _ cz (hsq.extBut _ _ cz e))))))
    have hj1 : St1 (i + 1) g2 := (D1.over (D1.over (D1.over sn1 hs1 S.Tf1) hp2 S.sep2_1) hs2 S.Tf1)
    have hj2 : St2 (i + 1) g2 := (D2.over sn2 hs2 S.Tf2)
    have hzlt : z < g2.objs.size := Heap.lt_size hzz
    show wpAny _ _ (Builtin.SmallTypes.ownedTupleHandOut (.ref z) (.ref g2.objs.size) >>= _) _ _ ⟨g2.push { cls := .type "tuple", data := .seq #[x1, x2] }, g, d, tk2, os⟩
    refine wpAny_bind ?_
    unfold Builtin.SmallTypes.ownedTupleHandOut
    have hz6 : IsZipR (g2.push { cls := .type "tuple", data := .seq #[x1, x2] }) z TI TO .ellipsis f1' := Heap.get?_push_of_some _ hzz
    refine wpAny_bind (wpAny_setField_rec hz6 (by simp) fun h7 hz7 hs7 => ?_)
    replace hz7 : IsZipR h7 z TI TO (rawInt g2.objs.size) f1' := hz7
    refine wpAny_setField_rec hz7 (by simp) fun h8 hz8 hs8 => ?_
    replace hz8 : IsZipR h8 z TI TO (rawInt g2.objs.size) false := hz8
    replace hs7 : Heap.SameBut z (g2.push { cls := .type "tuple", data := .seq #[x1, x2] }) h7 := hs7
    replace hs8 : Heap.SameBut z h7 h8 := hs8
    have up : ∀ c o, c ≠ z → g2.get? c = some o → h8.get? c = some o := fun c o c1 e => hs8.extBut _ _ c1 (hs7.extBut _ _ c1 (Heap.get?_push_of_some _ e))
    have hT8 : IsTupOf2 h8 g2.objs.size x1 x2 := hs8.extBut _ _ (Nat.ne_of_gt hzlt) (hs7.extBut _ _ (Nat.ne_of_gt hzlt) (Heap.get?_push_size _ rfl))
    have hz9 : h8.objs.size = g2.objs.size + 1 := by rw [hs8.1, hs7.1, Heap.size_push]
    rw [hsz] at hz8 hT8 hz9
    refine wpAny_pure ⟨_, rfl, ?_⟩
    show Q (.ref g2.objs.size) ⟨h8, g, d, tk2, os⟩
    rw [hsz]
    exact hQ x1 x2 h8 tk2 _ _ _ _ hx1 hx2 hz8 (.inr ⟨_, rfl⟩) (up _ _ S.TOz hT2) (D1.frame _ _ _ hj1 fun b hb o e => up b o (fun q => S.zf1 (q ▸ hb)) e) (D2.frame _ _ _ hj2 fun b hb o e => up b o (fun q => S.zf2 (q ▸ hb)) e) hT8 hz9 fun c o cz cT c1 c2 e => up c o cz (hkk c o cz cT c1 c2 e)
/-- its end -/
theorem zip_end_any {Q : Fin → Shared → Prop} (S : ZipSep2 z TI TO i1 i2 fp1 fp2) (D1 : Draws prog w A i1 fp1 n P1 St1)
    (hz : IsZipR s.heap z TI TO f0 f1) (hf : RawOr f0) (hTI : IsTupOf2 s.heap TI (.ref i1) (.ref i2)) (st1 : St1 n s.heap)
    (hE : ∀ h' e, (∀ c o, c ≠ z → c ≠ i1 → s.heap.get? c = some o → h'.get? c = some o) → (∃ o, h'.get? e = some o ∧ o.cls = .type "StopIteration") → E (.ref e) { s with heap := h' }) :
    wpAny (model prog w) A (Builtin.«zip.__next__» ⟨[.ref z], []⟩) Q E s := by
  obtain ⟨hp, g, d, tk0, os⟩ := s
  show wpAny _ _ (field (.ref z) 2 >>= _) _ _ _
  refine wpAny_bind (wpAny_field hz rfl (x := .bool false) rfl ?_)
  show wpAny _ _ (field (.ref z) 3 >>= _) _ _ _
  refine wpAny_bind (wpAny_field hz rfl (x := .ref TI) rfl ?_)
  refine wpAny_bind (wpAny_seqItems hTI rfl ?_)
  show wpAny _ _ (Builtin.SmallTypes.ownedTupleIsFree (.ref z) >>= _) _ _ _
  refine wpAny_bind (own_free hz hf fun b hq f1' hzq hsq => ?_)
  replace hsq : Heap.SameBut z hp hq := hsq
  have st1q := D1.over st1 hsq S.zf1
  cases b with
  | false =>
    simp only [Bool.false_eq_true, if_false]
    refine wpAny_bind ?_
    simp only [← Array.forIn_toList, List.forIn_cons, List.forIn_nil]
    refine wpAny_bind (wpAny_bind (wpAny_holding ?_))
    show wpAny _ _ (Builtin.SmallTypes.nextOf (.ref i1) >>= _) _ _ ⟨hq, g, d, tk0, os⟩
    refine wpAny_bind (D1.done _ _ _ st1q fun h' e he ho => ?_)
    exact hE h' e (fun c o cz c1 hc => he c o c1 (hsq.extBut _ _ cz hc)) ho
  | true =>
    simp only [if_true]
    refine wpAny_bind (wpAny_rule ?_)
    refine wpAny_bind (wpAny_field (s := ⟨hq, g, d, tk0, os⟩) hzq rfl (x := .ref TO) rfl ?_)
    refine wpAny_bind (wpAny_setField_rec (s := ⟨hq, g, d, tk0, os⟩) hzq (by simp) fun g0 hz0 hs0 => ?_)
    replace hz0 : IsZipR g0 z TI TO .ellipsis f1' := hz0
    replace hs0 : Heap.SameBut z hq g0 := hs0
    refine wpAny_bind ?_
    simp only [List.zipIdx_cons, List.zipIdx_nil, List.forIn_cons, List.forIn_nil]
    refine wpAny_bind (wpAny_bind (wpAny_onRaise ?_))
    show wpAny _ _ (Builtin.SmallTypes.nextOf (.ref i1) >>= _) _ _ ⟨g0, g, d, tk0, os⟩
    refine wpAny_bind (D1.done _ _ _ (D1.over st1q hs0 S.zf1) fun h' e he ho => ?_)
    replace he : Heap.ExtBut i1 g0 h' := he
    refine wpAny_setField_rec (s := ⟨h', g, d, tk0, os⟩) (he z _ S.zi1 hz0) (by simp) fun h2 hz2 hs2 => ?_
    replace hs2 : Heap.SameBut z h' h2 := hs2
    obtain ⟨oe, ho1, ho2⟩ := ho
    refine hE h2 e (fun c o cz c1 hc => hs2.extBut _ _ cz (he c o c1 (hs0.extBut _ _ cz (hsq.extBut _ _ cz hc)))) ⟨oe, hs2.extBut _ _ (fun q => ?_) ho1, ho2⟩
    have e1 := he z _ S.zi1 hz0
    rw [← q, ho1] at e1
    have e2 := Option.some.inj e1
    rw [e2] at ho2
    simp at ho2
/-- what the zip's own cells say ahead of turn i -/
structure ZipSt (z TI TO i1 i2 : Addr) (St1 St2 : Nat → Heap → Prop) (i : Nat) (h : Heap) : Prop where
  zip : ∃ f0 f1, IsZipR h z TI TO f0 f1 ∧ RawOr f0
  ti : IsTupOf2 h TI (.ref i1) (.ref i2)
  to_ : ∃ a b, IsTupOf2 h TO a b
  s1 : St1 i h
  s2 : St2 i h
theorem nextOf_zip {Q : Value → Shared → Prop} (S : ZipSep2 z TI TO i1 i2 fp1 fp2) (D1 : Draws prog w A.in1 i1 fp1 n P1 St1) (D2 : Draws prog w A.in1 i2 fp2 n P2 St2) (Z : ZipSt z TI TO i1 i2 St1 St2 i s.heap) (hlt : i < n)
    (hQ : ∀ x1 x2 h' tk, P1 i x1 → P2 i x2 → ZipSt z TI TO i1 i2 St1 St2 (i + 1) h' → IsTupOf2 h' s.heap.objs.size x1 x2 → h'.objs.size = s.heap.objs.size + 1 →
      (∀ c o, c ≠ z → c ≠ TO → c ≠ i1 → c ≠ i2 → s.heap.get? c = some o → h'.get? c = some o) → Q (.ref s.heap.objs.size) { s with heap := h', toks := tk }) :
    wpAny (model prog w) A (Builtin.SmallTypes.nextOf (.ref z)) Q E s := by
  obtain ⟨⟨f0, f1, hz, hf⟩, hTI, ⟨a1, a2, hTO⟩, st1, st2⟩ := Z
  have hT : s.TypeIs (.ref z) "zip" := ⟨_, hz, rfl⟩
  unfold Builtin.SmallTypes.nextOf
  refine wpAny_bind (wpAny_callSpecial?_slot (name := Str.ofString "__next__") hT F.slot_zip_next (wpAny_call_entry F.slot_zip_next hT F.entry_zip_next
    (zip_next_any S D1 D2 hz hf hTI hTO st1 st2 hlt fun x1 x2 h' tk g0 g1 b1 b2 y1 y2 c1 c2 c3 c4 c5 c6 c7 c8 => ?_) (F.args_zip_next_1 _)))
  have l1 : TI ≠ z := S.TIz
  have hTI' : IsTupOf2 h' TI (.ref i1) (.ref i2) := c8 TI _ S.TIz S.TITO S.TIi1 S.TIi2 hTI
  exact wpAny_pure (hQ x1 x2 h' tk y1 y2 ⟨⟨g0, g1, c1, c2⟩, hTI', ⟨b1, b2, c3⟩, c4, c5⟩ c6 c7 c8)
theorem nextOf_zip_end {Q : Value → Shared → Prop} (S : ZipSep2 z TI TO i1 i2 fp1 fp2) (D1 : Draws prog w A.in1 i1 fp1 n P1 St1) (Z : ZipSt z TI TO i1 i2 St1 St2 n s.heap)
    (hE : ∀ h' e, (∀ c o, c ≠ z → c ≠ i1 → s.heap.get? c = some o → h'.get? c = some o) → (∃ o, h'.get? e = some o ∧ o.cls = .type "StopIteration") → E (.ref e) { s with heap := h' }) :
    wpAny (model prog w) A (Builtin.SmallTypes.nextOf (.ref z)) Q E s := by
  obtain ⟨⟨f0, f1, hz, hf⟩, hTI, ⟨a1, a2, hTO⟩, st1, st2⟩ := Z
  have hT : s.TypeIs (.ref z) "zip" := ⟨_, hz, rfl⟩
  unfold Builtin.SmallTypes.nextOf
  exact wpAny_bind (wpAny_callSpecial?_slot (name := Str.ofString "__next__") hT F.slot_zip_next (wpAny_call_entry F.slot_zip_next hT F.entry_zip_next (zip_end_any S D1 hz hf hTI st1 hE) (F.args_zip_next_1 _)))
theorem ZipSt.frame {h h' : Heap} (D1 : Draws prog w A i1 fp1 n P1 St1) (D2 : Draws prog w A i2 fp2 n P2 St2) (Z : ZipSt z TI TO i1 i2 St1 St2 i h) (k : ∀ b ∈ z :: TI :: TO :: (fp1 ++ fp2), ∀ o, h.get? b = some o → h'.get? b = some o) : ZipSt z TI TO i1 i2 St1 St2 i h' := by
  obtain ⟨⟨f0, f1, hz, hf⟩, hTI, ⟨a1, a2, hTO⟩, st1, st2⟩ := Z
  exact ⟨⟨f0, f1, k z (by simp) _ hz, hf⟩, k TI (by simp) _ hTI, ⟨a1, a2, k TO (by simp) _ hTO⟩, D1.frame _ _ _ st1 fun b hb o e => k b (by simp [hb]) o e, D2.frame _ _ _ st2 fun b hb o e => k b (by simp [hb]) o e⟩
/-- enumerate(zip(a, b)): the next pair of the count and a new pair -/
theorem enum_zip_next {e : Addr} {old : Value} {Q : Option Value → Shared → Prop} (S : ZipSep2 z TI TO i1 i2 fp1 fp2) (D1 : Draws prog w A.in1.in1 i1 fp1 n P1 St1) (D2 : Draws prog w A.in1.in1 i2 fp2 n P2 St2)
    (he : IsEnum s.heap e z i old) (Z : ZipSt z TI TO i1 i2 St1 St2 i s.heap) (hlt : i < n) (hef : e ∉ z :: TI :: TO :: (fp1 ++ fp2))
    (hQ : ∀ x1 x2 h' tk, P1 i x1 → P2 i x2 → IsEnumOut h' e z ((i : Int) + 1) (.ref s.heap.objs.size) (s.heap.objs.size + 1) → ZipSt z TI TO i1 i2 St1 St2 (i + 1) h' → IsTupOf2 h' s.heap.objs.size x1 x2 →
      h'.get? (s.heap.objs.size + 1) = some { cls := .type "tuple", data := .seq #[.int i tk, .ref s.heap.objs.size] } → h'.objs.size = s.heap.objs.size + 2 →
      (∀ c o, c ≠ e → c ≠ z → c ≠ TO → c ≠ i1 → c ≠ i2 → s.heap.get? c = some o → h'.get? c = some o) → Q (some (.ref (s.heap.objs.size + 1))) { s with heap := h', toks := tk + 1 }) :
    wpAny (model prog w) A (pyNext (.ref e)) Q E s := by
  have hT : s.TypeIs (.ref e) "enumerate" := ⟨_, he, rfl⟩
  unfold pyNext
  refine wpAny_bind (wpAny_attempt (wpAny_callSpecial?_slot (name := Str.ofString "__next__") hT F.slot_enumerate_next
    (wpAny_call_entry F.slot_enumerate_next hT F.entry_enumerate_next ?_ (F.args_enumerate_next_1 _))))
  obtain ⟨hp, g, d, tk0, os⟩ := s
  have nez : e ≠ z := fun q => hef (by simp [q])
  have neTO : e ≠ TO := fun q => hef (by simp [q])
  have ne1 : e ≠ i1 := fun q => hef (by rw [q]; simp [S.mem1])
  have ne2 : e ≠ i2 := fun q => hef (by rw [q]; simp [S.mem2])
  have hel : e < hp.objs.size := Heap.lt_size he
  show wpAny _ _ (field (.ref e) 2 >>= _) _ _ _
  refine wpAny_bind (wpAny_field he rfl (x := .ref z) rfl ?_)
  refine wpAny_bind (nextOf_zip S D1 D2 Z hlt fun x1 x2 h1 tk q1 q2 Z1 hT1 hz1 hk1 => ?_)
  replace hk1 : ∀ c o, c ≠ z → c ≠ TO → c ≠ i1 → c ≠ i2 → hp.get? c = some o → h1.get? c = some o := hk1
  replace hT1 : IsTupOf2 h1 hp.objs.size x1 x2 := hT1
  replace hz1 : h1.objs.size = hp.objs.size + 1 := hz1
  have he1 : IsEnum h1 e z i old := hk1 e _ nez neTO ne1 ne2 he
  show wpAny _ _ (field (.ref e) 3 >>= _) _ _ ⟨h1, g, d, tk, os⟩
  refine wpAny_bind (wpAny_field he1 rfl (x := rawInt i) rfl ?_)
  show wpAny _ _ (field (.ref e) 4 >>= _) _ _ ⟨h1, g, d, tk, os⟩
  refine wpAny_bind (wpAny_field he1 rfl (x := .none) rfl ?_)
  show wpAny _ _ (mkInt i >>= _) _ _ ⟨h1, g, d, tk, os⟩
  refine wpAny_bind (wpAny_mkInt ?_)
  show wpAny _ _ (setField (.ref e) 3 (rawInt ((i : Int) + 1)) >>= _) _ _ ⟨h1, g, d, tk + 1, os⟩
  refine wpAny_bind (wpAny_setField_rec he1 (by simp) fun h2 he2 hs2 => ?_)
  replace hs2 : Heap.SameBut e h1 h2 := hs2
  replace he2 : IsEnum h2 e z ((i : Int) + 1) old := he2
  show wpAny _ _ (setField (.ref e) 4 .none >>= _) _ _ ⟨h2, g, d, tk + 1, os⟩
  refine wpAny_bind (wpAny_setField_rec he2 (by simp) fun h3 he3 hs3 => ?_)
  replace hs3 : Heap.SameBut e h2 h3 := hs3
  replace he3 : IsEnum h3 e z ((i : Int) + 1) old := he3
  show wpAny _ _ (newTuple [.int i tk, .ref hp.objs.size] >>= _) _ _ ⟨h3, g, d, tk + 1, os⟩
  refine wpAny_bind (wpAny_newTuple ?_)
  have hsz : h3.objs.size = hp.objs.size + 1 := by rw [hs3.1, hs2.1, hz1]
  have he4 : IsEnum (h3.push { cls := .type "tuple", data := .seq #[.int i tk, .ref hp.objs.size] }) e z ((i : Int) + 1) old := Heap.get?_push_of_some _ he3
  generalize hh4 : h3.push { cls := .type "tuple", data := .seq #[.int i tk, .ref hp.objs.size] } = h4 at he4
  have ht4 : h4.get? (hp.objs.size + 1) = some { cls := .type "tuple", data := .seq #[.int i tk, .ref hp.objs.size] } := by rw [← hh4, ← hsz]; exact Heap.get?_push_size _ rfl
  have hz4 : h4.objs.size = hp.objs.size + 2 := by rw [← hh4, Heap.size_push, hsz]
  have hk4 : ∀ b o, b ≠ e → h1.get? b = some o → h4.get? b = some o := fun b o hbe hb => by
    rw [← hh4]
    exact Heap.get?_push_of_some _ (hs3.extBut b o hbe (hs2.extBut b o hbe hb))
  show wpAny _ _ (Builtin.SmallTypes.ownedTupleIsFree (.ref e) >>= _) _ _ ⟨h4, g, d, tk + 1, os⟩
  rw [hsz]
  refine wpAny_bind ?_
  unfold Builtin.SmallTypes.ownedTupleIsFree
  refine wpAny_bind (wpAny_field he4 rfl (x := .none) rfl (wpAny_pure ?_))
  simp only [if_true]
  refine wpAny_bind (wpAny_rule ?_)
  refine wpAny_bind (wpAny_field he4 rfl (x := old) rfl ?_)
  refine wpAny_bind (wpAny_setField_rec he4 (by simp) fun h5 he5 hs5 => ?_)
  replace hs5 : Heap.SameBut e h4 h5 := hs5
  replace he5 : IsEnum h5 e z ((i : Int) + 1) (.ref hp.objs.size) := he5
  show wpAny _ _ (Builtin.SmallTypes.ownedTupleHandOut (.ref e) (.ref (hp.objs.size + 1)) >>= _) _ _ ⟨h5, g, d, tk + 1, os⟩
  refine wpAny_bind ?_
  unfold Builtin.SmallTypes.ownedTupleHandOut
  refine wpAny_bind (wpAny_setField_rec he5 (by simp) fun h6 he6 hs6 => ?_)
  replace hs6 : Heap.SameBut e h5 h6 := hs6
  replace he6 : IsEnumOut h6 e z ((i : Int) + 1) (.ref hp.objs.size) (hp.objs.size + 1) := he6
  refine wpAny_setField_rec he6 (by simp) fun h7 he7 hs7 => ?_
  replace hs7 : Heap.SameBut e h6 h7 := hs7
  replace he7 : IsEnumOut h7 e z ((i : Int) + 1) (.ref hp.objs.size) (hp.objs.size + 1) := he7
  have up : ∀ b o, b ≠ e → h4.get? b = some o → h7.get? b = some o := fun b o hb x => hs7.extBut b o hb (hs6.extBut b o hb (hs5.extBut b o hb x))
  have n1 : hp.objs.size ≠ e := Nat.ne_of_gt hel
  have n2 : hp.objs.size + 1 ≠ e := Nat.ne_of_gt (Nat.lt_succ_of_lt hel)
  refine wpAny_bind (wpAny_letGo (wpAny_pure ⟨_, rfl, wpAny_pure (hQ x1 x2 h7 tk q1 q2 he7 ?_ (up _ _ n1 (hk4 _ _ n1 hT1)) (up _ _ n2 ht4) ?_ ?_)⟩))
  · exact Z1.frame D1 D2 fun b hb o x => up b o (fun q => hef (q ▸ hb)) (hk4 b o (fun q => hef (q ▸ hb)) x)
  · rw [hs7.1, hs6.1, hs5.1, hz4]
  · exact fun c o ce cz cT c1 c2 x => up c o ce (hk4 c o ce (hk1 c o cz cT c1 c2 x))
theorem enum_zip_end {e : Addr} {old : Value} {Q : Option Value → Shared → Prop} {j : Int} (S : ZipSep2 z TI TO i1 i2 fp1 fp2) (D1 : Draws prog w A.in1.in1 i1 fp1 n P1 St1)
    (he : IsEnum s.heap e z j old) (Z : ZipSt z TI TO i1 i2 St1 St2 n s.heap)
    (hQ : ∀ h', (∀ c o, c ≠ z → c ≠ i1 → s.heap.get? c = some o → h'.get? c = some o) → Q none { s with heap := h' }) : wpAny (model prog w) A (pyNext (.ref e)) Q E s := by
  have hT : s.TypeIs (.ref e) "enumerate" := ⟨_, he, rfl⟩
  unfold pyNext
  refine wpAny_bind (wpAny_attempt (wpAny_callSpecial?_slot (name := Str.ofString "__next__") hT F.slot_enumerate_next
    (wpAny_call_entry F.slot_enumerate_next hT F.entry_enumerate_next ?_ (F.args_enumerate_next_1 _))))
  show wpAny _ _ (field (.ref e) 2 >>= _) _ _ _
  refine wpAny_bind (wpAny_field he rfl (x := .ref z) rfl ?_)
  refine wpAny_bind (nextOf_zip_end S D1 Z fun h' x hk hx => ?_)
  obtain ⟨o, ho, hc⟩ := hx
  refine wpAny_bind (wpAny_isInstance (T := "StopIteration") (b := true) ⟨o, ho, hc⟩ isSubtype_stop ?_)
  exact wpAny_pure (hQ _ hk)
theorem meets_enum_zip (z TI TO : Addr) (f0 : Value) :
    Meets (Builtin.«enumerate.__new__» ⟨[.type "enumerate", .ref z], []⟩) (fun _ R s => IsZip s.heap z TI TO f0 ∧
      R (.ok (.ret (.ref s.heap.objs.size))) { s with heap := s.heap.push { cls := .type "enumerate", data := .fields #[.none, .bool false, .ref z, rawInt 0, .none, .none] } }) :=
  .of_wp fun prog w A R s h => by
    obtain ⟨hp, g, d, tk, os⟩ := s; obtain ⟨h1, h⟩ := h
    have hsub := sub_enumerate
    have q1 : ∀ {A' : Around} {E : Value → Shared → Prop} {Q : Value → Shared → Prop}, Q (.ref z) ⟨hp, g, d, tk, os⟩ → wpAny (model prog w) A' (pyIter (.ref z)) Q E ⟨hp, g, d, tk, os⟩ :=
      fun q => wpAny_pyIter_zip (s := ⟨hp, g, d, tk, os⟩) h1 q
    wp_walk using q1
    refine wpAny_stack_any fun st => wpAny_pure ?_
    split
    · rename_i c _ _ _ _ _
      cases (c == Value.type "enumerate")
      · wp_walk using q1
        exact ⟨_, rfl, h⟩
      · wp_walk using q1
        exact ⟨_, rfl, h⟩
    · wp_walk using q1
      exact ⟨_, rfl, h⟩
theorem call_enum_zip {Q : Value → Shared → Prop} (hz : IsZip s.heap z TI TO f0)
    (h : ∀ h', IsEnum h' s.heap.objs.size z 0 .none → h'.objs.size = s.heap.objs.size + 1 → (∀ b o, s.heap.get? b = some o → h'.get? b = some o) → Q (.ref s.heap.objs.size) { s with heap := h' }) :
    wpAny (model prog w) A (call (.type "enumerate") [.ref z]) Q E s := by
  refine callType_new F.called_enumerate (by decide) (F.typeCall_enumerate_1 _) (F.newCall_enumerate_1 _) (fun obj => F.args_object_init_2 obj _) F.entry_enumerate_new (meets_enum_zip z TI TO f0) ⟨hz, ?_⟩
  have he : IsEnum (s.heap.push { cls := .type "enumerate", data := .fields #[.none, .bool false, .ref z, rawInt 0, .none, .none] }) s.heap.objs.size z 0 .none := Heap.get?_push_size _ rfl
  exact ⟨⟨_, he, rfl⟩, h _ he (by rw [Heap.size_push]) fun b o x => Heap.get?_push_of_some _ x⟩
end
end OP
namespace OP
open PySem PySem.Spec PyProof.Rows L2
/-- cells of our own have turned, two new objects are laid and tracked -/
theorem turned2 {X : Cx} {pins : List (Addr × Obj)} {σ : L2.St} {H : Hp} {s : Shared} {h' : Heap} {t' : Nat} {ch : List Addr} {T U : Addr} {o1 o2 : HO} (I : Inv X pins σ H s) (k : ∀ b o, b ∉ ch → s.heap.get? b = some o → h'.get? b = some o) (hf : ∀ b ∈ ch, FpOk X pins H b)
    (hT : s.heap.objs.size ≤ T) (hU : s.heap.objs.size ≤ U) (ne : U ≠ T) (n1 : ObjOk X.prog X.w (upd (upd H T o1) U o2) h' T o1) (n2 : ObjOk X.prog X.w (upd (upd H T o1) U o2) h' U o2) :
    Inv X pins σ (upd (upd H T o1) U o2) { s with heap := h', toks := t' } := by
  have hnT : H T = none := I.hok.fresh hT
  have hnU : H U = none := I.hok.fresh hU
  have nit : ∀ b u, H b = some u → b ∉ ch := fun b u e z => by
    have q := (hf b z).1
    rw [q] at e
    cases e
  have same : ∀ b u, H b = some u → upd (upd H T o1) U o2 b = some u := fun b u e => by
    rw [upd_ne (ne_of_none e hnU), upd_ne (ne_of_none e hnT)]
    exact e
  refine I.step (g' := s.gens) (d' := s.drawn) (ch := ch) (fun b hb => ⟨(hf b hb).2.2.2.1, (hf b hb).2.1, (hf b hb).2.2.2.2.1, (hf b hb).2.2.2.2.2⟩) (fun b o _ _ hc e _ => k b o hc e) (fun b o _ _ hc e _ => ⟨o.slots, k b o hc e⟩)
    (fun b o _ e n => ?_) (fun b o hc e => ⟨o, k b o hc e⟩) (fun b xs e => same b _ e) (fun b o u e => same b _ e) (fun b ps e => ⟨#[], by rw [same b _ e]; simp⟩) (fun m hm => ?_) (fun b u e => ?_) I.bare
  · have hl := Heap.lt_size e
    rw [upd_ne (Nat.ne_of_lt (Nat.lt_of_lt_of_le hl hU)), upd_ne (Nat.ne_of_lt (Nat.lt_of_lt_of_le hl hT))]
    exact n
  · obtain ⟨o, es, ep, ho, r⟩ := hm
    exact ⟨o, es, ep, k _ o (fun z => (hf _ z).2.1 rfl) ho, r⟩
  · by_cases hbU : b = U
    · subst hbU
      rw [upd_same] at e
      cases e
      exact n2
    · rw [upd_ne hbU] at e
      by_cases hbT : b = T
      · subst hbT
        rw [upd_same] at e
        cases e
        exact n1
      · rw [upd_ne hbT] at e
        refine (I.hok b u e).stay (fun c v hc q => k c v ?_ q) (fun c q => same c _ q) fun c xs q => same c _ q
        rcases hc with z | z
        · rw [z]
          exact nit b u e
        · exact nit c _ z
/-- enumerate(zip(x, y)) of two texts of one length: the i-th turn gives a new pair of i and a new pair of the signs -/
def Itez (x y : Str) : It :=
  ⟨fun i _ => i < x.cps.size,
    fun i H v H' => ∃ T U c d, v = .ref U ∧ H T = none ∧ H U = none ∧ U ≠ T ∧ H' = upd (upd H T (.tup [.str ⟨#[c]⟩, .str ⟨#[d]⟩])) U (.tup [.int (i : Nat), .ref T]) ∧ x.cps[i]? = some c ∧ y.cps[i]? = some d,
    fun i _ => i = x.cps.size⟩
theorem turn_ez {P : Program} {w : World} {K : PySem.W.Frag} {elts : List Expr} {kk : Nat} {tpos : Pos} {x y : Str} {t u : Tok} {e z TI TO i1 i2 : Addr} (hxy : x.cps.size = y.cps.size) (S : ZipSep2 z TI TO i1 i2 [i1] [i2]) (hef : e ∉ [z, TI, TO, i1, i2]) :
    Turn P w K (.Tuple elts kk tpos) (Itez x y) [e, z, TI, TO, i1, i2] e
      (fun i h => (∃ old, IsEnum h e z i old) ∧ ZipSt z TI TO i1 i2 (fun i h => h.IsStrIter i1 (strIterType x) x t i) (fun i h => h.IsStrIter i2 (strIterType y) y u i) i h) where
  mem := by simp
  obj := fun i h st c hc => by
    obtain ⟨⟨old, he⟩, ⟨f0, f1, hz, _⟩, hTI, ⟨a, b, hTO⟩, ⟨o1, e1, _, d1⟩, ⟨o2, e2, _, d2⟩⟩ := st
    have e' : c = e ∨ c = z ∨ c = TI ∨ c = TO ∨ c = i1 ∨ c = i2 := by simpa using hc
    rcases e' with q | q | q | q | q | q
    · rw [q]; exact ⟨_, he, fun v q => nomatch q⟩
    · rw [q]; exact ⟨_, hz, fun v q => nomatch q⟩
    · rw [q]; exact ⟨_, hTI, fun v q => nomatch q⟩
    · rw [q]; exact ⟨_, hTO, fun v q => nomatch q⟩
    · rw [q]; exact ⟨o1, e1, fun v q => by rw [d1] at q; cases q⟩
    · rw [q]; exact ⟨o2, e2, fun v q => by rw [d2] at q; cases q⟩
  keep := fun i h h' st k => by
    obtain ⟨⟨old, he⟩, ⟨f0, f1, hz, hf⟩, hTI, ⟨a, b, hTO⟩, h1, h2⟩ := st
    exact ⟨⟨old, k e (by simp) _ he⟩, ⟨f0, f1, k z (by simp) _ hz, hf⟩, k TI (by simp) _ hTI, ⟨a, b, k TO (by simp) _ hTO⟩, let ⟨o1, e1, r1⟩ := h1; ⟨o1, k i1 (by simp) _ e1, r1⟩, let ⟨o2, e2, r2⟩ := h2; ⟨o2, k i2 (by simp) _ e2, r2⟩⟩
  item := by
    intro X hP hw hK hc i pins s σ H E I hf st hg
    subst hP hw hK
    obtain ⟨⟨old, he⟩, Z⟩ := st
    have hh : X.A.in1.in1.handled = none := I.ok.hd hc
    have D1 : Draws X.prog X.w X.A.in1.in1 i1 [i1] x.cps.size _ _ := Draws.text hh i1 x t
    have D2 : Draws X.prog X.w X.A.in1.in1 i2 [i2] y.cps.size _ _ := Draws.text hh i2 y u
    rw [← hxy] at D2
    have hel : e < s.heap.objs.size := Heap.lt_size he
    have hlts : ∀ c ∈ [e, z, TI, TO, i1, i2], c < s.heap.objs.size := fun c hcm => by
      obtain ⟨⟨f0, f1, hz, _⟩, hTI, ⟨a, b, hTO⟩, ⟨o1, e1, _⟩, ⟨o2, e2, _⟩⟩ := Z
      have e' : c = e ∨ c = z ∨ c = TI ∨ c = TO ∨ c = i1 ∨ c = i2 := by simpa using hcm
      rcases e' with q | q | q | q | q | q
      · rw [q]; exact hel
      · rw [q]; exact Heap.lt_size hz
      · rw [q]; exact Heap.lt_size hTI
      · rw [q]; exact Heap.lt_size hTO
      · rw [q]; exact Heap.lt_size e1
      · rw [q]; exact Heap.lt_size e2
    refine enum_zip_next S D1 D2 he Z hg hef fun x1 x2 h' tk q1 q2 he' Z' hT hU hsz hk => ?_
    obtain ⟨c, t1, hc1, rfl⟩ := q1
    obtain ⟨d, t2, hd1, rfl⟩ := q2
    refine ⟨_, rfl, wpAny_letOwnedTupleGo_enum (s := { s with heap := h', toks := tk + 1 }) he' fun h'' he'' sb => ?_⟩
    replace sb : Heap.SameBut e h' h'' := sb
    have n1 : s.heap.objs.size ≠ e := Nat.ne_of_gt hel
    have n2 : s.heap.objs.size + 1 ≠ e := Nat.ne_of_gt (Nat.lt_succ_of_lt hel)
    have hT2 : h''.get? s.heap.objs.size = some { cls := .type "tuple", data := .seq #[.str ⟨#[c]⟩ t1, .str ⟨#[d]⟩ t2] } := sb.extBut _ _ n1 hT
    have hU2 : h''.get? (s.heap.objs.size + 1) = some { cls := .type "tuple", data := .seq #[.int i tk, .ref s.heap.objs.size] } := sb.extBut _ _ n2 hU
    have hkk : ∀ b o, b ∉ [e, z, TI, TO, i1, i2] → s.heap.get? b = some o → h''.get? b = some o := fun b o hb q =>
      sb.extBut _ _ (fun r => hb (by simp [r])) (hk b o (fun r => hb (by simp [r])) (fun r => hb (by simp [r])) (fun r => hb (by simp [r])) (fun r => hb (by simp [r])) (fun r => hb (by simp [r])) q)
    have ne : s.heap.objs.size + 1 ≠ s.heap.objs.size := Nat.succ_ne_self _
    have hTT : upd (upd H s.heap.objs.size (.tup [.str ⟨#[c]⟩, .str ⟨#[d]⟩])) (s.heap.objs.size + 1) (.tup [.int (i : Nat), .ref s.heap.objs.size]) s.heap.objs.size = some (.tup [.str ⟨#[c]⟩, .str ⟨#[d]⟩]) := by
      rw [upd_ne ne.symm, upd_same]
    have I1 := turned2 (t' := tk + 1) (T := s.heap.objs.size) (U := s.heap.objs.size + 1) (o1 := .tup [.str ⟨#[c]⟩, .str ⟨#[d]⟩]) (o2 := .tup [.int (i : Nat), .ref s.heap.objs.size]) I hkk hf (Nat.le_refl _) (Nat.le_succ _) ne
      ⟨by show 2 ≤ sizeLine; decide, [.str ⟨#[c]⟩ t1, .str ⟨#[d]⟩ t2], .cons ⟨_, rfl⟩ (.cons ⟨_, rfl⟩ .nil), ⟨_, hT2, rfl, _, rfl⟩⟩
      ⟨by show 2 ≤ sizeLine; decide, [.int i tk, .ref s.heap.objs.size], .cons ⟨_, rfl⟩ (.cons rfl .nil), ⟨_, hU2, rfl, _, rfl⟩⟩
    refine ⟨.ref (s.heap.objs.size + 1), _, I1, rfl, ⟨_, _, c, d, rfl, I.hok.fresh (Nat.le_refl _), I.hok.fresh (Nat.le_succ _), ne, rfl, hc1, hd1⟩, ⟨⟨_, by simpa using he''⟩, Z'.frame D1 D2 fun b hb o q => sb.extBut _ _ (fun r => hef (by rw [← r]; simpa using hb)) q⟩, fun b hb => ?_⟩
    have hl := hlts b hb
    rw [upd_ne (Nat.ne_of_lt (Nat.lt_succ_of_lt hl)), upd_ne (Nat.ne_of_lt hl)]
    exact (hf b hb).1
  done := by
    intro X hP hw hK hc i pins s σ H E I hf st hg
    subst hP hw hK
    obtain ⟨⟨old, he⟩, Z⟩ := st
    have hh : X.A.in1.in1.handled = none := I.ok.hd hc
    have D1 : Draws X.prog X.w X.A.in1.in1 i1 [i1] x.cps.size _ _ := Draws.text hh i1 x t
    have hg' : i = x.cps.size := hg
    subst hg'
    refine enum_zip_end S D1 he Z fun h' hk => ⟨rfl, I.turnedL (t' := s.toks) (ch := [e, z, TI, TO, i1, i2]) (fun b o hb q => hk b o (fun r => hb (by simp [r])) (fun r => hb (by simp [r])) q) hf⟩
  self := fun A i s Q E st h => let ⟨⟨_, he⟩, _⟩ := st; wpAny_pyIter_enum he h
def iEz (ta : TA) : TI := fun σ H R => ta σ H fun vs H1 => ∃ x y : Str, vs = [.str x, .str y] ∧ x.cps.size = y.cps.size ∧ R (Itez x y) H1
theorem pi_ez {X : Cx} {e e2 : Expr} {ta : TA} {p pos p2 pos2 tpos : Pos} {elts : List Expr} {kk : Nat} (hg : Gl X "enumerate") (hm : X.mg "enumerate" = none) (hg2 : Gl X "zip") (hm2 : X.mg "zip" = none) (ha : PA X [e, e2] ta)
    (hs : starEach [.Call (.Name "zip" p2) [e, e2] [] pos2] X.env = [(false, eval (.Call (.Name "zip" p2) [e, e2] [] pos2) X.env)] := by rfl)
    (hs2 : starEach [e, e2] X.env = (false, eval e X.env) :: starEach [e2] X.env := by rfl) (hpl : (backTo pos2 (starEach [e2] X.env)).any (·.1) = false := by rfl) :
    PI X (.Tuple elts kk tpos) (.Call (.Name "enumerate" p) [.Call (.Name "zip" p2) [e, e2] [] pos2] [] pos) (iEz ta) := by
  refine ⟨fun pins s σ H R I h => ?_⟩
  refine Call_ (ld_blt I hg hm boot_enumerate (PyProof.Rows.callWith_type1 ?_ hs rfl))
  rw [hs]
  show wpAny _ _ (spliced [(false, eval (.Call (.Name "zip" p2) [e, e2] [] pos2) X.env)]) _ _ s
  refine Calls.spliced_cons ?_
  refine Call_ (ld_blt I hg2 hm2 PyProof.Rows.boot_zip (PyProof.Rows.callWith_type1 (thn (ha.run pos2 pins s σ H _ I h) fun us s1 ⟨vs, H1, I1, r1, q1⟩ => ?_) hs2 hpl))
  obtain ⟨x, y, rfl, hxy, q⟩ := q1
  obtain ⟨u1, u2, rfl, ⟨t, rfl⟩, ⟨u, rfl⟩⟩ := vals2 r1
  refine zip_begins2 (begins_text x t) (begins_text y u) trivial trivial fun h' hz hTI hTO h1 h2 hsz hk => ?_
  refine Calls.spliced_nil ?_
  refine call_enum_zip (s := { s1 with heap := h' }) hz fun h2' he hsz2 hk2 => wpAny_pyIter_enum he ?_
  have hsz' : h'.objs.size = s1.heap.objs.size + 5 := hsz
  have kall : ∀ b o, s1.heap.get? b = some o → h2'.get? b = some o := fun b o z => hk2 b o (hk b o z)
  have I2 : Inv X pins σ H1 { s1 with heap := h2' } := I1.kept (t' := s1.toks) kall
  have S : ZipSep2 (s1.heap.objs.size + 4) (s1.heap.objs.size + 2) (s1.heap.objs.size + 3) s1.heap.objs.size (s1.heap.objs.size + 1) [s1.heap.objs.size] [s1.heap.objs.size + 1] :=
    zip_sep2 (N := s1.heap.objs.size) (fp1 := []) (fp2 := []) (fun _ h => nomatch h) (fun _ h => nomatch h)
  have hef : h'.objs.size ∉ [s1.heap.objs.size + 4, s1.heap.objs.size + 2, s1.heap.objs.size + 3, s1.heap.objs.size, s1.heap.objs.size + 1] := by
    rw [hsz']
    generalize s1.heap.objs.size = N
    have : ∀ N : Nat, N + 5 ∉ [N + 4, N + 2, N + 3, N, N + 1] := fun N hm => by
      simp at hm
    exact this N
  refine ⟨h'.objs.size, [h'.objs.size, s1.heap.objs.size + 4, s1.heap.objs.size + 2, s1.heap.objs.size + 3, s1.heap.objs.size, s1.heap.objs.size + 1], _, _, H1, rfl, I2, turn_ez (t := t) (u := u) hxy S hef,
    ⟨⟨_, he⟩, ⟨_, _, hk2 _ _ hz, .inl rfl⟩, hk2 _ _ hTI, ⟨_, _, hk2 _ _ hTO⟩, ⟨_, hk2 _ _ h1, rfl, rfl⟩, ⟨_, hk2 _ _ h2, rfl, rfl⟩⟩, fun c hcm => ?_, q⟩
  have hle : s1.heap.objs.size ≤ c := by
    have key : ∀ N M c : Nat, M = N + 5 → c ∈ [M, N + 4, N + 2, N + 3, N, N + 1] → N ≤ c := fun N M c hM hm => by
      simp at hm
      omega
    exact key _ _ c hsz' hcm
  exact I1.fpOk hle (I1.hok.fresh hle)
end OP
namespace OP
open PySem PySem.Spec PyProof.Rows L2 Evl
structure Pr where
  on : Hp → V → Prop
  up : ∀ {H H' : Hp} {v : V}, Ex H H' → on H v → on H' v
def Al (H : Hp) : List Pr → List V → Prop
  | [], [] => True
  | p :: ps, x :: xs => p.on H x ∧ Al H ps xs
  | _, _ => False
theorem Al.up {H H' : Hp} (e : Ex H H') : ∀ {ps : List Pr} {xs : List V}, Al H ps xs → Al H' ps xs
  | [], [], _ => trivial
  | [], _ :: _, h => h.elim
  | _ :: _, [], h => h.elim
  | p :: _, _ :: _, h => ⟨p.up e h.1, Al.up e h.2⟩
theorem Al.len {H : Hp} : ∀ {ps : List Pr} {xs : List V}, Al H ps xs → xs.length = ps.length
  | [], [], _ => rfl
  | [], _ :: _, h => h.elim
  | _ :: _, [], h => h.elim
  | _ :: _, _ :: _, h => by rw [List.length_cons, List.length_cons, Al.len h.2]
theorem Al.get {H : Hp} : ∀ {ps : List Pr} {xs : List V} {i : Nat} {x : V}, Al H ps xs → xs[i]? = some x → ∃ p, ps[i]? = some p ∧ p.on H x
  | [], [], _, _, _, e => by simp at e
  | [], _ :: _, _, _, h, _ => h.elim
  | _ :: _, [], _, _, h, _ => h.elim
  | p :: _, y :: _, 0, x, h, e => by
    simp at e
    subst e
    exact ⟨p, rfl, h.1⟩
  | p :: ps, y :: ys, i + 1, x, h, e => by
    obtain ⟨q, h1, h2⟩ := Al.get (i := i) (x := x) h.2 (by simpa using e)
    exact ⟨q, by simpa using h1, h2⟩
theorem Al.got {H : Hp} : ∀ {ps : List Pr} {xs : List V} {i : Nat} {p : Pr}, Al H ps xs → ps[i]? = some p → ∃ x, xs[i]? = some x ∧ p.on H x
  | [], [], _, _, _, e => by simp at e
  | [], _ :: _, _, _, h, _ => h.elim
  | _ :: _, [], _, _, h, _ => h.elim
  | p :: _, y :: _, 0, x, h, e => by
    simp at e
    subst e
    exact ⟨y, rfl, h.1⟩
  | p :: ps, y :: ys, i + 1, x, h, e => by
    obtain ⟨q, h1, h2⟩ := Al.got (i := i) (p := x) h.2 (by simpa using e)
    exact ⟨q, by simpa using h1, h2⟩
theorem Al.app {H : Hp} : ∀ {ps qs : List Pr} {xs ys : List V}, Al H ps xs → Al H qs ys → Al H (ps ++ qs) (xs ++ ys)
  | [], _, [], _, _, h => h
  | [], _, _ :: _, _, h, _ => h.elim
  | _ :: _, _, [], _, h, _ => h.elim
  | _ :: _, _, _ :: _, _, h, g => ⟨h.1, Al.app h.2 g⟩
def pV (v : V) : Pr := ⟨fun _ x => x = v, fun _ h => h⟩
/-- (the part K is named so that it is found) -/
def lstAt (K : PySem.W.Frag) (H : Hp) (a : Addr) (xs : List V) : Prop := H a = some (.lst xs)
def pLst (K : PySem.W.Frag) (ps : List Pr) : Pr := ⟨fun H v => ∃ a xs, v = .ref a ∧ lstAt K H a xs ∧ Al H ps xs, fun e h => by
  obtain ⟨a, xs, h1, h2, h3⟩ := h
  exact ⟨a, xs, h1, e _ _ h2, h3.up e⟩⟩
def pTup (K : PySem.W.Frag) (ps : List Pr) : Pr := ⟨fun H v => ∃ a xs, v = .ref a ∧ SqT K H a xs ∧ Al H ps xs, fun e h => by
  obtain ⟨a, xs, h1, h2, h3⟩ := h
  exact ⟨a, xs, h1, ex_t e h2, h3.up e⟩⟩
structure Tu (α : Type) where
  l : List α
  deriving DecidableEq
class Enc (K : PySem.W.Frag) (α : Type) where
  rp : α → Pr
  enc : α → PyData
  toD : ∀ {H : Hp} {v : V} {a : α}, (rp a).on H v → Dp K H v (enc a)
  lay : α → Prop
  dep : Nat
  dle : ∀ a : α, (enc a).depth ≤ dep
  can : ∀ a : α, lay a → (enc a).canLay0 = true
  inj : ∀ a b : α, PyData.eqv (enc a) (enc b) = true ↔ a = b
variable {K : PySem.W.Frag}
instance : Enc K Int := ⟨fun i => pV (.int i), .int, fun h => by cases h; exact .int _, fun _ => True, 0, fun _ => Nat.le_refl _, fun _ _ => rfl, fun a b => by simp [PyData.eqv]⟩
instance : Enc K Nat := ⟨fun i => pV (.int i), fun i => .int i, fun h => by cases h; exact .int _, fun _ => True, 0, fun _ => Nat.le_refl _, fun _ _ => rfl, fun a b => by simp [PyData.eqv]; omega⟩
instance : Enc K Bool := ⟨fun i => pV (.bl i), .bool, fun h => by cases h; exact .bl _, fun _ => True, 0, fun _ => Nat.le_refl _, fun _ _ => rfl, fun a b => by cases a <;> cases b <;> simp [PyData.eqv]⟩
instance : Enc K Str := ⟨fun i => pV (.str i), .str, fun h => by cases h; exact .str _, fun s => PyData.strOk s = true, 0, fun _ => Nat.le_refl _, fun _ h => h, fun a b => by simp [PyData.eqv]⟩
instance : Enc K Unit := ⟨fun _ => pV .non, fun _ => .none, fun h => by cases h; exact .non, fun _ => True, 0, fun _ => Nat.le_refl _, fun _ _ => rfl, fun a b => by simp [PyData.eqv]⟩
section
variable {α β γ : Type}
theorem al_toD [E : Enc K α] {H : Hp} : ∀ {l : List α} {xs : List V}, Al H (l.map E.rp) xs → DpAll K H xs (l.map E.enc)
  | [], [], _ => .nil
  | [], _ :: _, h => h.elim
  | _ :: _, [], h => h.elim
  | a :: l, x :: xs, h => .cons (E.toD h.1) (al_toD h.2)
theorem dle_all [E : Enc K α] : ∀ l : List α, PyData.depthAll (l.map E.enc) ≤ E.dep
  | [] => Nat.zero_le _
  | a :: l => by
    show max (PyData.depth (E.enc a)) (PyData.depthAll (l.map E.enc)) ≤ _
    have h1 := E.dle a
    have h2 := dle_all (E := E) l
    omega
theorem can_all [E : Enc K α] : ∀ l : List α, (∀ a ∈ l, E.lay a) → PyData.canLayAll0 (l.map E.enc) = true
  | [], _ => rfl
  | a :: l, h => by
    show (PyData.canLay0 (E.enc a) && PyData.canLayAll0 (l.map E.enc)) = true
    rw [E.can a (h a (List.mem_cons_self ..)), can_all l fun x hx => h x (List.mem_cons_of_mem _ hx)]
    rfl
theorem inj_all [E : Enc K α] : ∀ l m : List α, PyData.eqvAll (l.map E.enc) (m.map E.enc) = true ↔ l = m
  | [], [] => ⟨fun _ => rfl, fun _ => rfl⟩
  | [], _ :: _ => ⟨(fun h => nomatch h), (fun h => nomatch h)⟩
  | _ :: _, [] => ⟨(fun h => nomatch h), (fun h => nomatch h)⟩
  | a :: l, b :: m => by
    show (PyData.eqv (E.enc a) (E.enc b) && PyData.eqvAll (l.map E.enc) (m.map E.enc)) = true ↔ _
    rw [Bool.and_eq_true, E.inj, inj_all l m, List.cons.injEq]
instance [E : Enc K α] : Enc K (List α) := ⟨fun l => pLst K (l.map E.rp), fun l => .list (l.map E.enc), fun h => by
    obtain ⟨a, xs, rfl, h1, h2⟩ := h
    exact .lst (sq_of h1) (al_toD h2), fun l => ∀ a ∈ l, E.lay a, E.dep + 1, fun l => by
    show PyData.depthAll (l.map E.enc) + 1 ≤ _
    have := dle_all (E := E) l
    omega, fun l h => can_all l h, fun l m => inj_all l m⟩
instance [E : Enc K α] : Enc K (Tu α) := ⟨fun l => pTup K (l.l.map E.rp), fun l => .tuple (l.l.map E.enc), fun h => by
    obtain ⟨a, xs, rfl, h1, h2⟩ := h
    exact .tup h1 (al_toD h2), fun l => ∀ a ∈ l.l, E.lay a, E.dep + 1, fun l => by
    show PyData.depthAll (l.l.map E.enc) + 1 ≤ _
    have := dle_all (E := E) l.l
    omega, fun l h => can_all l.l h, fun l m => by
    obtain ⟨l⟩ := l
    obtain ⟨m⟩ := m
    rw [Tu.mk.injEq]
    exact inj_all l m⟩
instance [E : Enc K α] [F : Enc K β] : Enc K (α × β) := ⟨fun x => pTup K [E.rp x.1, F.rp x.2], fun x => .tuple [E.enc x.1, F.enc x.2], fun h => by
    obtain ⟨a, xs, rfl, h1, h2⟩ := h
    match xs, h2 with
    | [_, _], h2 => exact .tup h1 (.cons (E.toD h2.1) (.cons (F.toD h2.2.1) .nil)), fun x => E.lay x.1 ∧ F.lay x.2, max E.dep F.dep + 1, fun x => by
    show max (PyData.depth (E.enc x.1)) (max (PyData.depth (F.enc x.2)) 0) + 1 ≤ _
    have h1 := E.dle x.1
    have h2 := F.dle x.2
    omega, fun x h => by
    show (PyData.canLay0 (E.enc x.1) && (PyData.canLay0 (F.enc x.2) && true)) = true
    rw [E.can _ h.1, F.can _ h.2]
    rfl, fun x y => by
    show (PyData.eqv (E.enc x.1) (E.enc y.1) && (PyData.eqv (F.enc x.2) (F.enc y.2) && true)) = true ↔ _
    rw [Bool.and_true, Bool.and_eq_true, E.inj, F.inj]
    exact ⟨fun h => Prod.ext h.1 h.2, fun h => by rw [h]; exact ⟨rfl, rfl⟩⟩⟩
end
structure Fr (G H G2 H2 : Hp) : Prop where
  g : Ex G G2
  h : Ex H H2
  k : Ex G2 H2
  n : ∀ a, G a = none → H a ≠ none → G2 a = none
theorem Fr.refl {G H : Hp} (e : Ex G H) : Fr G H G H := ⟨Ex.refl G, Ex.refl H, e, fun _ h _ => h⟩
theorem ne_up {H H' : Hp} {a : Addr} (e : Ex H H') (h : H a ≠ none) : H' a ≠ none := by
  cases q : H a with
  | none => exact absurd q h
  | some o => rw [e a o q]; exact fun h => nomatch h
theorem Fr.trans {G H G2 H2 G3 H3 : Hp} (a : Fr G H G2 H2) (b : Fr G2 H2 G3 H3) : Fr G H G3 H3 :=
  ⟨a.g.trans b.g, a.h.trans b.h, b.k, fun x h1 h2 => b.n x (a.n x h1 h2) (ne_up a.h h2)⟩
theorem Fr.same {G H H2 : Hp} (e : Ex G H) (e2 : Ex H H2) : Fr G H G H2 := ⟨Ex.refl G, e2, e.trans e2, fun _ h _ => h⟩
theorem ex_upd {G H : Hp} (e : Ex G H) {p : Addr} {o : HO} : Ex (upd G p o) (upd H p o) := fun a u h => by
  by_cases q : a = p
  · subst q
    rw [upd_same] at h ⊢
    exact h
  · rw [upd_ne q] at h ⊢
    exact e a u h
theorem Fr.new {G H : Hp} (e : Ex G H) {p : Addr} {o : HO} (hp : H p = none) : Fr G H (upd G p o) (upd H p o) :=
  ⟨Ex.new (fresh_back e hp), Ex.new hp, ex_upd e, fun a h1 h2 => by
    have : a ≠ p := fun q => by subst q; exact h2 hp
    rw [upd_ne this]
    exact h1⟩
/-- what H holds at p becomes known -/
theorem Fr.freeze {G H : Hp} {p : Addr} {o : HO} (e : Ex G H) (hG : G p = none) (h : H p = some o) : Ex G (upd G p o) ∧ Ex (upd G p o) H := ⟨Ex.new hG, fun a u q => by
  by_cases c : a = p
  · subst c
    rw [upd_same] at q
    cases q
    exact h
  · rw [upd_ne c] at q
    exact e a u q⟩
/-- a reading from less known, beside more known -/
def beside (G' G2 : Hp) : Hp := fun a => match G' a with | some o => some o | none => G2 a
theorem Fr.beside {G G' H G2 H2 : Hp} (f : Fr G H G2 H2) (e : Ex G G') (e1 : Ex G' H) : Fr G' H (beside G' G2) H2 ∧ Ex G2 (beside G' G2) := by
  refine ⟨⟨fun a o h => by simp only [OP.beside, h], f.h, fun a o h => ?_, fun a h1 h2 => ?_⟩, fun a o h => ?_⟩
  · simp only [OP.beside] at h
    cases q : G' a with
    | some u =>
      rw [q] at h
      cases h
      exact f.h a _ (e1 a _ q)
    | none =>
      rw [q] at h
      exact f.k a o h
  · simp only [OP.beside, h1]
    exact f.n a (fresh_back e h1) h2
  · simp only [OP.beside]
    cases q : G' a with
    | some u =>
      have h1 := f.h a _ (e1 a _ q)
      have h2 := f.k a o h
      rw [h1] at h2
      exact h2
    | none => exact h
def EvP (te : TE) (σ : L2.St) (G : Hp) (p : Pr) : Prop := ∀ H1, Ex G H1 → ∀ Q : VK, (∀ v H2 G2, Fr G H1 G2 H2 → p.on G2 v → Q v H2) → te σ H1 Q
def EvPs (ta : TA) (σ : L2.St) (G : Hp) (ps : List Pr) : Prop := ∀ H1, Ex G H1 → ∀ Q : List V → Hp → Prop, (∀ vs H2 G2, Fr G H1 G2 H2 → Al G2 ps vs → Q vs H2) → ta σ H1 Q
section
variable {σ : L2.St} {G G' H H' : Hp} {ta tb te tx ts : TE} {t u : TT} {x y z v : V} {p q : Pr} {ps qs : List Pr}
theorem EvP.mono (e : Ex G G') (h : EvP te σ G p) : EvP te σ G' p := fun H1 a Q k => h H1 (e.trans a) Q fun v H2 G2 f hv =>
  k v H2 _ (f.beside e a).1 (p.up (f.beside e a).2 hv)
theorem EvPs.mono {ta : TA} (e : Ex G G') (h : EvPs ta σ G ps) : EvPs ta σ G' ps := fun H1 a Q k => h H1 (e.trans a) Q fun v H2 G2 f hv =>
  k v H2 _ (f.beside e a).1 (hv.up (f.beside e a).2)
theorem EvP.is (h : EvP te σ G p) (e : p = q) : EvP te σ G q := e ▸ h
theorem EvP.imp (h : EvP te σ G p) (e : ∀ G v, p.on G v → q.on G v) : EvP te σ G q := fun H1 a Q k => h H1 a Q fun v H2 G2 f hv => k v H2 G2 f (e G2 v hv)
section
variable {α : Type} [E : Enc K α] [DecidableEq α] {a b : α}
theorem any_eqv (l : List α) (a : α) : ((l.map E.enc).any fun z => PyData.eqv z (E.enc a)) = decide (a ∈ l) := by
  rw [Bool.eq_iff_iff, List.any_eq_true, decide_eq_true_eq]
  refine ⟨fun h => ?_, fun h => ⟨E.enc a, List.mem_map.mpr ⟨a, h, rfl⟩, (E.inj a a).mpr rfl⟩⟩
  obtain ⟨z, hz, he⟩ := h
  obtain ⟨b, hb, rfl⟩ := List.mem_map.mp hz
  rw [← (E.inj b a).mp he]
  exact hb
end
end
end OP
namespace OP
open PySem PySem.Spec PyProof.Rows L2 Evl
variable {K : PySem.W.Frag}
section
variable {σ : L2.St} {G G' H H' : Hp} {ta tb te tx ts tl : TE} {t u : TT} {x y z v : V} {p q : Pr} {ps qs : List Pr} {j : Nat} {vs : List Nat}
/-- the list that grows: not known, made of what is known -/
def Cp (G H : Hp) (D : Addr) (ps : List Pr) (H' : Hp) : Prop := ∃ G' xs, Fr G H G' H' ∧ H D = none ∧ G' D = none ∧ H' D = some (.lst xs) ∧ Al G' ps xs
theorem Cp.ini {D : Addr} (e : Ex G H) (hD : H D = none) : Cp G H D [] (upd H D (.lst [])) := ⟨G, [], Fr.same e (Ex.new hD), hD, fresh_back e hD, upd_same, trivial⟩
/-- a turn that adds p -/
theorem Cp.turn {D : Addr} {σ2 : L2.St} (h : Cp G H D ps H') (hz : ps.length < 100000) (hp : ∀ G', Ex G G' → EvP te σ2 G' p) : te σ2 H' fun y H4 => ∃ acc, H4 D = some (.lst acc) ∧ acc.length < sizeLine ∧ Cp G H D (ps ++ [p]) (upd H4 D (.lst (acc ++ [y]))) := by
  obtain ⟨G', xs, f, h1, h2, h3, h4⟩ := h
  refine hp G' f.g H' f.k _ fun y H4 G4 f4 hy => ⟨xs, f4.h D _ h3, sz_lt (by rw [h4.len]; exact hz), G4, xs ++ [y], ?_, h1, f4.n D h2 (by rw [h3]; exact fun c => nomatch c), upd_same, (h4.up f4.g).app ⟨hy, trivial⟩⟩
  have g := f.trans f4
  refine ⟨g.g, Ex.mut g.h h1, fun a o ha => ?_, g.n⟩
  have : a ≠ D := fun c => by
    subst c
    rw [f4.n a h2 (by rw [h3]; exact fun c => nomatch c)] at ha
    cases ha
  rw [upd_ne this]
  exact g.k a o ha
theorem Cp.more {D : Addr} {H4 : Hp} {G4 : Hp} (h : Cp G H D ps H') (f : ∀ G', Ex G G' → Ex G' H' → G' D = none → ∃ G4, Fr G' H' G4 H4) : Cp G H D ps H4 := by
  obtain ⟨G', xs, f1, h1, h2, h3, h4⟩ := h
  obtain ⟨G4, f4⟩ := f G' f1.g f1.k h2
  exact ⟨G4, xs, f1.trans f4, h1, f4.n D h2 (by rw [h3]; exact fun c => nomatch c), f4.h D _ h3, h4.up f4.g⟩
/-- a turn with a test -/
theorem Cp.step {D : Addr} {σ2 : L2.St} {b : Bool} (h : Cp G H D ps H') (hz : ps.length < 100000) (ht : ∀ G', Ex G G' → EvT t σ2 G' b) (hp : b = true → ∀ G', Ex G G' → EvP te σ2 G' p) :
    t σ2 H' fun b H3 => if b = true then te σ2 H3 fun y H4 => ∃ acc, H4 D = some (.lst acc) ∧ acc.length < sizeLine ∧ Cp G H D (if b then ps ++ [p] else ps) (upd H4 D (.lst (acc ++ [y]))) else Cp G H D (if b then ps ++ [p] else ps) H3 := by
  have h0 := h
  obtain ⟨G', xs, f, h1, h2, h3, h4⟩ := h
  refine ht G' f.g H' f.k _ fun H3 e3 => ?_
  have h5 : Cp G H D ps H3 := h0.more (G4 := G') fun G1 _ e1 _ => ⟨G1, Fr.same e1 e3⟩
  cases b with
  | true => exact h5.turn hz fun G1 e1 => hp rfl G1 e1
  | false => exact h5
theorem Cp.done {D : Addr} (h : Cp G H D ps H') {Q : VK} (k : ∀ p xs H2 G2, Fr G H G2 H2 → H p = none → G2 p = none → H2 p = some (.lst xs) → Al G2 ps xs → Q (.ref p) H2) : Q (.ref D) H' := by
  obtain ⟨G', xs, f, h1, h2, h3, h4⟩ := h
  exact k D xs H' G' f h1 h2 h3 h4
theorem Al.nil : ∀ {xs : List V}, Al G [] xs → xs = []
  | [], _ => rfl
  | _ :: _, h => h.elim
theorem Al.uncons : ∀ {xs : List V}, Al G (p :: ps) xs → ∃ x r, xs = x :: r ∧ p.on G x ∧ Al G ps r
  | [], h => h.elim
  | x :: r, h => ⟨x, r, rfl, h.1, h.2⟩
theorem Al.one {xs : List V} (h : Al G [p] xs) : ∃ x, xs = [x] ∧ p.on G x := by
  obtain ⟨x, r, rfl, h1, h2⟩ := h.uncons
  obtain rfl := Al.nil h2
  exact ⟨x, rfl, h1⟩
theorem Al.two {xs : List V} (h : Al G [p, q] xs) : ∃ x y, xs = [x, y] ∧ p.on G x ∧ q.on G y := by
  obtain ⟨x, r, rfl, h1, h2⟩ := h.uncons
  obtain ⟨y, rfl, h3⟩ := h2.one
  exact ⟨x, y, rfl, h1, h3⟩
end
end OP
namespace OP
open PySem PySem.Spec PyProof.Rows L2 Evl
variable {K : PySem.W.Frag}
section
variable {σ : L2.St} {G G' H H' : Hp} {ta tb te tx ts tl : TE} {t u : TT} {x y z v : V} {p q : Pr} {ps qs : List Pr} {i j : Nat} {vs : List Nat} {D : Ends} {tu tz : TS} {E : XK}
/-- a list of our own, made since (G, H), that may still grow -/
structure Cq (G H : Hp) (a : Addr) (ps : List Pr) (G' H' : Hp) : Prop where
  f : Fr G H G' H'
  new : H a = none
  out : G' a = none
  at_ : ∃ xs, H' a = some (.lst xs) ∧ Al G' ps xs
theorem Cq.of {a : Addr} {xs : List V} (f : Fr G H G' H') (h1 : H a = none) (h2 : G' a = none) (h3 : H' a = some (.lst xs)) (h4 : Al G' ps xs) : Cq G H a ps G' H' := ⟨f, h1, h2, xs, h3, h4⟩
theorem Cq.go {a : Addr} {G2 H2 : Hp} (c : Cq G H a ps G' H') (f : Fr G' H' G2 H2) : Cq G H a ps G2 H2 := by
  obtain ⟨f1, h1, h2, xs, h3, h4⟩ := c
  exact ⟨f1.trans f, h1, f.n a h2 (by rw [h3]; exact fun c => nomatch c), xs, f.h a _ h3, h4.up f.g⟩
theorem Cq.k {a : Addr} (c : Cq G H a ps G' H') : Ex G' H' := c.f.k
end
end OP
namespace OP
open PySem PySem.Spec PyProof.Rows L2 Evl
/-- instances of the class at C: what isinstance asks -/
structure InsT (K : PySem.W.Frag) (C : Addr) : Prop where
  ha : PySem.W.findIn K (.ref C) "__class__" = some (some (.builtin "object.__class__"))
  hn : PySem.W.specialIn K (.builtin "object.__class__") "__get__" = some (some (.builtin "getset_descriptor.__get__"))
  htk : PySem.W.takesIn K (.builtin "object.__class__") = some true
  hm : PySem.W.mroIn K C (.type "object") = some true
section
variable {X : Cx} {CX : CXT} {n : Nat} {C f : Addr} {fd : FuncData} {ps : List Str} {sp : Sp} {E : XK}
/-- x in (..), x not in (..), data of any depth -/
def rInT (K : PySem.W.Frag) : R2 := fun x y H Q => ∃ d ds, Dp K H x d ∧ Dp K H y (.tuple ds) ∧ SeqAt.shaped d = true ∧ SeqAt.shaped (.tuple ds) = true ∧ Q (.bl (ds.any fun z => PyData.eqv z d)) H
def rNotInT (K : PySem.W.Frag) : R2 := fun x y H Q => ∃ d ds, Dp K H x d ∧ Dp K H y (.tuple ds) ∧ SeqAt.shaped d = true ∧ SeqAt.shaped (.tuple ds) = true ∧ Q (.bl (!ds.any fun z => PyData.eqv z d)) H
theorem op_inT (hu : X.A.units + 65 < cLine) : OpR X (compareOp .In) (rInT X.K) := by
  intro pins s σ H x y v u Q I rx ry h
  obtain ⟨d, ds, hd, he, sd, se, q⟩ := h
  obtain ⟨as, r1⟩ := Dp.reads I d x v hd rx
  obtain ⟨bs, r2⟩ := Dp.reads I (.tuple ds) y u he ry
  exact SeqAt.in_tuple_reads r2 r1 (SeqAt.canLay_of_shaped se) (SeqAt.canLay_of_shaped sd) (room_in_shaped sd hu) ⟨.bl _, H, I, rfl, q⟩
theorem op_notInT (hu : X.A.units + 65 < cLine) : OpR X (compareOp .NotIn) (rNotInT X.K) := by
  intro pins s σ H x y v u Q I rx ry h
  obtain ⟨d, ds, hd, he, sd, se, q⟩ := h
  obtain ⟨as, r1⟩ := Dp.reads I d x v hd rx
  obtain ⟨bs, r2⟩ := Dp.reads I (.tuple ds) y u he ry
  exact SeqAt.notIn_tuple_reads r2 r1 (SeqAt.canLay_of_shaped se) (SeqAt.canLay_of_shaped sd) (room_in_shaped sd hu) ⟨.bl _, H, I, rfl, q⟩
variable {K : PySem.W.Frag}
end
section
variable {K : PySem.W.Frag} {σ : L2.St} {G G' H H' : Hp} {ta tb te tx ts tl : TE} {t u : TT} {x y z v : V} {p q : Pr} {ps qs : List Pr} {i j : Nat} {vs : List Nat} {D : Ends} {tu tz : TS} {E : XK}
theorem TyX.up {v : V} {t : Value} (e : Ex G G') (h : TyX K G v t) : TyX K G' v t := by
  have h1 := TyZ.mono e (.x h)
  cases h1 with
  | x h => exact h
  | exc T e1 e2 =>
    cases h with
    | base b => cases b with
      | ins e3 => 
        have := e _ _ e3
        rw [e1] at this
        cases this
end
end OP
namespace OP
open PySem PySem.Spec PyProof.Rows L2 Evl
/-- enumerate(text): the i-th turn gives a new pair of i and the sign -/
def Ites (x : Str) : It :=
  ⟨fun i _ => i < x.cps.size, fun i H v H' => ∃ T c, v = .ref T ∧ H T = none ∧ H' = upd H T (.tup [.int (i : Nat), .str ⟨#[c]⟩]) ∧ x.cps[i]? = some c, fun i _ => i = x.cps.size⟩
theorem turn_es {P : Program} {w : World} {K : PySem.W.Frag} {elts : List Expr} {kk : Nat} {tpos : Pos} {x : Str} {t : Tok} {e it : Addr} (hne : e ≠ it) :
    Turn P w K (.Tuple elts kk tpos) (Ites x) [e, it] e (fun i h => (∃ old, IsEnum h e it i old) ∧ h.IsStrIter it (strIterType x) x t i) where
  mem := by simp
  obj := fun i h st b hb => by
    obtain ⟨⟨old, he⟩, o, ho, hc, hd⟩ := st
    have e' : b = e ∨ b = it := by simpa using hb
    rcases e' with z | z
    · rw [z]; exact ⟨_, he, fun v q => nomatch q⟩
    · rw [z]; exact ⟨o, ho, fun v q => by rw [hd] at q; cases q⟩
  keep := fun i h h' st k => let ⟨⟨old, he⟩, o, ho, r⟩ := st; ⟨⟨old, k e (by simp) _ he⟩, o, k it (by simp) _ ho, r⟩
  item := by
    intro X hP hw hK hc i pins s σ H E I hf st hg
    subst hP hw hK
    obtain ⟨⟨old, he⟩, hit⟩ := st
    have hh : X.A.in1.handled = none := I.ok.hd hc
    have D1 : Draws X.prog X.w X.A.in1 it [it] x.cps.size _ _ := Draws.text hh it x t
    have hel : e < s.heap.objs.size := Heap.lt_size he
    have hil : it < s.heap.objs.size := by obtain ⟨_, q, _⟩ := hit; exact Heap.lt_size q
    refine wpAny_pyNext_enum_itemD D1 he hit hg hne (by simpa using hne) fun u h' tk hP ho hit' hT hsz hk => ?_
    obtain ⟨c, t1, hc1, rfl⟩ := hP
    refine ⟨_, rfl, wpAny_letOwnedTupleGo_enum (s := { s with heap := h', toks := tk + 1 }) ho fun h'' he' sb => ?_⟩
    have hT2 : h''.get? s.heap.objs.size = some { cls := .type "tuple", data := .seq #[.int i tk, .str ⟨#[c]⟩ t1] } := (sb.2 _ (Nat.ne_of_gt hel)).trans hT
    have new : ObjOk X.prog X.w (upd H s.heap.objs.size (.tup [.int (i : Nat), .str ⟨#[c]⟩])) h'' s.heap.objs.size (.tup [.int (i : Nat), .str ⟨#[c]⟩]) :=
      ⟨by show 2 ≤ sizeLine; decide, [.int i tk, .str ⟨#[c]⟩ t1], .cons ⟨_, rfl⟩ (.cons ⟨_, rfl⟩ .nil), ⟨_, hT2, rfl, _, rfl⟩⟩
    have I1 : Inv X pins σ (upd H s.heap.objs.size (.tup [.int (i : Nat), .str ⟨#[c]⟩])) { s with heap := h'', toks := tk + 1 } :=
      I.turnedNew (ch := [e, it]) (fun b ob hb q => (sb.2 b (fun z => hb (by simp [z]))).trans (hk b ob (fun z => hb (by simp [z])) (fun z => hb (by simp [z])) q)) hf (Nat.le_refl _) new
    refine ⟨.ref s.heap.objs.size, _, I1, rfl, ⟨_, c, rfl, I.hok.fresh (Nat.le_refl _), rfl, hc1⟩, ⟨⟨.str ⟨#[c]⟩ t1, ?_⟩, D1.frame _ _ _ hit' fun b hb o q => (sb.2 b (fun z => by
        rw [z] at hb
        exact hne (by simpa using hb))).trans q⟩, fun b hb => ?_⟩
    · have e1 : ((i + 1 : Nat) : Int) = (i : Int) + 1 := by omega
      rw [e1]; exact he'
    · have hb' : b < s.heap.objs.size := by
        have e' : b = e ∨ b = it := by simpa using hb
        rcases e' with z | z
        · rw [z]; exact hel
        · rw [z]; exact hil
      rw [upd_ne (Nat.ne_of_lt hb')]
      exact (hf b hb).1
  done := by
    intro X hP hw hK hc i pins s σ H E I hf st hg
    subst hP hw hK
    obtain ⟨⟨old, he⟩, hit⟩ := st
    have hh : X.A.in1.handled = none := I.ok.hd hc
    have D1 : Draws X.prog X.w X.A.in1 it [it] x.cps.size _ _ := Draws.text hh it x t
    have hg' : i = x.cps.size := hg
    subst hg'
    obtain ⟨f0, f1, f2, f3, f4, f5⟩ := hf it (by simp)
    exact wpAny_pyNext_enum_endD D1 he hit fun h' eb => ⟨rfl, I.turned (t' := s.toks) (fun b o hb q => eb b o hb q) f0 f1 f3 f4 f5⟩
  self := fun A i s Q E st h => let ⟨⟨_, he⟩, _⟩ := st; wpAny_pyIter_enum he h
def iEs (te : TE) : TI := fun σ H R => te σ H fun v H1 => ∃ x : Str, v = .str x ∧ R (Ites x) H1
theorem pi_enumS {X : Cx} {e : Expr} {te : TE} {p pos tpos : Pos} {elts : List Expr} {kk : Nat} (hg : Gl X "enumerate") (hm : X.mg "enumerate" = none) (ha : PE X e te) (hs : starEach [e] X.env = [(false, eval e X.env)] := by rfl) :
    PI X (.Tuple elts kk tpos) (.Call (.Name "enumerate" p) [e] [] pos) (iEs te) := by
  refine ⟨fun pins s σ H R I h => ?_⟩
  refine Call_ (ld_blt I hg hm boot_enumerate (PyProof.Rows.callWith_type1 ?_ hs rfl))
  rw [hs]
  show wpAny _ _ (spliced [(false, eval e X.env)]) _ _ s
  refine Calls.spliced_cons (thn (ha.run pins s σ H _ I h) fun u s1 ⟨v, H1, I1, r1, x, ev, q⟩ => Calls.spliced_nil ?_)
  subst ev
  obtain ⟨t, rfl⟩ := r1
  refine call_enumerate_str fun h' he hit hsz hk => wpAny_pyIter_enum he ?_
  have I2 : Inv X pins σ H1 { s1 with heap := h' } := I1.kept (t' := s1.toks) hk
  refine ⟨s1.heap.objs.size + 1, [s1.heap.objs.size + 1, s1.heap.objs.size], _, _, H1, rfl, I2, turn_es (Nat.succ_ne_self _), ⟨⟨.none, he⟩, hit⟩, fun b hb => ?_, q⟩
  have e' : b = s1.heap.objs.size + 1 ∨ b = s1.heap.objs.size := by simpa using hb
  have hle : s1.heap.objs.size ≤ b := by
    rcases e' with z | z
    · rw [z]; exact Nat.le_add_right _ _
    · rw [z]; exact Nat.le_refl _
  exact I1.fpOk hle (I1.hok.fresh hle)
end OP
namespace OP
open PySem PySem.Spec PyProof.Rows L2 Evl
theorem pi_alt {X : Cx} {tg e : Expr} {t u : TI} (h1 : PI X tg e t) (h2 : PI X tg e u) : PI X tg e (fun σ H Q => t σ H Q ∨ u σ H Q) := ⟨fun pins s σ H Q I h => h.elim (h1.run pins s σ H Q I) (h2.run pins s σ H Q I)⟩
def okc (c : Nat) : Bool := decide (c ∈ (("01*" : Str)).cps.toList)
theorem okc_lt {c : Nat} (h : okc c = true) : c < 1114112 := by
  have h1 : c ∈ [48, 49, 42] := of_decide_eq_true h
  rcases List.mem_cons.mp h1 with h | h
  · omega
  rcases List.mem_cons.mp h with h | h
  · omega
  · rw [List.mem_singleton.mp h]
    omega
theorem strOk_of {z : Str} (h : ∀ c ∈ z.cps.toList, c < 1114112) : PyData.strOk z = true := by
  show (z.cps.all (· < 0x110000)) = true
  rw [Array.all_eq_true']
  intro c hc
  exact decide_eq_true (h c (by simpa using hc))
theorem sgn_lay {c : Nat} (h : okc c = true) : PyData.strOk ⟨#[c]⟩ = true := strOk_of fun x hx => by
  rw [List.mem_singleton.mp (show x ∈ [c] from hx)]
  exact okc_lt h
end OP
namespace OP
open PySem PySem.Spec PyProof.Rows L2 Evl
/-- all is known as G, the box stands at b with k draws left -/
structure Wb (b : Addr) (G H : Hp) (k : Nat) : Prop where
  e : Ex G H
  o : G b = none
  bx : ∃ n, BoxAt H b n ∧ n + k ≤ 1000000000
structure Fb (b : Addr) (G H G2 H2 : Hp) : Prop where
  g : Ex G G2
  h : Eb b H H2
  k : Ex G2 H2
  n : ∀ a, G a = none → H a ≠ none → G2 a = none
theorem ne_upb {b : Addr} {H H' : Hp} {a : Addr} (e : Eb b H H') (hb : H' b ≠ none) (h : H a ≠ none) : H' a ≠ none := by
  by_cases c : a = b
  · rw [c]
    exact hb
  · cases q : H a with
    | none => exact absurd q h
    | some o => rw [e a o c q]; exact fun h => nomatch h
theorem BoxAt.ne {H : Hp} {b : Addr} {n : Nat} (h : BoxAt H b n) : H b ≠ none := by
  obtain ⟨o, h, _⟩ := h
  rw [h]
  exact fun c => nomatch c
theorem Wb.ne {b : Addr} {G H : Hp} {k : Nat} (w : Wb b G H k) : H b ≠ none := by
  obtain ⟨n, h, _⟩ := w.bx
  exact h.ne
theorem Fb.trans {b : Addr} {G H G2 H2 G3 H3 : Hp} (a : Fb b G H G2 H2) (c : Fb b G2 H2 G3 H3) (hb : H2 b ≠ none) : Fb b G H G3 H3 :=
  ⟨a.g.trans c.g, a.h.trans c.h, c.k, fun x h1 h2 => c.n x (a.n x h1 h2) (ne_upb a.h hb h2)⟩
theorem Wb.go {b : Addr} {G H G2 H2 : Hp} {k : Nat} (w : Wb b G H k) (f : Fr G H G2 H2) : Wb b G2 H2 k := by
  obtain ⟨n, h, hk⟩ := w.bx
  exact ⟨f.k, f.n b w.o h.ne, n, h.ex f.h, hk⟩
section
variable {K : PySem.W.Frag} {σ : L2.St} {G G' H H' : Hp} {ta tb te tx ts tl : TE} {t u : TT} {x y z v : V} {p q : Pr} {ps qs : List Pr} {i j k : Nat} {vs : List Nat} {D : Ends} {tu tz : TS} {E : XK} {b : Addr}
/-- one by one -/
def F2 {α β : Type} (R : α → β → Prop) (l : List α) (ys : List β) : Prop := ys.length = l.length ∧ ∀ (i : Nat) (a : α) (y : β), l[i]? = some a → ys[i]? = some y → R a y
theorem F2.mem {α β : Type} {R : α → β → Prop} {l : List α} {ys : List β} (h : F2 R l ys) {y : β} (hy : y ∈ ys) : ∃ a ∈ l, R a y := by
  obtain ⟨i, hi⟩ := List.mem_iff_getElem?.mp hy
  have hl := (List.getElem?_eq_some_iff.mp hi).1
  have h2 : i < l.length := by rw [← h.1]; exact hl
  exact ⟨l[i], List.getElem_mem _, h.2 i _ y (List.getElem?_eq_getElem h2) hi⟩
end
end OP
namespace OP
open PySem PySem.Spec PyProof.Rows L2 Evl
end OP
namespace OP
open PySem PySem.Spec PyProof.Rows L2 Evl
end OP
namespace OP
open PySem PySem.Spec PyProof.Rows L2 Evl
end OP
namespace DN
open PySem PySem.Spec PyProof.Rows L2 OP
/-- room, and, if b, no repr is under way -/
structure RoomG (b : Bool) (k : Nat) (A : Around) : Prop extends Room k A where
  gd : b = true → A.guards = some []
section
variable {b : Bool} {j k : Nat} {A : Around}
theorem RoomG.mono (r : RoomG b k A) (h : j ≤ k) : RoomG b j A := ⟨r.toRoom.mono h, r.gd⟩
theorem RoomG.deeper (r : RoomG b (k + 1) A) (env : PySem.Env) : RoomG b k (A.deeper env) := ⟨r.toRoom.deeper env, r.gd⟩
theorem RoomG.in1 (r : RoomG b (k + 1) A) : RoomG b k A.in1 := ⟨r.toRoom.in1, r.gd⟩
theorem RoomG.make (r : RoomG b (k + 1) A) (C : Addr) (us : List Value) (kw : List (Str × Value)) : RoomG b k (A.under (.builtin "type.__call__" ⟨.ref C :: us, kw⟩)) :=
  ⟨r.toRoom.make C us kw, by
    have e : (A.under (.builtin "type.__call__" ⟨.ref C :: us, kw⟩)).guards = A.guards := by
      first
      | rfl
      | (cases q : A.guards <;> simp [Around.under, Code.guards, Code.isGuard, guardIds, pushGuards, q])
    rw [e]
    exact r.gd⟩
end
/-- what a def promises where no repr is under way -/
structure FnG (b : Bool) (P : Program) (w : World) (K : PySem.W.Frag) (mg : Str → Option Value) (base : Heap) (CX : CXT) (k : Nat) (f : Addr) (fd : FuncData) (ps : List Str) (sp : Sp) : Prop where
  len : ∀ vs H Q E, sp vs H Q E → vs.length = ps.length
  run : ∀ (A : Around) (outer : List PySem.Env) (s : Shared) (H : Hp) (args : Args) (us : List Value) (vs : List V) (Q : VK) (E : XK), RoomG b k A → Env0 P w K mg base A outer s H → BindsTo s fd args (ps.zip us) → Vals vs us → sp vs H Q E →
    codeAny (model P w) A (.call (.ref f) args) (CR CX outer P w H s Q E) s
section
variable {b : Bool} {P : Program} {w : World} {K : PySem.W.Frag} {mg : Str → Option Value} {base : Heap} {CX : CXT} {j k : Nat} {f : Addr} {fd : FuncData} {ps : List Str} {sp sp' : Sp}
theorem FnG.mono (F : FnG b P w K mg base CX j f fd ps sp) (h : j ≤ k) : FnG b P w K mg base CX k f fd ps sp := ⟨F.len, fun A o s H args us vs Q E r => F.run A o s H args us vs Q E (r.mono h)⟩
theorem FnG.imp (F : FnG b P w K mg base CX k f fd ps sp) (h : ∀ vs H Q E, sp' vs H Q E → sp vs H Q E) : FnG b P w K mg base CX k f fd ps sp' :=
  ⟨fun vs H Q E q => F.len vs H Q E (h _ _ _ _ q), fun A o s H args us vs Q E r e b v q => F.run A o s H args us vs Q E r e b v (h _ _ _ _ q)⟩
theorem _root_.L2.FnOk.g (F : FnOk P w K mg base CX k f fd ps sp) : FnG b P w K mg base CX k f fd ps sp := ⟨F.len, fun A o s H args us vs Q E r => F.run A o s H args us vs Q E r.toRoom⟩
theorem FnG.ok (F : FnG false P w K mg base CX k f fd ps sp) : FnOk P w K mg base CX k f fd ps sp := ⟨F.len, fun A o s H args us vs Q E r => F.run A o s H args us vs Q E ⟨r, fun h => nomatch h⟩⟩
/-- a def by its body -/
theorem fn_ofG {name qual : Str} {params : Arguments} {body : List Stmt} {scope : Scope} {dV kV doc pm cdv ct oc : Value} {an od : Option Addr} {osl : Array (Option Value)} {N : List Str}
    (lk : K.lookup f = some ⟨oc, od, .func (PySem.W.fnOf name qual params body scope dV kV doc pm an cdv ct), osl⟩) (hcd : PySem.W.codeIn K cdv qual = true) (S : FnScope N ps scope) (len : ∀ vs H Q E, sp vs H Q E → vs.length = ps.length)
    (hbody : ∀ (A : Around) (outer : List PySem.Env) (s : Shared) (H : Hp) (vs : List V) (Q : VK) (E : XK), RoomG b k (A.deeper (envOfC qual scope s.heap.objs.size f cdv)) → sp vs H Q E →
      ∃ t, PSs (cxOf CX P w K mg base N qual scope f cdv A outer s H E) body t ∧ t { nx := fun _ H' => Q .non H', rt := Q } (L2.start N vs) H) :
    FnG b P w K mg base CX (k + 1) f (PySem.W.fnOf name qual params body scope dV kV doc pm an cdv ct) ps sp := by
  constructor
  · exact len
  intro A outer s H args us vs Q E hr env0 hb rv hsp
  have n1 := len _ _ _ _ hsp
  have keep : ∀ b o, base.get? b = some o → s.heap.get? b = some o := fun b o e => (env0.bs b o e).1
  have kx : K.In s.heap := env0.mod.kin.keeps keep
  have nl : s.heap.NoLimit := env0.mod.nolimit.keeps keep
  have kinds : ∀ y ∈ ps.zip us, scope.names.lookup y.1 = some .local ∨ (scope.names.lookup y.1 = some .cell ∧ ((cellsFrom (s.heap.objs.size + 1) scope.names []).lookup y.1).isSome = true) := by
    intro ⟨n, v⟩ hy
    cases S.par n (List.of_mem_zip hy).1 with
    | inl q => exact .inl q
    | inr q => exact .inr ⟨q, PySem.W.cellsFrom_some _ _ _ (.inl q)⟩
  have hcr := PySem.W.codeRec_of kx hcd
  refine codeAny_call_function hr.toRoom.depth (kx _ _ lk) rfl S.co S.gen rfl hcr (hb _ _ _ _ (wpAny_newFunctionEnv_cells S.kind kinds ?_))
  intro env he s1 x
  subst he
  constructor
  · exact nl.keeps x.toInCall.keep
  apply codeAny_func
  obtain ⟨t, ht, hq⟩ := hbody A outer s H vs Q E (hr.deeper _) hsp
  have inv : Inv (cxOf CX P w K mg base N qual scope f cdv A outer s H E) [] (L2.start N vs) H s1 := inv_start S hr.toRoom.hd env0 n1 rv x
  have done : ∀ {σ2 : L2.St} {H2 : Hp} {v : V} {u : Value} {s2 : Shared}, Inv (cxOf CX P w K mg base N qual scope f cdv A outer s H E) [] σ2 H2 s2 → RelV v u → Q v H2 → CE outer P w H s Q u s2 := by
    intro σ2 H2 v u s2 J r1 q1
    exact ⟨v, H2, J.os, J.bare, J.base, J.hok, r1, q1⟩
  apply wpAny_mono (ht.run [] s1 (L2.start N vs) H _ inv hq)
  · intro fl s2 hs
    cases fl with
    | next =>
      obtain ⟨_, _, J, q1⟩ := hs
      exact done (v := V.non) (u := Value.none) J rfl q1
    | ret u =>
      obtain ⟨_, _, _, J, r1, q1⟩ := hs
      exact done J r1 q1
    | brk => obtain ⟨_, _, _, q1⟩ := hs; exact q1.elim
    | cont => obtain ⟨_, _, _, q1⟩ := hs; exact q1.elim
  · exact fun _ _ h => h
end
section
variable {b : Bool} {X : Cx} {CX : CXT} {k n : Nat} {f C : Addr} {fd : FuncData} {ps : List Str} {sp : Sp} {dvs : List V} {ds : List Value} {E : XK} {pins : List (Addr × Obj)} {σ : L2.St} {H : Hp} {s : Shared} {Q : VK} {us : List Value} {vs : List V} {A' : Around}
/-- the callee runs, under A' -/
theorem code_at (F : FnG b X.prog X.w X.K X.mg X.base CX k f fd ps sp) (hr : RoomG b k A') (e0 : Env0 X.prog X.w X.K X.mg X.base A' X.stack s H) (hb : Binds X.K fd ps ds) (hd : Vals dvs ds) (hx : PassesAt CX X σ E) (I : Inv X pins σ H s) (r : Vals vs us) (h : sp (vs ++ dvs) H Q E) :
    codeAny (model X.prog X.w) A' (.call (.ref f) ⟨us, []⟩) (fun r s' => match r with
      | .ok (.ret u) => EP X pins σ Q u s'
      | .ok _ => False
      | .error e => X.xe e s') s := by
  have rr : Vals (vs ++ dvs) (us ++ ds) := r.append hd
  have n1 : (us ++ ds).length = ps.length := (rr.length).symm.trans (F.len _ _ _ _ h)
  apply codeAny_mono (F.run A' X.stack s H ⟨us, []⟩ (us ++ ds) (vs ++ dvs) Q E hr e0 (hb s us I.kIn n1) rr h)
  intro r s2 hq
  cases r with
  | error e => exact hx pins H s e s2 I hq
  | ok fl =>
    cases fl with
    | ret u => exact I.after hq
    | next => exact hq.elim
    | brk => exact hq.elim
    | cont => exact hq.elim
theorem run_at (F : FnG b X.prog X.w X.K X.mg X.base CX k f fd ps sp) (hr : RoomG b k A') (e0 : Env0 X.prog X.w X.K X.mg X.base A' X.stack s H) (hb : Binds X.K fd ps ds) (hd : Vals dvs ds) (hx : PassesAt CX X σ E) (I : Inv X pins σ H s) (r : Vals vs us) (h : sp (vs ++ dvs) H Q E) :
    wpAny (model X.prog X.w) A' (call (.ref f) us) (EP X pins σ Q) X.xe s := by
  apply wpAny_call
  apply codeAny_mono (code_at F hr e0 hb hd hx I r h)
  intro r s2 hq
  cases r with
  | error e => exact hq
  | ok fl => cases fl <;> exact hq
theorem passesAt {X : Cx} {CX : CXT} {E : XK} (h : Passes CX X E) (σ : L2.St) : PassesAt CX X σ E := fun pins H s e s' I c => h pins σ H s e s' I c
theorem run_fnG (F : FnG b X.prog X.w X.K X.mg X.base CX k f fd ps sp) (hr : RoomG b k X.A) (hb : Binds X.K fd ps ds) (hd : Vals dvs ds) (hx : PassesAt CX X σ E) (I : Inv X pins σ H s) (r : Vals vs us) (h : sp (vs ++ dvs) H Q E) :
    wpAny (model X.prog X.w) X.A (call (.ref f) us) (EP X pins σ Q) X.xe s := run_at F hr I.env0 hb hd hx I r h
/-- f(..) -/
theorem pe_callG {x : Str} {p pos : Pos} {e : Expr} {es : List Expr} {t : TA} {E : L2.St → XK} (F : FnG b X.prog X.w X.K X.mg X.base CX k f fd ps sp) (hr : RoomG b k X.A) (hg : Gl X x) (hm : X.mg x = some (.ref f)) (hk : PySem.W.keepIn X.K (.ref f) = true) (hb : Binds X.K fd ps ds) (hd : Vals dvs ds) (hx : ∀ σ, PassesAt CX X σ (E σ))
    (ha : PA X (e :: es) t) (hdb : (x == ("__debug__" : Str)) = false := by decide) (he : starEach (e :: es) X.env = (false, eval e X.env) :: starEach es X.env := by rfl) (hpl : (backTo pos (starEach es X.env)).any (·.1) = false := by rfl) :
    PE X (.Call (.Name x p) (e :: es) [] pos) (tCallSD sp dvs E t) := by
  constructor
  intro pins s σ H Q I h
  apply wpAny_Call_Name_kw (ld_glob I hg hm _ hdb)
  apply PySem.W.callWith_K (h₀ := X.base) I.ok.mod.kin hk _ he hpl
  exact thn (ha.run pos pins s σ H _ I h) fun us s1 ⟨vs, H1, I1, r, q⟩ => ⟨I1.kIn, run_fnG F hr hb hd (hx σ) I1 r q⟩
end
section
variable {P : Program} {w : World} {K : PySem.W.Frag} {mg mb : Str → Option Value} {CX : CXT} {k : Nat} {fa a : Addr} {fd : FuncData} {x : Str} {sp : Sp} {s₁ : Shared} {vs : List Value} {ns : List Int}
abbrev LawEnd (s₁ : Shared) (r : Result) (s' : Shared) : Prop := r = .ok (.ret (.bool true)) ∧ OldK s₁.heap s'.heap ∧ s'.os = s₁.os ∧ AllBare s'.gens
theorem lawG_core (KX : K.In s₁.heap) (hns : s₁.heap.Ns mainGlobals mg) (hb : s₁.heap.Ns builtinsNs mb) (hbb : ∀ x : Str, x ≠ "__name__" → mb x = bootBuiltins x) (hlim : s₁.heap.NoLimit) (hg : s₁.gens = #[])
    (ha : s₁.heap.get? a = some { cls := .type "list", data := .seq vs.toArray }) (hr : RoomG true k callerA)
    (F : ∀ base : Heap, K.In base → base.Ns mainGlobals mg → FnG true P w K mg base CX k fa fd [x] sp) (hbind : ∀ (s : Shared) (u : Value), BindsTo s fd ⟨[u], []⟩ [(x, u)])
    (hCX : ∀ H e s', CX [] H s₁ (fun _ _ _ => False) e s' → False) (H : Hp) (only : Only H) (hsp : sp [.ref a] H (fun v _ => v = .bl true) fun _ _ _ => False) (hok : HOk P w H s₁.heap) (hA : ∀ b, H b ≠ none → b = a) (hK : H a ≠ none → K.lookup a = none) :
    codeAny (model P w) callerA (.call (.ref fa) ⟨[.ref a], []⟩) (LawEnd s₁) s₁ := by
  have is_a : ∀ {b : Addr} {u : HO}, H b = some u → b = a := fun {b u} q => hA b (by rw [q]; exact fun z => nomatch z)
  have none_at : ∀ {b : Addr} {o : Obj} {es : Array DictEntry} {ep : Nat}, s₁.heap.get? b = some o → o.data = .dict es ep → H b = none := by
    intro b o es ep e d
    cases q : H b with
    | none => rfl
    | some u =>
      have e1 := is_a q
      rw [e1, ha] at e
      rw [← Option.some.inj e] at d
      cases d
  have ns_hid : ∀ {b : Addr} {m : Str → Option Value}, s₁.heap.Ns b m → (hidT s₁.heap H).Ns b m := by
    intro b m z
    obtain ⟨o, es, ep, e, d, rest⟩ := z
    exact ⟨o, es, ep, hidT_get e (none_at e d), d, rest⟩
  have k_hid : K.In (hidT s₁.heap H) := by
    intro b o e
    apply hidT_get (KX b o e)
    cases q : H b with
    | none => rfl
    | some u =>
      have e1 := is_a q
      rw [e1] at e q
      rw [hK (by rw [q]; exact fun z => nomatch z)] at e
      cases e
  have lim : (hidT s₁.heap H).NoLimit := by
    obtain ⟨mc, z1, z2⟩ := hlim
    exact ⟨mc, ns_hid z1, z2⟩
  have start : Env0 P w K mg (hidT s₁.heap H) callerA [] s₁ H := {
    frames := rfl
    mod := ⟨k_hid, ns_hid hns, ⟨mb, ns_hid hb, hbb⟩, lim⟩
    bs := fun b o e => of_hidT e
    bsz := Nat.le_of_eq (hidT_size _ _)
    funs := trivial
    frf := fun b z => absurd (show b ∈ ([] : List Addr) from z) (by simp)
    hok := hok
    bare := .of_eq hg }
  apply codeAny_mono ((F _ k_hid (ns_hid hns)).run callerA [] s₁ H ⟨[.ref a], []⟩ [.ref a] [.ref a] _ _ hr start (hbind s₁ (.ref a)) (.cons rfl .nil) hsp)
  intro r s2 h
  cases r with
  | error e => exact (hCX H e s2 h).elim
  | ok fl =>
    cases fl with
    | next => exact h.elim
    | brk => exact h.elim
    | cont => exact h.elim
    | ret u =>
      obtain ⟨v, H2, os, bare, un, hok2, rv, q⟩ := h
      obtain rfl : v = .bl true := q
      obtain rfl : u = Value.bool true := rv
      refine ⟨rfl, OldK.of_keep ?_, os, bare⟩
      intro b o e
      cases q : H b with
      | none => exact un.keep b o e q (fun z => absurd (show b ∈ ([] : List Addr) from z) (by simp)) (by simp)
      | some u =>
        cases only b with
        | inl z => rw [q] at z; cases z
        | inr z =>
          obtain ⟨ob, xs, z⟩ := z
          obtain ⟨e1, _⟩ := hok b _ z
          obtain ⟨e2, _⟩ := hok2 b _ (un.frzs b ob _ z)
          have e3 := e1.symm.trans e
          rw [← Option.some.inj e3]
          exact e2
theorem lawG_call (KX : K.In s₁.heap) (hns : s₁.heap.Ns mainGlobals mg) (hb : s₁.heap.Ns builtinsNs mb) (hbb : ∀ x : Str, x ≠ "__name__" → mb x = bootBuiltins x) (hlim : s₁.heap.NoLimit) (hg : s₁.gens = #[])
    (ha : s₁.heap.get? a = some { cls := .type "list", data := .seq vs.toArray }) (hi : IntsAre vs ns) (hl : ns.length ≤ sizeLine) (hr : RoomG true k callerA)
    (F : ∀ base : Heap, K.In base → base.Ns mainGlobals mg → FnG true P w K mg base CX k fa fd [x] sp) (hbind : ∀ (s : Shared) (u : Value), BindsTo s fd ⟨[u], []⟩ [(x, u)])
    (hsp : ∀ H : Hp, Only H → SqL K H a (ns.map V.int) → sp [.ref a] H (fun v _ => v = .bl true) fun _ _ _ => False) (hCX : ∀ H e s', CX [] H s₁ (fun _ _ _ => False) e s' → False) :
    codeAny (model P w) callerA (.call (.ref fa) ⟨[.ref a], []⟩) (LawEnd s₁) s₁ := by
  have rv := vals_ints hi
  have core := lawG_core KX hns hb hbb hlim hg ha hr F hbind hCX
  cases hk : K.lookup a with
  | some o =>
    have e := KX a o hk
    rw [ha] at e
    have eo := Option.some.inj e
    rw [← eo] at hk
    have on0 : Only fun _ => none := fun _ => .inl rfl
    have sq : SqL K (fun _ => none) a (ns.map V.int) := .inr ⟨_, vs.toArray, _, hk, rfl, rfl, rfl, by rw [List.size_toArray, hi.length]; exact hl, by simpa using rv⟩
    exact core _ on0 (hsp _ on0 sq) (fun b u z => nomatch (show (none : Option HO) = some u from z)) (fun b z => absurd rfl z) fun z => absurd rfl z
  | none =>
    let H1 : Hp := fun b => if b = a then some (.frz { cls := .type "list", data := .seq vs.toArray } (.lst (ns.map V.int))) else none
    have at_a : H1 a = some (.frz { cls := .type "list", data := .seq vs.toArray } (.lst (ns.map V.int))) := if_pos rfl
    have at_o : ∀ b, b ≠ a → H1 b = none := fun b h => if_neg h
    have on1 : Only H1 := fun b => by
      by_cases h : b = a
      · exact .inr ⟨_, _, by rw [h]; exact at_a⟩
      · exact .inl (at_o b h)
    have ok1 : HOk P w H1 s₁.heap := fun b u z => by
      by_cases h : b = a
      · rw [h, at_a] at z
        rw [h, ← Option.some.inj z]
        exact ⟨ha, by rw [List.length_map]; exact hl, vs, _, rv, ha⟩
      · rw [at_o b h] at z
        cases z
    exact core H1 on1 (hsp H1 on1 (.inl (.inr ⟨{ cls := .type "list", data := .seq vs.toArray }, at_a⟩))) ok1 (fun b z => Classical.byContradiction fun h => z (at_o b h)) fun _ => hk
end
end DN
namespace DN
open PySem PySem.Spec PyProof.Rows L2 OP
abbrev Takes (X : Cx) (W : WX) : Prop := L2N.Takes X W
section
variable {X : Cx} {W : WX} {E : XK}
theorem passAt (tk : Takes X W) (σ : L2.St) : PassesAt (L2N.CX X.prog X.w) X σ (WE W σ) := L2N.passAt tk σ
theorem takes_of (h1 : X.stack = X.env :: X.outer) (h2 : X.env.frame = some X.env.locals) (h3 : X.ex = []) {E₁ : Value → Shared → Prop}
    (h4 : X.xe = fun e s' => wpAny (model X.prog X.w) X.A (leaving X.env e) (fun _ t => L2N.CX X.prog X.w X.outer X.H_0 X.s_0 E e t) E₁ s') : Takes X (fun cls d _ H => E cls d H) := L2N.takes_of h1 h2 h3 h4
theorem passes_call (tk : Takes X W) (h : ∀ cls d σ H, E cls d H → W cls d σ H) : Passes (L2N.CX X.prog X.w) X E := L2N.passes_call tk h
end
section
variable {X : Cx} {pins : List (Addr × Obj)} {σ : L2.St} {H1 H2 : Hp} {Q : XK} {a C d : Addr} {fs : List (Str × V)} {e : Expr} {es : List Expr} {ta : TA} {p pos : Pos}
/-- an error with an own __init__ is made: its context is None -/
theorem pmk_oexN {CX : CXT} {x : Str} {fI : Addr} {k : Nat} {fd : FuncData} {ps : List Str} {sp : Sp} {ds : List Value} {dvs : List V} (T : OexC X.K C)
    (iC : PySem.W.findIn X.K (.ref C) "__init__" = some (some (.ref fI)))
    (tI : PySem.W.typeIn X.K (.ref fI) = some (.type "function"))
    (F1 : FnOk X.prog X.w X.K X.mg X.base CX k fI fd ps sp) (hr : Room (k + 1) X.A) (hb : Binds X.K fd ps ds) (hd : Vals dvs ds)
    (hx : Passes CX X (fun _ _ _ => False)) (hg : Gl X x) (hm : X.mg x = some (.ref C)) (ha : PA X (e :: es) ta)
    (hdb : (x == ("__debug__" : Str)) = false := by decide)
    (he : starEach (e :: es) X.env = (false, eval e X.env) :: starEach es X.env := by rfl)
    (hpl : (backTo pos (starEach es X.env)).any (·.1) = false := by rfl) :
    L2N.PMk X (.Call (.Name x p) (e :: es) [] pos) (tMkO C sp dvs ta) := by
  intro pins s σ H Q I h
  obtain ⟨_, _, _, _, bm, _, _, _, _, _, _, _, _, _, _, clsAt, bmAt⟩ := T.cls
  apply wpAny_Call_Name_kw (ld_glob I hg hm _ hdb)
  apply PySem.W.callWith_K (h₀ := X.base) I.ok.mod.kin T.kC _ he hpl
  apply thn (ha.run pos pins s σ H _ I h)
  rintro us ⟨hp, g, dr, tk, os⟩ ⟨vs, H1, J1, rv, hz, q1⟩
  refine ⟨J1.kIn, ?_⟩
  show wpAny _ _ (call (.ref C) us) _ _ _
  have up1 : hp.objs.size ≤ hp.objs.size + 1 := Nat.le_succ _
  have new1 : H1 (hp.objs.size + 1) = none := J1.hok.fresh up1
  have want := q1 (hp.objs.size + 1) new1
  have stays : ∀ b o, hp.get? b = some o → ((hp.push (PySem.W.kdv_tup us)).push (PySem.HandSPX.excO C hp.objs.size)).get? b = some o :=
    fun b o z => Heap.get?_push_of_some _ (Heap.get?_push_of_some _ z)
  have there : ((hp.push (PySem.W.kdv_tup us)).push (PySem.HandSPX.excO C hp.objs.size)).get? (hp.objs.size + 1) = some (PySem.HandSPX.excO C hp.objs.size) := by
    heap_get
  have J2 : Inv X pins σ (upd H1 (hp.objs.size + 1) (exo (hp.objs.size + 1) C none)) ⟨(hp.push (PySem.W.kdv_tup us)).push (PySem.HandSPX.excO C hp.objs.size), g, dr, tk, os⟩ :=
    J1.laid (t' := tk) (a := hp.objs.size + 1) (o := exo (hp.objs.size + 1) C none)
      (h' := (hp.push (PySem.W.kdv_tup us)).push (PySem.HandSPX.excO C hp.objs.size)) stays up1 (exo_ok there)
  have rs : Vals (V.ref (hp.objs.size + 1) :: (vs ++ dvs)) (Value.ref (hp.objs.size + 1) :: (us ++ ds)) := .cons rfl (rv.append hd)
  have many : (Value.ref (hp.objs.size + 1) :: us ++ ds).length = ps.length := by
    have z := rs.length
    rw [F1.len _ _ _ _ want] at z
    exact z.symm
  have few : us.length ≤ sizeLine := by
    rw [← Paired.length rv, sizeLine_eq]
    omega
  apply wpAny_call
  apply PySem.HandSPX.call_own F.excBase_ValueError (fun Y => PySem.HandSPX.refsVE_contains Y bm bmAt) (J1.kIn _ _ clsAt)
    (PySem.W.looks_findIn J1.kIn iC) (fun self => PySem.W.bind_fn J1.kIn self tI) few
  apply codeAny_mono (F1.run _ X.stack _ _ ⟨Value.ref (hp.objs.size + 1) :: us, []⟩ (Value.ref (hp.objs.size + 1) :: (us ++ ds)) _ _
    (fun _ _ _ => False) (hr.make C us []) (J2.env0.make C us []) (hb _ (Value.ref (hp.objs.size + 1) :: us) J2.kIn many) rs want)
  intro r s' hq
  match r with
  | .error er => exact hx pins σ _ _ er s' J2 hq
  | .ok (.ret u) =>
    obtain ⟨v, H2, o2, bare2, un2, hok2, ru, ev, d, fs, ea, ed, hd1, q2⟩ := hq
    subst ev
    obtain ⟨h2, g2, d2, t2, os'⟩ := s'
    obtain ⟨t0, G, J, kG, ge, hoe, na⟩ := mk_end0 (d2 := d2) (t2 := t2) J1 up1 stays un2 hok2 o2 bare2 ea ed hd1
    refine ⟨ru, hp.objs.size + 1, _, _, ⟨G, g2, d2, t2, os'⟩, _, .ref C, some d, rfl, J, kG, ge, hoe, ⟨rfl, rfl, ?_⟩, rfl, rfl, na, rfl, bare2, raises_own T.exC T.tyC, q2⟩
    intro vs e
    cases e
    rfl
  | .ok .next => exact False.elim hq
  | .ok .brk => exact False.elim hq
  | .ok .cont => exact False.elim hq
end
end DN
namespace DN
open PySem PySem.Spec PyProof.Rows L2 Evl
/-- a value that does not change: a tree -/
inductive Dv where
  | non | bl (b : Bool) | int (i : Int) | str (s : Str) | ty (n : String) | cls (c : String)
  | lst (l : List Dv) | tup (l : List Dv) | obj (c : String) (l : List Dv) | dic (t : Bool) (ks vs : List Dv) | scr (l : List Int) | ktp (l : List Dv)
instance : Inhabited Dv := ⟨.non⟩
/-- what a name may hold: a value, a cell -/
inductive Vr where
  | d (v : Dv) | r (n : Nat)
/-- a list whose items may change: rows that stand in the cells ahead of it, or values and other cells -/
inductive Tb where
  | rows (l : List (List Dv)) | vl (l : List Vr)
/-- a thing that may change; it is made of values that do not -/
inductive Cell where
  | lst (l : List Dv) | ob (c : String) (l : List Dv) | dc (t : Bool) (ks vs : List Dv) | dead | tab (t : Tb)
abbrev Sto := List Cell
/-- what is fixed: the written part, the classes' addresses, their fields -/
structure Zt where
  K : PySem.W.Frag
  cm : String → Addr
/-- the fields of the package's classes, in the order in which they are set -/
def flds (c : String) : List Str :=
  if c = "Web" then ["houses", "ties", "known", "beside"]
  else if c = "Addresses" then ["kept"]
  else if c = "Tree" then ["spans", "web", "root", "parents", "lists", "ranks"]
  else if c = "LongWeb" then ["web", "spans", "rows"]
  else if c = "LongTree" then ["long", "row", "parents", "houses", "lists"]
  else if c = "Stand" then ["own_names", "ties"]
  else if c = "Post" then ["past"]
  else []
def key? : Dv → Option Key
  | .int i => some (.inl i)
  | .str s => some (.inr s)
  | _ => none
def tkey? : Dv → Option (List Key)
  | .tup l => l.mapM key?
  | _ => none
def DicAt (t : Bool) (o : Option HO) (ks : List Dv) (ws : List V) : Prop := match t with
  | false => ∃ kk : List Key, ks.map key? = kk.map some ∧ o = some (.dK (kk.zip ws))
  | true => ∃ kk : List (List Key), ks.map tkey? = kk.map some ∧ o = some (.dT (kk.zip ws))
/-- a tuple whose object is known: of the base, or laid so that it is -/
def KT (K : PySem.W.Frag) (G : Hp) (a : Addr) (xs : List V) : Prop :=
  (SqT K (fun _ => none) a xs ∧ ∃ o, K.lookup a = some o ∧ o.cls = .type "tuple" ∧ o.dict = none) ∨ ∃ o : Obj, o.cls = .type "tuple" ∧ o.dict = none ∧ G a = some (.frz o (.tup xs))
mutual
/-- v stands for d, by the known part G -/
def On (Z : Zt) (G : Hp) : Dv → V → Prop
  | .non, v => v = .non
  | .bl b, v => v = .bl b
  | .int i, v => v = .int i
  | .str s, v => v = .str s
  | .ty s, v => v = .ty s
  | .cls c, v => v = .ref (Z.cm c)
  | .scr l, v => ∃ a, v = .ref a ∧ SqL Z.K G a (l.map V.int)
  | .ktp l, v => ∃ a xs, v = .ref a ∧ KT Z.K G a xs ∧ OnL Z G l xs
  | .lst l, v => ∃ a xs, v = .ref a ∧ G a = some (.lst xs) ∧ OnL Z G l xs
  | .tup l, v => ∃ a xs, v = .ref a ∧ G a = some (.tup xs) ∧ OnL Z G l xs
  | .obj c l, v => ∃ a dx xs, v = .ref a ∧ G a = some (.ins (Z.cm c) dx ((flds c).zip xs)) ∧ l.length ≤ (flds c).length ∧ OnL Z G l xs
  | .dic t ks vs, v => ∃ a ws, v = .ref a ∧ DicAt t (G a) ks ws ∧ ks.length = ws.length ∧ OnL Z G vs ws
def OnL (Z : Zt) (G : Hp) : List Dv → List V → Prop
  | [], xs => xs = []
  | d :: l, xs => ∃ y ys, xs = y :: ys ∧ On Z G d y ∧ OnL Z G l ys
end
theorem KT.up {K : PySem.W.Frag} {G H : Hp} (e : Ex G H) {a : Addr} {xs : List V} (h : KT K G a xs) : KT K H a xs := by
  rcases h with h | ⟨o, h1, h2, h3⟩
  · exact .inl h
  · exact .inr ⟨o, h1, h2, e _ _ h3⟩
theorem KT.sq {K : PySem.W.Frag} {G H : Hp} (e : Ex G H) {a : Addr} {xs : List V} (h : KT K G a xs) : SqT K H a xs := by
  rcases h with ⟨(h | ⟨o, h⟩) | h, _⟩ | ⟨o, _, _, h⟩
  · cases h
  · cases h
  · exact .inr h
  · exact .inl (.inr ⟨o, e _ _ h⟩)
theorem DicAt.up {G H : Hp} (e : Ex G H) {t : Bool} {a : Addr} {ks : List Dv} {ws : List V} (h : DicAt t (G a) ks ws) : DicAt t (H a) ks ws := by
  cases t with
  | false => obtain ⟨kk, h1, h2⟩ := h; exact ⟨kk, h1, e _ _ h2⟩
  | true => obtain ⟨kk, h1, h2⟩ := h; exact ⟨kk, h1, e _ _ h2⟩
def Px (α β : List Addr) : Prop := ∃ γ, β = α ++ γ
theorem Px.refl (α : List Addr) : Px α α := ⟨[], by simp⟩
theorem Px.trans {α β γ : List Addr} (a : Px α β) (b : Px β γ) : Px α γ := by
  obtain ⟨x, rfl⟩ := a
  obtain ⟨y, rfl⟩ := b
  exact ⟨x ++ y, by rw [List.append_assoc]⟩
theorem Px.get {α β : List Addr} (a : Px α β) {n : Nat} {x : Addr} (h : α[n]? = some x) : β[n]? = some x := by
  obtain ⟨y, rfl⟩ := a
  rw [List.getElem?_append_left (List.getElem?_eq_some_iff.mp h).1]
  exact h
theorem Px.mem {α β : List Addr} (a : Px α β) {x : Addr} (h : x ∈ α) : x ∈ β := by
  obtain ⟨y, rfl⟩ := a
  exact List.mem_append_left _ h
section
variable {Z : Zt} {G G' H H' : Hp} {α β : List Addr}
mutual
theorem On.up (e : Ex G G') : ∀ {d : Dv} {v : V}, On Z G d v → On Z G' d v
  | .non, _, h => by unfold On at h ⊢; exact h
  | .bl _, _, h => by unfold On at h ⊢; exact h
  | .int _, _, h => by unfold On at h ⊢; exact h
  | .str _, _, h => by unfold On at h ⊢; exact h
  | .ty _, _, h => by unfold On at h ⊢; exact h
  | .cls _, _, h => by unfold On at h ⊢; exact h
  | .scr l, v, h => by
    unfold On at h ⊢
    obtain ⟨a, h1, h2⟩ := h
    exact ⟨a, h1, ex_l e h2⟩
  | .lst l, v, h => by
    unfold On at h ⊢
    obtain ⟨a, xs, h1, h2, h3⟩ := h
    exact ⟨a, xs, h1, e _ _ h2, OnL.up e h3⟩
  | .ktp l, v, h => by
    unfold On at h ⊢
    obtain ⟨a, xs, h1, h2, h3⟩ := h
    exact ⟨a, xs, h1, h2.up e, OnL.up e h3⟩
  | .tup l, v, h => by
    unfold On at h ⊢
    obtain ⟨a, xs, h1, h2, h3⟩ := h
    exact ⟨a, xs, h1, e _ _ h2, OnL.up e h3⟩
  | .obj c l, v, h => by
    unfold On at h ⊢
    obtain ⟨a, dx, xs, h1, h2, h4, h3⟩ := h
    exact ⟨a, dx, xs, h1, e _ _ h2, h4, OnL.up e h3⟩
  | .dic t ks l, v, h => by
    unfold On at h ⊢
    obtain ⟨a, xs, h1, h2, h4, h3⟩ := h
    exact ⟨a, xs, h1, h2.up e, h4, OnL.up e h3⟩
theorem OnL.up (e : Ex G G') : ∀ {l : List Dv} {xs : List V}, OnL Z G l xs → OnL Z G' l xs
  | [], _, h => by unfold OnL at h ⊢; exact h
  | d :: l, xs, h => by
    unfold OnL at h ⊢
    obtain ⟨y, ys, h1, h2, h3⟩ := h
    exact ⟨y, ys, h1, On.up e h2, OnL.up e h3⟩
end
theorem OnL.nil {xs : List V} : OnL Z G [] xs ↔ xs = [] := by unfold OnL; exact Iff.rfl
theorem OnL.cons {d : Dv} {l : List Dv} {xs : List V} : OnL Z G (d :: l) xs ↔ ∃ y ys, xs = y :: ys ∧ On Z G d y ∧ OnL Z G l ys := by
  constructor
  · intro h; unfold OnL at h; exact h
  · intro h; unfold OnL; exact h
theorem OnL.cons' {d : Dv} {l : List Dv} {y : V} {ys : List V} (h : On Z G d y) (t : OnL Z G l ys) : OnL Z G (d :: l) (y :: ys) := OnL.cons.mpr ⟨y, ys, rfl, h, t⟩
theorem OnL.nil' : OnL Z G [] [] := OnL.nil.mpr rfl
theorem OnL.one {d : Dv} {xs : List V} (h : OnL Z G [d] xs) : ∃ y, xs = [y] ∧ On Z G d y := by
  obtain ⟨y, ys, rfl, h2, h3⟩ := OnL.cons.mp h
  rw [OnL.nil.mp h3]
  exact ⟨y, rfl, h2⟩
theorem OnL.two {d e : Dv} {xs : List V} (h : OnL Z G [d, e] xs) : ∃ y z, xs = [y, z] ∧ On Z G d y ∧ On Z G e z := by
  obtain ⟨y, ys, rfl, h2, h3⟩ := OnL.cons.mp h
  obtain ⟨z, rfl, h4⟩ := h3.one
  exact ⟨y, z, rfl, h2, h4⟩
theorem OnL.len : ∀ {l : List Dv} {xs : List V}, OnL Z G l xs → xs.length = l.length
  | [], _, h => by rw [OnL.nil.mp h]; rfl
  | d :: l, xs, h => by
    obtain ⟨y, ys, rfl, _, h3⟩ := OnL.cons.mp h
    rw [List.length_cons, List.length_cons, OnL.len h3]
theorem OnL.app : ∀ {l m : List Dv} {xs ys : List V}, OnL Z G l xs → OnL Z G m ys → OnL Z G (l ++ m) (xs ++ ys)
  | [], _, _, _, h, g => by rw [OnL.nil.mp h]; exact g
  | d :: l, m, xs, ys, h, g => by
    obtain ⟨y, zs, rfl, h2, h3⟩ := OnL.cons.mp h
    exact OnL.cons' h2 (OnL.app h3 g)
theorem OnL.get : ∀ {l : List Dv} {xs : List V} {i : Nat} {d : Dv}, OnL Z G l xs → l[i]? = some d → ∃ x, xs[i]? = some x ∧ On Z G d x
  | [], _, _, _, _, e => by simp at e
  | c :: l, xs, 0, d, h, e => by
    obtain ⟨y, ys, rfl, h2, h3⟩ := OnL.cons.mp h
    simp at e
    subst e
    exact ⟨y, rfl, h2⟩
  | c :: l, xs, i + 1, d, h, e => by
    obtain ⟨y, ys, rfl, h2, h3⟩ := OnL.cons.mp h
    obtain ⟨x, h4, h5⟩ := OnL.get (i := i) h3 (by simpa using e)
    exact ⟨x, by simpa using h4, h5⟩
theorem OnL.got : ∀ {l : List Dv} {xs : List V} {i : Nat} {x : V}, OnL Z G l xs → xs[i]? = some x → ∃ d, l[i]? = some d ∧ On Z G d x
  | [], xs, i, x, h, e => by rw [OnL.nil.mp h] at e; simp at e
  | c :: l, xs, 0, d, h, e => by
    obtain ⟨y, ys, rfl, h2, h3⟩ := OnL.cons.mp h
    simp at e
    subst e
    exact ⟨c, rfl, h2⟩
  | c :: l, xs, i + 1, d, h, e => by
    obtain ⟨y, ys, rfl, h2, h3⟩ := OnL.cons.mp h
    obtain ⟨x, h4, h5⟩ := OnL.got (i := i) h3 (by simpa using e)
    exact ⟨x, by simpa using h4, h5⟩
theorem OnL.set : ∀ {l : List Dv} {xs : List V} {i : Nat} {d : Dv} {x : V}, OnL Z G l xs → On Z G d x → OnL Z G (l.set i d) (xs.set i x)
  | [], xs, i, d, x, h, e => by rw [OnL.nil.mp h]; exact OnL.nil'
  | c :: l, xs, 0, d, x, h, e => by
    obtain ⟨y, ys, rfl, h2, h3⟩ := OnL.cons.mp h
    exact OnL.cons' e h3
  | c :: l, xs, i + 1, d, x, h, e => by
    obtain ⟨y, ys, rfl, h2, h3⟩ := OnL.cons.mp h
    exact OnL.cons' h2 (OnL.set h3 e)
theorem OnL.take : ∀ {l : List Dv} {xs : List V} (n : Nat), OnL Z G l xs → OnL Z G (l.take n) (xs.take n)
  | _, _, 0, _ => by rw [List.take_zero, List.take_zero]; exact OnL.nil'
  | [], _, n + 1, h => by rw [OnL.nil.mp h]; exact OnL.nil'
  | d :: l, _, n + 1, h => by
    obtain ⟨y, ys, rfl, h2, h3⟩ := OnL.cons.mp h
    exact OnL.cons' h2 (OnL.take n h3)
theorem OnL.drop : ∀ {l : List Dv} {xs : List V} (n : Nat), OnL Z G l xs → OnL Z G (l.drop n) (xs.drop n)
  | _, _, 0, h => h
  | [], _, n + 1, h => by rw [OnL.nil.mp h]; exact OnL.nil'
  | d :: l, _, n + 1, h => by
    obtain ⟨y, ys, rfl, h2, h3⟩ := OnL.cons.mp h
    exact OnL.drop n h3
/-- what v is at its top, in the heap as it stands; its parts are known -/
def OnH (Z : Zt) (G H : Hp) : Dv → V → Prop
  | .non, v => v = .non
  | .bl b, v => v = .bl b
  | .int i, v => v = .int i
  | .str s, v => v = .str s
  | .ty s, v => v = .ty s
  | .cls c, v => v = .ref (Z.cm c)
  | .scr l, v => ∃ a, v = .ref a ∧ SqL Z.K G a (l.map V.int)
  | .lst l, v => ∃ a xs, v = .ref a ∧ H a = some (.lst xs) ∧ OnL Z G l xs
  | .ktp l, v => ∃ a xs, v = .ref a ∧ KT Z.K G a xs ∧ OnL Z G l xs
  | .tup l, v => ∃ a xs, v = .ref a ∧ G a = some (.tup xs) ∧ OnL Z G l xs
  | .obj c l, v => ∃ a dx xs, v = .ref a ∧ H a = some (.ins (Z.cm c) dx ((flds c).zip xs)) ∧ l.length ≤ (flds c).length ∧ OnL Z G l xs
  | .dic t ks vs, v => ∃ a ws, v = .ref a ∧ DicAt t (H a) ks ws ∧ ks.length = ws.length ∧ OnL Z G vs ws
theorem On.h (e : Ex G H) {d : Dv} {v : V} (h : On Z G d v) : OnH Z G H d v := by
  cases d with
  | scr l => unfold On at h; exact h
  | lst l => unfold On at h; obtain ⟨a, xs, h1, h2, h3⟩ := h; exact ⟨a, xs, h1, e _ _ h2, h3⟩
  | ktp l => unfold On at h; exact h
  | tup l => unfold On at h; exact h
  | obj c l => unfold On at h; obtain ⟨a, dx, xs, h1, h2, h4, h3⟩ := h; exact ⟨a, dx, xs, h1, e _ _ h2, h4, h3⟩
  | dic t ks l => unfold On at h; obtain ⟨a, xs, h1, h2, h4, h3⟩ := h; exact ⟨a, xs, h1, h2.up e, h4, h3⟩
  | _ => unfold On at h; exact h
theorem OnH.on (e : Ex G H) {d : Dv} {v : V} (h : OnH Z G H d v) : On Z H d v := by
  cases d with
  | lst l => obtain ⟨a, xs, h1, h2, h3⟩ := h; unfold On; exact ⟨a, xs, h1, h2, h3.up e⟩
  | scr l => obtain ⟨a, h1, h2⟩ := h; unfold On; exact ⟨a, h1, ex_l e h2⟩
  | ktp l => obtain ⟨a, xs, h1, h2, h3⟩ := h; unfold On; exact ⟨a, xs, h1, h2.up e, h3.up e⟩
  | tup l => obtain ⟨a, xs, h1, h2, h3⟩ := h; unfold On; exact ⟨a, xs, h1, e _ _ h2, h3.up e⟩
  | obj c l => obtain ⟨a, dx, xs, h1, h2, h4, h3⟩ := h; unfold On; exact ⟨a, dx, xs, h1, h2, h4, h3.up e⟩
  | dic t ks l => obtain ⟨a, xs, h1, h2, h4, h3⟩ := h; unfold On; exact ⟨a, xs, h1, h2, h4, h3.up e⟩
  | _ => unfold On; exact h
def CellAt (Z : Zt) (G : Hp) : Cell → Option HO → Prop
  | .lst l, o => ∃ xs, o = some (.lst xs) ∧ OnL Z G l xs
  | .ob c l, o => ∃ dx xs, o = some (.ins (Z.cm c) dx ((flds c).zip xs)) ∧ l.length ≤ (flds c).length ∧ OnL Z G l xs
  | .dc t ks vs, o => ∃ ws, DicAt t o ks ws ∧ ks.length = ws.length ∧ OnL Z G vs ws
  | .dead, o => o ≠ none
  | .tab _, _ => False
theorem CellAt.up {c : Cell} {o : Option HO} (e : Ex G G') (h : CellAt Z G c o) : CellAt Z G' c o := by
  cases c with
  | lst l => obtain ⟨xs, h1, h2⟩ := h; exact ⟨xs, h1, h2.up e⟩
  | ob c l => obtain ⟨dx, xs, h1, h3, h2⟩ := h; exact ⟨dx, xs, h1, h3, h2.up e⟩
  | dc t ks vs => obtain ⟨xs, h1, h3, h2⟩ := h; exact ⟨xs, h1, h3, h2.up e⟩
  | dead => exact h
  | tab rows => exact h.elim
theorem DicAt.ne {t : Bool} {o : Option HO} {ks : List Dv} {ws : List V} (h : DicAt t o ks ws) : o ≠ none := by
  cases t with
  | false => obtain ⟨kk, h1, h2⟩ := h; rw [h2]; exact fun h => nomatch h
  | true => obtain ⟨kk, h1, h2⟩ := h; rw [h2]; exact fun h => nomatch h
theorem CellAt.ne {c : Cell} {o : Option HO} (h : CellAt Z G c o) : o ≠ none := by
  cases c with
  | lst l => obtain ⟨xs, h1, h2⟩ := h; rw [h1]; exact fun h => nomatch h
  | ob c l => obtain ⟨dx, xs, h1, h3, h2⟩ := h; rw [h1]; exact fun h => nomatch h
  | dc t ks vs => obtain ⟨xs, h1, h3, h2⟩ := h; exact h1.ne
  | dead => exact h
  | tab rows => exact h.elim
def OnR (Z : Zt) (G : Hp) (α : List Addr) : Vr → V → Prop
  | .d d, v => On Z G d v
  | .r n, v => ∃ a, v = .ref a ∧ α[n]? = some a
theorem OnR.up {r : Vr} {v : V} (e : Ex G G') (p : Px α β) (h : OnR Z G α r v) : OnR Z G' β r v := by
  cases r with
  | d d => exact On.up e h
  | r n => obtain ⟨a, h1, h2⟩ := h; exact ⟨a, h1, p.get h2⟩
def OnA (Z : Zt) (G : Hp) (α : List Addr) : List Vr → List V → Prop
  | [], xs => xs = []
  | d :: l, xs => ∃ y ys, xs = y :: ys ∧ OnR Z G α d y ∧ OnA Z G α l ys
theorem OnA.up (e : Ex G G') (p : Px α β) : ∀ {l : List Vr} {xs : List V}, OnA Z G α l xs → OnA Z G' β l xs
  | [], _, h => h
  | d :: l, xs, h => by
    obtain ⟨y, ys, h1, h2, h3⟩ := h
    exact ⟨y, ys, h1, h2.up e p, OnA.up e p h3⟩
theorem OnA.len : ∀ {l : List Vr} {xs : List V}, OnA Z G α l xs → xs.length = l.length
  | [], _, h => by rw [show _ = [] from h]; rfl
  | d :: l, xs, h => by
    obtain ⟨y, ys, rfl, _, h3⟩ := h
    rw [List.length_cons, List.length_cons, OnA.len h3]
/-- a list of lists, all of which may change: the rows stand in the cells ahead of it, which are dead for themselves -/
def TabIn (Z : Zt) (G : Hp) (H : Hp) (α : List Addr) (S : Sto) (n : Nat) (a : Addr) (rows : List (List Dv)) : Prop :=
  rows.length ≤ n ∧ ∃ xs, H a = some (.lst xs) ∧ xs.length = rows.length ∧ ∀ i row, rows[i]? = some row → ∃ b ys, α[n - rows.length + i]? = some b ∧ S[n - rows.length + i]? = some .dead ∧ xs[i]? = some (.ref b) ∧ G b = none ∧ H b = some (.lst ys) ∧ OnL Z G row ys
/-- the cells that the items name are such, wherever α is kept -/
theorem OnA.mv (e : Ex G G') : ∀ {l : List Vr} {xs : List V}, (∀ (m : Nat), Vr.r m ∈ l → ∀ b : Addr, α[m]? = some b → β[m]? = some b) → OnA Z G α l xs → OnA Z G' β l xs
  | [], _, _, h => h
  | d :: l, xs, k, h => by
    obtain ⟨y, ys, h1, h2, h3⟩ := h
    refine ⟨y, ys, h1, ?_, OnA.mv e (fun m hm => k m (List.mem_cons_of_mem _ hm)) h3⟩
    cases d with
    | d d => exact On.up e h2
    | r n => obtain ⟨c, q1, q2⟩ := h2; exact ⟨c, q1, k n List.mem_cons_self c q2⟩
/-- a list of values and of cells that stand ahead of it -/
def VlIn (Z : Zt) (G : Hp) (H : Hp) (α : List Addr) (n : Nat) (a : Addr) (l : List Vr) : Prop :=
  (∀ m, Vr.r m ∈ l → m < n) ∧ ∃ xs, H a = some (.lst xs) ∧ OnA Z G α l xs
/-- what a cell says of the heap -/
def CellIn (Z : Zt) (G : Hp) (H : Hp) (α : List Addr) (S : Sto) (n : Nat) (a : Addr) : Cell → Prop
  | .tab (.rows rows) => TabIn Z G H α S n a rows
  | .tab (.vl l) => VlIn Z G H α n a l
  | c => CellAt Z G c (H a)
theorem CellIn.of {n : Nat} {a : Addr} {c : Cell} {S : Sto} (h : CellAt Z G c (H a)) : CellIn Z G H α S n a c := by
  cases c <;> first | exact h | exact h.elim
theorem CellIn.at {n : Nat} {a : Addr} {c : Cell} {S : Sto} (h : CellIn Z G H α S n a c) (ht : ∀ r, c ≠ .tab r) : CellAt Z G c (H a) := by
  cases c with
  | tab rows => exact absurd rfl (ht rows)
  | lst l => exact h
  | ob c l => exact h
  | dc t k l => exact h
  | dead => exact h
theorem CellIn.ne {n : Nat} {a : Addr} {c : Cell} {S : Sto} (h : CellIn Z G H α S n a c) : H a ≠ none := by
  cases c with
  | tab t =>
    cases t with
    | rows rows => obtain ⟨_, xs, h1, _⟩ := h; rw [h1]; exact fun h => nomatch h
    | vl l => obtain ⟨_, xs, h1, _⟩ := h; rw [h1]; exact fun h => nomatch h
  | lst l => exact CellAt.ne (show CellAt Z G (.lst l) (H a) from h)
  | ob c l => exact CellAt.ne (show CellAt Z G (.ob c l) (H a) from h)
  | dc t k l => exact CellAt.ne (show CellAt Z G (.dc t k l) (H a) from h)
  | dead => exact CellAt.ne (show CellAt Z G .dead (H a) from h)
/-- all that a cell speaks of stays -/
theorem CellIn.move {n : Nat} {a : Addr} {c : Cell} {S S' : Sto} {G' H' : Hp} {β : List Addr} (h : CellIn Z G H α S n a c) (eG : Ex G G') (ha : H' a = H a) (hα : ∀ (m : Nat) (b : Addr), m < n → α[m]? = some b → β[m]? = some b)
    (hr : ∀ (m : Nat) (b : Addr), m < n → α[m]? = some b → S[m]? = some .dead → G b = none → β[m]? = some b ∧ S'[m]? = some .dead ∧ G' b = none ∧ ∀ o, H b = some o → H' b = some o) : CellIn Z G' H' β S' n a c := by
  cases c with
  | tab t =>
    cases t with
    | rows rows =>
      obtain ⟨h1, xs, h2, h3, h4⟩ := h
      refine ⟨h1, xs, by rw [ha]; exact h2, h3, fun i row hi => ?_⟩
      obtain ⟨b, ys, q1, q2, q3, q4, q5, q6⟩ := h4 i row hi
      have hl := (List.getElem?_eq_some_iff.mp hi).1
      obtain ⟨r1, r2, r3, r4⟩ := hr _ b (by omega) q1 q2 q4
      exact ⟨b, ys, r1, r2, q3, r3, r4 _ q5, q6.up eG⟩
    | vl l =>
      obtain ⟨h1, xs, h2, h3⟩ := h
      exact ⟨h1, xs, by rw [ha]; exact h2, h3.mv eG fun m hm b hb => hα m b (h1 m hm) hb⟩
  | lst l => show CellAt Z G' (.lst l) (H' a); rw [ha]; exact CellAt.up eG (show CellAt Z G (.lst l) (H a) from h)
  | ob c l => show CellAt Z G' (.ob c l) (H' a); rw [ha]; exact CellAt.up eG (show CellAt Z G (.ob c l) (H a) from h)
  | dc t k l => show CellAt Z G' (.dc t k l) (H' a); rw [ha]; exact CellAt.up eG (show CellAt Z G (.dc t k l) (H a) from h)
  | dead => show CellAt Z G' .dead (H' a); rw [ha]; exact CellAt.up eG (show CellAt Z G .dead (H a) from h)
/-- the cells S stand at α, beside what is known -/
structure Hd (Z : Zt) (G : Hp) (α : List Addr) (S : Sto) (H : Hp) : Prop where
  ex : Ex G H
  len : α.length = S.length
  nd : α.Nodup
  at_ : ∀ (n : Nat) (a : Addr) (c : Cell), α[n]? = some a → S[n]? = some c → (c ≠ .dead → G a = none) ∧ CellIn Z G H α S n a c
structure Fr (G : Hp) (α : List Addr) (H : Hp) (G2 : Hp) (α2 : List Addr) (H2 : Hp) : Prop where
  g : Ex G G2
  a : Px α α2
  h : ∀ b o, H b = some o → b ∉ α → H2 b = some o
  n : ∀ b o, G b = none → H b = some o → (∀ xs, o ≠ HO.tup xs) → b ∉ α → G2 b = none
  m : ∀ b, b ∈ α2 → b ∈ α ∨ H b = none
  s : ∀ b, H b ≠ none → H2 b ≠ none
theorem Fr.refl (G : Hp) (α : List Addr) (H : Hp) : Fr G α H G α H := ⟨Ex.refl G, Px.refl α, fun _ _ h _ => h, fun _ _ h _ _ _ => h, fun _ h => .inl h, fun _ h => h⟩
theorem Fr.trans {G H G2 H2 G3 H3 : Hp} {α α2 α3 : List Addr} (x : Fr G α H G2 α2 H2) (y : Fr G2 α2 H2 G3 α3 H3) : Fr G α H G3 α3 H3 := by
  have k : ∀ b, H b ≠ none → b ∉ α → b ∉ α2 := fun b h1 h2 h3 => by
    rcases x.m b h3 with h | h
    · exact h2 h
    · exact h1 h
  refine ⟨x.g.trans y.g, x.a.trans y.a, fun b o h1 h2 => y.h b o (x.h b o h1 h2) (k b (by rw [h1]; exact fun h => nomatch h) h2), fun b o h1 h2 ht h3 => y.n b o (x.n b o h1 h2 ht h3) (x.h b o h2 h3) ht (k b (by rw [h2]; exact fun h => nomatch h) h3), fun b hb => ?_, fun b h => y.s b (x.s b h)⟩
  rcases y.m b hb with h | h
  · exact x.m b h
  · right
    cases q : H b with
    | none => rfl
    | some o => exact absurd h (x.s b (by rw [q]; exact fun h => nomatch h))
theorem Ex.ne {G H : Hp} (e : Ex G H) {a : Addr} (h : G a ≠ none) : H a ≠ none := by
  cases q : G a with
  | none => exact absurd q h
  | some o => rw [e a o q]; exact fun h => nomatch h
variable {S : Sto} {G2 H2 : Hp} {α2 : List Addr}
theorem Fr.back {a : Addr} (f : Fr G α H G2 α2 H2) (h : H2 a = none) : H a = none := by
  cases q : H a with
  | none => rfl
  | some o => exact absurd h (f.s a (by rw [q]; exact fun h => nomatch h))
theorem Hd.live (h : Hd Z G α S H) {a : Addr} (ha : a ∈ α) : H a ≠ none := by
  obtain ⟨n, hn, rfl⟩ := List.mem_iff_getElem.mp ha
  have h1 : α[n]? = some α[n] := List.getElem?_eq_getElem hn
  have h2 : n < S.length := by rw [← h.len]; exact hn
  exact (h.at_ n _ _ h1 (List.getElem?_eq_getElem h2)).2.ne
theorem Hd.cell (h : Hd Z G α S H) {n : Nat} {c : Cell} (hc : S[n]? = some c) : ∃ a, α[n]? = some a ∧ (c ≠ .dead → G a = none) ∧ CellIn Z G H α S n a c := by
  have h1 := (List.getElem?_eq_some_iff.mp hc).1
  have h2 : n < α.length := by rw [h.len]; exact h1
  exact ⟨α[n], List.getElem?_eq_getElem h2, h.at_ n _ c (List.getElem?_eq_getElem h2) hc⟩
theorem Hd.cell2 (h : Hd Z G α S H) {n : Nat} {a : Addr} (ha : α[n]? = some a) : ∃ c, S[n]? = some c ∧ (c ≠ .dead → G a = none) ∧ CellIn Z G H α S n a c := by
  have h1 := (List.getElem?_eq_some_iff.mp ha).1
  have h2 : n < S.length := by rw [← h.len]; exact h1
  exact ⟨S[n], List.getElem?_eq_getElem h2, h.at_ n a _ ha (List.getElem?_eq_getElem h2)⟩
/-- the heap grows beside -/
theorem Hd.grow {H2 : Hp} (h : Hd Z G α S H) (e : Ex H H2) : Hd Z G α S H2 := ⟨h.ex.trans e, h.len, h.nd, fun n a c h1 h2 => by
  obtain ⟨h3, h4⟩ := h.at_ n a c h1 h2
  refine ⟨h3, h4.move (Ex.refl G) ?_ (fun _ _ _ q => q) fun m b _ q1 q2 q3 => ⟨q1, q2, q3, fun o ho => e b o ho⟩⟩
  cases q : H a with
  | none => exact absurd q h4.ne
  | some o => exact e a o q⟩
theorem Fr.grow {H2 : Hp} (h : Hd Z G α S H) (e : Ex H H2) : Fr G α H G α H2 := ⟨Ex.refl G, Px.refl α, fun b o h1 _ => e b o h1, fun _ _ h _ _ _ => h, fun _ h => .inl h, fun b h => Ex.ne e h⟩
/-- a new thing is known -/
theorem Hd.know {p : Addr} {o : HO} (h : Hd Z G α S H) (hp : H p = none) : Hd Z (upd G p o) α S (upd H p o) ∧ Fr G α H (upd G p o) α (upd H p o) := by
  have hG : G p = none := fresh_back h.ex hp
  have hpa : ∀ a ∈ α, a ≠ p := fun a ha c => h.live ha (c ▸ hp)
  refine ⟨⟨OP.ex_upd h.ex, h.len, h.nd, fun n a c h1 h2 => ?_⟩, ⟨Ex.new hG, Px.refl α, fun b o' h1 _ => Ex.new hp b o' h1, fun b o' h1 h2 _ _ => ?_, fun _ h => .inl h, fun b h => Ex.ne (Ex.new hp) h⟩⟩
  · obtain ⟨h3, h4⟩ := h.at_ n a c h1 h2
    have ne := hpa a (List.mem_of_getElem? h1)
    refine ⟨fun hc => by rw [upd_ne ne]; exact h3 hc, h4.move (Ex.new hG) (upd_ne ne) (fun _ _ _ q => q) fun m b _ q1 q2 q3 => ?_⟩
    have nb := hpa b (List.mem_of_getElem? q1)
    exact ⟨q1, q2, by rw [upd_ne nb]; exact q3, fun o' ho => by rw [upd_ne nb]; exact ho⟩
  · have : b ≠ p := fun c => by subst c; rw [hp] at h2; cases h2
    rw [upd_ne this]
    exact h1
/-- what stands unknown at p, beside the cells, becomes known -/
theorem Hd.freeze {p : Addr} {o : HO} (h : Hd Z G α S H) (hG : G p = none) (ho : H p = some o) (hn : p ∉ α) : Hd Z (upd G p o) α S H := by
  obtain ⟨e1, e2⟩ := OP.Fr.freeze h.ex hG ho
  refine ⟨e2, h.len, h.nd, fun n a c h1 h2 => ?_⟩
  obtain ⟨h3, h4⟩ := h.at_ n a c h1 h2
  have ne : a ≠ p := fun c => hn (c ▸ List.mem_of_getElem? h1)
  refine ⟨fun hc => by rw [upd_ne ne]; exact h3 hc, h4.move e1 rfl (fun _ _ _ q => q) fun m b _ q1 q2 q3 => ?_⟩
  have nb : b ≠ p := fun c => hn (c ▸ List.mem_of_getElem? q1)
  exact ⟨q1, q2, by rw [upd_ne nb]; exact q3, fun o' ho => ho⟩
/-- it becomes a cell -/
theorem Hd.push {p : Addr} {c : Cell} (h : Hd Z G α S H) (hG : G p = none) (hn : p ∉ α) (hc : CellAt Z G c (H p)) : Hd Z G (α ++ [p]) (S ++ [c]) H := by
  refine ⟨h.ex, by rw [List.length_append, List.length_append, h.len]; rfl, ?_, fun n a d h1 h2 => ?_⟩
  · rw [List.nodup_append]
    exact ⟨h.nd, by simp, fun a ha b hb => by rw [List.mem_singleton.mp hb]; exact fun c => hn (c ▸ ha)⟩
  · by_cases hl : n < α.length
    · rw [List.getElem?_append_left hl] at h1
      rw [List.getElem?_append_left (by rw [← h.len]; exact hl)] at h2
      obtain ⟨h3, h4⟩ := h.at_ n a d h1 h2
      refine ⟨h3, h4.move (Ex.refl G) rfl (fun m b hm q => by rw [List.getElem?_append_left (by omega)]; exact q) fun m b hm q1 q2 q3 => ⟨?_, ?_, q3, fun o ho => ho⟩⟩
      · rw [List.getElem?_append_left (by omega)]; exact q1
      · rw [List.getElem?_append_left (by rw [← h.len]; omega)]; exact q2
    · rw [List.getElem?_append_right (by omega)] at h1
      rw [List.getElem?_append_right (by rw [← h.len]; omega)] at h2
      have hn0 : n - α.length = 0 := by
        cases q : n - α.length with
        | zero => rfl
        | succ m => rw [q] at h1; simp at h1
      rw [← h.len] at h2
      rw [hn0] at h1 h2
      simp at h1 h2
      subst h1 h2
      exact ⟨fun _ => hG, CellIn.of hc⟩
theorem Fr.push {p : Addr} (f : Fr G α H G2 α2 H2) (hp : H p = none) : Fr G α H G2 (α2 ++ [p]) H2 :=
  ⟨f.g, f.a.trans ⟨[p], rfl⟩, f.h, f.n, fun b hb => by
    rcases List.mem_append.mp hb with h | h
    · exact f.m b h
    · rw [List.mem_singleton.mp h]; exact .inr hp, f.s⟩
/-- a cell is changed -/
theorem Hd.put {n : Nat} {a : Addr} {c c2 : Cell} {o : HO} (h : Hd Z G α S H) (ha : α[n]? = some a) (hs : S[n]? = some c) (hc : c ≠ .dead) (h2 : CellAt Z G c2 (some o)) : Hd Z G α (S.set n c2) (upd H a o) ∧ Fr G α H G α (upd H a o) := by
  obtain ⟨h3, h4⟩ := h.at_ n a c ha hs
  have hG := h3 hc
  have hm := List.mem_of_getElem? ha
  refine ⟨⟨fun b u hb => ?_, by rw [List.length_set]; exact h.len, h.nd, fun m b d h5 h6 => ?_⟩, ⟨Ex.refl G, Px.refl α, fun b u h5 h6 => ?_, fun _ _ h _ _ _ => h, fun _ h => .inl h, fun b hb => ?_⟩⟩
  · have : b ≠ a := fun c => by subst c; rw [hG] at hb; cases hb
    rw [upd_ne this]
    exact h.ex b u hb
  · by_cases q : b = a
    · subst q
      have e : m = n := (List.getElem?_inj (List.getElem?_eq_some_iff.mp h5).1 h.nd).mp (h5.trans ha.symm)
      subst e
      rw [List.getElem?_set_self (List.getElem?_eq_some_iff.mp hs).1] at h6
      cases h6
      exact ⟨fun _ => hG, CellIn.of (by rw [upd_same]; exact h2)⟩
    · have e : n ≠ m := fun c => by subst c; rw [ha] at h5; exact q (Option.some.inj h5).symm
      rw [List.getElem?_set_ne e] at h6
      obtain ⟨h7, h8⟩ := h.at_ m b d h5 h6
      refine ⟨h7, h8.move (Ex.refl G) (upd_ne q) (fun _ _ _ q => q) fun k x _ q1 q2 q3 => ?_⟩
      have nk : n ≠ k := fun z => by subst z; rw [hs] at q2; exact hc (Option.some.inj q2)
      have nx : x ≠ a := fun z => by
        subst z
        exact nk ((List.getElem?_inj (List.getElem?_eq_some_iff.mp ha).1 h.nd).mp (ha.trans q1.symm))
      exact ⟨q1, by rw [List.getElem?_set_ne nk]; exact q2, q3, fun o' ho => by rw [upd_ne nx]; exact ho⟩
  · have : b ≠ a := fun c => h6 (c ▸ hm)
    rw [upd_ne this]
    exact h5
  · by_cases q : b = a
    · subst q; rw [upd_same]; exact fun h => nomatch h
    · rw [upd_ne q]; exact hb
/-- the cells behind k are forgotten -/
theorem Hd.cut (h : Hd Z G α S H) (k : Nat) : Hd Z G (α.take k) (S.take k) H := by
  refine ⟨h.ex, by rw [List.length_take, List.length_take, h.len], h.nd.sublist (List.take_sublist _ _), fun n a c h1 h2 => ?_⟩
  have hk : n < k := by
    have := (List.getElem?_eq_some_iff.mp h1).1
    rw [List.length_take] at this
    omega
  rw [List.getElem?_take_of_lt hk] at h1 h2
  obtain ⟨h3, h4⟩ := h.at_ n a c h1 h2
  refine ⟨h3, h4.move (Ex.refl G) rfl (fun m b hm q => by rw [List.getElem?_take_of_lt (by omega)]; exact q) fun m b hm q1 q2 q3 => ⟨?_, ?_, q3, fun o ho => ho⟩⟩
  · rw [List.getElem?_take_of_lt (by omega)]; exact q1
  · rw [List.getElem?_take_of_lt (by omega)]; exact q2
theorem Fr.cut (f : Fr G α H G2 α2 H2) : Fr G α H G2 α H2 := ⟨f.g, Px.refl α, f.h, f.n, fun b hb => .inl hb, f.s⟩
theorem Px.cut {α α2 : List Addr} (p : Px α α2) : α2.take α.length = α := by
  obtain ⟨γ, rfl⟩ := p
  rw [List.take_left']
  rfl
/-- what a name's thing is just now -/
def snap (S : Sto) : Vr → Option Dv
  | .d d => some d
  | .r n => match S[n]? with
    | some (.lst l) => some (.lst l)
    | some (.ob c l) => some (.obj c l)
    | some (.dc t ks vs) => some (.dic t ks vs)
    | _ => none
theorem snap_on {r : Vr} {v : V} {d : Dv} (h : Hd Z G α S H) (hr : OnR Z G α r v) (e : snap S r = some d) : OnH Z G H d v := by
  cases r with
  | d x => cases e; exact On.h h.ex hr
  | r n =>
    obtain ⟨a, rfl, ha⟩ := hr
    obtain ⟨c, h1, h2, h3⟩ := h.cell2 ha
    unfold snap at e
    simp only [h1] at e
    cases c with
    | lst l => cases e; obtain ⟨xs, h4, h5⟩ := h3; exact ⟨a, xs, rfl, h4, h5⟩
    | ob c l => cases e; obtain ⟨dx, xs, h4, h6, h5⟩ := h3; exact ⟨a, dx, xs, rfl, h4, h6, h5⟩
    | dc t ks vs => cases e; obtain ⟨ws, h4, h6, h5⟩ := h3; exact ⟨a, ws, rfl, h4, h6, h5⟩
    | dead => cases e
    | tab rows => cases e
end
end DN
namespace DN
open PySem PySem.Spec PyProof.Rows L2 Evl
/-- .. and what is caught: the exception's object, its class, its dict -/
structure Zx extends Zt where
  xc : Option (Addr × Value × Option Addr) := none
instance : Coe Zx Zt := ⟨Zx.toZt⟩
inductive Xn where
  | own (c : String) (v : Vr) | blt (n : String)
inductive Rt where
  | val (v : Vr) | new (c : Cell)
inductive R (β : Type) where
  | ok (S : Sto) (b : β) | ex (S : Sto) (x : Xn) | no
def frzC : Cell → Option Dv
  | .lst l => some (.lst l)
  | .ob c l => some (.obj c l)
  | .dc t ks vs => some (.dic t ks vs)
  | .dead => none
  | .tab _ => none
def R.bind {β γ : Type} (r : R β) (f : Sto → β → R γ) : R γ := match r with
  | .ok S b => f S b
  | .ex S x => .ex S x
  | .no => .no
/-- a value is wanted: a new thing is known from now on -/
def R.bindV {γ : Type} (r : R Rt) (f : Sto → Vr → R γ) : R γ := match r with
  | .ok S (.val v) => f S v
  | .ok S (.new (.lst l)) => f S (.d (.lst l))
  | .ok S (.new (.ob c l)) => f S (.d (.obj c l))
  | .ok S (.new (.dc t ks vs)) => f S (.d (.dic t ks vs))
  | .ok _ (.new .dead) => .no
  | .ok _ (.new (.tab _)) => .no
  | .ex S x => .ex S x
  | .no => .no
def R.of {β : Type} (S : Sto) : Option β → R β
  | some r => .ok S r
  | none => .no
inductive Sl where
  | u | v (r : Vr) | x (c : String) (r : Vr)
abbrev Env := List Sl
abbrev FE := Env → Sto → R Rt
abbrev FT := Env → Sto → R Bool
abbrev FA := Env → Sto → R (List Vr)
structure OnE (Z : Zx) (G : Hp) (α : List Addr) (env : Env) (σ : L2.St) : Prop where
  len : env.length = σ.length
  at_ : ∀ (i : Nat) (d : Vr), env[i]? = some (.v d) → ∃ v, σ[i]? = some (some v) ∧ OnR Z G α d v
  xs : ∀ (i : Nat) (c : String) (r : Vr), env[i]? = some (.x c r) → ∃ a dd w, Z.xc = some (a, .ref (Z.cm c), some dd) ∧ σ[i]? = some (some (.ref a)) ∧ G dd = some (.xd [(("value" : Str), w)]) ∧ OnR Z G α r w
def OnX (Z : Zx) (G : Hp) (α : List Addr) : Xn → Value → Option Addr → Prop
  | .own c v, cls, d => cls = .ref (Z.cm c) ∧ ∃ dd w, d = some dd ∧ G dd = some (.xd [(("value" : Str), w)]) ∧ OnR Z G α v w
  | .blt n, cls, d => cls = .type n ∧ d = none
section
variable {Z : Zx} {G G2 H H2 : Hp} {α α2 : List Addr} {S : Sto}
theorem OnE.up {G' : Hp} {β : List Addr} {env : Env} {σ : L2.St} (e : Ex G G') (p : Px α β) (h : OnE Z G α env σ) : OnE Z G' β env σ := ⟨h.len, fun i d hd => by
  obtain ⟨v, h1, h2⟩ := h.at_ i d hd
  exact ⟨v, h1, h2.up e p⟩, fun i c r hd => by
  obtain ⟨a, dd, w, h1, h2, h3, h4⟩ := h.xs i c r hd
  exact ⟨a, dd, w, h1, h2, e _ _ h3, h4.up e p⟩⟩
theorem OnE.set {env : Env} {σ : L2.St} {d : Vr} {v : V} (i : Nat) (h : OnE Z G α env σ) (hv : OnR Z G α d v) : OnE Z G α (env.set i (.v d)) (σ.set i (some v)) := by
  refine ⟨by rw [List.length_set, List.length_set]; exact h.len, fun j e he => ?_, fun j c r he => ?_⟩
  · by_cases q : i = j
    · subst q
      by_cases hl : i < env.length
      · rw [List.getElem?_set_self hl] at he
        cases he
        exact ⟨v, List.getElem?_set_self (by rw [← h.len]; exact hl), hv⟩
      · rw [List.getElem?_eq_none (by rw [List.length_set]; omega)] at he
        cases he
    · rw [List.getElem?_set_ne q] at he ⊢
      exact h.at_ j e he
  · by_cases q : i = j
    · subst q
      by_cases hl : i < env.length
      · rw [List.getElem?_set_self hl] at he
        cases he
      · rw [List.getElem?_eq_none (by rw [List.length_set]; omega)] at he
        cases he
    · rw [List.getElem?_set_ne q] at he ⊢
      exact h.xs j c r he
/-- a slot of which nothing is known any more -/
theorem OnE.forget {env : Env} {σ : L2.St} {o : Option V} (i : Nat) (h : OnE Z G α env σ) : OnE Z G α (env.set i .u) (σ.set i o) := by
  refine ⟨by rw [List.length_set, List.length_set]; exact h.len, fun j e he => ?_, fun j c r he => ?_⟩
  · by_cases q : i = j
    · subst q
      by_cases hl : i < env.length
      · rw [List.getElem?_set_self hl] at he
        cases he
      · rw [List.getElem?_eq_none (by rw [List.length_set]; omega)] at he
        cases he
    · rw [List.getElem?_set_ne q] at he ⊢
      exact h.at_ j e he
  · by_cases q : i = j
    · subst q
      by_cases hl : i < env.length
      · rw [List.getElem?_set_self hl] at he
        cases he
      · rw [List.getElem?_eq_none (by rw [List.length_set]; omega)] at he
        cases he
    · rw [List.getElem?_set_ne q] at he ⊢
      exact h.xs j c r he
def Xp (Z : Zx) (S : Sto) (x : Xn) (G : Hp) (α : List Addr) (H : Hp) (E : XK) : Prop :=
  ∀ cls d H2 G2 α2, Fr G α H G2 α2 H2 → Hd Z G2 α2 S H2 → OnX Z G2 α2 x cls d → E cls d H2
/-- a wish: of the result b, the heap ahead, what is known, the cells and the heap behind -/
structure Pst (β : Type) where
  p : β → Hp → Hp → List Addr → Hp → Prop
  mono : ∀ {b : β} {H H' G2 : Hp} {α2 : List Addr} {H2 : Hp}, (∀ a, H' a = none → H a = none) → p b H G2 α2 H2 → p b H' G2 α2 H2
def Wk {β : Type} (Z : Zx) (r : R β) (G : Hp) (α : List Addr) (H : Hp) (P : Pst β) (E : XK) : Prop := match r with
  | .ok S b => ∀ H2 G2 α2, Fr G α H G2 α2 H2 → Hd Z G2 α2 S H2 → P.p b H G2 α2 H2
  | .ex S x => Xp Z S x G α H E
  | .no => False
/-- p is a new thing c, not known yet -/
structure Nw (Z : Zx) (H G2 : Hp) (α2 : List Addr) (H2 : Hp) (c : Cell) (p : Addr) : Prop where
  h : H p = none
  g : G2 p = none
  a : p ∉ α2
  c : CellAt Z G2 c (H2 p)
def pRt (Z : Zx) (Q : VK) : Pst Rt := ⟨fun b H G2 α2 H2 => match b with
  | .val v => ∀ w, OnR Z G2 α2 v w → Q w H2
  | .new c => ∀ p, Nw Z H G2 α2 H2 c p → Q (.ref p) H2, fun {b H H' G2 α2 H2} h q => by
  cases b with
  | val v => exact q
  | new c => exact fun p n => q p ⟨h p n.h, n.g, n.a, n.c⟩⟩
def pB (Q : Bool → Hp → Prop) : Pst Bool := ⟨fun b _ _ _ H2 => Q b H2, fun _ q => q⟩
def pA (Z : Zx) (Q : List V → Hp → Prop) : Pst (List Vr) := ⟨fun l _ G2 α2 H2 => ∀ vs, OnA Z G2 α2 l vs → Q vs H2, fun _ q => q⟩
variable {E : XK}
theorem Xp.later {x : Xn} (h : Xp Z S x G α H E) (f : Fr G α H G2 α2 H2) : Xp Z S x G2 α2 H2 E := fun cls d H3 G3 α3 f3 => h cls d H3 G3 α3 (f.trans f3)
theorem Wk.later {β : Type} {r : R β} {P : Pst β} (h : Wk Z r G α H P E) (f : Fr G α H G2 α2 H2) : Wk Z r G2 α2 H2 P E := by
  match r, h with
  | .ok S b, h => exact fun H3 G3 α3 f3 hd => P.mono (fun a ha => f.back ha) (h H3 G3 α3 (f.trans f3) hd)
  | .ex S x, h => exact Xp.later h f
theorem Wk.here {β : Type} {b : β} {P : Pst β} (h : Wk Z (.ok S b) G α H P E) (hd : Hd Z G α S H) : P.p b H G α H := h H G α (Fr.refl G α H) hd
theorem Wk.any {β : Type} {r : Option β} {P : Pst β} {E' : XK} (w : Wk Z (R.of S r) G α H P E) : Wk Z (R.of S r) G α H P E' := by
  cases r with
  | some b => exact w
  | none => exact w
/-- a new cell, known from now on -/
theorem On.frz {c : Cell} {p : Addr} {o : HO} {d : Dv} (ho : CellAt Z G c (some o)) (hd : frzC c = some d) (hp : G p = none) : On Z (upd G p o) d (.ref p) := by
  have ex : Ex G (upd G p o) := Ex.new hp
  cases c with
  | lst l =>
    obtain ⟨xs, h1, h2⟩ := ho
    cases h1
    cases hd
    unfold On
    exact ⟨p, xs, rfl, upd_same, h2.up ex⟩
  | ob c l =>
    obtain ⟨dx, xs, h1, h3, h2⟩ := ho
    cases h1
    cases hd
    unfold On
    exact ⟨p, dx, xs, rfl, upd_same, h3, h2.up ex⟩
  | dc t ks vs =>
    obtain ⟨ws, h1, h3, h2⟩ := ho
    cases hd
    unfold On
    exact ⟨p, ws, rfl, by rw [upd_same]; exact h1, h3, h2.up ex⟩
  | dead => cases hd
  | tab rows => cases hd
theorem Fr.freeze {p : Addr} {o : HO} (f : Fr G α H G2 α2 H2) (hp : H p = none) (hG : G2 p = none) : Fr G α H (upd G2 p o) α2 H2 :=
  ⟨f.g.trans (Ex.new hG), f.a, f.h, fun b o' h1 h2 ht h3 => by
    have : b ≠ p := fun c => by subst c; rw [hp] at h2; cases h2
    rw [upd_ne this]
    exact f.n b o' h1 h2 ht h3, f.m, f.s⟩
theorem bindV_new {γ : Type} {S : Sto} {c : Cell} {d : Dv} {f : Sto → Vr → R γ} (h : frzC c = some d) : R.bindV (.ok S (.new c)) f = f S (.d d) := by
  cases c <;> cases h <;> rfl
theorem bindV_dead {γ : Type} {S : Sto} {c : Cell} {f : Sto → Vr → R γ} (h : frzC c = none) : R.bindV (.ok S (.new c)) f = .no := by
  cases c <;> first | rfl | cases h
/-- r gives d -/
inductive Got : R Rt → Sto → Vr → Prop where
  | val (S : Sto) (v : Vr) : Got (.ok S (.val v)) S v
  | new (S : Sto) (c : Cell) (d : Dv) (h : frzC c = some d) : Got (.ok S (.new c)) S (.d d)
theorem Got.bind {γ : Type} {r : R Rt} {S : Sto} {d : Vr} {f : Sto → Vr → R γ} (h : Got r S d) : r.bindV f = f S d := by
  cases h with
  | val => rfl
  | new S c d h => exact bindV_new h
/-- the value, run behind the state that the rest is told from -/
theorem Wk.bind0 {γ : Type} {r : R Rt} {f : Sto → Vr → R γ} {P : Pst γ} {Q' : VK} {G' H' : Hp} {α' : List Addr} (f0 : Fr G α H G' α' H') (w : Wk Z (r.bindV f) G α H P E)
    (k : ∀ S2 d v H2 G2 α2, Got r S2 d → Fr G' α' H' G2 α2 H2 → Hd Z G2 α2 S2 H2 → OnR Z G2 α2 d v → Wk Z (f S2 d) G α H P E → Q' v H2) : Wk Z r G' α' H' (pRt Z Q') E := by
  match r, w with
  | .ok S (.val v), w => exact fun H2 G2 α2 f2 hd2 x ox => k S v x H2 G2 α2 (.val S v) f2 hd2 ox w
  | .ok S (.new c), w =>
    intro H2 G2 α2 f2 hd2 p n
    cases e : frzC c with
    | none => rw [bindV_dead e] at w; exact w.elim
    | some d =>
      rw [bindV_new e] at w
      cases q : H2 p with
      | none => exact absurd q n.c.ne
      | some o =>
        have hc := n.c
        rw [q] at hc
        exact k S (.d d) _ H2 _ α2 (.new S c d e) (f2.freeze (o := o) n.h n.g) (hd2.freeze n.g q n.a) (On.frz hc e n.g) w
  | .ex S x, w => exact Xp.later w f0
/-- the first part of a row of parts: its value, then the rest -/
theorem Wk.bindV {γ : Type} {r : R Rt} {f : Sto → Vr → R γ} {P : Pst γ} {Q' : VK} (w : Wk Z (r.bindV f) G α H P E)
    (k : ∀ S2 d v H2 G2 α2, Fr G α H G2 α2 H2 → Hd Z G2 α2 S2 H2 → OnR Z G2 α2 d v → Wk Z (f S2 d) G2 α2 H2 P E → Q' v H2) : Wk Z r G α H (pRt Z Q') E := by
  match r, w with
  | .ok S (.val v), w => exact fun H2 G2 α2 f2 hd2 x ox => k S v x H2 G2 α2 f2 hd2 ox (w.later f2)
  | .ok S (.new c), w =>
    intro H2 G2 α2 f2 hd2 p n
    cases e : frzC c with
    | none => rw [bindV_dead e] at w; exact w.elim
    | some d =>
      rw [bindV_new e] at w
      cases q : H2 p with
      | none => exact absurd q n.c.ne
      | some o =>
        have hc := n.c
        rw [q] at hc
        have f3 := f2.freeze (o := o) n.h n.g
        exact k S (.d d) _ H2 _ α2 f3 (hd2.freeze n.g q n.a) (On.frz hc e n.g) (w.later f3)
  | .ex S x, w => exact w
theorem Wk.bind {β γ : Type} {r : R β} {f : Sto → β → R γ} {P : Pst γ} {P' : Pst β} (w : Wk Z (r.bind f) G α H P E)
    (k : ∀ S2 b H2 G2 α2, Fr G α H G2 α2 H2 → Hd Z G2 α2 S2 H2 → Wk Z (f S2 b) G2 α2 H2 P E → P'.p b H G2 α2 H2) : Wk Z r G α H P' E := by
  match r, w with
  | .ok S b, w => exact fun H2 G2 α2 f2 hd2 => k S b H2 G2 α2 f2 hd2 (w.later f2)
  | .ex S x, w => exact w
end
def SE (Z : Zx) (Ew : L2.St → XK) (te : TE) (f : FE) : Prop :=
  ∀ env σ G α S H Q, Hd Z G α S H → OnE Z G α env σ → Wk Z (f env S) G α H (pRt Z Q) (Ew σ) → te σ H Q
def ST (Z : Zx) (Ew : L2.St → XK) (tt : TT) (f : FT) : Prop :=
  ∀ env σ G α S H Q, Hd Z G α S H → OnE Z G α env σ → Wk Z (f env S) G α H (pB Q) (Ew σ) → tt σ H Q
def SA (Z : Zx) (Ew : L2.St → XK) (ta : TA) (f : FA) : Prop :=
  ∀ env σ G α S H Q, Hd Z G α S H → OnE Z G α env σ → Wk Z (f env S) G α H (pA Z Q) (Ew σ) → ta σ H Q
structure PF (Z : Zx) (Ew : L2.St → XK) (X : Cx) (e : Expr) (f : FE) : Prop where
  ex : ∃ te, PE X e te ∧ SE Z Ew te f
structure PTF (Z : Zx) (Ew : L2.St → XK) (X : Cx) (e : Expr) (f : FT) : Prop where
  ex : ∃ te, PT X e te ∧ ST Z Ew te f
structure PWF (Z : Zx) (Ew : L2.St → XK) (X : Cx) (e : Expr) (f : FT) : Prop where
  ex : ∃ te, PW X e te ∧ ST Z Ew te f
structure PAF (Z : Zx) (Ew : L2.St → XK) (X : Cx) (es : List Expr) (f : FA) : Prop where
  ex : ∃ te, PA X es te ∧ SA Z Ew te f
def fVar (i : Nat) : FE := fun env S => match env[i]? with
  | some (.v d) => .ok S (.val d)
  | _ => .no
def fC (d : Dv) : FE := fun _ S => .ok S (.val (.d d))
def g2 (S : Sto) (a b : Vr) (g : Dv → Dv → Option Rt) : R Rt := match snap S a, snap S b with
  | some x, some y => R.of S (g x y)
  | _, _ => .no
def fOp (g : Dv → Dv → Option Rt) (fa fb : FE) : FE := fun env S => (fa env S).bindV fun S1 a => (fb env S1).bindV fun S2 b => g2 S2 a b g
def g1 (S : Sto) (a : Vr) (g : Dv → Option Rt) : R Rt := match snap S a with
  | some x => R.of S (g x)
  | none => .no
def fUn (g : Dv → Option Rt) (fa : FE) : FE := fun env S => (fa env S).bindV fun S1 a => g1 S1 a g
def fNil : FA := fun _ S => .ok S []
def fCons (fa : FE) (fr : FA) : FA := fun env S => (fa env S).bindV fun S1 a => (fr env S1).bind fun S2 l => .ok S2 (a :: l)
def allD : List Vr → Option (List Dv)
  | [] => some []
  | .d x :: l => match allD l with
    | some r => some (x :: r)
    | none => none
  | .r _ :: _ => none
def gTupD (l : List Vr) : Option Rt := match allD l with
  | some r => if r.length ≤ 100000 then some (.val (.d (.tup r))) else none
  | none => none
def gLstD (l : List Vr) : Option Rt := match allD l with
  | some r => if r.length ≤ 100000 then some (.new (.lst r)) else none
  | none => none
def fTup (fa : FA) : FE := fun env S => (fa env S).bind fun S1 l => R.of S1 (gTupD l)
def fLst (fa : FA) : FE := fun env S => (fa env S).bind fun S1 l => R.of S1 (gLstD l)
def onB {β : Type} (S : Sto) (a : Vr) (f : Bool → R β) : R β := match a with
  | .d (.bl b) => f b
  | _ => .no
def fAnd (fa fb : FE) : FE := fun env S => (fa env S).bindV fun S1 a => onB S1 a fun b => if b then fb env S1 else .ok S1 (.val (.d (.bl false)))
def fOr (fa fb : FE) : FE := fun env S => (fa env S).bindV fun S1 a => onB S1 a fun b => if b then .ok S1 (.val (.d (.bl true))) else fb env S1
def fNot (fa : FE) : FE := fun env S => (fa env S).bindV fun S1 a => onB S1 a fun b => .ok S1 (.val (.d (.bl (!b))))
def fIf (ft : FT) (fa fb : FE) : FE := fun env S => (ft env S).bind fun S1 b => if b then fa env S1 else fb env S1
/-- tests -/
def kVal (fa : FE) : FT := fun env S => (fa env S).bindV fun S1 a => onB S1 a fun b => .ok S1 b
def kAnd (ta tb : FT) : FT := fun env S => (ta env S).bind fun S1 b => if b then tb env S1 else .ok S1 false
def kOr (ta tb : FT) : FT := fun env S => (ta env S).bind fun S1 b => if b then .ok S1 true else tb env S1
def kNot (ta : FT) : FT := fun env S => (ta env S).bind fun S1 b => .ok S1 (!b)
section
variable {Z : Zx} {Ew : L2.St → XK} {ta tb te : TE} {fa fb : FE} {G H : Hp} {α : List Addr} {S : Sto} {env : Env} {σ : L2.St}
theorem SE.bind {γ : Type} {f : Sto → Vr → R γ} {P : Pst γ} {Q' : VK} (h : SE Z Ew ta fa) (hd : Hd Z G α S H) (oe : OnE Z G α env σ) (w : Wk Z ((fa env S).bindV f) G α H P (Ew σ))
    (k : ∀ S2 d v H2 G2 α2, Fr G α H G2 α2 H2 → Hd Z G2 α2 S2 H2 → OnE Z G2 α2 env σ → OnR Z G2 α2 d v → Wk Z (f S2 d) G2 α2 H2 P (Ew σ) → Q' v H2) : ta σ H Q' :=
  h env σ G α S H Q' hd oe (w.bindV fun S2 d v H2 G2 α2 f2 hd2 ov w2 => k S2 d v H2 G2 α2 f2 hd2 (oe.up f2.g f2.a) ov w2)
theorem SE.bind0 {γ : Type} {f : Sto → Vr → R γ} {P : Pst γ} {Q' : VK} {G' H' : Hp} {α' : List Addr} (h : SE Z Ew ta fa) (f0 : Fr G α H G' α' H') (hd : Hd Z G' α' S H') (oe : OnE Z G' α' env σ) (w : Wk Z ((fa env S).bindV f) G α H P (Ew σ))
    (k : ∀ S2 d v H2 G2 α2, Got (fa env S) S2 d → Fr G' α' H' G2 α2 H2 → Hd Z G2 α2 S2 H2 → OnE Z G2 α2 env σ → OnR Z G2 α2 d v → Wk Z (f S2 d) G α H P (Ew σ) → Q' v H2) : ta σ H' Q' :=
  h env σ G' α' S H' Q' hd oe (w.bind0 f0 fun S2 d v H2 G2 α2 g f2 hd2 ov w2 => k S2 d v H2 G2 α2 g f2 hd2 (oe.up f2.g f2.a) ov w2)
theorem ST.bind0 {tt : TT} {ft : FT} {γ : Type} {f : Sto → Bool → R γ} {P : Pst γ} {Q' : Bool → Hp → Prop} {G' H' : Hp} {α' : List Addr} (h : ST Z Ew tt ft) (f0 : Fr G α H G' α' H') (hd : Hd Z G' α' S H') (oe : OnE Z G' α' env σ) (w : Wk Z ((ft env S).bind f) G α H P (Ew σ))
    (k : ∀ S2 b H2 G2 α2, Fr G' α' H' G2 α2 H2 → Hd Z G2 α2 S2 H2 → OnE Z G2 α2 env σ → Wk Z (f S2 b) G α H P (Ew σ) → Q' b H2) : tt σ H' Q' := by
  refine h env σ G' α' S H' Q' hd oe ?_
  cases e : ft env S with
  | ok S2 b => rw [e] at w; exact fun H2 G2 α2 f2 hd2 => k S2 b H2 G2 α2 f2 hd2 (oe.up f2.g f2.a) w
  | ex S2 x => rw [e] at w; exact Xp.later w f0
  | no => rw [e] at w; exact w.elim
theorem SA.bind {ta : TA} {fa : FA} {γ : Type} {f : Sto → List Vr → R γ} {P : Pst γ} {Q' : List V → Hp → Prop} (h : SA Z Ew ta fa) (hd : Hd Z G α S H) (oe : OnE Z G α env σ) (w : Wk Z ((fa env S).bind f) G α H P (Ew σ))
    (k : ∀ S2 l vs H2 G2 α2, Fr G α H G2 α2 H2 → Hd Z G2 α2 S2 H2 → OnE Z G2 α2 env σ → OnA Z G2 α2 l vs → Wk Z (f S2 l) G2 α2 H2 P (Ew σ) → Q' vs H2) : ta σ H Q' :=
  h env σ G α S H Q' hd oe (w.bind (P' := pA Z Q') fun S2 l H2 G2 α2 f2 hd2 w2 vs ov => k S2 l vs H2 G2 α2 f2 hd2 (oe.up f2.g f2.a) ov w2)
theorem ST.bind {tt : TT} {ft : FT} {γ : Type} {f : Sto → Bool → R γ} {P : Pst γ} {Q' : Bool → Hp → Prop} (h : ST Z Ew tt ft) (hd : Hd Z G α S H) (oe : OnE Z G α env σ) (w : Wk Z ((ft env S).bind f) G α H P (Ew σ))
    (k : ∀ S2 b H2 G2 α2, Fr G α H G2 α2 H2 → Hd Z G2 α2 S2 H2 → OnE Z G2 α2 env σ → Wk Z (f S2 b) G2 α2 H2 P (Ew σ) → Q' b H2) : tt σ H Q' :=
  h env σ G α S H Q' hd oe (w.bind (P' := pB Q') fun S2 b H2 G2 α2 f2 hd2 w2 => k S2 b H2 G2 α2 f2 hd2 (oe.up f2.g f2.a) w2)
theorem Wk.dat {v : Vr} {w : V} {Q : VK} {E : XK} (h : Wk Z (.ok S (.val v)) G α H (pRt Z Q) E) (hd : Hd Z G α S H) (o : OnR Z G α v w) : Q w H := h.here hd w o
theorem Wk.bool {b : Bool} {Q : Bool → Hp → Prop} {E : XK} (h : Wk Z (.ok S b) G α H (pB Q) E) (hd : Hd Z G α S H) : Q b H := h.here hd
theorem on_non : On Z G .non .non := by unfold On; rfl
theorem on_bl {b : Bool} : On Z G (.bl b) (.bl b) := by unfold On; rfl
theorem on_int {b : Int} : On Z G (.int b) (.int b) := by unfold On; rfl
theorem on_str {b : Str} : On Z G (.str b) (.str b) := by unfold On; rfl
theorem on_cls {c : String} : On Z G (.cls c) (.ref (Z.cm c)) := by unfold On; rfl
theorem on_ty {a : String} : On Z G (.ty a) (.ty a) := by unfold On; rfl
theorem or_bl (Z : Zx) (G : Hp) (α : List Addr) (b : Bool) : OnR Z G α (.d (.bl b)) (.bl b) := on_bl (Z := Z) (G := G)
theorem or_int (Z : Zx) (G : Hp) (α : List Addr) (b : Int) : OnR Z G α (.d (.int b)) (.int b) := on_int (Z := Z) (G := G)
theorem or_str (Z : Zx) (G : Hp) (α : List Addr) (b : Str) : OnR Z G α (.d (.str b)) (.str b) := on_str (Z := Z) (G := G)
theorem or_non (Z : Zx) (G : Hp) (α : List Addr) : OnR Z G α (.d .non) .non := on_non (Z := Z) (G := G)
theorem se_var {i : Nat} : SE Z Ew (tVar i) (fVar i) := fun env σ G α S H Q hd oe w => by
  unfold fVar at w
  cases e : env[i]? with
  | none => rw [e] at w; exact w.elim
  | some s =>
    rw [e] at w
    cases s with
    | u => exact w.elim
    | x => exact w.elim
    | v d =>
      obtain ⟨v, h1, h2⟩ := oe.at_ i d e
      exact ⟨v, h1, w.dat hd h2⟩
theorem se_c {d : Dv} {v : V} (h : ∀ G, On Z G d v) : SE Z Ew (tC v) (fC d) := fun env σ G α S H Q hd oe w => w.dat hd (h G)
/-- an operation on two values as they stand -/
def rD (Z : Zx) (g : Dv → Dv → Option Rt) : R2 := fun x y H Q => ∃ G α S a b, Hd Z G α S H ∧ OnH Z G H a x ∧ OnH Z G H b y ∧ Wk Z (R.of S (g a b)) G α H (pRt Z Q) E0
theorem g2_ok {G2 H2 : Hp} {α2 : List Addr} {S2 : Sto} {a b : Vr} {x y : V} {g : Dv → Dv → Option Rt} {Q : VK} {E : XK} (hd : Hd Z G2 α2 S2 H2) (ox : OnR Z G2 α2 a x) (oy : OnR Z G2 α2 b y) (w : Wk Z (g2 S2 a b g) G2 α2 H2 (pRt Z Q) E) : rD Z g x y H2 Q := by
  unfold g2 at w
  cases e1 : snap S2 a with
  | none => rw [e1] at w; exact w.elim
  | some u =>
    cases e2 : snap S2 b with
    | none => rw [e1, e2] at w; exact w.elim
    | some v =>
      rw [e1, e2] at w
      exact ⟨G2, α2, S2, u, v, hd, snap_on hd ox e1, snap_on hd oy e2, w.any⟩
theorem se_op {g : Dv → Dv → Option Rt} (ha : SE Z Ew ta fa) (hb : SE Z Ew tb fb) : SE Z Ew (tOp (rD Z g) ta tb) (fOp g fa fb) := fun env σ G α S H Q hd oe w =>
  ha.bind hd oe w fun S2 a x H2 G2 α2 f2 hd2 oe2 ox w2 => hb.bind hd2 oe2 w2 fun S3 b y H3 G3 α3 f3 hd3 oe3 oy w3 => g2_ok hd3 (ox.up f3.g f3.a) oy w3
def rU (Z : Zx) (g : Dv → Option Rt) : V → Hp → VK → Prop := fun x H Q => ∃ G α S a, Hd Z G α S H ∧ OnH Z G H a x ∧ Wk Z (R.of S (g a)) G α H (pRt Z Q) E0
theorem g1_ok {G2 H2 : Hp} {α2 : List Addr} {S2 : Sto} {a : Vr} {x : V} {g : Dv → Option Rt} {Q : VK} {E : XK} (hd : Hd Z G2 α2 S2 H2) (ox : OnR Z G2 α2 a x) (w : Wk Z (g1 S2 a g) G2 α2 H2 (pRt Z Q) E) : rU Z g x H2 Q := by
  unfold g1 at w
  cases e1 : snap S2 a with
  | none => rw [e1] at w; exact w.elim
  | some u =>
    rw [e1] at w
    exact ⟨G2, α2, S2, u, hd, snap_on hd ox e1, w.any⟩
theorem se_un {g : Dv → Option Rt} (ha : SE Z Ew ta fa) : SE Z Ew (tUn (rU Z g) ta) (fUn g fa) := fun env σ G α S H Q hd oe w =>
  ha.bind hd oe w fun S2 a x H2 G2 α2 f2 hd2 oe2 ox w2 => g1_ok hd2 ox w2
theorem sa_nil : SA Z Ew tNil fNil := fun env σ G α S H Q hd oe w => w.here hd [] rfl
theorem sa_cons {tr : TA} {fr : FA} (ha : SE Z Ew ta fa) (hr : SA Z Ew tr fr) : SA Z Ew (tCons ta tr) (fCons fa fr) := fun env σ G α S H Q hd oe w =>
  ha.bind hd oe w fun S2 a x H2 G2 α2 f2 hd2 oe2 ox w2 => hr.bind hd2 oe2 w2 fun S3 l vs H3 G3 α3 f3 hd3 oe3 ol w3 => w3.here hd3 _ ⟨_, _, rfl, ox.up f3.g f3.a, ol⟩
theorem sz_of {n : Nat} (h : n ≤ 100000) : n ≤ sizeLine := Nat.le_trans h (by decide)
theorem allD_on : ∀ {l : List Vr} {r : List Dv} {vs : List V}, allD l = some r → OnA Z G α l vs → OnL Z G r vs
  | [], r, vs, e, h => by
    cases e
    exact OnL.nil.mpr h
  | .d x :: l, r, vs, e, h => by
    obtain ⟨y, ys, rfl, h2, h3⟩ := h
    unfold allD at e
    cases q : allD l with
    | none => rw [q] at e; cases e
    | some m =>
      rw [q] at e
      cases e
      exact OnL.cons' h2 (allD_on q h3)
  | .r _ :: l, r, vs, e, h => by cases e
theorem se_tup {ta : TA} {fa : FA} (ha : SA Z Ew ta fa) : SE Z Ew (tTup ta) (fTup fa) := fun env σ G α S H Q hd oe w =>
  ha.bind hd oe w fun S2 l vs H2 G2 α2 f2 hd2 oe2 ol w2 => by
    unfold gTupD at w2
    cases e : allD l with
    | none => rw [e] at w2; exact w2.elim
    | some r =>
      rw [e] at w2
      have or := allD_on e ol
      by_cases hl : r.length ≤ 100000
      · simp only [if_pos hl] at w2
        refine ⟨sz_of (by rw [or.len]; exact hl), fun p hp => ?_⟩
        obtain ⟨h3, f3⟩ := hd2.know (o := .tup vs) hp
        exact w2 _ _ _ f3 h3 _ (by show On _ _ _ _; unfold On; exact ⟨p, vs, rfl, upd_same, or.up f3.g⟩)
      · simp only [if_neg hl] at w2
        exact w2.elim
/-- a new object that nobody knows -/
theorem Wk.fresh {S : Sto} {c : Cell} {p : Addr} {o : HO} {Q : VK} {E : XK} (w : Wk Z (.ok S (.new c)) G α H (pRt Z Q) E) (hd : Hd Z G α S H) (hp : H p = none) (hc : CellAt Z G c (some o)) : Q (.ref p) (upd H p o) := by
  have e := Ex.new (o := o) hp
  exact w _ G α (Fr.grow hd e) (hd.grow e) p ⟨hp, fresh_back hd.ex hp, fun h => hd.live h hp, by rw [upd_same]; exact hc⟩
theorem se_lst {ta : TA} {fa : FA} (ha : SA Z Ew ta fa) : SE Z Ew (tLst ta) (fLst fa) := fun env σ G α S H Q hd oe w =>
  ha.bind hd oe w fun S2 l vs H2 G2 α2 f2 hd2 oe2 ol w2 => by
    unfold gLstD at w2
    cases e : allD l with
    | none => rw [e] at w2; exact w2.elim
    | some r =>
      rw [e] at w2
      have or := allD_on e ol
      by_cases hl : r.length ≤ 100000
      · simp only [if_pos hl] at w2
        exact ⟨sz_of (by rw [or.len]; exact hl), fun p hp => w2.fresh hd2 hp ⟨vs, rfl, or⟩⟩
      · simp only [if_neg hl] at w2
        exact w2.elim
theorem onB_ok {β : Type} {a : Vr} {f : Bool → R β} {P : Pst β} {E : XK} {x : V} (w : Wk Z (onB S a f) G α H P E) (ox : OnR Z G α a x) : ∃ b, x = .bl b ∧ Wk Z (f b) G α H P E := by
  match a, w, ox with
  | .d (.bl b), w, ox =>
    have e : On Z G (.bl b) x := ox
    unfold On at e
    exact ⟨b, e, w⟩
theorem se_and (ha : SE Z Ew ta fa) (hb : SE Z Ew tb fb) : SE Z Ew (tAndV ta tb) (fAnd fa fb) := fun env σ G α S H Q hd oe w =>
  ha.bind hd oe w fun S2 a x H2 G2 α2 f2 hd2 oe2 ox w2 => by
    obtain ⟨b, e, w3⟩ := onB_ok w2 ox
    refine ⟨b, e, ?_⟩
    cases b with
    | true => rw [if_pos rfl]; exact hb env σ G2 α2 S2 H2 Q hd2 oe2 w3
    | false => rw [if_neg Bool.false_ne_true]; exact Wk.dat w3 hd2 (or_bl Z G2 α2 _)
theorem se_not (ha : SE Z Ew ta fa) : SE Z Ew (tNotV ta) (fNot fa) := fun env σ G α S H Q hd oe w =>
  ha.bind hd oe w fun S2 a x H2 G2 α2 f2 hd2 oe2 ox w2 => by
    obtain ⟨b, e, w3⟩ := onB_ok w2 ox
    exact ⟨b, e, Wk.dat w3 hd2 (or_bl Z G2 α2 _)⟩
theorem se_if {tt : TT} {ft : FT} (ht : ST Z Ew tt ft) (ha : SE Z Ew ta fa) (hb : SE Z Ew tb fb) : SE Z Ew (tIf tt ta tb) (fIf ft fa fb) := fun env σ G α S H Q hd oe w =>
  ht.bind hd oe w fun S2 b H2 G2 α2 f2 hd2 oe2 w2 => by
    cases b with
    | true => rw [if_pos rfl]; exact ha env σ G2 α2 S2 H2 Q hd2 oe2 w2
    | false => rw [if_neg Bool.false_ne_true]; exact hb env σ G2 α2 S2 H2 Q hd2 oe2 w2
theorem st_val (ha : SE Z Ew ta fa) : ST Z Ew (tB ta) (kVal fa) := fun env σ G α S H Q hd oe w =>
  ha.bind hd oe w fun S2 a x H2 G2 α2 f2 hd2 oe2 ox w2 => by
    obtain ⟨b, e, w3⟩ := onB_ok w2 ox
    exact ⟨b, e, w3.bool hd2⟩
theorem st_and {tt tu : TT} {ft fu : FT} (ha : ST Z Ew tt ft) (hb : ST Z Ew tu fu) : ST Z Ew (tAnd tt tu) (kAnd ft fu) := fun env σ G α S H Q hd oe w =>
  ha.bind hd oe w fun S2 b H2 G2 α2 f2 hd2 oe2 w2 => by
    cases b with
    | true => rw [if_pos rfl]; exact hb env σ G2 α2 S2 H2 Q hd2 oe2 w2
    | false => rw [if_neg Bool.false_ne_true]; exact Wk.bool w2 hd2
theorem st_or {tt tu : TT} {ft fu : FT} (ha : ST Z Ew tt ft) (hb : ST Z Ew tu fu) : ST Z Ew (tOr tt tu) (kOr ft fu) := fun env σ G α S H Q hd oe w =>
  ha.bind hd oe w fun S2 b H2 G2 α2 f2 hd2 oe2 w2 => by
    cases b with
    | true => rw [if_pos rfl]; exact Wk.bool w2 hd2
    | false => rw [if_neg Bool.false_ne_true]; exact hb env σ G2 α2 S2 H2 Q hd2 oe2 w2
theorem st_not {tt : TT} {ft : FT} (ha : ST Z Ew tt ft) : ST Z Ew (tNot tt) (kNot ft) := fun env σ G α S H Q hd oe w =>
  ha.bind hd oe w fun S2 b H2 G2 α2 f2 hd2 oe2 w2 => Wk.bool w2 hd2
end
section
variable {Z : Zx} {Ew : L2.St → XK} {X : Cx} {a b c : Expr} {fa fb fc : FE} {pos : Pos}
theorem pf_var (i : Nat) {x : Str} (hN : X.N[i]? = some x := by rfl) (hv : Vis X.env.scope x := by first | exact Or.inl rfl | exact Or.inr (Or.inl rfl) | exact Or.inr (Or.inr rfl)) (hd : (x == ("__debug__" : Str)) = false := by decide)
    (hcd : (x == ("__classdict__" : Str)) = false := by decide) : PF Z Ew X (.Name x pos) (fVar i) := ⟨_, pe_var hN hv hd hcd, se_var⟩
theorem pf_int {i : Int} {j pos} : PF Z Ew X (.Constant (.int i) j pos) (fC (.int i)) := ⟨_, pe_int, se_c fun G => on_int (Z := Z) (G := G)⟩
theorem pf_bl {i : Bool} {j pos} : PF Z Ew X (.Constant (.bool i) j pos) (fC (.bl i)) := ⟨_, pe_bl, se_c fun G => on_bl (Z := Z) (G := G)⟩
theorem pf_str {i : Str} {j pos} : PF Z Ew X (.Constant (.str i) j pos) (fC (.str i)) := ⟨_, pe_str, se_c fun G => on_str (Z := Z) (G := G)⟩
theorem pf_non {j pos} : PF Z Ew X (.Constant .none j pos) (fC .non) := ⟨_, pe_non, se_c fun G => on_non (Z := Z) (G := G)⟩
theorem pf_glob {x : Str} {u : Value} {d : Dv} {v : V} (hg : Gl X x) (hm : X.mg x = some u) (r : RelV v u) (h : ∀ G, On Z G d v) (hd : (x == ("__debug__" : Str)) = false := by decide) : PF Z Ew X (.Name x pos) (fC d) := ⟨_, pe_glob hg hm r hd, se_c h⟩
theorem pf_bltn {x : Str} {v : V} {u : Value} {d : Dv} (hg : Gl X x) (hm : X.mg x = none) (hv : bootBuiltins x = some u) (r : RelV v u) (h : ∀ G, On Z G d v) (hn : x ≠ "__name__" := by decide) (hd : (x == ("__debug__" : Str)) = false := by decide) : PF Z Ew X (.Name x pos) (fC d) :=
  ⟨_, pe_bltn hg hm hv r hn hd, se_c h⟩
theorem pf_op {op : Operator} {g : Dv → Dv → Option Rt} (h : OpR X (binaryOp op) (rD Z g)) (ha : PF Z Ew X a fa) (hb : PF Z Ew X b fb) : PF Z Ew X (.BinOp a op b pos) (fOp g fa fb) := by
  obtain ⟨ta, h1, h2⟩ := ha.ex
  obtain ⟨tb, h3, h4⟩ := hb.ex
  exact ⟨_, pe_op h h1 h3, se_op h2 h4⟩
theorem pf_cmp {op : CmpOp} {g : Dv → Dv → Option Rt} (h : OpR X (compareOp op) (rD Z g)) (ha : PF Z Ew X a fa) (hb : PF Z Ew X b fb) (hm : behindInMarks op b = false) : PF Z Ew X (.Compare a [op] [b] pos) (fOp g fa fb) := by
  obtain ⟨ta, h1, h2⟩ := ha.ex
  obtain ⟨tb, h3, h4⟩ := hb.ex
  exact ⟨_, pe_cmpR h h1 h3 hm, se_op h2 h4⟩
theorem ptf_cmp {op : CmpOp} {g : Dv → Dv → Option Rt} (h : OpR X (compareOp op) (rD Z g)) (ha : PF Z Ew X a fa) (hb : PF Z Ew X b fb) (hm : behindInMarks op b = false) : PTF Z Ew X (.Compare a [op] [b] pos) (kVal (fOp g fa fb)) := by
  obtain ⟨ta, h1, h2⟩ := ha.ex
  obtain ⟨tb, h3, h4⟩ := hb.ex
  exact ⟨_, pt_cmpR h h1 h3 hm, st_val (se_op h2 h4)⟩
theorem pf_and {rest : List Expr} (ha : PF Z Ew X a fa) (hb : PF Z Ew X (.BoolOp .And (b :: rest) pos) fb) : PF Z Ew X (.BoolOp .And (a :: b :: rest) pos) (fAnd fa fb) := by
  obtain ⟨ta, h1, h2⟩ := ha.ex
  obtain ⟨tb, h3, h4⟩ := hb.ex
  exact ⟨_, pe_and h1 h3, se_and h2 h4⟩
theorem pf_one {op} (ha : PF Z Ew X a fa) : PF Z Ew X (.BoolOp op [a] pos) fa := by
  obtain ⟨ta, h1, h2⟩ := ha.ex
  exact ⟨_, pe_one h1, h2⟩
theorem pf_not (ha : PF Z Ew X a fa) : PF Z Ew X (.UnaryOp .Not a pos) (fNot fa) := by
  obtain ⟨ta, h1, h2⟩ := ha.ex
  exact ⟨_, pe_not h1, se_not h2⟩
theorem pf_un {op : UnaryOp} {g : Dv → Option Rt} (h : UnR X (unaryOp op) (rU Z g)) (ha : PF Z Ew X a fa) : PF Z Ew X (.UnaryOp op a pos) (fUn g fa) := by
  obtain ⟨ta, h1, h2⟩ := ha.ex
  exact ⟨_, pe_un h h1, se_un h2⟩
theorem pf_if {ft : FT} (hc : PTF Z Ew X c ft) (ha : PF Z Ew X a fa) (hb : PF Z Ew X b fb) : PF Z Ew X (.IfExp c a b pos) (fIf ft fa fb) := by
  obtain ⟨tt, h5, h6⟩ := hc.ex
  obtain ⟨ta, h1, h2⟩ := ha.ex
  obtain ⟨tb, h3, h4⟩ := hb.ex
  exact ⟨_, pe_ifExp h5 h1 h3, se_if h6 h2 h4⟩
theorem paf_nil : PAF Z Ew X [] fNil := ⟨_, pa_nil, sa_nil⟩
theorem paf_cons {es : List Expr} {fr : FA} (ha : PF Z Ew X a fa) (hr : PAF Z Ew X es fr) (he : starEach (a :: es) X.env = (false, eval a X.env) :: starEach es X.env := by rfl) : PAF Z Ew X (a :: es) (fCons fa fr) := by
  obtain ⟨ta, h1, h2⟩ := ha.ex
  obtain ⟨tb, h3, h4⟩ := hr.ex
  exact ⟨_, pa_cons h1 h3 he, sa_cons h2 h4⟩
theorem pf_tup {es : List Expr} {fr : FA} {k} (h : PAF Z Ew X es fr) : PF Z Ew X (.Tuple es k pos) (fTup fr) := by
  obtain ⟨ta, h1, h2⟩ := h.ex
  exact ⟨_, pe_tup h1, se_tup h2⟩
theorem pf_lst {es : List Expr} {fr : FA} (h : PAF Z Ew X es fr) : PF Z Ew X (.List es pos) (fLst fr) := by
  obtain ⟨ta, h1, h2⟩ := h.ex
  exact ⟨_, pe_lst h1, se_lst h2⟩
theorem ptf_val {e : Expr} {f : FE} (h : PF Z Ew X e f) (he : ∀ whole, isTrue e X.env whole = (do let v ← whole; standAt e.pos; holding [v] (truthy v)) := by intro _; rfl) : PTF Z Ew X e (kVal f) := by
  obtain ⟨ta, h1, h2⟩ := h.ex
  exact ⟨_, pt_val h1 he, st_val h2⟩
theorem pwf_one {op} {ft : FT} (h : PTF Z Ew X a ft) (ho : op = .And ∨ op = .Or := by first | exact .inl rfl | exact .inr rfl) : PWF Z Ew X (.BoolOp op [a] pos) ft := by
  obtain ⟨ta, h1, h2⟩ := h.ex
  rcases ho with rfl | rfl
  · exact ⟨_, pw_and1 h1, h2⟩
  · exact ⟨_, pw_or1 h1, h2⟩
theorem pwf_and {rest : List Expr} {ft fu : FT} (h : PTF Z Ew X a ft) (hb : PWF Z Ew X (.BoolOp .And (b :: rest) pos) fu) : PWF Z Ew X (.BoolOp .And (a :: b :: rest) pos) (kAnd ft fu) := by
  obtain ⟨ta, h1, h2⟩ := h.ex
  obtain ⟨tb, h3, h4⟩ := hb.ex
  exact ⟨_, pw_and h1 h3, st_and h2 h4⟩
theorem pwf_or {rest : List Expr} {ft fu : FT} (h : PTF Z Ew X a ft) (hb : PWF Z Ew X (.BoolOp .Or (b :: rest) pos) fu) : PWF Z Ew X (.BoolOp .Or (a :: b :: rest) pos) (kOr ft fu) := by
  obtain ⟨ta, h1, h2⟩ := h.ex
  obtain ⟨tb, h3, h4⟩ := hb.ex
  exact ⟨_, pw_or h1 h3, st_or h2 h4⟩
theorem ptf_w {ft : FT} (h : PWF Z Ew X a ft) : PTF Z Ew X a ft := by
  obtain ⟨ta, h1, h2⟩ := h.ex
  exact ⟨_, h1.pt, h2⟩
theorem ptf_not {ft : FT} (h : PTF Z Ew X a ft) : PTF Z Ew X (.UnaryOp .Not a pos) (kNot ft) := by
  obtain ⟨ta, h1, h2⟩ := h.ex
  exact ⟨_, pt_not h1, st_not h2⟩
end
end DN
namespace DN
open PySem PySem.Spec PyProof.Rows L2 Evl
def vI (i : Int) : Option Rt := some (.val (.d (.int i)))
def vB (b : Bool) : Option Rt := some (.val (.d (.bl b)))
def vS (s : Str) : Option Rt := some (.val (.d (.str s)))
def vT (l : List Dv) : Option Rt := some (.val (.d (.tup l)))
def nL (l : List Dv) : Option Rt := some (.new (.lst l))
def onlyIf (b : Bool) (r : Option Rt) : Option Rt := if b then r else none
def gAdd : Dv → Dv → Option Rt
  | .int i, .int j => vI (i + j)
  | .str a, .str b => onlyIf (decide (a.length + b.length ≤ 100000)) (vS (a ++ b))
  | .lst a, .lst b => onlyIf (decide (a.length + b.length ≤ 100000)) (nL (a ++ b))
  | .tup a, .tup b => onlyIf (decide (a.length + b.length ≤ 100000)) (vT (a ++ b))
  | _, _ => none
def gSub : Dv → Dv → Option Rt
  | .int i, .int j => vI (i - j)
  | _, _ => none
def small64 (i : Int) : Bool := decide (-(2 ^ 64) < i) && decide (i < 2 ^ 64)
def gMul : Dv → Dv → Option Rt
  | .int i, .int j => onlyIf (small64 i || small64 j) (vI (i * j))
  | .str a, .int n => onlyIf (decide (0 ≤ n) && decide (n ≤ 10000) && decide (a.length ≤ 1000)) (vS (OP.repS a n.toNat))
  | .lst a, .int n => onlyIf (decide (-100000 ≤ n) && decide (n ≤ 100000) && decide (a.length * n.toNat ≤ 100000)) (nL (List.replicate n.toNat a).flatten)
  | _, _ => none
def gDiv : Dv → Dv → Option Rt
  | .int i, .int j => onlyIf (decide (j ≠ 0) && decide (j.natAbs < 1073741824)) (vI (i.fdiv j))
  | _, _ => none
def gMod : Dv → Dv → Option Rt
  | .int i, .int j => onlyIf (decide (j ≠ 0)) (vI (i.fmod j))
  | _, _ => none
def gPow : Dv → Dv → Option Rt
  | .int i, .int j => onlyIf (decide (0 ≤ j) && decide (j ≤ 1000000) && decide (i.natAbs < 2 ^ 64)) (vI (i ^ j.toNat))
  | _, _ => none
def gNeg : Dv → Option Rt
  | .int i => vI (-i)
  | _ => none
def gLt : Dv → Dv → Option Rt
  | .int i, .int j => vB (decide (i < j))
  | .str a, .str b => vB (decide (a.cps.toList < b.cps.toList))
  | _, _ => none
def gLe : Dv → Dv → Option Rt
  | .int i, .int j => vB (decide (i ≤ j))
  | _, _ => none
def gGt : Dv → Dv → Option Rt
  | .int i, .int j => vB (decide (j < i))
  | _, _ => none
mutual
def okN : Nat → Dv → Bool
  | _, .non => true
  | _, .bl _ => true
  | _, .int _ => true
  | _, .str s => PyData.strOk s
  | n + 1, .lst l => okNs n l
  | n + 1, .tup l => okNs n l
  | _, _ => false
def okNs : Nat → List Dv → Bool
  | _, [] => true
  | n, d :: l => okN n d && okNs n l
end
mutual
def eqD : Dv → Dv → Bool
  | .non, .non => true
  | .bl a, .bl b => a == b
  | .bl a, .int j => (if a then 1 else 0) == j
  | .int i, .bl b => i == (if b then 1 else 0)
  | .int i, .int j => i == j
  | .str a, .str b => a == b
  | .lst a, .lst b => eqDs a b
  | .tup a, .tup b => eqDs a b
  | _, _ => false
def eqDs : List Dv → List Dv → Bool
  | [], [] => true
  | a :: l, b :: m => eqD a b && eqDs l m
  | _, _ => false
end
def gEq (a b : Dv) : Option Rt := onlyIf (okN 60 a && okN 60 b) (vB (eqD a b))
def gNe (a b : Dv) : Option Rt := onlyIf (okN 60 a && okN 60 b) (vB (!eqD a b))
def inD (a : Dv) (l : List Dv) : Bool := l.any fun y => eqD y a
def inS (a z : Str) : Bool := match a.cps.toList with
  | [c] => decide (c ∈ z.cps.toList)
  | _ => !(Builtin.Str.occurrences z a 0 z.length 1).isEmpty
def gIn : Dv → Dv → Option Rt
  | .str a, .str z => vB (inS a z)
  | a, .lst l => onlyIf (okN 60 a && okNs 60 l) (vB (inD a l))
  | a, .tup l => onlyIf (okN 60 a && okNs 60 l) (vB (inD a l))
  | a, .ktp l => onlyIf (okN 60 a && okNs 60 l) (vB (inD a l))
  | _, _ => none
def gNotIn : Dv → Dv → Option Rt
  | .str a, .str z => vB (!inS a z)
  | a, .lst l => onlyIf (okN 60 a && okNs 60 l) (vB (!inD a l))
  | a, .tup l => onlyIf (okN 60 a && okNs 60 l) (vB (!inD a l))
  | a, .ktp l => onlyIf (okN 60 a && okNs 60 l) (vB (!inD a l))
  | _, _ => none
section
variable {Z : Zx} {X : Cx} {G H : Hp} {α : List Addr} {S : Sto} {Q : VK} {E : XK}
theorem onlyIf_ok {b : Bool} {r : Option Rt} {P : Pst Rt} (w : Wk Z (R.of S (onlyIf b r)) G α H P E) : b = true ∧ Wk Z (R.of S r) G α H P E := by
  cases b with
  | true => exact ⟨rfl, w⟩
  | false => exact w.elim
theorem wI {i : Int} (w : Wk Z (R.of S (vI i)) G α H (pRt Z Q) E) (hd : Hd Z G α S H) : Q (.int i) H := Wk.dat (v := .d (.int i)) w hd (or_int Z G α i)
theorem wB {i : Bool} (w : Wk Z (R.of S (vB i)) G α H (pRt Z Q) E) (hd : Hd Z G α S H) : Q (.bl i) H := Wk.dat (v := .d (.bl i)) w hd (or_bl Z G α i)
theorem wS {i : Str} (w : Wk Z (R.of S (vS i)) G α H (pRt Z Q) E) (hd : Hd Z G α S H) : Q (.str i) H := Wk.dat (v := .d (.str i)) w hd (or_str Z G α i)
/-- a new list, of what is known -/
theorem wL {l : List Dv} {xs : List V} (w : Wk Z (R.of S (nL l)) G α H (pRt Z Q) E) (hd : Hd Z G α S H) (o : OnL Z G l xs) {p : Addr} (hp : H p = none) : Q (.ref p) (upd H p (.lst xs)) := Wk.fresh w hd hp ⟨xs, rfl, o⟩
/-- a new tuple -/
theorem wT {l : List Dv} {xs : List V} (w : Wk Z (R.of S (vT l)) G α H (pRt Z Q) E) (hd : Hd Z G α S H) (o : OnL Z G l xs) {p : Addr} (hp : H p = none) : Q (.ref p) (upd H p (.tup xs)) := by
  obtain ⟨h3, f3⟩ := hd.know (o := .tup xs) hp
  exact w _ _ _ f3 h3 _ (by show On _ _ _ _; unfold On; exact ⟨p, xs, rfl, upd_same, o.up f3.g⟩)
/-- a tuple that stands already -/
theorem wkT {l : List Dv} {xs : List V} {a : Addr} (w : Wk Z (R.of S (vT l)) G α H (pRt Z Q) E) (hd : Hd Z G α S H) (h : G a = some (.tup xs)) (o : OnL Z G l xs) : Q (.ref a) H :=
  Wk.dat (v := .d (.tup l)) w hd (by show On _ _ _ _; unfold On; exact ⟨a, xs, rfl, h, o⟩)
theorem onl_rep {l : List Dv} {xs : List V} (h : OnL Z G l xs) : ∀ n : Nat, OnL Z G (List.replicate n l).flatten (List.replicate n xs).flatten
  | 0 => OnL.nil'
  | n + 1 => by
    rw [List.replicate_succ, List.replicate_succ, List.flatten_cons, List.flatten_cons]
    exact h.app (onl_rep h n)
theorem and3 {a b c : Bool} (h : (a && b && c) = true) : a = true ∧ b = true ∧ c = true := by
  cases a <;> cases b <;> cases c <;> simp_all
theorem od_add (hK : X.K = Z.K) : OpR X (binaryOp .Add) (rD Z gAdd) := by
  intro pins s σ H x y v u Q I rx ry h
  obtain ⟨G, α, S, a, b, hd, ha, hb, w⟩ := h
  cases a with
  | int i =>
    cases b with
    | int j => cases ha; cases hb; exact op_add pins s σ H _ _ v u Q I rx ry ⟨i, j, rfl, rfl, wI w hd⟩
    | _ => exact w.elim
  | str i =>
    cases b with
    | str j =>
      cases ha; cases hb
      obtain ⟨h1, w⟩ := onlyIf_ok w
      exact op_add_str pins s σ H _ _ v u Q I rx ry ⟨i, j, rfl, rfl, sz_of (of_decide_eq_true h1), wS w hd⟩
    | _ => exact w.elim
  | lst i =>
    cases b with
    | lst j =>
      obtain ⟨a, xs, rfl, h1, h2⟩ := ha
      obtain ⟨b, ys, rfl, h3, h4⟩ := hb
      obtain ⟨h5, w⟩ := onlyIf_ok w
      exact op_cat pins s σ H _ _ v u Q I rx ry ⟨a, b, xs, ys, rfl, rfl, h1, h3, by rw [h2.len, h4.len]; exact sz_of (of_decide_eq_true h5), fun p hp => wL w hd (h2.app h4) hp⟩
    | _ => exact w.elim
  | tup i =>
    cases b with
    | tup j =>
      obtain ⟨a, xs, rfl, h1, h2⟩ := ha
      obtain ⟨b, ys, rfl, h3, h4⟩ := hb
      obtain ⟨h5, w⟩ := onlyIf_ok w
      refine op_catA pins s σ H _ _ v u Q I rx ry ⟨a, b, xs, ys, rfl, rfl, SqT.of (hd.ex _ _ h1), SqT.of (hd.ex _ _ h3), by rw [h2.len, h4.len]; exact sz_of (of_decide_eq_true h5), fun e => ?_, fun _ e => ?_, fun _ _ p hp => wT w hd (h2.app h4) hp⟩
      · have e2 := h2.len
        rw [e] at e2
        have e3 : i = [] := List.length_eq_zero_iff.mp e2.symm
        subst e3
        exact wkT w hd h3 h4
      · have e2 := h4.len
        rw [e] at e2
        have e3 : j = [] := List.length_eq_zero_iff.mp e2.symm
        subst e3
        rw [List.append_nil] at w
        exact wkT w hd h1 h2
    | _ => exact w.elim
  | _ => cases b <;> exact w.elim
/-- two ints -/
theorem od_ii {f : Value → Value → Sem Value} {g : Dv → Dv → Option Rt} {C : Int → Int → Prop} {k : Int → Int → Int} (h : OpR X f (rI C fun i j => .int (k i j)))
    (hg : ∀ (a b : Dv) {G α S H} {Q : VK} {E : XK}, Wk Z (R.of S (g a b)) G α H (pRt Z Q) E → ∃ i j, a = .int i ∧ b = .int j ∧ C i j ∧ Wk Z (R.of S (vI (k i j))) G α H (pRt Z Q) E) : OpR X f (rD Z g) := by
  intro pins s σ H x y v u Q I rx ry h'
  obtain ⟨G, α, S, a, b, hd, ha, hb, w⟩ := h'
  obtain ⟨i, j, rfl, rfl, hc, w⟩ := hg a b w
  cases ha; cases hb
  exact h pins s σ H _ _ v u Q I rx ry ⟨i, j, rfl, rfl, hc, wI w hd⟩
theorem rI_of0 {f : Value → Value → Sem Value} {g : Int → Int → V} (h : OpR X f (rI0 g)) : OpR X f (rI (fun _ _ => True) g) := fun pins s σ H x y v u Q I rx ry q => by
  obtain ⟨i, j, h1, h2, _, h3⟩ := q
  exact h pins s σ H x y v u Q I rx ry ⟨i, j, h1, h2, h3⟩
theorem od_sub : OpR X (binaryOp .Sub) (rD Z gSub) := od_ii (rI_of0 op_sub) fun a b {G α S H Q E} w => by
  cases a <;> first | (exact w.elim) | skip
  cases b <;> first | (exact w.elim) | exact ⟨_, _, rfl, rfl, trivial, w⟩
theorem od_div : OpR X (binaryOp .FloorDiv) (rD Z gDiv) := od_ii op_fdivN fun a b {G α S H Q E} w => by
  cases a <;> first | (exact w.elim) | skip
  cases b <;> first | (exact w.elim) | skip
  obtain ⟨h1, w⟩ := onlyIf_ok w
  rw [Bool.and_eq_true] at h1
  exact ⟨_, _, rfl, rfl, ⟨of_decide_eq_true h1.1, of_decide_eq_true h1.2⟩, w⟩
theorem od_mod : OpR X (binaryOp .Mod) (rD Z gMod) := od_ii op_modN fun a b {G α S H Q E} w => by
  cases a <;> first | (exact w.elim) | skip
  cases b <;> first | (exact w.elim) | skip
  obtain ⟨h1, w⟩ := onlyIf_ok w
  exact ⟨_, _, rfl, rfl, of_decide_eq_true h1, w⟩
theorem od_pow : OpR X (binaryOp .Pow) (rD Z gPow) := od_ii op_pow fun a b {G α S H Q E} w => by
  cases a <;> first | (exact w.elim) | skip
  cases b <;> first | (exact w.elim) | skip
  obtain ⟨h1, w⟩ := onlyIf_ok w
  obtain ⟨h1, h2, h3⟩ := and3 h1
  exact ⟨_, _, rfl, rfl, ⟨of_decide_eq_true h1, of_decide_eq_true h2, of_decide_eq_true h3⟩, w⟩
theorem small64_ok {i : Int} (h : small64 i = true) : -(2 ^ 64) < i ∧ i < 2 ^ 64 := by
  unfold small64 at h
  rw [Bool.and_eq_true] at h
  exact ⟨of_decide_eq_true h.1, of_decide_eq_true h.2⟩
theorem od_mul : OpR X (binaryOp .Mult) (rD Z gMul) := by
  intro pins s σ H x y v u Q I rx ry h
  obtain ⟨G, α, S, a, b, hd, ha, hb, w⟩ := h
  cases a with
  | int i =>
    cases b with
    | int j =>
      cases ha; cases hb
      obtain ⟨h1, w⟩ := onlyIf_ok w
      rw [Bool.or_eq_true] at h1
      exact op_mul pins s σ H _ _ v u Q I rx ry ⟨i, j, rfl, rfl, h1.imp small64_ok small64_ok, wI w hd⟩
    | _ => exact w.elim
  | str i =>
    cases b with
    | int j =>
      cases ha; cases hb
      obtain ⟨h1, w⟩ := onlyIf_ok w
      obtain ⟨h1, h2, h3⟩ := and3 h1
      exact OP.op_mul_str pins s σ H _ _ v u Q I rx ry ⟨i, j, rfl, rfl, of_decide_eq_true h1, of_decide_eq_true h2, of_decide_eq_true h3, wS w hd⟩
    | _ => exact w.elim
  | lst i =>
    cases b with
    | int j =>
      obtain ⟨a, xs, rfl, h1, h2⟩ := ha
      cases hb
      obtain ⟨h5, w⟩ := onlyIf_ok w
      obtain ⟨h5, h6, h7⟩ := and3 h5
      have h5 := of_decide_eq_true h5
      have h6 := of_decide_eq_true h6
      exact op_rep pins s σ H _ _ v u Q I rx ry ⟨a, j, xs, rfl, rfl, h1, by omega, by omega, by rw [h2.len]; exact sz_of (of_decide_eq_true h7), fun p hp => wL w hd (onl_rep h2 _) hp⟩
    | _ => exact w.elim
  | _ => cases b <;> exact w.elim
theorem ud_neg : UnR X (unaryOp .USub) (rU Z gNeg) := by
  intro pins s σ H x v Q I rx h
  obtain ⟨G, α, S, a, hd, ha, w⟩ := h
  cases a with
  | int i => cases ha; exact un_neg pins s σ H _ v Q I rx ⟨i, rfl, wI w hd⟩
  | _ => exact w.elim
/-- comparisons of two ints -/
theorem od_ib {f : Value → Value → Sem Value} {g : Dv → Dv → Option Rt} {k : Int → Int → Bool} (h : OpR X f (rI0 fun i j => .bl (k i j)))
    (hg : ∀ (a b : Dv) {G α S H} {Q : VK} {E : XK}, Wk Z (R.of S (g a b)) G α H (pRt Z Q) E → ∃ i j, a = .int i ∧ b = .int j ∧ Wk Z (R.of S (vB (k i j))) G α H (pRt Z Q) E) : OpR X f (rD Z g) := by
  intro pins s σ H x y v u Q I rx ry h'
  obtain ⟨G, α, S, a, b, hd, ha, hb, w⟩ := h'
  obtain ⟨i, j, e1, e2, w2⟩ := hg a b w
  subst e1; subst e2
  cases ha; cases hb
  exact h pins s σ H _ _ v u Q I rx ry ⟨i, j, rfl, rfl, wB w2 hd⟩
theorem od_le : OpR X (compareOp .LtE) (rD Z gLe) := od_ib op_le fun a b {G α S H Q E} w => by
  cases a <;> first | (exact w.elim) | skip
  cases b <;> first | (exact w.elim) | exact ⟨_, _, rfl, rfl, w⟩
theorem od_gt : OpR X (compareOp .Gt) (rD Z gGt) := od_ib op_gt fun a b {G α S H Q E} w => by
  cases a <;> first | (exact w.elim) | skip
  cases b <;> first | (exact w.elim) | exact ⟨_, _, rfl, rfl, w⟩
theorem od_lt : OpR X (compareOp .Lt) (rD Z gLt) := by
  intro pins s σ H x y v u Q I rx ry h
  obtain ⟨G, α, S, a, b, hd, ha, hb, w⟩ := h
  cases a with
  | int i =>
    cases b with
    | int j => cases ha; cases hb; exact op_lt pins s σ H _ _ v u Q I rx ry ⟨i, j, rfl, rfl, wB w hd⟩
    | _ => exact w.elim
  | str i =>
    cases b with
    | str j => cases ha; cases hb; exact op_lt_str pins s σ H _ _ v u Q I rx ry ⟨i, j, rfl, rfl, wB w hd⟩
    | _ => exact w.elim
  | _ => cases b <;> exact w.elim
end
mutual
def toP : Dv → PyData
  | .non => .none
  | .bl b => .bool b
  | .int i => .int i
  | .str s => .str s
  | .lst l => .list (toPs l)
  | .tup l => .tuple (toPs l)
  | _ => .none
def toPs : List Dv → List PyData
  | [] => []
  | d :: l => toP d :: toPs l
end
section
variable {Z : Zx} {X : Cx} {G H : Hp} {α : List Addr} {S : Sto} {Q : VK} {E : XK}
mutual
theorem on_dp {n : Nat} : ∀ {d : Dv} {v : V}, okN n d = true → On Z G d v → Dp Z.K G v (toP d)
  | .non, _, _, h => by unfold On at h; subst h; unfold toP; exact .non
  | .bl _, _, _, h => by unfold On at h; subst h; unfold toP; exact .bl _
  | .int _, _, _, h => by unfold On at h; subst h; unfold toP; exact .int _
  | .str _, _, _, h => by unfold On at h; subst h; unfold toP; exact .str _
  | .lst l, v, k, h => by
    cases n with
    | zero => simp [okN] at k
    | succ n =>
      unfold On at h
      obtain ⟨a, xs, rfl, h1, h2⟩ := h
      unfold toP
      exact .lst (SqL.of h1) (onl_dp (n := n) (by simpa [okN] using k) h2)
  | .tup l, v, k, h => by
    cases n with
    | zero => simp [okN] at k
    | succ n =>
      unfold On at h
      obtain ⟨a, xs, rfl, h1, h2⟩ := h
      unfold toP
      exact .tup (SqT.of h1) (onl_dp (n := n) (by simpa [okN] using k) h2)
  | .ty _, _, k, _ => by simp [okN] at k
  | .cls _, _, k, _ => by simp [okN] at k
  | .scr _, _, k, _ => by simp [okN] at k
  | .ktp _, _, k, _ => by simp [okN] at k
  | .obj _ _, _, k, _ => by simp [okN] at k
  | .dic _ _ _, _, k, _ => by simp [okN] at k
theorem onl_dp {n : Nat} : ∀ {l : List Dv} {xs : List V}, okNs n l = true → OnL Z G l xs → DpAll Z.K G xs (toPs l)
  | [], xs, _, h => by rw [OnL.nil.mp h]; unfold toPs; exact .nil
  | d :: l, xs, k, h => by
    obtain ⟨y, ys, rfl, h2, h3⟩ := OnL.cons.mp h
    have k' : okN n d = true ∧ okNs n l = true := by simpa [okNs] using k
    unfold toPs
    exact .cons (on_dp k'.1 h2) (onl_dp k'.2 h3)
end
mutual
theorem ok_lay : ∀ {n : Nat} {d : Dv}, okN n d = true → (toP d).canLay0 = true ∧ (toP d).depth ≤ n
  | _, .non, _ => by simp [toP, PyData.canLay0, PyData.depth]
  | _, .bl _, _ => by simp [toP, PyData.canLay0, PyData.depth]
  | _, .int _, _ => by simp [toP, PyData.canLay0, PyData.depth]
  | _, .str s, k => by simp only [okN] at k; simp [toP, PyData.canLay0, PyData.depth, k]
  | 0, .lst l, k => by simp [okN] at k
  | n + 1, .lst l, k => by
    have h := ok_lays (n := n) (l := l) (by simpa [okN] using k)
    simp only [toP, PyData.canLay0, PyData.depth]
    exact ⟨h.1, by omega⟩
  | 0, .tup l, k => by simp [okN] at k
  | n + 1, .tup l, k => by
    have h := ok_lays (n := n) (l := l) (by simpa [okN] using k)
    simp only [toP, PyData.canLay0, PyData.depth]
    exact ⟨h.1, by omega⟩
  | _, .ty _, k => by simp [okN] at k
  | _, .cls _, k => by simp [okN] at k
  | _, .scr _, k => by simp [okN] at k
  | _, .ktp _, k => by simp [okN] at k
  | _, .obj _ _, k => by simp [okN] at k
  | _, .dic _ _ _, k => by simp [okN] at k
theorem ok_lays : ∀ {n : Nat} {l : List Dv}, okNs n l = true → PyData.canLayAll0 (toPs l) = true ∧ PyData.depthAll (toPs l) ≤ n
  | _, [], _ => by simp [toPs, PyData.canLayAll0, PyData.depthAll]
  | n, d :: l, k => by
    have k' : okN n d = true ∧ okNs n l = true := by simpa [okNs] using k
    have h1 := ok_lay k'.1
    have h2 := ok_lays k'.2
    simp only [toPs, PyData.canLayAll0, PyData.depthAll, h1.1, h2.1]
    exact ⟨rfl, by omega⟩
end
mutual
theorem eq_eqv : ∀ {n m : Nat} {a b : Dv}, okN n a = true → okN m b = true → PyData.eqv (toP a) (toP b) = eqD a b
  | n, m, a, b, ha, hb => by
    cases a <;> cases b <;> first
      | (simp [okN] at ha; done)
      | (simp [okN] at hb; done)
      | (simp [toP, PyData.eqv, eqD]; done)
      | skip
    · rename_i l k
      cases n with
      | zero => simp [okN] at ha
      | succ n =>
        cases m with
        | zero => simp [okN] at hb
        | succ m =>
          simp only [toP, PyData.eqv, eqD]
          exact eqs_eqv (by simpa [okN] using ha) (by simpa [okN] using hb)
    · rename_i l k
      cases n with
      | zero => simp [okN] at ha
      | succ n =>
        cases m with
        | zero => simp [okN] at hb
        | succ m =>
          simp only [toP, PyData.eqv, eqD]
          exact eqs_eqv (by simpa [okN] using ha) (by simpa [okN] using hb)
theorem eqs_eqv : ∀ {n m : Nat} {a b : List Dv}, okNs n a = true → okNs m b = true → PyData.eqvAll (toPs a) (toPs b) = eqDs a b
  | _, _, [], [], _, _ => by simp [toPs, PyData.eqvAll, eqDs]
  | _, _, [], _ :: _, _, _ => by simp [toPs, PyData.eqvAll, eqDs]
  | _, _, _ :: _, [], _, _ => by simp [toPs, PyData.eqvAll, eqDs]
  | n, m, a :: l, b :: k, ha, hb => by
    have ha' : okN n a = true ∧ okNs n l = true := by simpa [okNs] using ha
    have hb' : okN m b = true ∧ okNs m k = true := by simpa [okNs] using hb
    simp only [toPs, PyData.eqvAll, eqDs]
    rw [eq_eqv ha'.1 hb'.1, eqs_eqv ha'.2 hb'.2]
end
theorem ok_shaped {a : Dv} (h : okN 60 a = true) : SeqAt.shaped (toP a) = true := by
  obtain ⟨h1, h2⟩ := ok_lay h
  show ((toP a).canLay0 && decide ((toP a).depth ≤ 64)) = true
  rw [h1, decide_eq_true (by omega)]
  rfl
theorem oks_shaped {l : List Dv} (h : okNs 60 l = true) : SeqAt.shaped (.list (toPs l)) = true ∧ SeqAt.shaped (.tuple (toPs l)) = true := by
  obtain ⟨h1, h2⟩ := ok_lays h
  have e1 : (PyData.list (toPs l)).canLay0 = true := by simp only [PyData.canLay0]; exact h1
  have e2 : (PyData.tuple (toPs l)).canLay0 = true := by simp only [PyData.canLay0]; exact h1
  have d1 : (PyData.list (toPs l)).depth ≤ 64 := by simp only [PyData.depth]; omega
  have d2 : (PyData.tuple (toPs l)).depth ≤ 64 := by simp only [PyData.depth]; omega
  constructor
  · show ((PyData.list (toPs l)).canLay0 && decide ((PyData.list (toPs l)).depth ≤ 64)) = true
    rw [e1, decide_eq_true d1]; rfl
  · show ((PyData.tuple (toPs l)).canLay0 && decide ((PyData.tuple (toPs l)).depth ≤ 64)) = true
    rw [e2, decide_eq_true d2]; rfl
theorem and2 {a b : Bool} (h : (a && b) = true) : a = true ∧ b = true := by
  cases a <;> cases b <;> simp_all
theorem od_eq (hu : X.A.units + 64 < cLine) (hK : X.K = Z.K) : OpR X (compareOp .Eq) (rD Z gEq) := by
  intro pins s σ H x y v u Q I rx ry h
  obtain ⟨G, α, S, a, b, hd, ha, hb, w⟩ := h
  obtain ⟨h1, w⟩ := onlyIf_ok w
  obtain ⟨h1, h2⟩ := and2 h1
  refine op_eqD hu pins s σ H _ _ v u Q I rx ry ⟨toP a, toP b, hK ▸ on_dp h1 (ha.on hd.ex), hK ▸ on_dp h2 (hb.on hd.ex), ok_shaped h1, ok_shaped h2, ?_⟩
  rw [eq_eqv h1 h2]
  exact wB w hd
theorem od_ne (hu : X.A.units + 64 < cLine) (hK : X.K = Z.K) : OpR X (compareOp .NotEq) (rD Z gNe) := by
  intro pins s σ H x y v u Q I rx ry h
  obtain ⟨G, α, S, a, b, hd, ha, hb, w⟩ := h
  obtain ⟨h1, w⟩ := onlyIf_ok w
  obtain ⟨h1, h2⟩ := and2 h1
  refine op_neD hu pins s σ H _ _ v u Q I rx ry ⟨toP a, toP b, hK ▸ on_dp h1 (ha.on hd.ex), hK ▸ on_dp h2 (hb.on hd.ex), ok_shaped h1, ok_shaped h2, ?_⟩
  rw [eq_eqv h1 h2]
  exact wB w hd
theorem any_eqv {a : Dv} (ha : okN 60 a = true) : ∀ {l : List Dv}, okNs 60 l = true → ((toPs l).any fun z => PyData.eqv z (toP a)) = inD a l
  | [], _ => rfl
  | d :: l, h => by
    have h' : okN 60 d = true ∧ okNs 60 l = true := by simpa [okNs] using h
    simp only [toPs, inD, List.any_cons]
    rw [eq_eqv h'.1 ha, any_eqv ha h'.2]
    rfl
theorem sg_of {a : Str} {c : Nat} (h : a.cps.toList = [c]) : a = ⟨#[c]⟩ := by
  obtain ⟨⟨l⟩⟩ := a
  simp at h
  subst h
  rfl
theorem in_cases {a b : Dv} {neg : Bool} {g : Dv → Dv → Option Rt} (hg : g = if neg then gNotIn else gIn) (w : Wk Z (R.of S (g a b)) G α H (pRt Z Q) E) :
    (∃ s z, a = .str s ∧ b = .str z ∧ Wk Z (R.of S (vB (if neg then !inS s z else inS s z))) G α H (pRt Z Q) E) ∨
    (∃ l, (b = .lst l ∨ b = .tup l ∨ b = .ktp l) ∧ okN 60 a = true ∧ okNs 60 l = true ∧ Wk Z (R.of S (vB (if neg then !inD a l else inD a l))) G α H (pRt Z Q) E) := by
  subst hg
  cases b with
  | lst l =>
    have w' : Wk Z (R.of S (onlyIf (okN 60 a && okNs 60 l) (vB (if neg then !inD a l else inD a l)))) G α H (pRt Z Q) E := by cases neg <;> cases a <;> exact w
    obtain ⟨h1, w'⟩ := onlyIf_ok w'
    obtain ⟨h1, h2⟩ := and2 h1
    exact .inr ⟨l, .inl rfl, h1, h2, w'⟩
  | tup l =>
    have w' : Wk Z (R.of S (onlyIf (okN 60 a && okNs 60 l) (vB (if neg then !inD a l else inD a l)))) G α H (pRt Z Q) E := by cases neg <;> cases a <;> exact w
    obtain ⟨h1, w'⟩ := onlyIf_ok w'
    obtain ⟨h1, h2⟩ := and2 h1
    exact .inr ⟨l, .inr (.inl rfl), h1, h2, w'⟩
  | ktp l =>
    have w' : Wk Z (R.of S (onlyIf (okN 60 a && okNs 60 l) (vB (if neg then !inD a l else inD a l)))) G α H (pRt Z Q) E := by cases neg <;> cases a <;> exact w
    obtain ⟨h1, w'⟩ := onlyIf_ok w'
    obtain ⟨h1, h2⟩ := and2 h1
    exact .inr ⟨l, .inr (.inr rfl), h1, h2, w'⟩
  | str z =>
    cases a with
    | str s => exact .inl ⟨s, z, rfl, rfl, by cases neg <;> exact w⟩
    | _ => cases neg <;> exact w.elim
  | _ => cases neg <;> cases a <;> exact w.elim
theorem od_in (hu : X.A.units + 65 < cLine) (hK : X.K = Z.K) : OpR X (compareOp .In) (rD Z gIn) := by
  intro pins s σ H x y v u Q I rx ry h
  obtain ⟨G, α, S, a, b, hd, ha, hb, w⟩ := h
  rcases in_cases (neg := false) rfl w with ⟨t, z, rfl, rfl, w2⟩ | ⟨l, e, h1, h2, w2⟩
  · cases ha; cases hb
    unfold inS at w2
    cases e : t.cps.toList with
    | nil => simp only [e] at w2; exact op_in_str pins s σ H _ _ v u Q I rx ry ⟨t, z, rfl, rfl, wB w2 hd⟩
    | cons c r =>
      cases r with
      | nil => simp only [e] at w2; exact op_in_sign pins s σ H _ _ v u Q I rx ry ⟨c, z, by rw [sg_of e], rfl, wB w2 hd⟩
      | cons d r => simp only [e] at w2; exact op_in_str pins s σ H _ _ v u Q I rx ry ⟨t, z, rfl, rfl, wB w2 hd⟩
  · rcases e with rfl | rfl | rfl
    · obtain ⟨b, ys, rfl, h3, h4⟩ := hb
      exact op_inD hu pins s σ H _ _ v u Q I rx ry ⟨toP a, toPs l, hK ▸ on_dp h1 (ha.on hd.ex), hK ▸ .lst (SqL.of h3) (onl_dp h2 (h4.up hd.ex)), ok_shaped h1, (oks_shaped h2).1, by rw [any_eqv h1 h2]; exact wB w2 hd⟩
    · obtain ⟨b, ys, rfl, h3, h4⟩ := hb
      exact OP.op_inT hu pins s σ H _ _ v u Q I rx ry ⟨toP a, toPs l, hK ▸ on_dp h1 (ha.on hd.ex), hK ▸ .tup (SqT.of (hd.ex _ _ h3)) (onl_dp h2 (h4.up hd.ex)), ok_shaped h1, (oks_shaped h2).2, by rw [any_eqv h1 h2]; exact wB w2 hd⟩
    · obtain ⟨b, ys, rfl, h3, h4⟩ := hb
      exact OP.op_inT hu pins s σ H _ _ v u Q I rx ry ⟨toP a, toPs l, hK ▸ on_dp h1 (ha.on hd.ex), hK ▸ .tup (h3.sq hd.ex) (onl_dp h2 (h4.up hd.ex)), ok_shaped h1, (oks_shaped h2).2, by rw [any_eqv h1 h2]; exact wB w2 hd⟩
theorem od_notin (hu : X.A.units + 65 < cLine) (hK : X.K = Z.K) : OpR X (compareOp .NotIn) (rD Z gNotIn) := by
  intro pins s σ H x y v u Q I rx ry h
  obtain ⟨G, α, S, a, b, hd, ha, hb, w⟩ := h
  rcases in_cases (neg := true) rfl w with ⟨t, z, rfl, rfl, w2⟩ | ⟨l, e, h1, h2, w2⟩
  · cases ha; cases hb
    unfold inS at w2
    cases e : t.cps.toList with
    | nil => simp only [e] at w2; exact op_notin_str pins s σ H _ _ v u Q I rx ry ⟨t, z, rfl, rfl, wB w2 hd⟩
    | cons c r =>
      cases r with
      | nil => simp only [e] at w2; exact op_notIn_sign pins s σ H _ _ v u Q I rx ry ⟨c, z, by rw [sg_of e], rfl, wB w2 hd⟩
      | cons d r => simp only [e] at w2; exact op_notin_str pins s σ H _ _ v u Q I rx ry ⟨t, z, rfl, rfl, wB w2 hd⟩
  · rcases e with rfl | rfl | rfl
    · obtain ⟨b, ys, rfl, h3, h4⟩ := hb
      exact op_notInD hu pins s σ H _ _ v u Q I rx ry ⟨toP a, toPs l, hK ▸ on_dp h1 (ha.on hd.ex), hK ▸ .lst (SqL.of h3) (onl_dp h2 (h4.up hd.ex)), ok_shaped h1, (oks_shaped h2).1, by rw [any_eqv h1 h2]; exact wB w2 hd⟩
    · obtain ⟨b, ys, rfl, h3, h4⟩ := hb
      exact OP.op_notInT hu pins s σ H _ _ v u Q I rx ry ⟨toP a, toPs l, hK ▸ on_dp h1 (ha.on hd.ex), hK ▸ .tup (SqT.of (hd.ex _ _ h3)) (onl_dp h2 (h4.up hd.ex)), ok_shaped h1, (oks_shaped h2).2, by rw [any_eqv h1 h2]; exact wB w2 hd⟩
    · obtain ⟨b, ys, rfl, h3, h4⟩ := hb
      exact OP.op_notInT hu pins s σ H _ _ v u Q I rx ry ⟨toP a, toPs l, hK ▸ on_dp h1 (ha.on hd.ex), hK ▸ .tup (h3.sq hd.ex) (onl_dp h2 (h4.up hd.ex)), ok_shaped h1, (oks_shaped h2).2, by rw [any_eqv h1 h2]; exact wB w2 hd⟩
/-- a op1 b op2 c -/
def fChain (g g' : Dv → Dv → Option Rt) (fa fb fc : FE) : FE := fun env S => (fa env S).bindV fun S1 a => (fb env S1).bindV fun S2 b => (g2 S2 a b g).bindV fun S3 k => onB S3 k fun t =>
  if t then (fc env S3).bindV fun S4 c => g2 S4 b c g' else .ok S3 (.val (.d (.bl false)))
variable {Ew : L2.St → XK} {ta tb tc : TE} {fa fb fc : FE}
theorem rD_bind {γ : Type} {g : Dv → Dv → Option Rt} {a b : Vr} {x y : V} {f : Sto → Vr → R γ} {P : Pst γ} {Q' : VK} (hd : Hd Z G α S H) (ox : OnR Z G α a x) (oy : OnR Z G α b y) (w : Wk Z ((g2 S a b g).bindV f) G α H P E)
    (k : ∀ S2 d v H2 G2 α2, Fr G α H G2 α2 H2 → Hd Z G2 α2 S2 H2 → OnR Z G2 α2 d v → Wk Z (f S2 d) G2 α2 H2 P E → Q' v H2) : rD Z g x y H Q' := g2_ok hd ox oy (w.bindV k)
theorem se_chain {g g' : Dv → Dv → Option Rt} (ha : SE Z Ew ta fa) (hb : SE Z Ew tb fb) (hc : SE Z Ew tc fc) : SE Z Ew (tChain (rD Z g) (rD Z g') ta tb tc) (fChain g g' fa fb fc) := fun env σ G α S H Q hd oe w =>
  ha.bind hd oe w fun S2 a x H2 G2 α2 f2 hd2 oe2 ox w2 => hb.bind hd2 oe2 w2 fun S3 b y H3 G3 α3 f3 hd3 oe3 oy w3 =>
    rD_bind hd3 (ox.up f3.g f3.a) oy w3 fun S4 d v H4 G4 α4 f4 hd4 ov w4 => by
      obtain ⟨t, e, w5⟩ := onB_ok w4 ov
      refine ⟨t, e, ?_⟩
      cases t with
      | true => rw [if_pos rfl]; exact hc.bind hd4 (oe3.up f4.g f4.a) w5 fun S5 c z H5 G5 α5 f5 hd5 oe5 oz w6 => g2_ok hd5 ((oy.up f4.g f4.a).up f5.g f5.a) oz w6
      | false => rw [if_neg Bool.false_ne_true]; exact Wk.dat w5 hd4 (or_bl Z G4 α4 false)
variable {a b c : Expr} {pos : Pos}
theorem ptf_chain {op op' : CmpOp} {g g' : Dv → Dv → Option Rt} (h : OpR X (compareOp op) (rD Z g)) (h' : OpR X (compareOp op') (rD Z g')) (ha : PF Z Ew X a fa) (hb : PF Z Ew X b fb) (hc : PF Z Ew X c fc)
    (hm : lastMarks [op, op'] [b, c] = false := by with_unfolding_all rfl) : PTF Z Ew X (.Compare a [op, op'] [b, c] pos) (kVal (fChain g g' fa fb fc)) := by
  obtain ⟨ta, h1, h2⟩ := ha.ex
  obtain ⟨tb, h3, h4⟩ := hb.ex
  obtain ⟨tc, h5, h6⟩ := hc.ex
  exact ⟨_, pt_chain h h' h1 h3 h5 hm, st_val (se_chain h2 h4 h6)⟩
end
end DN
namespace DN
open PySem PySem.Spec PyProof.Rows L2 Evl
def vD (d : Dv) : Option Rt := some (.val (.d d))
def kHit (t : Bool) (a k : Dv) : Bool := match t with
  | false => decide (key? a = key? k)
  | true => decide (tkey? a = tkey? k)
def dLookG (g : Dv → Bool) : List Dv → List Dv → Option Dv
  | a :: ks, v :: vs => if g a then some v else dLookG g ks vs
  | _, _ => none
def dLook (t : Bool) (k : Dv) (ks vs : List Dv) : Option Dv := dLookG (fun a => kHit t a k) ks vs
def isKey (t : Bool) (k : Dv) : Bool := match t with
  | false => (key? k).isSome
  | true => (tkey? k).isSome
def gIx : Dv → Dv → Option Rt
  | .lst l, .int i => match atI l i with
    | some d => vD d
    | none => none
  | .tup l, .int i => match atI l i with
    | some d => vD d
    | none => none
  | .ktp l, .int i => match atI l i with
    | some d => vD d
    | none => none
  | .scr l, .int i => match atI l i with
    | some d => vI d
    | none => none
  | .str s, .int i => if s.length ≤ 100000 then (match atI s.cps.toList i with
    | some c => vS ⟨#[c]⟩
    | none => none) else none
  | .dic t ks vs, k => onlyIf (isKey t k) (match dLook t k ks vs with
    | some d => vD d
    | none => none)
  | _, _ => none
section
variable {Z : Zx} {X : Cx} {G H : Hp} {α : List Addr} {S : Sto} {Q : VK} {E : XK}
theorem wD {d : Dv} {v : V} (w : Wk Z (R.of S (vD d)) G α H (pRt Z Q) E) (hd : Hd Z G α S H) (o : On Z G d v) : Q v H := Wk.dat (v := .d d) w hd o
theorem onl_at {l : List Dv} {xs : List V} {i : Int} {d : Dv} (h : OnL Z G l xs) (e : atI l i = some d) : ∃ v, atI xs i = some v ∧ On Z G d v := by
  unfold atI at e ⊢
  rw [h.len]
  cases q : ixN l.length i with
  | none => rw [q] at e; cases e
  | some j => rw [q] at e; exact h.get e
theorem key_on {k : Dv} {x : V} {κ : Key} (h : OnH Z G H k x) (e : key? k = some κ) : x = kV κ := by
  cases k with
  | int i => cases e; cases h; rfl
  | str i => cases e; cases h; rfl
  | _ => cases e
theorem keys_on : ∀ {l : List Dv} {xs : List V} {kk : List Key}, OnL Z G l xs → l.mapM key? = some kk → xs = kk.map kV
  | [], xs, kk, h, e => by
    simp at e
    subst e
    rw [OnL.nil.mp h]
    rfl
  | d :: l, xs, kk, h, e => by
    obtain ⟨y, ys, rfl, h2, h3⟩ := OnL.cons.mp h
    rw [List.mapM_cons] at e
    cases q : key? d with
    | none => rw [q] at e; cases e
    | some a =>
      rw [q] at e
      cases q2 : l.mapM key? with
      | none => rw [q2] at e; cases e
      | some b =>
        rw [q2] at e
        cases e
        rw [keys_on h3 q2]
        have : y = kV a := key_on (H := G) (On.h (Ex.refl G) h2) q
        rw [this]
        rfl
theorem look_on {κ : Type} [DecidableEq κ] {f : Dv → Option κ} {k' : κ} {g : Dv → Bool} (hg : ∀ a b, f a = some b → g a = decide (b = k')) :
    ∀ {ks vs : List Dv} {kk : List κ} {ws : List V}, ks.map f = kk.map some → OnL Z G vs ws → ks.length = ws.length →
    (∀ d, dLookG g ks vs = some d → ∃ v, valV (kk.zip ws) k' = some v ∧ On Z G d v) ∧ (dLookG g ks vs = none → valV (kk.zip ws) k' = none)
  | [], vs, kk, ws, h1, h2, h3 => by
    have : ws = [] := List.length_eq_zero_iff.mp h3.symm
    subst this
    have e : kk = [] := by cases kk with
      | nil => rfl
      | cons a b => simp at h1
    subst e
    refine ⟨fun d h => ?_, fun _ => rfl⟩
    unfold dLookG at h
    cases h
  | a :: ks, vs, kk, ws, h1, h2, h3 => by
    cases kk with
    | nil => simp at h1
    | cons b kk =>
      simp only [List.map_cons, List.cons.injEq] at h1
      cases ws with
      | nil => simp at h3
      | cons w ws =>
        cases vs with
        | nil => have := OnL.nil.mp h2; cases this
        | cons v vs =>
          obtain ⟨y, ys, e, h4, h5⟩ := OnL.cons.mp h2
          cases e
          have ih := look_on hg (ks := ks) h1.2 h5 (by simpa using h3)
          have hb := hg a b h1.1
          show (∀ d, (if g a then some v else dLookG g ks vs) = some d → _) ∧ ((if g a then some v else dLookG g ks vs) = none → _)
          rw [hb, List.zip_cons_cons]
          by_cases q : b = k'
          · rw [decide_eq_true q, if_pos rfl]
            refine ⟨fun d e => ?_, fun e => ?_⟩
            · cases e
              exact ⟨w, valV_pos q, h4⟩
            · cases e
          · rw [decide_eq_false q, if_neg Bool.false_ne_true]
            rw [show valV ((b, w) :: kk.zip ws) k' = valV (kk.zip ws) k' from valV_neg q]
            exact ih
/-- what a dict tells of a key -/
theorem dic_get {t : Bool} {ks vs : List Dv} {k : Dv} {x y : V} (eG : Ex G H) (hx : OnH Z G H (.dic t ks vs) x) (hy : OnH Z G H k y) (hk : isKey t k = true) :
    ∃ a, x = .ref a ∧ (∀ d, dLook t k ks vs = some d → ∃ v, DGet H a y (some v) ∧ On Z G d v) ∧ (dLook t k ks vs = none → DGet H a y none) := by
  obtain ⟨a, ws, rfl, h1, h2, h3⟩ := hx
  refine ⟨a, rfl, ?_⟩
  cases t with
  | false =>
    obtain ⟨kk, e1, e2⟩ := h1
    cases q : key? k with
    | none => simp [isKey, q] at hk
    | some κ =>
      have ey := key_on hy q
      subst ey
      obtain ⟨p1, p2⟩ := look_on (f := key?) (k' := κ) (g := fun a => kHit false a k) (fun a b e => by
        show decide (key? a = key? k) = decide (b = κ)
        rw [e, q, decide_eq_decide, Option.some.injEq]) e1 h3 h2
      refine ⟨fun d e => ?_, fun e => ?_⟩
      · obtain ⟨v, e3, o⟩ := p1 d e
        exact ⟨v, e3 ▸ DGet.k e2, o⟩
      · exact p2 e ▸ DGet.k e2
  | true =>
    obtain ⟨kk, e1, e2⟩ := h1
    cases k with
    | tup l =>
      cases q : l.mapM key? with
      | none => simp [isKey, tkey?, q] at hk
      | some κ =>
        obtain ⟨b, xs, rfl, h4, h5⟩ := hy
        have ex := keys_on h5 q
        subst ex
        obtain ⟨p1, p2⟩ := look_on (f := tkey?) (k' := κ) (g := fun a => kHit true a (.tup l)) (fun a b e => by
          show decide (tkey? a = tkey? (.tup l)) = decide (b = κ)
          rw [e, show tkey? (.tup l) = some κ from q, decide_eq_decide, Option.some.injEq]) e1 h3 h2
        refine ⟨fun d e => ?_, fun e => ?_⟩
        · obtain ⟨v, e3, o⟩ := p1 d e
          exact ⟨v, e3 ▸ DGet.t e2 (eG _ _ h4), o⟩
        · exact p2 e ▸ DGet.t e2 (eG _ _ h4)
    | _ => simp [isKey, tkey?] at hk
theorem ix_dict (hu : X.A.units + 1 < cLine) : IxR X (fun x y H Q => ∃ a v, x = .ref a ∧ DGet H a y (some v) ∧ Q v H) := by
  intro value slice pins s σ H x y v u Q I rx ry h hs
  obtain ⟨a, r, rfl, g, q⟩ := h
  cases rx
  exact tail_any (dict_typeIs I g) PySem.F.slot_dict_getitem.lookup (d_getItem hu I g ry fun w' s3 I3 rw' => ⟨r, H, I3, rw', q⟩) hs
theorem ix_d (hu : X.A.units + 1 < cLine) (hK : X.K = Z.K) : IxR X (rD Z gIx) := by
  intro value slice pins s σ H x y v u Q I rx ry h hs
  obtain ⟨G, α, S, a, b, hd, ha, hb, w⟩ := h
  cases a with
  | lst l =>
    cases b with
    | int i =>
      cases hb
      obtain ⟨p, xs, rfl, h1, h2⟩ := ha
      have w' : Wk Z (R.of S (match atI l i with | some d => vD d | none => none)) G α H (pRt Z Q) E0 := w
      cases e : atI l i with
      | none => simp only [e] at w'; exact w'.elim
      | some d =>
        simp only [e] at w'
        obtain ⟨r, e2, o⟩ := onl_at h2 e
        exact ix_list value slice pins s σ H _ _ v u Q I rx ry ⟨p, xs, i, r, rfl, rfl, hK ▸ SqL.of h1, e2, wD w' hd o⟩ hs
    | _ => exact w.elim
  | tup l =>
    cases b with
    | int i =>
      cases hb
      obtain ⟨p, xs, rfl, h1, h2⟩ := ha
      have w' : Wk Z (R.of S (match atI l i with | some d => vD d | none => none)) G α H (pRt Z Q) E0 := w
      cases e : atI l i with
      | none => simp only [e] at w'; exact w'.elim
      | some d =>
        simp only [e] at w'
        obtain ⟨r, e2, o⟩ := onl_at h2 e
        exact ix_tup value slice pins s σ H _ _ v u Q I rx ry ⟨p, xs, i, r, rfl, rfl, hK ▸ SqT.of (hd.ex _ _ h1), e2, wD w' hd o⟩ hs
    | _ => exact w.elim
  | ktp l =>
    cases b with
    | int i =>
      cases hb
      obtain ⟨p, xs, rfl, h1, h2⟩ := ha
      have w' : Wk Z (R.of S (match atI l i with | some d => vD d | none => none)) G α H (pRt Z Q) E0 := w
      cases e : atI l i with
      | none => simp only [e] at w'; exact w'.elim
      | some d =>
        simp only [e] at w'
        obtain ⟨r, e2, o⟩ := onl_at h2 e
        exact ix_tup value slice pins s σ H _ _ v u Q I rx ry ⟨p, xs, i, r, rfl, rfl, hK ▸ h1.sq hd.ex, e2, wD w' hd o⟩ hs
    | _ => exact w.elim
  | scr l =>
    cases b with
    | int i =>
      cases hb
      obtain ⟨p, rfl, h1⟩ := ha
      have w' : Wk Z (R.of S (match atI l i with | some d => vI d | none => none)) G α H (pRt Z Q) E0 := w
      cases e : atI l i with
      | none => simp only [e] at w'; exact w'.elim
      | some d =>
        simp only [e] at w'
        refine ix_list value slice pins s σ H _ _ v u Q I rx ry ⟨p, l.map V.int, i, .int d, rfl, rfl, hK ▸ ex_l hd.ex h1, ?_, wI w' hd⟩ hs
        unfold atI at e ⊢
        rw [List.length_map]
        cases q : ixN l.length i with
        | none => rw [q] at e; cases e
        | some j =>
          rw [q] at e
          show (l.map V.int)[j]? = _
          rw [List.getElem?_map, show l[j]? = some d from e]
          rfl
    | _ => exact w.elim
  | str t =>
    cases b with
    | int i =>
      cases hb; cases ha
      have w' : Wk Z (R.of S (if t.length ≤ 100000 then (match atI t.cps.toList i with | some c => vS ⟨#[c]⟩ | none => none) else none)) G α H (pRt Z Q) E0 := w
      by_cases hl : t.length ≤ 100000
      · rw [if_pos hl] at w'
        cases e : atI t.cps.toList i with
        | none => simp only [e] at w'; exact w'.elim
        | some c =>
          simp only [e] at w'
          exact ix_str value slice pins s σ H _ _ v u Q I rx ry ⟨t, i, c, rfl, rfl, sz_of hl, e, wS w' hd⟩ hs
      · rw [if_neg hl] at w'
        exact w'.elim
    | _ => exact w.elim
  | dic t ks vs =>
    have w' : Wk Z (R.of S (onlyIf (isKey t b) (match dLook t b ks vs with | some d => vD d | none => none))) G α H (pRt Z Q) E0 := by cases b <;> exact w
    obtain ⟨hk, w'⟩ := onlyIf_ok w'
    obtain ⟨p, rfl, p1, p2⟩ := dic_get hd.ex ha hb hk
    cases e : dLook t b ks vs with
    | none => simp only [e] at w'; exact w'.elim
    | some d =>
      simp only [e] at w'
      obtain ⟨r, g, o⟩ := p1 d e
      exact ix_dict hu value slice pins s σ H _ _ v u Q I rx ry ⟨p, r, rfl, g, wD w' hd o⟩ hs
  | _ => cases b <;> exact w.elim
variable {Ew : L2.St → XK} {a b c : Expr} {fa fb fc : FE} {pos : Pos}
theorem pf_ix {g : Dv → Dv → Option Rt} (h : IxR X (rD Z g)) (ha : PF Z Ew X a fa) (hb : PF Z Ew X b fb) (hs : PlainIx b := by exact fun _ _ => rfl) : PF Z Ew X (.Subscript a b pos) (fOp g fa fb) := by
  obtain ⟨ta, h1, h2⟩ := ha.ex
  obtain ⟨tb, h3, h4⟩ := hb.ex
  exact ⟨_, pe_ix h h1 h3 hs, se_op h2 h4⟩
abbrev FO := Env → Sto → R (Option Int)
def fNoPart : FO := fun _ S => .ok S none
def fPart (fa : FE) : FO := fun env S => (fa env S).bindV fun S1 a => match a with
  | .d (.int i) => .ok S1 (some i)
  | _ => .no
def pO (Q : Option Int → Hp → Prop) : Pst (Option Int) := ⟨fun b _ _ _ H2 => Q b H2, fun _ q => q⟩
def SO (Z : Zx) (Ew : L2.St → XK) (t : TO) (f : FO) : Prop := ∀ env σ G α S H Q, Hd Z G α S H → OnE Z G α env σ → Wk Z (f env S) G α H (pO Q) (Ew σ) → t σ H Q
structure POF (Z : Zx) (Ew : L2.St → XK) (X : Cx) (e : Option Expr) (f : FO) : Prop where
  ex : ∃ te, PO X e te ∧ SO Z Ew te f
theorem pof_none : POF Z Ew X none fNoPart := ⟨_, po_none, fun env σ G α S H Q hd oe w => w.here hd⟩
theorem pof_some (h : PF Z Ew X a fa) : POF Z Ew X (some a) (fPart fa) := by
  obtain ⟨ta, h1, h2⟩ := h.ex
  refine ⟨_, po_some h1, fun env σ G α S H Q hd oe w => h2.bind hd oe w fun S2 d x H2 G2 α2 f2 hd2 oe2 ox w2 => ?_⟩
  match d, w2, ox with
  | .d (.int i), w2, ox =>
    have e : On Z G2 (.int i) x := ox
    unfold On at e
    exact ⟨i, e, w2.here hd2⟩
def cutL {β : Type} (l : List β) (lo hi : Option Int) : List β := (l.drop (HT.sIx l.length 0 lo)).take (HT.sIx l.length l.length hi - HT.sIx l.length 0 lo)
def gSl (lo hi : Option Int) : Dv → Option Rt
  | .lst l => nL (cutL l lo hi)
  | .tup l => vT (cutL l lo hi)
  | .str s => if s.length ≤ 100000 then vS (cutS s lo hi) else none
  | _ => none
def fSl (fa : FE) (lo hi : FO) : FE := fun env S => (fa env S).bindV fun S1 a => (lo env S1).bind fun S2 l => (hi env S2).bind fun S3 h => g1 S3 a (gSl l h)
theorem onl_cut {l : List Dv} {xs : List V} (h : OnL Z G l xs) (lo hi : Option Int) : OnL Z G (cutL l lo hi) (cutV xs lo hi) := by
  unfold cutL cutV
  rw [h.len]
  exact (h.drop _).take _
theorem cut_all {l : List Dv} {lo hi : Option Int} (h : HT.sIx l.length 0 lo = 0 ∧ HT.sIx l.length l.length hi = l.length) : cutL l lo hi = l := by
  unfold cutL
  rw [h.1, h.2, List.drop_zero, Nat.sub_zero, List.take_length]
def rSl (Z : Zx) : V → Option Int → Option Int → Hp → VK → Prop := fun x lo hi H Q => rU Z (gSl lo hi) x H Q
theorem sl_d (hK : X.K = Z.K) : L2.SlR X (rSl Z) := by
  intro pins s σ H x v vl vu lo hi sl Q I rx hs pl pu h
  obtain ⟨G, α, S, a, hd, ha, w⟩ := h
  cases a with
  | lst l =>
    obtain ⟨p, xs, rfl, h1, h2⟩ := ha
    exact sl_list pins s σ H _ v vl vu lo hi sl Q I rx hs pl pu ⟨p, xs, rfl, hK ▸ SqL.of h1, fun q hq => wL w hd (onl_cut h2 lo hi) hq⟩
  | tup l =>
    obtain ⟨p, xs, rfl, h1, h2⟩ := ha
    refine sl_tupA pins s σ H _ v vl vu lo hi sl Q I rx hs pl pu ⟨p, xs, rfl, SqT.of (hd.ex _ _ h1), fun e => ?_, fun _ q hq => wT w hd (onl_cut h2 lo hi) hq⟩
    rw [h2.len] at e
    have w' : Wk Z (R.of S (vT (cutL l lo hi))) G α H (pRt Z Q) E0 := w
    rw [cut_all e] at w'
    exact wkT w' hd h1 h2
  | str t =>
    cases ha
    have w' : Wk Z (R.of S (if t.length ≤ 100000 then vS (cutS t lo hi) else none)) G α H (pRt Z Q) E0 := w
    by_cases hl : t.length ≤ 100000
    · rw [if_pos hl] at w'
      exact sl_str pins s σ H _ v vl vu lo hi sl Q I rx hs pl pu ⟨t, rfl, sz_of hl, wS w' hd⟩
    · rw [if_neg hl] at w'
      exact w'.elim
  | _ => exact w.elim
theorem pf_slice {lo hi : Option Expr} {fl fh : FO} {p2 : Pos} (hK : X.K = Z.K) (ha : PF Z Ew X a fa) (hl : POF Z Ew X lo fl) (hh : POF Z Ew X hi fh) : PF Z Ew X (.Subscript a (.Slice lo hi none p2) pos) (fSl fa fl fh) := by
  obtain ⟨ta, h1, h2⟩ := ha.ex
  obtain ⟨tl, h3, h4⟩ := hl.ex
  obtain ⟨th, h5, h6⟩ := hh.ex
  refine ⟨_, pe_slice (sl_d hK) h1 h3 h5, fun env σ G α S H Q hd oe w => h2.bind hd oe w fun S2 d x H2 G2 α2 f2 hd2 oe2 ox w2 => ?_⟩
  refine h4 env σ G2 α2 S2 H2 _ hd2 oe2 (w2.bind (P' := pO _) fun S3 l H3 G3 α3 f3 hd3 w3 => ?_)
  refine h6 env σ G3 α3 S3 H3 _ hd3 (oe2.up f3.g f3.a) (w3.bind (P' := pO _) fun S4 u H4 G4 α4 f4 hd4 w4 => ?_)
  exact g1_ok hd4 ((ox.up f3.g f3.a).up f4.g f4.a) w4
end
end DN
namespace DN
open PySem PySem.Spec PyProof.Rows L2 Evl
def OnHA (Z : Zx) (G H : Hp) : List Dv → List V → Prop
  | [], xs => xs = []
  | d :: l, xs => ∃ y ys, xs = y :: ys ∧ OnH Z G H d y ∧ OnHA Z G H l ys
def snaps (S : Sto) : List Vr → Option (List Dv)
  | [] => some []
  | r :: l => match snap S r, snaps S l with
    | some d, some m => some (d :: m)
    | _, _ => none
section
variable {Z : Zx} {X : Cx} {G H : Hp} {α : List Addr} {S : Sto} {Q : VK} {E : XK}
theorem snaps_on : ∀ {l : List Vr} {vs : List V} {ds : List Dv}, Hd Z G α S H → OnA Z G α l vs → snaps S l = some ds → OnHA Z G H ds vs
  | [], vs, ds, hd, h, e => by cases e; exact h
  | r :: l, vs, ds, hd, h, e => by
    obtain ⟨y, ys, rfl, h2, h3⟩ := h
    unfold snaps at e
    cases e1 : snap S r with
    | none => rw [e1] at e; cases e
    | some d =>
      cases e2 : snaps S l with
      | none => rw [e1, e2] at e; cases e
      | some m =>
        rw [e1, e2] at e
        cases e
        exact ⟨y, ys, rfl, snap_on hd h2 e1, snaps_on hd h3 e2⟩
theorem OnHA.one {d : Dv} {xs : List V} (h : OnHA Z G H [d] xs) : ∃ y, xs = [y] ∧ OnH Z G H d y := by
  obtain ⟨y, ys, rfl, h2, h3⟩ := h
  cases (show ys = [] from h3)
  exact ⟨y, rfl, h2⟩
theorem OnHA.two {d e : Dv} {xs : List V} (h : OnHA Z G H [d, e] xs) : ∃ y z, xs = [y, z] ∧ OnH Z G H d y ∧ OnH Z G H e z := by
  obtain ⟨y, ys, rfl, h2, h3⟩ := h
  obtain ⟨z, rfl, h4⟩ := h3.one
  exact ⟨y, z, rfl, h2, h4⟩
def gA (S : Sto) (l : List Vr) (g : List Dv → Option Rt) : R Rt := match snaps S l with
  | some ds => R.of S (g ds)
  | none => .no
def fCall (g : List Dv → Option Rt) (fa : FA) : FE := fun env S => (fa env S).bind fun S1 l => gA S1 l g
def rA (Z : Zx) (g : List Dv → Option Rt) : List V → Hp → VK → Prop := fun xs H Q => ∃ G α S l, Hd Z G α S H ∧ OnHA Z G H l xs ∧ Wk Z (R.of S (g l)) G α H (pRt Z Q) E0
theorem gA_ok {l : List Vr} {vs : List V} {g : List Dv → Option Rt} (hd : Hd Z G α S H) (ol : OnA Z G α l vs) (w : Wk Z (gA S l g) G α H (pRt Z Q) E) : rA Z g vs H Q := by
  unfold gA at w
  cases e : snaps S l with
  | none => rw [e] at w; exact w.elim
  | some ds => rw [e] at w; exact ⟨G, α, S, ds, hd, snaps_on hd ol e, w.any⟩
variable {Ew : L2.St → XK} {ta : TA} {fa : FA}
theorem se_call {g : List Dv → Option Rt} (ha : SA Z Ew ta fa) : SE Z Ew (tCB (rA Z g) ta) (fCall g fa) := fun env σ G α S H Q hd oe w =>
  ha.bind hd oe w fun S2 l vs H2 G2 α2 f2 hd2 oe2 ol w2 => gA_ok hd2 ol w2
variable {x : Str} {p pos : Pos} {e : Expr} {es : List Expr}
theorem pf_callB {id : String} {g : List Dv → Option Rt} (hc : CallR X (.builtin id) (rA Z g)) (hg : Gl X x) (hm : X.mg x = none) (hv : bootBuiltins x = some (.builtin id)) (ha : PAF Z Ew X (e :: es) fa) (hn : x ≠ "__name__" := by decide) (hdb : (x == ("__debug__" : Str)) = false := by decide)
    (he : starEach (e :: es) X.env = (false, eval e X.env) :: starEach es X.env := by rfl) (hpl : (backTo pos (starEach es X.env)).any (·.1) = false := by rfl) : PF Z Ew X (.Call (.Name x p) (e :: es) [] pos) (fCall g fa) := by
  obtain ⟨ta, h1, h2⟩ := ha.ex
  exact ⟨_, pe_callB hc hg hm hv h1 hn hdb he hpl, se_call h2⟩
theorem pf_callT {T : String} {g : List Dv → Option Rt} (hc : CallR X (.type T) (rA Z g)) (hg : Gl X x) (hm : X.mg x = none) (hv : bootBuiltins x = some (.type T)) (ha : PAF Z Ew X (e :: es) fa) (hn : x ≠ "__name__" := by decide) (hdb : (x == ("__debug__" : Str)) = false := by decide)
    (he : starEach (e :: es) X.env = (false, eval e X.env) :: starEach es X.env := by rfl) (hpl : (backTo pos (starEach es X.env)).any (·.1) = false := by rfl) : PF Z Ew X (.Call (.Name x p) (e :: es) [] pos) (fCall g fa) := by
  obtain ⟨ta, h1, h2⟩ := ha.ex
  exact ⟨_, pe_callTy hc hg hm hv h1 hn hdb he hpl, se_call h2⟩
end
def arg1 (f : Dv → Option Rt) : List Dv → Option Rt
  | [x] => f x
  | _ => none
def arg12 (f : Dv → Option Rt) (g : Dv → Dv → Option Rt) : List Dv → Option Rt
  | [x] => f x
  | [x, y] => g x y
  | _ => none
theorem arg1_ok {Z : Zx} {G H : Hp} {α : List Addr} {S : Sto} {P : Pst Rt} {E : XK} {f : Dv → Option Rt} {l : List Dv} {xs : List V} (h : OnHA Z G H l xs) (w : Wk Z (R.of S (arg1 f l)) G α H P E) : ∃ x y, xs = [y] ∧ OnH Z G H x y ∧ Wk Z (R.of S (f x)) G α H P E := by
  cases l with
  | nil => exact w.elim
  | cons a r =>
    cases r with
    | nil =>
      obtain ⟨y, e, o⟩ := h.one
      exact ⟨a, y, e, o, w⟩
    | cons b r => exact w.elim
theorem arg12_ok {Z : Zx} {G H : Hp} {α : List Addr} {S : Sto} {P : Pst Rt} {E : XK} {f : Dv → Option Rt} {g : Dv → Dv → Option Rt} {l : List Dv} {xs : List V} (h : OnHA Z G H l xs) (w : Wk Z (R.of S (arg12 f g l)) G α H P E) :
    (∃ x y, xs = [y] ∧ OnH Z G H x y ∧ Wk Z (R.of S (f x)) G α H P E) ∨ ∃ x x2 y y2, xs = [y, y2] ∧ OnH Z G H x y ∧ OnH Z G H x2 y2 ∧ Wk Z (R.of S (g x x2)) G α H P E := by
  cases l with
  | nil => exact w.elim
  | cons a r =>
    cases r with
    | nil =>
      obtain ⟨y, e, o⟩ := h.one
      exact .inl ⟨a, y, e, o, w⟩
    | cons b r =>
      cases r with
      | nil =>
        obtain ⟨y, z, e, o, o2⟩ := h.two
        exact .inr ⟨a, b, y, z, e, o, o2, w⟩
      | cons c r => exact w.elim
def gLen1 : Dv → Option Rt
  | .lst l => vI l.length
  | .tup l => vI l.length
  | .ktp l => vI l.length
  | .scr l => vI l.length
  | .str s => if s.length ≤ 100000 then vI s.length else none
  | .dic false ks _ => vI ks.length
  | _ => none
def gLen : List Dv → Option Rt := arg1 gLen1
def ints? : List Dv → Option (List Int)
  | [] => some []
  | .int i :: l => match ints? l with
    | some m => some (i :: m)
    | none => none
  | _ => none
def bools? : List Dv → Option (List Bool)
  | [] => some []
  | .bl i :: l => match bools? l with
    | some m => some (i :: m)
    | none => none
  | _ => none
def strs? : List Dv → Option (List Str)
  | [] => some []
  | .str i :: l => match strs? l with
    | some m => some (i :: m)
    | none => none
  | _ => none
def maxI : List Int → Option Int
  | [] => none
  | i :: l => match maxI l with
    | some m => some (if m ≤ i then i else m)
    | none => some i
def minI : List Int → Option Int
  | [] => none
  | i :: l => match minI l with
    | some m => some (if i ≤ m then i else m)
    | none => some i
def onI (o : Option (List Int)) (f : List Int → Option Rt) : Option Rt := match o with
  | some l => f l
  | none => none
def gMax1 : Dv → Option Rt
  | .lst l => onI (ints? l) fun ns => match maxI ns with
    | some m => vI m
    | none => none
  | _ => none
def gMax2 : Dv → Dv → Option Rt
  | .int i, .int j => vI (if j > i then j else i)
  | _, _ => none
def gMax : List Dv → Option Rt := arg12 gMax1 gMax2
def gMin1 : Dv → Option Rt
  | .lst l => onI (ints? l) fun ns => match minI ns with
    | some m => vI m
    | none => none
  | _ => none
def gMin2 : Dv → Dv → Option Rt
  | .int i, .int j => vI (if j < i then j else i)
  | _, _ => none
def gMin : List Dv → Option Rt := arg12 gMin1 gMin2
def gInt1 : Dv → Option Rt
  | .int i => vI i
  | .bl b => vI (if b then 1 else 0)
  | .str s => if s.length ≤ 640 then (match PySem.intText? s with
    | some n => vI n
    | none => none) else none
  | _ => none
def gInt : List Dv → Option Rt := arg1 gInt1
def gAll1 : Dv → Option Rt
  | .lst l => match bools? l with
    | some bs => vB (bs.all id)
    | none => none
  | _ => none
def gAll : List Dv → Option Rt := arg1 gAll1
def gList1 : Dv → Option Rt
  | .lst l => nL l
  | .tup l => nL l
  | .ktp l => nL l
  | .str s => if s.length ≤ 100000 then nL (s.cps.toList.map fun c => .str ⟨#[c]⟩) else none
  | _ => none
def gList : List Dv → Option Rt := arg1 gList1
def gTuple1 : Dv → Option Rt
  | .lst l => vT l
  | .tup l => vT l
  | _ => none
def gTuple : List Dv → Option Rt := arg1 gTuple1
def gStr1 : Dv → Option Rt
  | .int i => if i.natAbs.log2 < 1920 then vS (toString i) else none
  | .str s => vS s
  | _ => none
def gStr : List Dv → Option Rt := arg1 gStr1
section
variable {Z : Zx} {X : Cx} {G H : Hp} {α : List Addr} {S : Sto} {Q : VK} {E : XK}
theorem ints_on : ∀ {l : List Dv} {ns : List Int} {xs : List V}, ints? l = some ns → OnL Z G l xs → xs = ns.map V.int
  | [], ns, xs, e, h => by cases e; rw [OnL.nil.mp h]; rfl
  | .int i :: l, ns, xs, e, h => by
    obtain ⟨y, ys, rfl, h2, h3⟩ := OnL.cons.mp h
    unfold ints? at e
    cases q : ints? l with
    | none => rw [q] at e; cases e
    | some m =>
      rw [q] at e
      cases e
      unfold On at h2
      rw [h2, ints_on q h3]
      rfl
theorem bools_on : ∀ {l : List Dv} {ns : List Bool} {xs : List V}, bools? l = some ns → OnL Z G l xs → xs = ns.map V.bl
  | [], ns, xs, e, h => by cases e; rw [OnL.nil.mp h]; rfl
  | .bl i :: l, ns, xs, e, h => by
    obtain ⟨y, ys, rfl, h2, h3⟩ := OnL.cons.mp h
    unfold bools? at e
    cases q : bools? l with
    | none => rw [q] at e; cases e
    | some m =>
      rw [q] at e
      cases e
      unfold On at h2
      rw [h2, bools_on q h3]
      rfl
theorem strs_on : ∀ {l : List Dv} {ns : List Str} {xs : List V}, strs? l = some ns → OnL Z G l xs → xs = ns.map V.str
  | [], ns, xs, e, h => by cases e; rw [OnL.nil.mp h]; rfl
  | .str i :: l, ns, xs, e, h => by
    obtain ⟨y, ys, rfl, h2, h3⟩ := OnL.cons.mp h
    unfold strs? at e
    cases q : strs? l with
    | none => rw [q] at e; cases e
    | some m =>
      rw [q] at e
      cases e
      unfold On at h2
      rw [h2, strs_on q h3]
      rfl
theorem maxI_ok : ∀ {l : List Int} {m : Int}, maxI l = some m → m ∈ l ∧ ∀ y ∈ l, y ≤ m
  | [], m, e => by cases e
  | i :: l, m, e => by
    unfold maxI at e
    cases q : maxI l with
    | none =>
      rw [q] at e
      cases e
      have : l = [] := by
        cases l with
        | nil => rfl
        | cons a b => unfold maxI at q; cases r : maxI b <;> simp [r] at q
      subst this
      exact ⟨by simp, fun y hy => by simp at hy; omega⟩
    | some k =>
      rw [q] at e
      obtain ⟨h1, h2⟩ := maxI_ok q
      cases e
      by_cases c : k ≤ i
      · rw [if_pos c]
        exact ⟨by simp, fun y hy => by
          rcases List.mem_cons.mp hy with rfl | hy
          · omega
          · have := h2 y hy; omega⟩
      · rw [if_neg c]
        exact ⟨List.mem_cons_of_mem _ h1, fun y hy => by
          rcases List.mem_cons.mp hy with rfl | hy
          · omega
          · exact h2 y hy⟩
theorem minI_ok : ∀ {l : List Int} {m : Int}, minI l = some m → m ∈ l ∧ ∀ y ∈ l, m ≤ y
  | [], m, e => by cases e
  | i :: l, m, e => by
    unfold minI at e
    cases q : minI l with
    | none =>
      rw [q] at e
      cases e
      have : l = [] := by
        cases l with
        | nil => rfl
        | cons a b => unfold minI at q; cases r : minI b <;> simp [r] at q
      subst this
      exact ⟨by simp, fun y hy => by simp at hy; omega⟩
    | some k =>
      rw [q] at e
      obtain ⟨h1, h2⟩ := minI_ok q
      cases e
      by_cases c : i ≤ k
      · rw [if_pos c]
        exact ⟨by simp, fun y hy => by
          rcases List.mem_cons.mp hy with rfl | hy
          · omega
          · have := h2 y hy; omega⟩
      · rw [if_neg c]
        exact ⟨List.mem_cons_of_mem _ h1, fun y hy => by
          rcases List.mem_cons.mp hy with rfl | hy
          · omega
          · exact h2 y hy⟩
theorem cd_len (hK : X.K = Z.K) : CallR X (.builtin "len") (rA Z gLen) := by
  intro pins s σ H xs us Q I r h
  obtain ⟨G, α, S, l, hd, hl, w⟩ := h
  obtain ⟨x, y, rfl, hx, w⟩ := arg1_ok hl w
  cases x with
  | lst l =>
    obtain ⟨a, xs, rfl, h1, h2⟩ := hx
    have w' := wI w hd
    rw [← h2.len] at w'
    exact call_len_seq pins s σ H _ us Q I r ⟨a, xs, rfl, .inl (SqL.of h1), w'⟩
  | tup l =>
    obtain ⟨a, xs, rfl, h1, h2⟩ := hx
    have w' := wI w hd
    rw [← h2.len] at w'
    exact call_len_seq pins s σ H _ us Q I r ⟨a, xs, rfl, .inr (SqT.of (hd.ex _ _ h1)), w'⟩
  | ktp l =>
    obtain ⟨a, xs, rfl, h1, h2⟩ := hx
    have w' := wI w hd
    rw [← h2.len] at w'
    exact call_len_seq pins s σ H _ us Q I r ⟨a, xs, rfl, .inr (hK ▸ h1.sq hd.ex), w'⟩
  | scr l =>
    obtain ⟨a, rfl, h1⟩ := hx
    have w' := wI w hd
    rw [← List.length_map (f := V.int)] at w'
    exact call_len_seq pins s σ H _ us Q I r ⟨a, _, rfl, .inl (hK ▸ ex_l hd.ex h1), w'⟩
  | str t =>
    cases hx
    have w' : Wk Z (R.of S (if t.length ≤ 100000 then vI t.length else none)) G α H (pRt Z Q) E0 := w
    by_cases c : t.length ≤ 100000
    · rw [if_pos c] at w'
      exact call_len_str pins s σ H _ us Q I r ⟨t, rfl, sz_of c, wI w' hd⟩
    · rw [if_neg c] at w'
      exact w'.elim
  | dic t ks vs =>
    cases t with
    | true => exact w.elim
    | false =>
    obtain ⟨a, ws, rfl, ⟨kk, e1, e2⟩, h2, h3⟩ := hx
    have w' := wI w hd
    have e3 : kk.length = ks.length := by have := congrArg List.length e1; rw [List.length_map, List.length_map] at this; exact this.symm
    refine call_lenD pins s σ H _ us Q I r ⟨a, kk.zip ws, rfl, e2, ?_⟩
    rw [List.length_zip, e3, ← h2, Nat.min_self]
    exact w'
  | _ => exact w.elim
theorem cd_max (hc : X.calm = true) (hK : X.K = Z.K) : CallR X (.builtin "max") (rA Z gMax) := by
  intro pins s σ H xs us Q I r h
  obtain ⟨G, α, S, l, hd, hl, w⟩ := h
  rcases arg12_ok hl w with ⟨x, y, rfl, hx, w⟩ | ⟨x, x2, y, y2, rfl, hx, hx2, w⟩
  · cases x with
    | lst l =>
      obtain ⟨a, xs, rfl, h1, h2⟩ := hx
      have w' : Wk Z (R.of S (onI (ints? l) fun ns => match maxI ns with | some m => vI m | none => none)) G α H (pRt Z Q) E0 := w
      cases q : ints? l with
      | none => rw [q] at w'; exact w'.elim
      | some ns =>
        rw [q] at w'
        have w' : Wk Z (R.of S (match maxI ns with | some m => vI m | none => none)) G α H (pRt Z Q) E0 := w'
        cases q2 : maxI ns with
        | none => simp only [q2] at w'; exact w'.elim
        | some m =>
          simp only [q2] at w'
          obtain ⟨m1, m2⟩ := maxI_ok q2
          have ex := ints_on q h2
          subst ex
          refine cr_max hc pins s σ H _ us Q I r ⟨a, ns, rfl, SqL.of h1, List.length_pos_of_mem m1, fun k k1 k2 => ?_⟩
          have e : k = m := Int.le_antisymm (m2 k k1) (k2 m m1)
          subst e
          exact wI w' hd
    | _ => exact w.elim
  · cases x with
    | int i =>
      cases x2 with
      | int j => cases hx; cases hx2; exact call_max2 hc pins s σ H _ us Q I r ⟨i, j, rfl, wI w hd⟩
      | _ => exact w.elim
    | _ => cases x2 <;> exact w.elim
theorem cd_min (hc : X.calm = true) (hK : X.K = Z.K) : CallR X (.builtin "min") (rA Z gMin) := by
  intro pins s σ H xs us Q I r h
  obtain ⟨G, α, S, l, hd, hl, w⟩ := h
  rcases arg12_ok hl w with ⟨x, y, rfl, hx, w⟩ | ⟨x, x2, y, y2, rfl, hx, hx2, w⟩
  · cases x with
    | lst l =>
      obtain ⟨a, xs, rfl, h1, h2⟩ := hx
      have w' : Wk Z (R.of S (onI (ints? l) fun ns => match minI ns with | some m => vI m | none => none)) G α H (pRt Z Q) E0 := w
      cases q : ints? l with
      | none => rw [q] at w'; exact w'.elim
      | some ns =>
        rw [q] at w'
        have w' : Wk Z (R.of S (match minI ns with | some m => vI m | none => none)) G α H (pRt Z Q) E0 := w'
        cases q2 : minI ns with
        | none => simp only [q2] at w'; exact w'.elim
        | some m =>
          simp only [q2] at w'
          obtain ⟨m1, m2⟩ := minI_ok q2
          have ex := ints_on q h2
          subst ex
          refine cr_min hc pins s σ H _ us Q I r ⟨a, ns, rfl, SqL.of h1, List.length_pos_of_mem m1, fun k k1 k2 => ?_⟩
          have e : k = m := Int.le_antisymm (k2 m m1) (m2 k k1)
          subst e
          exact wI w' hd
    | _ => exact w.elim
  · cases x with
    | int i =>
      cases x2 with
      | int j => cases hx; cases hx2; exact call_min2 hc pins s σ H _ us Q I r ⟨i, j, rfl, wI w hd⟩
      | _ => exact w.elim
    | _ => cases x2 <;> exact w.elim
theorem cd_int : CallR X (.type "int") (rA Z gInt) := by
  intro pins s σ H xs us Q I r h
  obtain ⟨G, α, S, l, hd, hl, w⟩ := h
  obtain ⟨x, y, rfl, hx, w⟩ := arg1_ok hl w
  cases x with
  | int i =>
    cases hx
    exact call_int1 pins s σ H _ us Q I r (.inl ⟨i, rfl, wI w hd⟩)
  | bl i =>
    cases hx
    exact call_int1 pins s σ H _ us Q I r (.inr ⟨i, rfl, wI w hd⟩)
  | str t =>
    cases hx
    have w' : Wk Z (R.of S (if t.length ≤ 640 then (match PySem.intText? t with | some n => vI n | none => none) else none)) G α H (pRt Z Q) E0 := w
    by_cases c : t.length ≤ 640
    · rw [if_pos c] at w'
      cases q : PySem.intText? t with
      | none => simp only [q] at w'; exact w'.elim
      | some n => simp only [q] at w'; exact call_int_str pins s σ H _ us Q I r ⟨t, n, rfl, q, c, wI w' hd⟩
    · rw [if_neg c] at w'
      exact w'.elim
  | _ => exact w.elim
theorem cd_all (hc : X.calm = true) : CallR X (.builtin "all") (rA Z gAll) := by
  intro pins s σ H xs us Q I r h
  obtain ⟨G, α, S, l, hd, hl, w⟩ := h
  obtain ⟨x, y, rfl, hx, w⟩ := arg1_ok hl w
  cases x with
  | lst l =>
    obtain ⟨a, xs, rfl, h1, h2⟩ := hx
    have w' : Wk Z (R.of S (match bools? l with | some bs => vB (bs.all id) | none => none)) G α H (pRt Z Q) E0 := w
    cases q : bools? l with
    | none => simp only [q] at w'; exact w'.elim
    | some ns =>
      simp only [q] at w'
      have ex := bools_on q h2
      subst ex
      exact cr_all hc pins s σ H _ us Q I r ⟨a, ns, rfl, SqL.of h1, wB w' hd⟩
  | _ => exact w.elim
theorem onl_signs : ∀ l : List Nat, OnL Z G (l.map fun c => .str ⟨#[c]⟩) (l.map fun c => V.str ⟨#[c]⟩)
  | [] => OnL.nil'
  | c :: l => OnL.cons' on_str (onl_signs l)
theorem cd_list (hc : X.calm = true) (hK : X.K = Z.K) : CallR X (.type "list") (rA Z gList) := by
  intro pins s σ H xs us Q I r h
  obtain ⟨G, α, S, l, hd, hl, w⟩ := h
  obtain ⟨x, y, rfl, hx, w⟩ := arg1_ok hl w
  cases x with
  | lst l =>
    obtain ⟨a, xs, rfl, h1, h2⟩ := hx
    exact call_list_of pins s σ H _ us Q I r ⟨a, xs, rfl, .inl (SqL.of h1), fun p hp => wL w hd h2 hp⟩
  | tup l =>
    obtain ⟨a, xs, rfl, h1, h2⟩ := hx
    exact call_list_of pins s σ H _ us Q I r ⟨a, xs, rfl, .inr (SqT.of (hd.ex _ _ h1)), fun p hp => wL w hd h2 hp⟩
  | ktp l =>
    obtain ⟨a, xs, rfl, h1, h2⟩ := hx
    exact call_list_of pins s σ H _ us Q I r ⟨a, xs, rfl, .inr (hK ▸ h1.sq hd.ex), fun p hp => wL w hd h2 hp⟩
  | str t =>
    cases hx
    have w' : Wk Z (R.of S (if t.length ≤ 100000 then nL (t.cps.toList.map fun c => .str ⟨#[c]⟩) else none)) G α H (pRt Z Q) E0 := w
    by_cases c : t.length ≤ 100000
    · rw [if_pos c] at w'
      exact OP.call_list_text hc pins s σ H _ us Q I r ⟨t, rfl, sz_of c, fun p hp => wL w' hd (onl_signs _) hp⟩
    · rw [if_neg c] at w'
      exact w'.elim
  | _ => exact w.elim
end
end DN
namespace DN
open PySem PySem.Spec PyProof.Rows L2 Evl
def isT (T : String) : Dv → Bool
  | .str _ => T == "str"
  | .int _ => T == "int"
  | .lst _ => T == "list"
  | _ => false
def gM (S : Sto) (a : Vr) (l : List Vr) (g : Dv → List Dv → Option Rt) : R Rt := match snap S a, snaps S l with
  | some d, some ds => R.of S (g d ds)
  | _, _ => .no
def onT {β : Type} (T : String) (S : Sto) (a : Vr) (r : R β) : R β := match snap S a with
  | some d => if isT T d then r else .no
  | none => .no
def fMeth (T : String) (g : Dv → List Dv → Option Rt) (fo : FE) (fa : FA) : FE := fun env S => (fo env S).bindV fun S1 a => onT T S1 a ((fa env S1).bind fun S2 l => gM S2 a l g)
/-- a list that is changed: its items, the arguments; its items behind, what is handed back -/
def gMu (S : Sto) (a : Vr) (l : List Vr) (g : List Dv → List Dv → Option (List Dv × Dv)) : R Rt := match a, allD l with
  | .r n, some ds => match S[n]? with
    | some (.lst l0) => match g l0 ds with
      | some (l1, res) => .ok (S.set n (.lst l1)) (.val (.d res))
      | none => .no
    | _ => .no
  | _, _ => .no
def fMut (g : List Dv → List Dv → Option (List Dv × Dv)) (fo : FE) (fa : FA) : FE := fun env S => (fo env S).bindV fun S1 a => onT "list" S1 a ((fa env S1).bind fun S2 l => gMu S2 a l g)
def gAppend (l ds : List Dv) : Option (List Dv × Dv) := match ds with
  | [y] => if l.length < 100000 then some (l ++ [y], .non) else none
  | _ => none
def gPop (l ds : List Dv) : Option (List Dv × Dv) := match ds with
  | [] => match l[l.length - 1]? with
    | some y => some (l.dropLast, y)
    | none => none
  | _ => none
def gClear (l ds : List Dv) : Option (List Dv × Dv) := match ds with
  | [] => some ([], .non)
  | _ => none
section
variable {Z : Zx} {X : Cx} {G H : Hp} {α : List Addr} {S : Sto} {Q : VK} {E : XK}
def rM (Z : Zx) (g : Dv → List Dv → Option Rt) : V → List V → Hp → VK → Prop := fun x xs H Q => ∃ G α S d l, Hd Z G α S H ∧ OnH Z G H d x ∧ OnHA Z G H l xs ∧ Wk Z (R.of S (g d l)) G α H (pRt Z Q) E0
def rMu (Z : Zx) (g : List Dv → List Dv → Option (List Dv × Dv)) : V → List V → Hp → VK → Prop := fun x xs H Q => ∃ G α S n a l0 ds l1 res, Hd Z G α S H ∧ x = .ref a ∧ α[n]? = some a ∧ S[n]? = some (.lst l0) ∧ OnL Z G ds xs ∧ g l0 ds = some (l1, res) ∧
  Wk Z (.ok (S.set n (.lst l1)) (.val (.d res))) G α H (pRt Z Q) E0
theorem ty_on {T : String} {d : Dv} {x : V} (eG : Ex G H) (h : OnH Z G H d x) (e : isT T d = true) : tyV Z.K T x H := by
  cases d with
  | str s => cases h; exact beq_iff_eq.mp e
  | int s => cases h; exact beq_iff_eq.mp e
  | lst l => obtain ⟨a, xs, rfl, h1, h2⟩ := h; exact .inl ⟨beq_iff_eq.mp e, xs, SqL.of h1⟩
  | _ => cases e
theorem onT_ok {β : Type} {T : String} {a : Vr} {x : V} {r : R β} {P : Pst β} (hd : Hd Z G α S H) (ox : OnR Z G α a x) (w : Wk Z (onT T S a r) G α H P E) : tyV Z.K T x H ∧ Wk Z r G α H P E := by
  unfold onT at w
  cases e : snap S a with
  | none => rw [e] at w; exact w.elim
  | some d =>
    rw [e] at w
    cases e2 : isT T d with
    | false => simp only [e2] at w; exact w.elim
    | true => simp only [e2] at w; exact ⟨ty_on hd.ex (snap_on hd ox e) e2, w⟩
theorem gM_ok {a : Vr} {x : V} {l : List Vr} {vs : List V} {g : Dv → List Dv → Option Rt} (hd : Hd Z G α S H) (ox : OnR Z G α a x) (ol : OnA Z G α l vs) (w : Wk Z (gM S a l g) G α H (pRt Z Q) E) : rM Z g x vs H Q := by
  unfold gM at w
  cases e : snap S a with
  | none => rw [e] at w; exact w.elim
  | some d =>
    cases e2 : snaps S l with
    | none => rw [e, e2] at w; exact w.elim
    | some ds => rw [e, e2] at w; exact ⟨G, α, S, d, ds, hd, snap_on hd ox e, snaps_on hd ol e2, w.any⟩
theorem gMu_ok {a : Vr} {x : V} {l : List Vr} {vs : List V} {g : List Dv → List Dv → Option (List Dv × Dv)} (hd : Hd Z G α S H) (ox : OnR Z G α a x) (ol : OnA Z G α l vs) (w : Wk Z (gMu S a l g) G α H (pRt Z Q) E) : rMu Z g x vs H Q := by
  unfold gMu at w
  cases a with
  | d d => cases e : allD l <;> (rw [e] at w; exact w.elim)
  | r n =>
    cases e : allD l with
    | none => rw [e] at w; exact w.elim
    | some ds =>
      rw [e] at w
      cases e2 : S[n]? with
      | none => simp only [e2] at w; exact w.elim
      | some c =>
        simp only [e2] at w
        cases c with
        | lst l0 =>
          cases e3 : g l0 ds with
          | none => simp only [e3] at w; exact w.elim
          | some p =>
            simp only [e3] at w
            obtain ⟨b, rfl, hb⟩ := ox
            exact ⟨G, α, S, n, b, l0, ds, p.1, p.2, hd, rfl, hb, e2, allD_on e ol, e3, w⟩
        | _ => exact w.elim
variable {Ew : L2.St → XK} {to : TE} {fo : FE} {ta : TA} {fa : FA} {T : String}
theorem se_meth {g : Dv → List Dv → Option Rt} (ho : SE Z Ew to fo) (ha : SA Z Ew ta fa) : SE Z Ew (tBM Z.K T (rM Z g) to ta) (fMeth T g fo fa) := fun env σ G α S H Q hd oe w =>
  ho.bind hd oe w fun S2 a x H2 G2 α2 f2 hd2 oe2 ox w2 => by
    obtain ⟨t, w3⟩ := onT_ok hd2 ox w2
    exact ⟨t, ha.bind hd2 oe2 w3 fun S3 l vs H3 G3 α3 f3 hd3 oe3 ol w4 => gM_ok hd3 (ox.up f3.g f3.a) ol w4⟩
theorem se_mut {g : List Dv → List Dv → Option (List Dv × Dv)} (ho : SE Z Ew to fo) (ha : SA Z Ew ta fa) : SE Z Ew (tBM Z.K "list" (rMu Z g) to ta) (fMut g fo fa) := fun env σ G α S H Q hd oe w =>
  ho.bind hd oe w fun S2 a x H2 G2 α2 f2 hd2 oe2 ox w2 => by
    obtain ⟨t, w3⟩ := onT_ok hd2 ox w2
    exact ⟨t, ha.bind hd2 oe2 w3 fun S3 l vs H3 G3 α3 f3 hd3 oe3 ol w4 => gMu_ok hd3 (ox.up f3.g f3.a) ol w4⟩
theorem se_mut0 {g : List Dv → List Dv → Option (List Dv × Dv)} (ho : SE Z Ew to fo) : SE Z Ew (tBM0 Z.K "list" (rMu Z g) to) (fMut g fo fNil) := fun env σ G α S H Q hd oe w =>
  ho.bind hd oe w fun S2 a x H2 G2 α2 f2 hd2 oe2 ox w2 => by
    obtain ⟨t, w3⟩ := onT_ok hd2 ox w2
    exact ⟨t, gMu_ok (l := []) hd2 ox rfl w3⟩
/-- the cell is changed -/
theorem Wk.put {n : Nat} {a : Addr} {c c2 : Cell} {o : HO} {v : Vr} {x : V} (w : Wk Z (.ok (S.set n c2) (.val v)) G α H (pRt Z Q) E) (hd : Hd Z G α S H) (ha : α[n]? = some a) (hs : S[n]? = some c) (hc : c ≠ .dead) (h2 : CellAt Z G c2 (some o)) (hx : OnR Z G α v x) : Q x (upd H a o) := by
  obtain ⟨hd2, f2⟩ := hd.put ha hs hc h2
  exact w _ _ _ f2 hd2 x hx
theorem OnL.dropLast {l : List Dv} {xs : List V} (h : OnL Z G l xs) : OnL Z G l.dropLast xs.dropLast := by
  rw [List.dropLast_eq_take, List.dropLast_eq_take, h.len]
  exact h.take _
theorem md_append : MtR X "list.append" (rMu Z gAppend) := by
  intro pins s σ H x xs v us Q I rx rxs h
  obtain ⟨G, α, S, n, a, l0, ds, l1, res, hd, rfl, ha, hs, ol, e, w⟩ := h
  cases ds with
  | nil => cases e
  | cons y r =>
    cases r with
    | cons _ _ => cases e
    | nil =>
      have e' : (if l0.length < 100000 then some (l0 ++ [y], Dv.non) else none) = some (l1, res) := e
      by_cases hl : l0.length < 100000
      · rw [if_pos hl] at e'
        cases e'
        obtain ⟨z, rfl, oz⟩ := ol.one
        obtain ⟨zs, h1, h2⟩ := (hd.at_ n a _ ha hs).2
        exact mt_append pins s σ H _ _ v us Q I rx rxs ⟨a, zs, z, rfl, rfl, h1, Nat.lt_of_lt_of_le (by rw [h2.len]; exact hl) (by decide), w.put hd ha hs (fun c => nomatch c) ⟨_, rfl, h2.app (OnL.cons' oz OnL.nil')⟩ (or_non Z G α)⟩
      · rw [if_neg hl] at e'
        cases e'
theorem md_pop : MtR X "list.pop" (rMu Z gPop) := by
  intro pins s σ H x xs v us Q I rx rxs h
  obtain ⟨G, α, S, n, a, l0, ds, l1, res, hd, rfl, ha, hs, ol, e, w⟩ := h
  cases ds with
  | cons y r => cases e
  | nil =>
    have e' : (match l0[l0.length - 1]? with | some y => some (l0.dropLast, y) | none => none) = some (l1, res) := e
    cases q : l0[l0.length - 1]? with
    | none => simp only [q] at e'; cases e'
    | some y =>
      simp only [q] at e'
      cases e'
      obtain ⟨zs, h1, h2⟩ := (hd.at_ n a _ ha hs).2
      obtain ⟨z, h3, h4⟩ := h2.get q
      rw [← h2.len] at h3
      exact mt_pop pins s σ H _ _ v us Q I rx rxs ⟨a, zs, z, rfl, OnL.nil.mp ol, h1, h3, w.put hd ha hs (fun c => nomatch c) ⟨_, rfl, h2.dropLast⟩ h4⟩
def gJoin : Dv → List Dv → Option Rt
  | .str a, [.lst l] => match strs? l with
    | some ss => if (ss.map (·.length)).sum + ss.length * a.length ≤ 100000 then vS (Txt.join a ss) else none
    | none => none
  | .str a, [.tup l] => match strs? l with
    | some ss => if (ss.map (·.length)).sum + ss.length * a.length ≤ 100000 then vS (Txt.join a ss) else none
    | none => none
  | _, _ => none
theorem join_ok {a : Str} {l : List Dv} {xs : List V} {p : Addr} (hx : (OnL Z G l xs)) (h : SqL X.K H p xs ∨ SqT X.K H p xs) (hd : Hd Z G α S H)
    (w : Wk Z (R.of S (match strs? l with | some ss => if (ss.map (·.length)).sum + ss.length * a.length ≤ 100000 then vS (Txt.join a ss) else none | none => none)) G α H (pRt Z Q) E) :
    ∃ ys : List Str, (SqL X.K H p (ys.map V.str) ∨ SqT X.K H p (ys.map V.str)) ∧ (ys.map (·.length)).sum + ys.length * a.length ≤ 16777216 ∧ Q (.str (Txt.join a ys)) H := by
  cases q : strs? l with
  | none => simp only [q] at w; exact w.elim
  | some ss =>
    simp only [q] at w
    have ex := strs_on q hx
    subst ex
    by_cases c : (ss.map (·.length)).sum + ss.length * a.length ≤ 100000
    · rw [if_pos c] at w
      exact ⟨ss, h, by omega, wS w hd⟩
    · rw [if_neg c] at w
      exact w.elim
theorem meth2 {d : Dv} {l : List Dv} {g : Dv → List Dv → Option Rt} {xs : List V} (ol : OnHA Z G H l xs) (w : Wk Z (R.of S (g d l)) G α H (pRt Z Q) E) (hg : ∀ l, (∀ x, l ≠ [x]) → g d l = none) : ∃ x y, l = [x] ∧ xs = [y] ∧ OnH Z G H x y := by
  cases l with
  | nil => rw [hg [] (fun x h => nomatch h)] at w; exact w.elim
  | cons a r =>
    cases r with
    | cons b r => rw [hg _ (fun x h => by cases h)] at w; exact w.elim
    | nil =>
      obtain ⟨y, rfl, o⟩ := ol.one
      exact ⟨a, y, rfl, rfl, o⟩
theorem md_join : MtR X "str.join" (rM Z gJoin) := by
  intro pins s σ H x xs v us Q I rx rxs h
  obtain ⟨G, α, S, d, l, hd, od, ol, w⟩ := h
  cases d with
  | str a =>
    cases od
    obtain ⟨u, y, rfl, rfl, ou⟩ := meth2 ol w fun l h => by
      cases l with
      | nil => rfl
      | cons c r => cases r with
        | nil => exact absurd rfl (h c)
        | cons _ _ => cases c <;> rfl
    cases u with
    | lst l =>
      obtain ⟨p, zs, rfl, h1, h2⟩ := ou
      obtain ⟨ys, h3, h4, h5⟩ := join_ok (X := X) h2 (.inl (SqL.of h1)) hd w
      exact mt_join pins s σ H _ _ v us Q I rx rxs ⟨a, p, ys, rfl, rfl, h3, h4, h5⟩
    | tup l =>
      obtain ⟨p, zs, rfl, h1, h2⟩ := ou
      obtain ⟨ys, h3, h4, h5⟩ := join_ok (X := X) h2 (.inr (SqT.of (hd.ex _ _ h1))) hd w
      exact mt_join pins s σ H _ _ v us Q I rx rxs ⟨a, p, ys, rfl, rfl, h3, h4, h5⟩
    | _ => exact w.elim
  | _ => exact w.elim
variable {name : Str} {id : String} {o e : Expr} {es : List Expr} {apos cpos : Pos}
theorem pf_meth {g : Dv → List Dv → Option Rt} (hm : MtR X id (rM Z g)) (pa : PlainAttrs T) (slot : Slot T name id) (hty : typeOf (.builtin id) = pure (.type "method_descriptor")) (hK : X.K = Z.K) (ho : PF Z Ew X o fo) (ha : PAF Z Ew X (e :: es) fa)
    (hbase : attributeBase o name X.env (eval o X.env) = eval o X.env := by rfl)
    (hfew : ((backTo cpos (starEach (e :: es) X.env)).all (fun x => !x.1) && (backToKw cpos (keywordEach [] X.env)).all (fun x => x.1.isSome) && decide ((e :: es).length + ([] : List Keyword).length + (if ([] : List Keyword).isEmpty then 0 else 1) < 30)) = true := by rfl)
    (hline : (apos.endLine == cpos.line) = true := by rfl) (hst : starEach (e :: es) X.env = (false, eval e X.env) :: starEach es X.env := by rfl) (hpl : (backTo cpos (starEach es X.env)).any (·.1) = false := by rfl) :
    PF Z Ew X (.Call (.Attribute o name apos) (e :: es) [] cpos) (fMeth T g fo fa) := by
  obtain ⟨to, h1, h2⟩ := ho.ex
  obtain ⟨ta, h3, h4⟩ := ha.ex
  exact ⟨_, OP.pe_bmK Z.K pa slot hty hm h1 h3 hbase hfew hline hst hpl hK, se_meth h2 h4⟩
theorem pf_mut {g : List Dv → List Dv → Option (List Dv × Dv)} (hm : MtR X id (rMu Z g)) (slot : Slot "list" name id) (hty : typeOf (.builtin id) = pure (.type "method_descriptor")) (hK : X.K = Z.K) (ho : PF Z Ew X o fo) (ha : PAF Z Ew X (e :: es) fa)
    (hbase : attributeBase o name X.env (eval o X.env) = eval o X.env := by rfl)
    (hfew : ((backTo cpos (starEach (e :: es) X.env)).all (fun x => !x.1) && (backToKw cpos (keywordEach [] X.env)).all (fun x => x.1.isSome) && decide ((e :: es).length + ([] : List Keyword).length + (if ([] : List Keyword).isEmpty then 0 else 1) < 30)) = true := by rfl)
    (hline : (apos.endLine == cpos.line) = true := by rfl) (hst : starEach (e :: es) X.env = (false, eval e X.env) :: starEach es X.env := by rfl) (hpl : (backTo cpos (starEach es X.env)).any (·.1) = false := by rfl) :
    PF Z Ew X (.Call (.Attribute o name apos) (e :: es) [] cpos) (fMut g fo fa) := by
  obtain ⟨to, h1, h2⟩ := ho.ex
  obtain ⟨ta, h3, h4⟩ := ha.ex
  exact ⟨_, OP.pe_bmK Z.K PySem.F.plainAttrs_list slot hty hm h1 h3 hbase hfew hline hst hpl hK, se_mut h2 h4⟩
theorem pf_mut0 {g : List Dv → List Dv → Option (List Dv × Dv)} (hm : MtR X id (rMu Z g)) (slot : Slot "list" name id) (hty : typeOf (.builtin id) = pure (.type "method_descriptor")) (hK : X.K = Z.K) (ho : PF Z Ew X o fo)
    (hbase : attributeBase o name X.env (eval o X.env) = eval o X.env := by rfl) (hline : (apos.endLine == cpos.line) = true := by rfl) :
    PF Z Ew X (.Call (.Attribute o name apos) [] [] cpos) (fMut g fo fNil) := by
  obtain ⟨to, h1, h2⟩ := ho.ex
  exact ⟨_, OP.pe_bm0K Z.K PySem.F.plainAttrs_list slot hty hm h1 hbase hline hK, se_mut0 h2⟩
end
end DN
namespace DN
open PySem PySem.Spec PyProof.Rows L2 Evl
/-- the items, and the cell that they are read from (if it is one) -/
abbrev Its := List Dv × Option Nat
abbrev FI := Env → Sto → R Its
def OkI (Z : Zx) (G2 : Hp) (α2 : List Addr) (t : Its) (G' H : Hp) : Prop := Ex G2 G' ∧ Ex G' H ∧ ∀ n, t.2 = some n → ∃ a xs, α2[n]? = some a ∧ H a = some (.lst xs) ∧ OnL Z G' t.1 xs
structure Gz (Z : Zx) (J : It) (G2 : Hp) (α2 : List Addr) (t : Its) : Prop where
  go : ∀ i G' H, i < t.1.length → OkI Z G2 α2 t G' H → J.go i H
  stop : ∀ G' H, OkI Z G2 α2 t G' H → J.stop t.1.length H
  yld : ∀ i G' H x H', i < t.1.length → OkI Z G2 α2 t G' H → J.yld i H x H' → ∃ d, t.1[i]? = some d ∧ ∀ α' S', Hd Z G' α' S' H → ∃ G3, Fr G' α' H G3 α' H' ∧ Hd Z G3 α' S' H' ∧ On Z G3 d x
def pI (Z : Zx) (R' : It → Hp → Prop) : Pst Its := ⟨fun t _ G2 α2 H2 => ∀ J, Gz Z J G2 α2 t → R' J H2, fun _ q => q⟩
def SI (Z : Zx) (Ew : L2.St → XK) (wi : TI) (f : FI) : Prop :=
  ∀ env σ G α S H R', Hd Z G α S H → OnE Z G α env σ → Wk Z (f env S) G α H (pI Z R') (Ew σ) → wi σ H R'
structure PIF (Z : Zx) (Ew : L2.St → XK) (X : Cx) (tg e : Expr) (f : FI) : Prop where
  ex : ∃ wi, PI X tg e wi ∧ SI Z Ew wi f
/-- the items of a value -/
def iterD : Dv → Option (List Dv)
  | .lst l => some l
  | .tup l => some l
  | .ktp l => some l
  | .str s => some (s.cps.toList.map fun c => .str ⟨#[c]⟩)
  | _ => none
def itOf (S : Sto) (a : Vr) : R Its := match a with
  | .d d => match iterD d with
    | some l => .ok S (l, none)
    | none => .no
  | .r n => match S[n]? with
    | some (.lst l) => .ok S (l, some n)
    | _ => .no
def iVal (fa : FE) : FI := fun env S => (fa env S).bindV fun S1 a => itOf S1 a
section
variable {Z : Zx} {X : Cx} {Ew : L2.St → XK} {G H G' H' : Hp} {α : List Addr} {S : Sto} {Q : VK} {E : XK}
/-- nothing new at a turn -/
theorem y_same {d : Dv} {x : V} (o : On Z G' d x) : ∀ α' S', Hd Z G' α' S' H → ∃ G3, Fr G' α' H G3 α' H ∧ Hd Z G3 α' S' H ∧ On Z G3 d x := fun α' S' hd => ⟨G', Fr.refl G' α' H, hd, o⟩
theorem gz_list {K : PySem.W.Frag} {a : Addr} {l : List Dv} {xs : List V} {G2 : Hp} {α2 : List Addr} (h1 : G2 a = some (.lst xs)) (h2 : OnL Z G2 l xs) : Gz Z (Itl K a) G2 α2 (l, none) := by
  have sq : ∀ {G' H}, OkI Z G2 α2 (l, none) G' H → SqL K H a xs := fun ok => SqL.of (ok.2.1 _ _ (ok.1 _ _ h1))
  have w : Walk (Itl K a) xs.length (fun H => SqL K H a xs) (YAt xs) := walk_list
  refine ⟨fun i G' H hi ok => w.goes i H (by rw [h2.len]; exact hi) (sq ok), fun G' H ok => ?_, fun i G' H x H' hi ok y => ?_⟩
  · have := w.stops H (sq ok)
    rw [h2.len] at this
    exact this
  · obtain ⟨rfl, hx⟩ := w.yields i H x H' (by rw [h2.len]; exact hi) (sq ok) y
    obtain ⟨d, e, o⟩ := h2.got hx
    exact ⟨d, e, y_same (o.up ok.1)⟩
theorem gz_cell {K : PySem.W.Frag} {a : Addr} {n : Nat} {l : List Dv} {G2 : Hp} {α2 : List Addr} (h1 : α2[n]? = some a) : Gz Z (Itl K a) G2 α2 (l, some n) := by
  have sq : ∀ {G' H}, OkI Z G2 α2 (l, some n) G' H → ∃ xs, SqL K H a xs ∧ OnL Z G' l xs := fun ok => by
    obtain ⟨b, xs, e, h, o⟩ := ok.2.2 n rfl
    rw [h1] at e
    cases e
    exact ⟨xs, SqL.of h, o⟩
  refine ⟨fun i G' H hi ok => ?_, fun G' H ok => ?_, fun i G' H x H' hi ok y => ?_⟩
  · obtain ⟨xs, h, o⟩ := sq ok
    exact (walk_list : Walk (Itl K a) xs.length (fun H => SqL K H a xs) (YAt xs)).goes i H (by rw [o.len]; exact hi) h
  · obtain ⟨xs, h, o⟩ := sq ok
    have := (walk_list : Walk (Itl K a) xs.length (fun H => SqL K H a xs) (YAt xs)).stops H h
    rw [o.len] at this
    exact this
  · obtain ⟨xs, h, o⟩ := sq ok
    obtain ⟨rfl, hx⟩ := (walk_list : Walk (Itl K a) xs.length (fun H => SqL K H a xs) (YAt xs)).yields i H x H' (by rw [o.len]; exact hi) h y
    obtain ⟨d, e, o2⟩ := o.got hx
    exact ⟨d, e, y_same o2⟩
theorem gz_tup {K : PySem.W.Frag} {a : Addr} {l : List Dv} {xs : List V} {G2 : Hp} {α2 : List Addr} (h1 : ∀ H, Ex G2 H → SqT K H a xs) (h2 : OnL Z G2 l xs) : Gz Z (Itt K a) G2 α2 (l, none) := by
  have sq : ∀ {G' H}, OkI Z G2 α2 (l, none) G' H → SqT K H a xs := fun ok => h1 _ (ok.1.trans ok.2.1)
  have w : Walk (Itt K a) xs.length (fun H => SqT K H a xs) (YAt xs) := walk_tup
  refine ⟨fun i G' H hi ok => w.goes i H (by rw [h2.len]; exact hi) (sq ok), fun G' H ok => ?_, fun i G' H x H' hi ok y => ?_⟩
  · have := w.stops H (sq ok)
    rw [h2.len] at this
    exact this
  · obtain ⟨rfl, hx⟩ := w.yields i H x H' (by rw [h2.len]; exact hi) (sq ok) y
    obtain ⟨d, e, o⟩ := h2.got hx
    exact ⟨d, e, y_same (o.up ok.1)⟩
theorem gz_str {s : Str} {G2 : Hp} {α2 : List Addr} : Gz Z (L2.Its s) G2 α2 (s.cps.toList.map fun c => .str ⟨#[c]⟩, none) := by
  have hl : (s.cps.toList.map fun c => Dv.str ⟨#[c]⟩).length = s.cps.size := by rw [List.length_map, Array.length_toList]
  refine ⟨fun i G' H hi ok => by rw [hl] at hi; exact hi, fun G' H ok => by rw [hl]; exact Nat.le_refl _, fun i G' H x H' hi ok y => ?_⟩
  obtain ⟨rfl, c, hc, rfl⟩ := y
  exact ⟨.str ⟨#[c]⟩, by rw [List.getElem?_map, Array.getElem?_toList, hc]; rfl, y_same on_str⟩
theorem gz_range {lo : Int} {n : Nat} {G2 : Hp} {α2 : List Addr} : Gz Z (Itr lo n) G2 α2 ((List.range n).map fun (i : Nat) => Dv.int (lo + i), none) := by
  have hl : ((List.range n).map fun (i : Nat) => Dv.int (lo + i)).length = n := by rw [List.length_map, List.length_range]
  refine ⟨fun i G' H hi ok => by rw [hl] at hi; exact hi, fun G' H ok => by rw [hl]; exact Nat.le_refl _, fun i G' H x H' hi ok y => ?_⟩
  rw [hl] at hi
  obtain ⟨rfl, rfl⟩ := y
  exact ⟨.int (lo + i), by rw [List.getElem?_map, List.getElem?_range hi]; rfl, y_same on_int⟩
/-- a new pair at a turn -/
theorem y_pair {T : Addr} {x y : V} {c d : Dv} (hT : H T = none) (hx : On Z G' c x) (hy : On Z G' d y) : ∀ α' S', Hd Z G' α' S' H → ∃ G3, Fr G' α' H G3 α' (upd H T (.tup [x, y])) ∧ Hd Z G3 α' S' (upd H T (.tup [x, y])) ∧ On Z G3 (.tup [c, d]) (.ref T) := fun α' S' hd => by
  obtain ⟨h1, h2⟩ := hd.know (o := .tup [x, y]) hT
  refine ⟨_, h2, h1, ?_⟩
  unfold On
  exact ⟨T, _, rfl, upd_same, OnL.cons' (hx.up h2.g) (OnL.cons' (hy.up h2.g) OnL.nil')⟩
/-- which reading a value wants -/
def kindD : Dv → Nat
  | .lst _ => 0
  | .str _ => 2
  | _ => 1
def kindR (r : R Rt) : Nat := match r with
  | .ok _ (.val (.d d)) => kindD d
  | _ => 0
variable {tg e : Expr} {fa : FE} {te : TE}
theorem kind_got {r : R Rt} {S2 : Sto} {d : Dv} (g : Got r S2 (.d d)) (h : kindR r = 0) : kindD d = 0 ∨ ∃ c, frzC c = some d := by
  cases g with
  | val => exact .inl h
  | new S c d h => exact .inr ⟨c, h⟩
theorem got_kind {r : R Rt} {S2 : Sto} {d : Vr} {k : Nat} (g : Got r S2 d) (h : kindR r = k + 1) : ∃ x, d = .d x ∧ kindD x = k + 1 := by
  cases g with
  | val =>
    cases d with
    | r n => cases h
    | d d => exact ⟨d, rfl, h⟩
  | new S c d h' => cases h
theorem pif_val (hK : X.K = Z.K) (h : PF Z Ew X e fa) : PIF Z Ew X tg e (iVal fa) := by
  obtain ⟨te, h1, h2⟩ := h.ex
  refine ⟨_, OP.pi_alt (OP.pi_listK (K := Z.K) h1 hK) (OP.pi_alt (OP.pi_tupK (K := Z.K) h1 hK) (pi_str h1)), fun env σ G α S H R' hd oe w => ?_⟩
  have f0 := Fr.refl G α H
  match hk : kindR (fa env S) with
  | 0 =>
    refine .inl (h2.bind0 f0 hd oe w fun S2 d x H2 G2 α2 g f2 hd2 oe2 ox w2 => ?_)
    cases d with
    | r n =>
      have w2 : Wk Z (match S2[n]? with | some (.lst l) => R.ok S2 (l, some n) | _ => .no) G α H (pI Z R') (Ew σ) := w2
      obtain ⟨a, rfl, ha⟩ := ox
      cases q : S2[n]? with
      | none => rw [q] at w2; exact w2.elim
      | some c =>
        rw [q] at w2
        cases c with
        | lst l =>
          obtain ⟨xs, e1, e2⟩ := (hd2.at_ n a _ ha q).2
          exact ⟨a, rfl, ⟨xs, SqL.of e1⟩, (w2.later f2) H2 G2 α2 (Fr.refl _ _ _) hd2 _ (gz_cell ha)⟩
        | _ => exact w2.elim
    | d d =>
      rcases kind_got g hk with e | ⟨c, e⟩
      · cases d with
        | lst l =>
          have ox : On Z G2 (.lst l) x := ox
          unfold On at ox
          obtain ⟨a, xs, rfl, e1, e2⟩ := ox
          exact ⟨a, rfl, ⟨xs, SqL.of (hd2.ex _ _ e1)⟩, (w2.later f2) H2 G2 α2 (Fr.refl _ _ _) hd2 _ (gz_list e1 e2)⟩
        | _ => cases e
      · cases c with
        | lst l =>
          cases e
          have ox : On Z G2 (.lst l) x := ox
          unfold On at ox
          obtain ⟨a, xs, rfl, e1, e2⟩ := ox
          exact ⟨a, rfl, ⟨xs, SqL.of (hd2.ex _ _ e1)⟩, (w2.later f2) H2 G2 α2 (Fr.refl _ _ _) hd2 _ (gz_list e1 e2)⟩
        | ob c l => cases e; exact w2.elim
        | dc t ks vs => cases e; exact w2.elim
        | dead => cases e
        | tab rows => cases e
  | 1 =>
    refine .inr (.inl (h2.bind0 f0 hd oe w fun S2 d x H2 G2 α2 g f2 hd2 oe2 ox w2 => ?_))
    obtain ⟨d, rfl, hk⟩ := got_kind g hk
    · · cases d with
        | tup l =>
          have ox : On Z G2 (.tup l) x := ox
          unfold On at ox
          obtain ⟨a, xs, rfl, e1, e2⟩ := ox
          exact ⟨a, rfl, ⟨xs, SqT.of (hd2.ex _ _ e1)⟩, (w2.later f2) H2 G2 α2 (Fr.refl _ _ _) hd2 _ (gz_tup (fun H e => SqT.of (e _ _ e1)) e2)⟩
        | ktp l =>
          have ox : On Z G2 (.ktp l) x := ox
          unfold On at ox
          obtain ⟨a, xs, rfl, e1, e2⟩ := ox
          exact ⟨a, rfl, ⟨xs, e1.sq hd2.ex⟩, (w2.later f2) H2 G2 α2 (Fr.refl _ _ _) hd2 _ (gz_tup (fun H e => e1.sq e) e2)⟩
        | lst l => cases hk
        | str l => cases hk
        | _ => exact w2.elim
  | n + 2 =>
    refine .inr (.inr (h2.bind0 f0 hd oe w fun S2 d x H2 G2 α2 g f2 hd2 oe2 ox w2 => ?_))
    obtain ⟨d, rfl, hk⟩ := got_kind g hk
    · · cases d with
        | str l =>
          have ox : On Z G2 (.str l) x := ox
          unfold On at ox
          exact ⟨l, ox, (w2.later f2) H2 G2 α2 (Fr.refl _ _ _) hd2 _ gz_str⟩
        | _ => cases hk
def smallR (i : Int) : Bool := decide (-1000000 ≤ i) && decide (i ≤ 1000000)
def rangeD (lo hi : Int) : List Dv := (List.range (hi - lo).toNat).map fun (i : Nat) => Dv.int (lo + i)
def vi (a : Vr) : Option Int := match a with
  | .d (.int j) => some j
  | _ => none
def vi1 (l : List Vr) : Option Int := match l with
  | [a] => vi a
  | _ => none
def rng1 (S : Sto) (o : Option Int) : R Its := match o with
  | some j => if smallR j then .ok S (rangeD 0 j, none) else .no
  | none => .no
def iRange1 (fa : FA) : FI := fun env S => (fa env S).bind fun S1 l => rng1 S1 (vi1 l)
theorem vi_on {a : Vr} {i : Int} {x : V} (e : vi a = some i) (h : OnR Z G α a x) : x = .int i := by
  cases a with
  | r n => cases e
  | d d =>
    cases d with
    | int j =>
      cases e
      have h : On Z G (.int i) x := h
      unfold On at h
      exact h
    | _ => cases e
theorem vi1_on {l : List Vr} {i : Int} {vs : List V} (e : vi1 l = some i) (h : OnA Z G α l vs) : vs = [.int i] := by
  cases l with
  | nil => cases e
  | cons a r =>
    cases r with
    | nil =>
      obtain ⟨y, ys, rfl, o1, o2⟩ := h
      cases (show ys = [] from o2)
      rw [vi_on e o1]
    | cons b r => cases e
theorem smallR_ok {i : Int} (h : smallR i = true) : -1000000 ≤ i ∧ i ≤ 1000000 := by
  obtain ⟨h1, h2⟩ := and2 h
  exact ⟨of_decide_eq_true h1, of_decide_eq_true h2⟩
variable {a b : Expr} {fl : FA} {p pos : Pos}
theorem pif_range1 (hg : Gl X "range") (hm : X.mg "range" = none) (ha : PAF Z Ew X [a] fl) (hs : starEach [a] X.env = [(false, eval a X.env)] := by rfl) : PIF Z Ew X tg (.Call (.Name "range" p) [a] [] pos) (iRange1 fl) := by
  obtain ⟨ta, h1, h2⟩ := ha.ex
  refine ⟨_, pi_range1 hg hm h1 hs, fun env σ G α S H R' hd oe w => h2.bind hd oe w fun S2 l vs H2 G2 α2 f2 hd2 oe2 ol w2 => ?_⟩
  cases q : vi1 l with
  | none => rw [q] at w2; exact w2.elim
  | some j =>
    rw [q] at w2
    have w2 : Wk Z (if smallR j then R.ok S2 (rangeD 0 j, none) else .no) G2 α2 H2 (pI Z R') (Ew σ) := w2
    cases c : smallR j with
    | false => rw [c] at w2; exact w2.elim
    | true =>
      rw [c] at w2
      obtain ⟨b1, b2⟩ := smallR_ok c
      refine ⟨j, vi1_on q ol, by omega, by omega, w2 H2 G2 α2 (Fr.refl _ _ _) hd2 _ ?_⟩
      have := gz_range (Z := Z) (lo := 0) (n := j.toNat) (G2 := G2) (α2 := α2)
      unfold rangeD
      rw [Int.sub_zero]
      exact this
/-- enumerate(a list or a text) -/
def enumD (l : List Dv) : List Dv := l.zipIdx.map fun p => .tup [.int p.2, p.1]
def itEnum (S : Sto) (a : Vr) : R Its := match a with
  | .d (.lst l) => .ok S (enumD l, none)
  | .d (.str s) => .ok S (enumD (s.cps.toList.map fun c => .str ⟨#[c]⟩), none)
  | _ => .no
def iEnumD (fa : FE) : FI := fun env S => (fa env S).bindV fun S1 a => itEnum S1 a
theorem enum_at {l : List Dv} {i : Nat} {d : Dv} (h : l[i]? = some d) : (enumD l)[i]? = some (.tup [.int i, d]) := by
  unfold enumD
  rw [List.getElem?_map, List.getElem?_zipIdx, h]
  simp
theorem enum_len (l : List Dv) : (enumD l).length = l.length := by unfold enumD; rw [List.length_map, List.length_zipIdx]
theorem gz_enum {K : PySem.W.Frag} {a : Addr} {l : List Dv} {xs : List V} {G2 : Hp} {α2 : List Addr} (h1 : G2 a = some (.lst xs)) (h2 : OnL Z G2 l xs) : Gz Z (Ite K a) G2 α2 (enumD l, none) := by
  have sq : ∀ {G' H}, OkI Z G2 α2 (enumD l, none) G' H → SqL K H a xs := fun ok => SqL.of (ok.2.1 _ _ (ok.1 _ _ h1))
  have w : Walk (Ite K a) xs.length (fun H => SqL K H a xs) (YPair (fun i => some (.int (i : Nat))) (fun i => xs[i]?)) := walk_enum
  refine ⟨fun i G' H hi ok => w.goes i H (by rw [h2.len]; rw [enum_len] at hi; exact hi) (sq ok), fun G' H ok => ?_, fun i G' H x H' hi ok y => ?_⟩
  · have := w.stops H (sq ok)
    rw [h2.len] at this
    rw [enum_len]
    exact this
  · rw [enum_len] at hi
    obtain ⟨T, x', y', rfl, hT, rfl, h3, h4⟩ := w.yields i H x H' (by rw [h2.len]; exact hi) (sq ok) y
    cases h3
    obtain ⟨d, e, o⟩ := h2.got h4
    exact ⟨_, enum_at e, y_pair hT on_int (o.up ok.1)⟩
theorem gz_enumS {s : Str} {G2 : Hp} {α2 : List Addr} : Gz Z (OP.Ites s) G2 α2 (enumD (s.cps.toList.map fun c => .str ⟨#[c]⟩), none) := by
  have hl : (enumD (s.cps.toList.map fun c => Dv.str ⟨#[c]⟩)).length = s.cps.size := by rw [enum_len, List.length_map, Array.length_toList]
  refine ⟨fun i G' H hi ok => by rw [hl] at hi; exact hi, fun G' H ok => by rw [hl]; rfl, fun i G' H x H' hi ok y => ?_⟩
  obtain ⟨T, c, rfl, hT, rfl, hc⟩ := y
  exact ⟨_, enum_at (d := .str ⟨#[c]⟩) (by rw [List.getElem?_map, Array.getElem?_toList, hc]; rfl), y_pair hT on_int on_str⟩
variable {elts : List Expr} {kk : Nat} {tpos : Pos}
theorem pi_enumD (hK : X.K = Z.K) (hg : Gl X "enumerate") (hm : X.mg "enumerate" = none) (h : PF Z Ew X a fa) (hs : starEach [a] X.env = [(false, eval a X.env)] := by rfl) : PIF Z Ew X (.Tuple elts kk tpos) (.Call (.Name "enumerate" p) [a] [] pos) (iEnumD fa) := by
  obtain ⟨te, h1, h2⟩ := h.ex
  refine ⟨_, OP.pi_alt (pi_enum hg hm (pa_cons h1 pa_nil hs) hs) (OP.pi_enumS hg hm h1 hs), fun env σ G α S H R' hd oe w => ?_⟩
  have f0 := Fr.refl G α H
  match hk : kindR (fa env S) with
  | 0 =>
    refine .inl (h2.bind0 f0 hd oe w fun S2 d x H2 G2 α2 g f2 hd2 oe2 ox w2 => ?_)
    cases d with
    | r n => exact w2.elim
    | d d =>
      cases d with
      | lst l =>
        have ox : On Z G2 (.lst l) x := ox
        unfold On at ox
        obtain ⟨a, xs, rfl, e1, e2⟩ := ox
        exact ⟨a, xs, rfl, SqL.of (hd2.ex _ _ e1), (w2.later f2) H2 G2 α2 (Fr.refl _ _ _) hd2 _ (gz_enum e1 e2)⟩
      | str s =>
        rcases kind_got g hk with e | ⟨c, e⟩
        · cases e
        · cases c <;> cases e
      | _ => exact w2.elim
  | n + 1 =>
    refine .inr (h2.bind0 f0 hd oe w fun S2 d x H2 G2 α2 g f2 hd2 oe2 ox w2 => ?_)
    obtain ⟨d, rfl, hk⟩ := got_kind g hk
    cases d with
    | str l =>
      have ox : On Z G2 (.str l) x := ox
      unfold On at ox
      exact ⟨l, ox, (w2.later f2) H2 G2 α2 (Fr.refl _ _ _) hd2 _ gz_enumS⟩
    | lst l => cases hk
    | _ => exact w2.elim
/-- zip of two lists, of two tuples -/
def zipD (l m : List Dv) : List Dv := (l.zip m).map fun p => .tup [p.1, p.2]
theorem zip_len (l m : List Dv) : (zipD l m).length = min l.length m.length := by unfold zipD; rw [List.length_map, List.length_zip]
theorem zip_at {l m : List Dv} {i : Nat} {c d : Dv} (h : l[i]? = some c) (h2 : m[i]? = some d) : (zipD l m)[i]? = some (.tup [c, d]) := by
  unfold zipD
  rw [List.getElem?_map, (List.getElem?_zip_eq_some (z := (c, d))).mpr ⟨h, h2⟩]
  rfl
/-- enumerate(zip(text, text)) of one length -/
def itEz (S : Sto) (l : List Vr) : R Its := match l with
  | [.d (.str a), .d (.str b)] => if a.cps.size = b.cps.size then .ok S (enumD (zipD (a.cps.toList.map fun c => .str ⟨#[c]⟩) (b.cps.toList.map fun c => .str ⟨#[c]⟩)), none) else .no
  | _ => .no
def iEz (fa : FA) : FI := fun env S => (fa env S).bind fun S1 l => itEz S1 l
theorem gz_ez {s t : Str} {G2 : Hp} {α2 : List Addr} (hl : s.cps.size = t.cps.size) : Gz Z (OP.Itez s t) G2 α2 (enumD (zipD (s.cps.toList.map fun c => .str ⟨#[c]⟩) (t.cps.toList.map fun c => .str ⟨#[c]⟩)), none) := by
  have hl2 : (enumD (zipD (s.cps.toList.map fun c => Dv.str ⟨#[c]⟩) (t.cps.toList.map fun c => .str ⟨#[c]⟩))).length = s.cps.size := by rw [enum_len, zip_len, List.length_map, Array.length_toList, List.length_map, Array.length_toList, hl, Nat.min_self]
  refine ⟨fun i G' H hi ok => by rw [hl2] at hi; exact hi, fun G' H ok => by rw [hl2]; rfl, fun i G' H x H' hi ok y => ?_⟩
  obtain ⟨T, U, c, d, rfl, hT, hU, hn, rfl, h1, h2⟩ := y
  refine ⟨_, enum_at (zip_at (c := .str ⟨#[c]⟩) (d := .str ⟨#[d]⟩) (by rw [List.getElem?_map, Array.getElem?_toList, h1]; rfl) (by rw [List.getElem?_map, Array.getElem?_toList, h2]; rfl)), fun α' S' hd => ?_⟩
  obtain ⟨G3, g1, g2, g3⟩ := y_pair (Z := Z) (G' := G') (c := .str ⟨#[c]⟩) (d := .str ⟨#[d]⟩) hT on_str on_str α' S' hd
  obtain ⟨G4, g4, g5, g6⟩ := y_pair (Z := Z) (G' := G3) (T := U) (x := .int (i : Nat)) (c := .int (i : Nat)) (by rw [upd_ne hn]; exact hU) on_int g3 α' S' g2
  exact ⟨G4, g1.trans g4, g5, g6⟩
theorem ez_cases {l : List Vr} {P : Pst Its} {E : XK} (w : Wk Z (itEz S l) G α H P E) : ∃ a b : Str, l = [.d (.str a), .d (.str b)] ∧ a.cps.size = b.cps.size ∧ Wk Z (.ok S (enumD (zipD (a.cps.toList.map fun c => .str ⟨#[c]⟩) (b.cps.toList.map fun c => .str ⟨#[c]⟩)), none)) G α H P E := by
  unfold itEz at w
  split at w
  · rename_i a b
    by_cases c : a.cps.size = b.cps.size
    · rw [if_pos c] at w; exact ⟨a, b, rfl, c, w⟩
    · rw [if_neg c] at w; exact w.elim
  · exact w.elim
theorem pif_ez {p2 pos2 : Pos} (hg : Gl X "enumerate") (hm : X.mg "enumerate" = none) (hg2 : Gl X "zip") (hm2 : X.mg "zip" = none) (ha : PAF Z Ew X [a, b] fl)
    (hs : starEach [.Call (.Name "zip" p2) [a, b] [] pos2] X.env = [(false, eval (.Call (.Name "zip" p2) [a, b] [] pos2) X.env)] := by rfl)
    (hs2 : starEach [a, b] X.env = (false, eval a X.env) :: starEach [b] X.env := by rfl) (hpl : (backTo pos2 (starEach [b] X.env)).any (·.1) = false := by rfl) :
    PIF Z Ew X (.Tuple elts kk tpos) (.Call (.Name "enumerate" p) [.Call (.Name "zip" p2) [a, b] [] pos2] [] pos) (iEz fl) := by
  obtain ⟨ta, h1, h2⟩ := ha.ex
  refine ⟨_, OP.pi_ez hg hm hg2 hm2 h1 hs hs2 hpl, fun env σ G α S H R' hd oe w => h2.bind hd oe w fun S2 l vs H2 G2 α2 f2 hd2 oe2 ol w2 => ?_⟩
  obtain ⟨c, d, rfl, hl, w3⟩ := ez_cases w2
  obtain ⟨y, ys, rfl, o1, z, zs, rfl, o2, o3⟩ := ol
  cases (show zs = [] from o3)
  have o1 : On Z G2 (.str c) y := o1
  have o2 : On Z G2 (.str d) z := o2
  unfold On at o1 o2
  subst o1 o2
  exact ⟨c, d, rfl, hl, w3 H2 G2 α2 (Fr.refl _ _ _) hd2 _ (gz_ez hl)⟩
end
end DN
namespace DN
open PySem PySem.Spec PyProof.Rows L2 Evl
def tF (Z : Zx) (Ew : L2.St → XK) (f : FE) : TE := fun σ H Q => ∃ env G α S, Hd Z G α S H ∧ OnE Z G α env σ ∧ Wk Z (f env S) G α H (pRt Z Q) (Ew σ)
def tFT (Z : Zx) (Ew : L2.St → XK) (f : FT) : TT := fun σ H Q => ∃ env G α S, Hd Z G α S H ∧ OnE Z G α env σ ∧ Wk Z (f env S) G α H (pB Q) (Ew σ)
def tFI (Z : Zx) (Ew : L2.St → XK) (f : FI) : TI := fun σ H R' => ∃ env G α S, Hd Z G α S H ∧ OnE Z G α env σ ∧ Wk Z (f env S) G α H (pI Z R') (Ew σ)
section
variable {Z : Zx} {Ew : L2.St → XK} {X : Cx} {e tg : Expr}
theorem PF.pe {f : FE} (h : PF Z Ew X e f) : PE X e (tF Z Ew f) := by
  obtain ⟨te, h1, h2⟩ := h.ex
  refine ⟨fun pins s σ H Q I ht => ?_⟩
  obtain ⟨env, G, α, S, hd, oe, w⟩ := ht
  exact h1.run pins s σ H Q I (h2 env σ G α S H Q hd oe w)
theorem PTF.pt {f : FT} (h : PTF Z Ew X e f) : PT X e (tFT Z Ew f) := by
  obtain ⟨te, h1, h2⟩ := h.ex
  refine ⟨fun pins s σ H Q I ht => ?_⟩
  obtain ⟨env, G, α, S, hd, oe, w⟩ := ht
  exact h1.run pins s σ H Q I (h2 env σ G α S H Q hd oe w)
theorem PIF.pi {f : FI} (h : PIF Z Ew X tg e f) : PI X tg e (tFI Z Ew f) := by
  obtain ⟨te, h1, h2⟩ := h.ex
  refine ⟨fun pins s σ H Q I ht => ?_⟩
  obtain ⟨env, G, α, S, hd, oe, w⟩ := ht
  exact h1.run pins s σ H Q I (h2 env σ G α S H Q hd oe w)
theorem se_tF {f : FE} : SE Z Ew (tF Z Ew f) f := fun env σ G α S H Q hd oe w => ⟨env, G, α, S, hd, oe, w⟩
theorem st_tF {f : FT} : ST Z Ew (tFT Z Ew f) f := fun env σ G α S H Q hd oe w => ⟨env, G, α, S, hd, oe, w⟩
theorem si_tF {f : FI} : SI Z Ew (tFI Z Ew f) f := fun env σ G α S H Q hd oe w => ⟨env, G, α, S, hd, oe, w⟩
end
abbrev FG := Dv → Env → Option Env
abbrev FGs := List Dv → Env → Option Env
def tgN (i : Nat) : FG := fun d env => some (env.set i (.v (.d d)))
def tgNil : FGs := fun l env => match l with
  | [] => some env
  | _ => none
def tgCons (f : FG) (fs : FGs) : FGs := fun l env => match l with
  | d :: r => match f d env with
    | some env' => fs r env'
    | none => none
  | [] => none
def tgT (fs : FGs) : FG := fun d env => match d with
  | .tup l => fs l env
  | _ => none
def Wp1 (sl : List Nat) (σ σ' : L2.St) : Prop := ∀ vs : List Nat, (∀ i ∈ sl, i ∈ vs) → wipe σ' vs = wipe σ vs
def tG (Z : Zx) (f : FG) (sl : List Nat) : TG := fun v σ H Q => ∃ env G α S d env', Hd Z G α S H ∧ OnE Z G α env σ ∧ On Z G d v ∧ f d env = some env' ∧ ∀ σ', OnE Z G α env' σ' → Wp1 sl σ σ' → Q σ' H
def tGs (Z : Zx) (f : FGs) (sl : List Nat) : TGs := fun vs σ H Q => ∃ env G α S l env', Hd Z G α S H ∧ OnE Z G α env σ ∧ OnL Z G l vs ∧ f l env = some env' ∧ ∀ σ', OnE Z G α env' σ' → Wp1 sl σ σ' → Q σ' H
structure PGF (Z : Zx) (X : Cx) (tg : Expr) (f : FG) (sl : List Nat) : Prop where
  pg : PG X tg (tG Z f sl)
structure PGFs (Z : Zx) (X : Cx) (n : Nat) (ts : List Expr) (f : FGs) (sl : List Nat) : Prop where
  pg : PGs X ts (tGs Z f sl)
  len : ∀ l env env', f l env = some env' → l.length = n
section
variable {Z : Zx} {X : Cx} {pos : Pos}
theorem wipe_set {σ : L2.St} {i : Nat} {x : Option V} : ∀ {vs : List Nat}, i ∈ vs → wipe (σ.set i x) vs = wipe σ vs
  | [], h => nomatch h
  | j :: vs, h => by
    show (wipe (σ.set i x) vs).set j none = (wipe σ vs).set j none
    by_cases q : i ∈ vs
    · rw [wipe_set q]
    · have e : i = j := by
        rcases List.mem_cons.mp h with e | e
        · exact e
        · exact absurd e q
      subst e
      clear h
      have aux : ∀ (σ : L2.St) (vs : List Nat), i ∉ vs → wipe (σ.set i x) vs = (wipe σ vs).set i x := fun σ vs => by
        induction vs generalizing σ with
        | nil => intro _; rfl
        | cons k r ih =>
          intro h
          have hk : i ≠ k := fun e => h (e ▸ List.mem_cons_self)
          have hr : i ∉ r := fun e => h (List.mem_cons_of_mem _ e)
          show (wipe (σ.set i x) r).set k none = ((wipe σ r).set k none).set i x
          rw [ih σ hr, List.set_comm _ _ hk]
      rw [aux σ vs q, List.set_set]
theorem Wp1.refl (sl : List Nat) (σ : L2.St) : Wp1 sl σ σ := fun _ _ => rfl
theorem Wp1.trans {sl sl' : List Nat} {σ σ' σ'' : L2.St} (a : Wp1 sl σ σ') (b : Wp1 sl' σ' σ'') : Wp1 (sl ++ sl') σ σ'' := fun vs h => (b vs fun i hi => h i (List.mem_append_right _ hi)).trans (a vs fun i hi => h i (List.mem_append_left _ hi))
theorem pgf_name (i : Nat) {x : Str} (hN : X.N.Nodup) (hi : X.N[i]? = some x) (hx : Loc X.env.scope x) (hf : X.fn x = true ∨ X.env.scope.names.lookup x = some .local := by first | exact .inl rfl | exact .inr rfl | assumption) : PGF Z X (.Name x pos) (tgN i) [i] := by
  refine ⟨⟨fun pins s σ H v u Q I r h => ?_⟩⟩
  obtain ⟨env, G, α, S, d, env', hd, oe, ov, e, k⟩ := h
  cases e
  exact (pg_name hN hi hx hf).run pins s σ H v u Q I r (k _ (oe.set i ov) fun vs hv => wipe_set (hv i (by simp)))
theorem pgfs_nil : PGFs Z X 0 [] tgNil [] := by
  refine ⟨⟨fun pins s σ H vs us Q I r h => ?_⟩, fun l env env' e => ?_⟩
  · obtain ⟨env, G, α, S, l, env', hd, oe, ol, e, k⟩ := h
    cases l with
    | nil =>
      cases e
      exact pgs_nil.run pins s σ H vs us Q I r ⟨OnL.nil.mp ol, k _ oe (Wp1.refl _ _)⟩
    | cons a b => cases e
  · cases l with
    | nil => rfl
    | cons a b => cases e
theorem pgfs_cons {e : Expr} {es : List Expr} {f : FG} {fs : FGs} {sl sl' : List Nat} {n : Nat} (h1 : PGF Z X e f sl) (h2 : PGFs Z X n es fs sl')
    (hs : (assignEach (e :: es) X.env).map (·.2) = assign e X.env :: (assignEach es X.env).map (·.2) := by rfl) : PGFs Z X (n + 1) (e :: es) (tgCons f fs) (sl ++ sl') := by
  refine ⟨⟨fun pins s σ H vs us Q I r h => ?_⟩, fun l env env' e => ?_⟩
  · obtain ⟨env, G, α, S, l, env', hd, oe, ol, q, k⟩ := h
    cases l with
    | nil => cases q
    | cons d l =>
      obtain ⟨y, ys, rfl, o1, o2⟩ := OnL.cons.mp ol
      have q' : (match f d env with | some env' => fs l env' | none => none) = some env' := q
      cases q2 : f d env with
      | none => rw [q2] at q'; cases q'
      | some env1 =>
        rw [q2] at q'
        refine (pgs_cons h1.pg h2.pg hs).run pins s σ H _ us Q I r ⟨y, ys, rfl, env, G, α, S, d, env1, hd, oe, o1, q2, fun σ' oe' wp => ⟨env1, G, α, S, l, env', hd, oe', o2, q', fun σ2 oe2 wp2 => k σ2 oe2 (wp.trans wp2)⟩⟩
  · cases l with
    | nil => cases e
    | cons d l =>
      have q' : (match f d env with | some env' => fs l env' | none => none) = some env' := e
      cases q2 : f d env with
      | none => rw [q2] at q'; cases q'
      | some env1 => rw [q2] at q'; rw [List.length_cons, h2.len _ _ _ q']
theorem pgf_tup {es : List Expr} {k : Nat} {fs : FGs} {sl : List Nat} {n : Nat} (hK : X.K = Z.K) (hc : X.calm = true) (h : PGFs Z X n es fs sl)
    (hn : (assignEach es X.env).length = n := by rfl) (hst : (assignEach es X.env).findIdx? (·.1) = none := by rfl) : PGF Z X (.Tuple es k pos) (tgT fs) sl := by
  refine ⟨⟨fun pins s σ H v u Q I r h' => ?_⟩⟩
  obtain ⟨env, G, α, S, d, env', hd, oe, ov, e, kk⟩ := h'
  cases d with
  | tup l =>
    unfold On at ov
    obtain ⟨a, xs, rfl, o1, o2⟩ := ov
    exact (pg_tup hc h.pg hn hst).run pins s σ H _ u Q I r ⟨a, xs, rfl, SqT.of (hd.ex _ _ o1), by rw [o2.len]; exact h.len _ _ _ e, env, G, α, S, l, env', hd, oe, o2, e, kk⟩
  | _ => cases e
end
mutual
def beqD : Dv → Dv → Bool
  | .non, .non => true
  | .bl a, .bl b => a == b
  | .int a, .int b => a == b
  | .str a, .str b => a == b
  | .ty a, .ty b => a == b
  | .cls a, .cls b => a == b
  | .lst a, .lst b => beqDs a b
  | .tup a, .tup b => beqDs a b
  | .ktp a, .ktp b => beqDs a b
  | .obj c a, .obj d b => c == d && beqDs a b
  | .dic t a b, .dic u c d => t == u && beqDs a c && beqDs b d
  | .scr a, .scr b => a == b
  | _, _ => false
def beqDs : List Dv → List Dv → Bool
  | [], [] => true
  | a :: l, b :: m => beqD a b && beqDs l m
  | _, _ => false
end
mutual
theorem beqD_refl : ∀ d : Dv, beqD d d = true
  | .non => by simp [beqD]
  | .bl _ => by simp [beqD]
  | .int _ => by simp [beqD]
  | .str _ => by simp [beqD]
  | .ty _ => by simp [beqD]
  | .cls _ => by simp [beqD]
  | .scr _ => by simp [beqD]
  | .lst l => by simp [beqD, beqDs_refl l]
  | .tup l => by simp [beqD, beqDs_refl l]
  | .ktp l => by simp [beqD, beqDs_refl l]
  | .obj c l => by simp [beqD, beqDs_refl l]
  | .dic t l m => by simp [beqD, beqDs_refl l, beqDs_refl m]
theorem beqDs_refl : ∀ l : List Dv, beqDs l l = true
  | [] => by simp [beqDs]
  | d :: l => by simp [beqDs, beqD_refl d, beqDs_refl l]
end
mutual
theorem beqD_eq : ∀ {a b : Dv}, beqD a b = true → a = b
  | a, b, h => by
    cases a <;> cases b <;> first
      | rfl
      | (simp [beqD] at h; done)
      | (simp [beqD] at h; subst h; rfl)
      | skip
    · rename_i l m; rw [beqDs_eq (a := l) (b := m) (by simpa [beqD] using h)]
    · rename_i l m; rw [beqDs_eq (a := l) (b := m) (by simpa [beqD] using h)]
    · rename_i c l d m
      have h' : c = d ∧ beqDs l m = true := by simpa [beqD] using h
      rw [h'.1, beqDs_eq h'.2]
    · rename_i t l m u l' m'
      have h' : (t = u ∧ beqDs l l' = true) ∧ beqDs m m' = true := by simpa [beqD] using h
      rw [h'.1.1, beqDs_eq h'.1.2, beqDs_eq h'.2]
    · rename_i l m; rw [beqDs_eq (a := l) (b := m) (by simpa [beqD] using h)]
theorem beqDs_eq : ∀ {a b : List Dv}, beqDs a b = true → a = b
  | [], [], _ => rfl
  | [], _ :: _, h => by simp [beqDs] at h
  | _ :: _, [], h => by simp [beqDs] at h
  | a :: l, b :: m, h => by
    have h' : beqD a b = true ∧ beqDs l m = true := by simpa [beqDs] using h
    rw [beqD_eq h'.1, beqDs_eq h'.2]
end
/-- the list that is gone over stands as it did -/
def lockOk (t : Its) (S : Sto) : Bool := match t.2 with
  | none => true
  | some n => match S[n]? with
    | some (.lst l) => beqDs l t.1
    | _ => false
theorem lock_ok {Z : Zx} {G2 G' H : Hp} {α2 α' : List Addr} {t : Its} {S' : Sto} (hd : Hd Z G' α' S' H) (e : Ex G2 G') (p : Px α2 α') (hn : ∀ n, t.2 = some n → n < α2.length) (h : lockOk t S' = true) : OkI Z G2 α2 t G' H := by
  refine ⟨e, hd.ex, fun n q => ?_⟩
  unfold lockOk at h
  rw [q] at h
  obtain ⟨b, ha⟩ : ∃ b, α2[n]? = some b := ⟨_, List.getElem?_eq_getElem (hn n q)⟩
  cases q2 : S'[n]? with
  | none => simp only [q2] at h; cases h
  | some c =>
    simp only [q2] at h
    cases c with
    | lst l =>
      have e2 := beqDs_eq h
      subst e2
      obtain ⟨xs, h1, h2⟩ := (hd.at_ n _ _ (p.get ha) q2).2
      exact ⟨_, xs, ha, h1, h2⟩
    | _ => cases h
theorem lock_lt {Z : Zx} {G H : Hp} {α : List Addr} {t : Its} {S : Sto} (hd : Hd Z G α S H) (h : lockOk t S = true) : ∀ n, t.2 = some n → n < α.length := fun n q => by
  unfold lockOk at h
  rw [q] at h
  rw [hd.len]
  cases q2 : S[n]? with
  | none => simp only [q2] at h; cases h
  | some c => exact (List.getElem?_eq_some_iff.mp q2).1
def R.noex {β : Type} (r : R β) : R β := match r with
  | .ex _ _ => .no
  | r => r
def onD {β : Type} (v : Vr) (f : Dv → R β) : R β := match v with
  | .d d => f d
  | .r _ => .no
/-- the turns of a comprehension -/
def lcGo (t : Its) (tg : FG) (ft : FT) (fe : FE) (env : Env) : List Dv → Sto → List Dv → R (List Dv)
  | [], S, acc => if lockOk t S then .ok S acc else .no
  | d :: r, S, acc => if lockOk t S then (match tg d env with
    | some env' => (ft env' S).noex.bind fun S1 b => if b then (fe env' S1).noex.bindV fun S2 v => onD v fun y => if acc.length < 100000 then lcGo t tg ft fe env r S2 (acc ++ [y]) else .no else lcGo t tg ft fe env r S1 acc
    | none => .no) else .no
def wipeE (env : Env) : List Nat → Env
  | [] => env
  | i :: vs => (wipeE env vs).set i .u
def fLc (fi : FI) (tg : FG) (ft : FT) (fe : FE) (vs : List Nat) : FE := fun env S => (fi env S).bind fun S1 t => (lcGo t tg ft fe (wipeE env vs) t.1 S1 []).bind fun S2 l => .ok S2 (.new (.lst l))
def kYes : FT := fun _ S => .ok S true
abbrev Ew0 : L2.St → XK := fun _ => E0
section
variable {Z : Zx} {X : Cx} {Ew : L2.St → XK} {G H : Hp} {α : List Addr} {S : Sto}
theorem OnE.wipe {env : Env} {σ : L2.St} (h : OnE Z G α env σ) : ∀ vs : List Nat, OnE Z G α (wipeE env vs) (wipe σ vs)
  | [] => h
  | i :: vs => (OnE.wipe h vs).forget i
theorem wipe_wipe {σ : L2.St} {vs : List Nat} : ∀ {l : List Nat}, (∀ i ∈ l, i ∈ vs) → wipe (wipe σ l) vs = wipe σ vs
  | [], _ => rfl
  | i :: l, h => by
    show wipe ((wipe σ l).set i none) vs = wipe σ vs
    rw [wipe_set (h i List.mem_cons_self), wipe_wipe fun j hj => h j (List.mem_cons_of_mem _ hj)]
/-- beside what is known and the cells, something of ours is changed -/
theorem Hd.side {D : Addr} {o : HO} (h : Hd Z G α S H) (hG : G D = none) (hD : D ∉ α) : Hd Z G α S (upd H D o) := by
  refine ⟨fun b u hb => ?_, h.len, h.nd, fun n a c h1 h2 => ?_⟩
  · have : b ≠ D := fun e => by subst e; rw [hG] at hb; cases hb
    rw [upd_ne this]
    exact h.ex b u hb
  · have : a ≠ D := fun e => hD (e ▸ List.mem_of_getElem? h1)
    obtain ⟨h3, h4⟩ := h.at_ n a c h1 h2
    refine ⟨h3, h4.move (Ex.refl G) (upd_ne this) (fun _ _ _ q => q) fun m b _ q1 q2 q3 => ⟨q1, q2, q3, fun o' ho => ?_⟩⟩
    have nb : b ≠ D := fun e => hD (e ▸ List.mem_of_getElem? q1)
    rw [upd_ne nb]; exact ho
theorem Fr.side {G2 H2 : Hp} {α2 : List Addr} {D : Addr} {o : HO} (f : Fr G α H G2 α2 H2) (hD : H D = none) : Fr G α H G2 α2 (upd H2 D o) :=
  ⟨f.g, f.a, fun b u h1 h2 => by
    have : b ≠ D := fun e => by subst e; rw [hD] at h1; cases h1
    rw [upd_ne this]
    exact f.h b u h1 h2, f.n, f.m, fun b hb => by
    by_cases q : b = D
    · subst q; rw [upd_same]; exact fun h => nomatch h
    · rw [upd_ne q]; exact f.s b hb⟩
/-- D, of ours, through a step -/
theorem Fr.ours {G2 H2 : Hp} {α2 : List Addr} {D : Addr} {o : HO} (f : Fr G α H G2 α2 H2) (hG : G D = none) (hD : D ∉ α) (h : H D = some o) (ht : ∀ xs, o ≠ HO.tup xs := by intro _ h; cases h) : G2 D = none ∧ D ∉ α2 ∧ H2 D = some o := by
  refine ⟨f.n D o hG h ht hD, fun hm => ?_, f.h D o h hD⟩
  rcases f.m D hm with e | e
  · exact hD e
  · rw [h] at e; cases e
theorem noex_V {γ δ : Type} {r : R Rt} {F : Sto → Vr → R γ} {fin : Sto → γ → R δ} {P : Pst δ} {E : XK} {Q' : VK} {G' H' : Hp} {α' : List Addr} (w : Wk Z ((r.noex.bindV F).bind fin) G α H P E)
    (k : ∀ S2 d v H2 G2 α2, Fr G' α' H' G2 α2 H2 → Hd Z G2 α2 S2 H2 → OnR Z G2 α2 d v → Wk Z ((F S2 d).bind fin) G α H P E → Q' v H2) : Wk Z r G' α' H' (pRt Z Q') E0 := by
  match r, w with
  | .ok S (.val v), w => exact fun H2 G2 α2 f2 hd2 x ox => k S v x H2 G2 α2 f2 hd2 ox w
  | .ok S (.new c), w =>
    intro H2 G2 α2 f2 hd2 p n
    cases e : frzC c with
    | none =>
      have w : Wk Z ((R.bindV (.ok S (.new c)) F).bind fin) G α H P E := w
      rw [bindV_dead e] at w
      exact w.elim
    | some d =>
      have w : Wk Z ((R.bindV (.ok S (.new c)) F).bind fin) G α H P E := w
      rw [bindV_new e] at w
      cases q : H2 p with
      | none => exact absurd q n.c.ne
      | some o =>
        have hc := n.c
        rw [q] at hc
        exact k S (.d d) _ H2 _ α2 (f2.freeze (o := o) n.h n.g) (hd2.freeze n.g q n.a) (On.frz hc e n.g) w
structure PTsF (Z : Zx) (X : Cx) (ifs : List Expr) (f : FT) : Prop where
  pts : PTs X ifs (tFT Z Ew0 f)
theorem ptsf_nil : PTsF Z X [] kYes := ⟨⟨fun pins s σ H Q I h => by
  obtain ⟨env, G, α, S, hd, oe, w⟩ := h
  exact pts_nil.run pins s σ H Q I (Wk.bool w hd)⟩⟩
theorem ptsf_one {c : Expr} {f : FT} (h : PTF Z Ew0 X c f) : PTsF Z X [c] f := ⟨pts_one h.pt⟩
/-- [elt for target in iter if ..] -/
theorem se_lc {fi : FI} {tg : FG} {ft : FT} {fe : FE} {sl vs : List Nat} (hsl : ∀ i ∈ sl, i ∈ vs) : SE Z Ew (tLc (tFI Z Ew fi) (tG Z tg sl) (tFT Z Ew0 ft) (tF Z Ew0 fe) vs) (fLc fi tg ft fe vs) := fun env σ G α S H Q hd oe w => by
  refine ⟨env, G, α, S, hd, oe, w.bind (P' := pI Z _) fun S1 t H1 G1 α1 f1 hd1 w1 J gz D hD => ?_⟩
  have oe1 : OnE Z G1 α1 (wipeE env vs) (wipe σ vs) := (oe.up f1.g f1.a).wipe vs
  let fin : Sto → List Dv → R Rt := fun S2 l => .ok S2 (.new (.lst l))
  have lk0 : lockOk t S1 = true := by
    have w1 : Wk Z ((lcGo t tg ft fe (wipeE env vs) t.1 S1 []).bind fin) G1 α1 H1 (pRt Z Q) (Ew σ) := w1
    cases q : lockOk t S1 with
    | true => rfl
    | false =>
      cases q2 : t.1 with
      | nil => rw [q2] at w1; simp only [lcGo, q] at w1; exact w1.elim
      | cons d r => rw [q2] at w1; simp only [lcGo, q] at w1; exact w1.elim
  have hlt := lock_lt hd1 lk0
  refine ⟨fun i m H' => m = t.1.length - i ∧ i ≤ t.1.length ∧ ∃ G' α' S' acc xs, Fr G1 α1 H1 G' α' H' ∧ Hd Z G' α' S' H' ∧ G' D = none ∧ D ∉ α' ∧ H' D = some (.lst xs) ∧ OnL Z G' acc xs ∧
    Wk Z ((lcGo t tg ft fe (wipeE env vs) (t.1.drop i) S' acc).bind fin) G1 α1 H1 (pRt Z Q) (Ew σ),
    ⟨t.1.length, by simp, Nat.zero_le _, G1, α1, S1, [], [], Fr.grow hd1 (Ex.new hD), hd1.grow (Ex.new hD), fresh_back hd1.ex hD, fun h => hd1.live h hD, upd_same, OnL.nil', w1⟩, ?_⟩
  rintro i m H' ⟨rfl, hi, G', α', S', acc, xs, f2, hd2, gD, aD, hHD, oa, w2⟩
  cases lk : lockOk t S' with
  | false =>
    cases q2 : t.1.drop i with
    | nil => rw [q2] at w2; simp only [lcGo, lk] at w2; exact w2.elim
    | cons d r => rw [q2] at w2; simp only [lcGo, lk] at w2; exact w2.elim
  | true =>
    have ok := lock_ok hd2 f2.g f2.a hlt lk
    by_cases hlt2 : i < t.1.length
    · refine .inr ⟨gz.go i G' H' hlt2 ok, _, fun H3 h3 => ⟨t.1.length - (i + 1), by omega, rfl, hlt2, h3⟩, fun x H3 y => ?_⟩
      obtain ⟨d, ed, hy⟩ := gz.yld i G' H' x H3 hlt2 ok y
      obtain ⟨G3, f3, hd3, od⟩ := hy α' S' hd2
      obtain ⟨gD3, aD3, hHD3⟩ := f3.ours gD aD hHD
      have e1 : t.1.drop i = d :: t.1.drop (i + 1) := by
        rw [List.drop_eq_getElem_cons hlt2]
        rw [List.getElem?_eq_getElem hlt2] at ed
        cases ed
        rfl
      rw [e1] at w2
      simp only [lcGo, lk, if_true] at w2
      cases q : tg d (wipeE env vs) with
      | none => simp only [q] at w2; exact w2.elim
      | some env' =>
        simp only [q] at w2
        have oe3 : OnE Z G3 α' (wipeE env vs) (wipe σ vs) := (oe1.up f2.g f2.a).up f3.g f3.a
        refine ⟨_, G3, α', S', d, env', hd3, oe3, od, q, fun σ2 oe2 wp => ⟨(wp vs hsl).trans (wipe_wipe fun i h => h), env', G3, α', S', hd3, oe2, ?_⟩⟩
        cases q3 : ft env' S' with
        | no => rw [q3] at w2; exact w2.elim
        | ex S x => rw [q3] at w2; exact w2.elim
        | ok S4 b =>
          rw [q3] at w2
          intro H4 G4 α4 f4 hd4
          obtain ⟨gD4, aD4, hHD4⟩ := f4.ours gD3 aD3 hHD3
          have f14 := (f2.trans f3).trans f4
          cases b with
          | false =>
            dsimp only [pB]
            rw [if_neg Bool.false_ne_true]
            exact ⟨G4, α4, S4, acc, xs, f14, hd4, gD4, aD4, hHD4, oa.up (f3.g.trans f4.g), w2⟩
          | true =>
            dsimp only [pB]
            rw [if_pos rfl]
            refine ⟨env', G4, α4, S4, hd4, oe2.up f4.g f4.a, noex_V (F := fun S2 v => onD v fun y => if acc.length < 100000 then lcGo t tg ft fe (wipeE env vs) (t.1.drop (i + 1)) S2 (acc ++ [y]) else .no) w2 fun S5 v y H5 G5 α5 f5 hd5 ov w5 => ?_⟩
            obtain ⟨gD5, aD5, hHD5⟩ := f5.ours gD4 aD4 hHD4
            cases v with
            | r n => exact w5.elim
            | d v =>
              by_cases hl : acc.length < 100000
              · have w5 : Wk Z ((if acc.length < 100000 then lcGo t tg ft fe (wipeE env vs) (t.1.drop (i + 1)) S5 (acc ++ [v]) else .no).bind fin) G1 α1 H1 (pRt Z Q) (Ew σ) := w5
                rw [if_pos hl] at w5
                have oa5 := (oa.up (f3.g.trans f4.g)).up f5.g
                exact ⟨xs, hHD5, Nat.lt_of_lt_of_le (by rw [oa.len]; exact hl) (by decide), G5, α5, S5, acc ++ [v], xs ++ [y], (f14.trans f5).side hD, hd5.side gD5 aD5, gD5, aD5, upd_same, oa5.app (OnL.cons' ov OnL.nil'), w5⟩
              · have w5 : Wk Z ((if acc.length < 100000 then lcGo t tg ft fe (wipeE env vs) (t.1.drop (i + 1)) S5 (acc ++ [v]) else .no).bind fin) G1 α1 H1 (pRt Z Q) (Ew σ) := w5
                rw [if_neg hl] at w5
                exact w5.elim
    · have e : i = t.1.length := by omega
      subst e
      rw [List.drop_length] at w2
      simp only [lcGo, lk, if_true] at w2
      have w2 : Wk Z (.ok S' (Rt.new (.lst acc))) G1 α1 H1 (pRt Z Q) (Ew σ) := w2
      exact .inl ⟨gz.stop G' H' ok, w2 H' G' α' f2 hd2 D ⟨hD, gD, aD, ⟨xs, hHD, oa⟩⟩⟩
theorem pf_lc {elt tg iter : Expr} {ifs : List Expr} {scope : Scope} {own : List (Str × Nat)} {pos : Pos} {fi : FI} {ftg : FG} {ft : FT} {fe : FE} {sl : List Nat} (hc : X.calm = true) (hN : X.N.Nodup) (hi : PIF Z Ew X tg iter fi) (ok : BlkOk X.N X.env.scope scope own)
    (hg : ∀ (s : Shared) (H : Hp) (C : Addr) (cl : List (Str × Addr)) (fp : List Addr), PGF Z (X.blk s H scope (compEnvC scope cl C X.env) fp) tg ftg sl)
    (ht : ∀ (s : Shared) (H : Hp) (C : Addr) (cl : List (Str × Addr)) (fp : List Addr), PTsF Z (X.blk s H scope (compEnvC scope cl C X.env) fp) ifs ft)
    (he : ∀ (s : Shared) (H : Hp) (C : Addr) (cl : List (Str × Addr)) (fp : List Addr), PF Z Ew0 (X.blk s H scope (compEnvC scope cl C X.env) fp) elt fe)
    (hsl : ∀ i ∈ sl, i ∈ own.map (·.2) := by decide) (hs : ∀ x, foldedSetIterable iter X.env x = pure x := by intro _; rfl) : PF Z Ew X (.ListComp elt [⟨tg, iter, ifs, 0⟩] scope pos) (fLc fi ftg ft fe (own.map (·.2))) :=
  ⟨_, pe_lc hc hN hi.pi ok (fun s H C cl fp => (hg s H C cl fp).pg) (fun s H C cl fp => (ht s H C cl fp).pts) (fun s H C cl fp => (he s H C cl fp).pe) hs, se_lc hsl⟩
end
end DN
namespace DN
open PySem PySem.Spec PyProof.Rows L2 Evl
inductive RS where
  | nx (env : Env) (S : Sto) | rt (S : Sto) (r : Rt) | bk (env : Env) (S : Sto) | ct (env : Env) (S : Sto) | ex (env : Env) (S : Sto) (x : Xn) | no
abbrev FS := Env → Sto → RS
/-- a value is wanted, then a statement goes on -/
def sV (env : Env) (r : R Rt) (F : Sto → Vr → RS) : RS := match r with
  | .ok S (.val v) => F S v
  | .ok S (.new (.lst l)) => F S (.d (.lst l))
  | .ok S (.new (.ob c l)) => F S (.d (.obj c l))
  | .ok S (.new (.dc t ks vs)) => F S (.d (.dic t ks vs))
  | .ok _ (.new .dead) => .no
  | .ok _ (.new (.tab _)) => .no
  | .ex S x => .ex env S x
  | .no => .no
def sB {β : Type} (env : Env) (r : R β) (F : Sto → β → RS) : RS := match r with
  | .ok S b => F S b
  | .ex S x => .ex env S x
  | .no => .no
def WkS (Z : Zx) (r : RS) (G : Hp) (α : List Addr) (H : Hp) (D : Ends) (W : WX) : Prop := match r with
  | .nx env S => ∀ σ2 H2 G2 α2, Fr G α H G2 α2 H2 → Hd Z G2 α2 S H2 → OnE Z G2 α2 env σ2 → D.nx σ2 H2
  | .bk env S => ∀ σ2 H2 G2 α2, Fr G α H G2 α2 H2 → Hd Z G2 α2 S H2 → OnE Z G2 α2 env σ2 → D.bk σ2 H2
  | .ct env S => ∀ σ2 H2 G2 α2, Fr G α H G2 α2 H2 → Hd Z G2 α2 S H2 → OnE Z G2 α2 env σ2 → D.ct σ2 H2
  | .rt S r => Wk Z (.ok S r) G α H (pRt Z D.rt) E0
  | .ex env S x => ∀ σ2 cls d H2 G2 α2, Fr G α H G2 α2 H2 → Hd Z G2 α2 S H2 → OnE Z G2 α2 env σ2 → OnX Z G2 α2 x cls d → W cls d σ2 H2
  | .no => False
def SS (Z : Zx) (W : WX) (ts : TS) (f : FS) : Prop := ∀ env σ G α S H D, Hd Z G α S H → OnE Z G α env σ → WkS Z (f env S) G α H D W → ts D σ H
def tS (Z : Zx) (W : WX) (f : FS) : TS := fun D σ H => ∃ env G α S, Hd Z G α S H ∧ OnE Z G α env σ ∧ WkS Z (f env S) G α H D W
structure PSF (Z : Zx) (W : WX) (X : Cx) (st : Stmt) (f : FS) : Prop where
  ps : PS X st (tS Z W f)
structure PSsF (Z : Zx) (W : WX) (X : Cx) (st : List Stmt) (f : FS) : Prop where
  ps : PSs X st (tS Z W f)
section
variable {Z : Zx} {W : WX} {X : Cx} {G H G2 H2 : Hp} {α α2 : List Addr} {S : Sto} {D : Ends} {env : Env} {σ : L2.St}
theorem WkS.later {r : RS} (w : WkS Z r G α H D W) (f : Fr G α H G2 α2 H2) : WkS Z r G2 α2 H2 D W := by
  cases r with
  | nx env S => exact fun σ2 H3 G3 α3 f3 => w σ2 H3 G3 α3 (f.trans f3)
  | bk env S => exact fun σ2 H3 G3 α3 f3 => w σ2 H3 G3 α3 (f.trans f3)
  | ct env S => exact fun σ2 H3 G3 α3 f3 => w σ2 H3 G3 α3 (f.trans f3)
  | rt S r => exact Wk.later (show Wk Z (.ok S r) G α H (pRt Z D.rt) E0 from w) f
  | ex env S x => exact fun σ2 cls d H3 G3 α3 f3 => w σ2 cls d H3 G3 α3 (f.trans f3)
  | no => exact w
theorem PSF.of {st : Stmt} {ts : TS} {f : FS} (h : PS X st ts) (s : SS Z W ts f) : PSF Z W X st f := ⟨⟨fun pins sh σ H D I ht => by
  obtain ⟨env, G, α, S, hd, oe, w⟩ := ht
  exact h.run pins sh σ H D I (s env σ G α S H D hd oe w)⟩⟩
theorem PSsF.of {st : List Stmt} {ts : TS} {f : FS} (h : PSs X st ts) (s : SS Z W ts f) : PSsF Z W X st f := ⟨⟨fun pins sh σ H D I ht => by
  obtain ⟨env, G, α, S, hd, oe, w⟩ := ht
  exact h.run pins sh σ H D I (s env σ G α S H D hd oe w)⟩⟩
theorem Got.sV {r : R Rt} {S : Sto} {d : Vr} {F : Sto → Vr → RS} (h : Got r S d) : sV env r F = F S d := by
  cases h with
  | val => rfl
  | new S c d h => cases c <;> cases h <;> rfl
/-- an expression's value, then the rest of the statement -/
theorem SE.bindS {te : TE} {fe : FE} {F : Sto → Vr → RS} {Q' : VK} (h : SE Z (WE W) te fe) (hd : Hd Z G α S H) (oe : OnE Z G α env σ) (w : WkS Z (sV env (fe env S) F) G α H D W)
    (k : ∀ S2 d v H2 G2 α2, Got (fe env S) S2 d → Fr G α H G2 α2 H2 → Hd Z G2 α2 S2 H2 → OnE Z G2 α2 env σ → OnR Z G2 α2 d v → WkS Z (F S2 d) G2 α2 H2 D W → Q' v H2) : te σ H Q' := by
  refine h env σ G α S H Q' hd oe ?_
  cases e : fe env S with
  | no => rw [e] at w; exact w.elim
  | ex S2 x =>
    rw [e] at w
    exact fun cls d H2 G2 α2 f2 hd2 ox => w σ cls d H2 G2 α2 f2 hd2 (oe.up f2.g f2.a) ox
  | ok S2 b =>
    cases b with
    | val v =>
      rw [e] at w
      exact fun H2 G2 α2 f2 hd2 x ox => k S2 v x H2 G2 α2 (e ▸ .val S2 v) f2 hd2 (oe.up f2.g f2.a) ox (WkS.later w f2)
    | new c =>
      intro H2 G2 α2 f2 hd2 p n
      cases q : frzC c with
      | none =>
        rw [e] at w
        cases c with
        | dead => exact w.elim
        | tab rows => exact w.elim
        | _ => cases q
      | some d =>
        have g : Got (fe env S) S2 (.d d) := e ▸ .new S2 c d q
        rw [g.sV] at w
        cases q2 : H2 p with
        | none => exact absurd q2 n.c.ne
        | some o =>
          have hc := n.c
          rw [q2] at hc
          have f3 := f2.freeze (o := o) n.h n.g
          exact k S2 (.d d) _ H2 _ α2 g f3 (hd2.freeze n.g q2 n.a) (oe.up f3.g f3.a) (On.frz hc q n.g) (WkS.later w f3)
theorem ST.bindS {tt : TT} {ft : FT} {F : Sto → Bool → RS} {Q' : Bool → Hp → Prop} (h : ST Z (WE W) tt ft) (hd : Hd Z G α S H) (oe : OnE Z G α env σ) (w : WkS Z (sB env (ft env S) F) G α H D W)
    (k : ∀ S2 b H2 G2 α2, Fr G α H G2 α2 H2 → Hd Z G2 α2 S2 H2 → OnE Z G2 α2 env σ → WkS Z (F S2 b) G2 α2 H2 D W → Q' b H2) : tt σ H Q' := by
  refine h env σ G α S H Q' hd oe ?_
  cases e : ft env S with
  | no => rw [e] at w; exact w.elim
  | ex S2 x =>
    rw [e] at w
    exact fun cls d H2 G2 α2 f2 hd2 ox => w σ cls d H2 G2 α2 f2 hd2 (oe.up f2.g f2.a) ox
  | ok S2 b =>
    rw [e] at w
    exact fun H2 G2 α2 f2 hd2 => k S2 b H2 G2 α2 f2 hd2 (oe.up f2.g f2.a) (WkS.later w f2)
theorem SA.bindS {ta : TA} {fa : FA} {F : Sto → List Vr → RS} {Q' : List V → Hp → Prop} (h : SA Z (WE W) ta fa) (hd : Hd Z G α S H) (oe : OnE Z G α env σ) (w : WkS Z (sB env (fa env S) F) G α H D W)
    (k : ∀ S2 l vs H2 G2 α2, Fr G α H G2 α2 H2 → Hd Z G2 α2 S2 H2 → OnE Z G2 α2 env σ → OnA Z G2 α2 l vs → WkS Z (F S2 l) G2 α2 H2 D W → Q' vs H2) : ta σ H Q' := by
  refine h env σ G α S H Q' hd oe ?_
  cases e : fa env S with
  | no => rw [e] at w; exact w.elim
  | ex S2 x =>
    rw [e] at w
    exact fun cls d H2 G2 α2 f2 hd2 ox => w σ cls d H2 G2 α2 f2 hd2 (oe.up f2.g f2.a) ox
  | ok S2 b =>
    rw [e] at w
    exact fun H2 G2 α2 f2 hd2 vs ov => k S2 b vs H2 G2 α2 f2 hd2 (oe.up f2.g f2.a) ov (WkS.later w f2)
theorem WkS.here {env' : Env} (w : WkS Z (.nx env' S) G α H D W) (hd : Hd Z G α S H) (oe : OnE Z G α env' σ) : D.nx σ H := w σ H G α (Fr.refl G α H) hd oe
end
def kNext : FS := fun env S => .nx env S
def kSeq (a b : FS) : FS := fun env S => match a env S with
  | .nx e2 S2 => b e2 S2
  | r => r
def kIf (ft : FT) (a b : FS) : FS := fun env S => sB env (ft env S) fun S1 t => if t then a env S1 else b env S1
def kRet (fe : FE) : FS := fun env S => match fe env S with
  | .ok S2 r => .rt S2 r
  | .ex S2 x => .ex env S2 x
  | .no => .no
def kRetN : FS := fun _ S => .rt S (.val (.d .non))
def kExpr (fe : FE) : FS := fun env S => sB env (fe env S) fun S1 _ => .nx env S1
/-- name = value -/
def kSet (i : Nat) (fe : FE) : FS := fun env S => sV env (fe env S) fun S1 v => .nx (env.set i (.v v)) S1
/-- name = value, a new thing becomes a cell -/
def kSetC (i : Nat) (fe : FE) : FS := fun env S => match fe env S with
  | .ok S1 (.val v) => .nx (env.set i (.v v)) S1
  | .ok S1 (.new c) => .nx (env.set i (.v (.r S1.length))) (S1 ++ [c])
  | .ex S1 x => .ex env S1 x
  | .no => .no
/-- target = value -/
def kAsg (f : FG) (fe : FE) : FS := fun env S => sV env (fe env S) fun S1 v => match v with
  | .d d => match f d env with
    | some env' => .nx env' S1
    | none => .no
  | .r _ => .no
/-- a, b = x, y -/
def kPar (i j : Nat) (fa : FA) : FS := fun env S => sB env (fa env S) fun S1 l => match l with
  | [v, w] => .nx ((env.set i (.v v)).set j (.v w)) S1
  | _ => .no
section
variable {Z : Zx} {W : WX} {X : Cx} {st : Stmt} {rest : List Stmt} {f g : FS} {e : Expr} {fe : FE} {pos : Pos}
theorem psf_nil : PSsF Z W X [] kNext := .of pss_nil fun env σ G α S H D hd oe w => w.here hd oe
theorem psf_cons (h1 : PSF Z W X st f) (h2 : PSsF Z W X rest g) : PSsF Z W X (st :: rest) (kSeq f g) := .of (pss_cons h1.ps h2.ps) fun env σ G α S H D hd oe w => by
  refine ⟨env, G, α, S, hd, oe, ?_⟩
  unfold kSeq at w
  cases q : f env S with
  | nx e2 S2 =>
    rw [q] at w
    exact fun σ2 H2 G2 α2 f2 hd2 oe2 => ⟨e2, G2, α2, S2, hd2, oe2, WkS.later w f2⟩
  | rt S2 r => rw [q] at w; exact w
  | bk e2 S2 => rw [q] at w; exact w
  | ct e2 S2 => rw [q] at w; exact w
  | ex e2 S2 x => rw [q] at w; exact w
  | no => rw [q] at w; exact w
theorem psf_one (h1 : PSF Z W X st f) : PSsF Z W X [st] f := ⟨pss_one h1.ps⟩
theorem psf_ret (h : PF Z (WE W) X e fe) : PSF Z W X (.Return (some e) pos) (kRet fe) := by
  obtain ⟨te, h1, h2⟩ := h.ex
  refine .of (ps_ret h1) fun env σ G α S H D hd oe w => h2 env σ G α S H _ hd oe ?_
  unfold kRet at w
  cases q : fe env S with
  | ok S2 r => rw [q] at w; exact w
  | ex S2 x =>
    rw [q] at w
    exact fun cls d H2 G2 α2 f2 hd2 ox => w σ cls d H2 G2 α2 f2 hd2 (oe.up f2.g f2.a) ox
  | no => rw [q] at w; exact w.elim
theorem psf_expr (h : PF Z (WE W) X e fe) (hs : swapsWith e none pos.line X.env = pure false := by rfl) : PSF Z W X (.Expr e pos) (kExpr fe) := by
  obtain ⟨te, h1, h2⟩ := h.ex
  refine .of (ps_expr h1 hs) fun env σ G α S H D hd oe w => h2 env σ G α S H _ hd oe ?_
  unfold kExpr at w
  cases q : fe env S with
  | ok S2 r =>
    rw [q] at w
    cases r with
    | val v => exact fun H2 G2 α2 f2 hd2 x ox => w σ H2 G2 α2 f2 hd2 (oe.up f2.g f2.a)
    | new c => exact fun H2 G2 α2 f2 hd2 p n => w σ H2 G2 α2 f2 hd2 (oe.up f2.g f2.a)
  | ex S2 x =>
    rw [q] at w
    exact fun cls d H2 G2 α2 f2 hd2 ox => w σ cls d H2 G2 α2 f2 hd2 (oe.up f2.g f2.a) ox
  | no => rw [q] at w; exact w.elim
theorem psf_if {c : Expr} {a b : List Stmt} {ft : FT} (hc : PTF Z (WE W) X c ft) (ha : PSsF Z W X a f) (hb : PSsF Z W X b g) : PSF Z W X (.If c a b pos) (kIf ft f g) := by
  refine .of (ps_if hc.pt ha.ps hb.ps) fun env σ G α S H D hd oe w => st_tF.bindS hd oe w fun S2 b H2 G2 α2 f2 hd2 oe2 w2 => ?_
  cases b with
  | true => rw [if_pos rfl]; exact ⟨env, G2, α2, S2, hd2, oe2, w2⟩
  | false => rw [if_neg Bool.false_ne_true]; exact ⟨env, G2, α2, S2, hd2, oe2, w2⟩
/-- what a plain name's store leaves -/
theorem ss_set {i : Nat} {te : TE} (h : SE Z (WE W) te fe) : SS Z W (tAsg te (gName i)) (kSet i fe) := fun env σ G α S H D hd oe w =>
  h.bindS hd oe w fun S2 d v H2 G2 α2 _ f2 hd2 oe2 ov w2 => w2.here hd2 (oe2.set i ov)
theorem ss_setC {i : Nat} {te : TE} (h : SE Z (WE W) te fe) : SS Z W (tAsg te (gName i)) (kSetC i fe) := fun env σ G α S H D hd oe w => by
  refine h env σ G α S H _ hd oe ?_
  unfold kSetC at w
  cases q : fe env S with
  | no => rw [q] at w; exact w.elim
  | ex S2 x =>
    rw [q] at w
    exact fun cls d H2 G2 α2 f2 hd2 ox => w σ cls d H2 G2 α2 f2 hd2 (oe.up f2.g f2.a) ox
  | ok S2 r =>
    rw [q] at w
    cases r with
    | val v => exact fun H2 G2 α2 f2 hd2 x ox => w _ H2 G2 α2 f2 hd2 ((oe.up f2.g f2.a).set i ox)
    | new c =>
      intro H2 G2 α2 f2 hd2 p n
      have hd3 := hd2.push n.g n.a n.c
      have f3 := f2.push n.h
      refine w _ H2 G2 _ f3 hd3 ((oe.up f3.g f3.a).set i ⟨p, rfl, ?_⟩)
      rw [← hd2.len, List.getElem?_append_right (Nat.le_refl _), Nat.sub_self]
      rfl
theorem psf_set (i : Nat) {x : Str} {p' : Pos} (hN : X.N.Nodup) (hi : X.N[i]? = some x) (hx : Loc X.env.scope x) (h : PF Z (WE W) X e fe) (hs : swapsWith e (some (.Name x p')) pos.line X.env = pure false := by rfl) (hf : X.fn x = true ∨ X.env.scope.names.lookup x = some .local := by first | exact .inl rfl | exact .inr rfl | assumption) :
    PSF Z W X (.Assign [.Name x p'] e pos) (kSet i fe) := .of (ps_set hN hi hx h.pe hs hf) (ss_set se_tF)
theorem psf_setC (i : Nat) {x : Str} {p' : Pos} (hN : X.N.Nodup) (hi : X.N[i]? = some x) (hx : Loc X.env.scope x) (h : PF Z (WE W) X e fe) (hs : swapsWith e (some (.Name x p')) pos.line X.env = pure false := by rfl) (hf : X.fn x = true ∨ X.env.scope.names.lookup x = some .local := by first | exact .inl rfl | exact .inr rfl | assumption) :
    PSF Z W X (.Assign [.Name x p'] e pos) (kSetC i fe) := .of (ps_set hN hi hx h.pe hs hf) (ss_setC se_tF)
/-- name = [..] on one line -/
theorem psf_setLc (i : Nat) {y : Str} {py : Pos} {elt tg iter : Expr} {ifs : List Expr} {scope : Scope} {own : List (Str × Nat)} {lpos : Pos} {fi : FI} {ftg : FG} {ft : FT} {fe : FE} {sl : List Nat} (hc : X.calm = true) (hN : X.N.Nodup) (hy : X.N[i]? = some y) (hyl : X.env.scope.names.lookup y = some .local)
    (hsw : swapsWith (.ListComp elt [⟨tg, iter, ifs, 0⟩] scope lpos) (some (.Name y py)) pos.line X.env = pure true) (hi : PIF Z (WE W) X tg iter fi) (ok : BlkOk X.N X.env.scope scope own)
    (hg : ∀ (s : Shared) (H : Hp) (C : Addr) (cl : List (Str × Addr)) (fp : List Addr), PGF Z (X.blk s H scope (compEnvC scope cl C X.env) fp) tg ftg sl)
    (ht : ∀ (s : Shared) (H : Hp) (C : Addr) (cl : List (Str × Addr)) (fp : List Addr), PTsF Z (X.blk s H scope (compEnvC scope cl C X.env) fp) ifs ft)
    (he : ∀ (s : Shared) (H : Hp) (C : Addr) (cl : List (Str × Addr)) (fp : List Addr), PF Z Ew0 (X.blk s H scope (compEnvC scope cl C X.env) fp) elt fe)
    (hsl : ∀ i ∈ sl, i ∈ own.map (·.2) := by decide) (hs : ∀ x, foldedSetIterable iter X.env x = pure x := by intro _; rfl) : PSF Z W X (.Assign [.Name y py] (.ListComp elt [⟨tg, iter, ifs, 0⟩] scope lpos) pos) (kSet i (fLc fi ftg ft fe (own.map (·.2)))) :=
  .of (ps_setLc hc hN hy hyl hsw hi.pi ok (fun s H C cl fp => (hg s H C cl fp).pg) (fun s H C cl fp => (ht s H C cl fp).pts) (fun s H C cl fp => (he s H C cl fp).pe) hs) (ss_set (se_lc hsl))
theorem psf_asg {tg : Expr} {ftg : FG} {sl : List Nat} (h : PF Z (WE W) X e fe) (hg : PGF Z X tg ftg sl) (hs : swapsWithSole [tg] e pos.line X.env = pure false := by rfl) (hw : swappedStores [tg] e X.env = pure none := by rfl)
    (h1 : (assignEach [tg] X.env).map (·.2) = [assign tg X.env] := by rfl) : PSF Z W X (.Assign [tg] e pos) (kAsg ftg fe) := by
  refine .of (ps_asg h.pe hg.pg hs hw h1) fun env σ G α S H D hd oe w => se_tF.bindS hd oe w fun S2 d v H2 G2 α2 _ f2 hd2 oe2 ov w2 => ?_
  cases d with
  | r n => exact w2.elim
  | d d =>
    cases q : ftg d env with
    | none => simp only [q] at w2; exact w2.elim
    | some env' =>
      simp only [q] at w2
      exact ⟨env, G2, α2, S2, d, env', hd2, oe2, ov, q, fun σ' oe' _ => w2.here hd2 oe'⟩
end
end DN
namespace DN
open PySem PySem.Spec PyProof.Rows L2 Evl
def forGo (t : Its) (tg : FG) (body : FS) : List Dv → Env → Sto → RS
  | [], env, S => if lockOk t S then .nx env S else .no
  | d :: r, env, S => if lockOk t S then (match tg d env with
    | some env' => match body env' S with
      | .nx e2 S2 => forGo t tg body r e2 S2
      | .ct e2 S2 => forGo t tg body r e2 S2
      | .bk e2 S2 => .nx e2 S2
      | r => r
    | none => .no) else .no
def kFor (fi : FI) (tg : FG) (body : FS) : FS := fun env S => sB env (fi env S) fun S1 t => forGo t tg body t.1 env S1
section
variable {Z : Zx} {W : WX} {X : Cx} {G H G2 H2 : Hp} {α α2 : List Addr} {S : Sto} {D : Ends} {env : Env} {σ : L2.St} {pos : Pos}
theorem SI.bindS {wi : TI} {fi : FI} {F : Sto → Its → RS} {R' : It → Hp → Prop} (h : SI Z (WE W) wi fi) (hd : Hd Z G α S H) (oe : OnE Z G α env σ) (w : WkS Z (sB env (fi env S) F) G α H D W)
    (k : ∀ S2 t H2 G2 α2, Fr G α H G2 α2 H2 → Hd Z G2 α2 S2 H2 → OnE Z G2 α2 env σ → WkS Z (F S2 t) G2 α2 H2 D W → ∀ J, Gz Z J G2 α2 t → R' J H2) : wi σ H R' := by
  refine h env σ G α S H R' hd oe ?_
  cases e : fi env S with
  | no => rw [e] at w; exact w.elim
  | ex S2 x =>
    rw [e] at w
    exact fun cls d H2 G2 α2 f2 hd2 ox => w σ cls d H2 G2 α2 f2 hd2 (oe.up f2.g f2.a) ox
  | ok S2 b =>
    rw [e] at w
    exact fun H2 G2 α2 f2 hd2 J gz => k S2 b H2 G2 α2 f2 hd2 (oe.up f2.g f2.a) (WkS.later w f2) J gz
theorem psf_for {tg iter : Expr} {body : List Stmt} {fi : FI} {ftg : FG} {sl : List Nat} {fb : FS} (hp : PassesOwn (model X.prog X.w) X.A X.env X.xe) (hc : X.calm = true) (hi : PIF Z (WE W) X tg iter fi) (hg : PGF Z X tg ftg sl) (hb : PSsF Z W X body fb)
    (hs : ∀ x, foldedSetIterable iter X.env x = pure x := by intro _; rfl) : PSF Z W X (.For tg iter body [] pos) (kFor fi ftg fb) := by
  refine .of (ps_for hp hc hi.pi hg.pg hb.ps hs) fun env σ G α S H D hd oe w => si_tF.bindS hd oe w fun S1 t H1 G1 α1 f1 hd1 oe1 w1 J gz => ?_
  have lk0 : lockOk t S1 = true := by
    cases q : lockOk t S1 with
    | true => rfl
    | false =>
      cases q2 : t.1 with
      | nil => rw [q2] at w1; simp only [forGo, q] at w1; exact w1.elim
      | cons d r => rw [q2] at w1; simp only [forGo, q] at w1; exact w1.elim
  have hlt := lock_lt hd1 lk0
  refine ⟨fun i m σ' H' => m = t.1.length - i ∧ i ≤ t.1.length ∧ ∃ env' G' α' S', Fr G1 α1 H1 G' α' H' ∧ Hd Z G' α' S' H' ∧ OnE Z G' α' env' σ' ∧ WkS Z (forGo t ftg fb (t.1.drop i) env' S') G' α' H' D W,
    ⟨t.1.length, by simp, Nat.zero_le _, env, G1, α1, S1, Fr.refl _ _ _, hd1, oe1, w1⟩, ?_⟩
  rintro i m σ' H' ⟨rfl, hi, env', G', α', S', f2, hd2, oe2, w2⟩
  cases lk : lockOk t S' with
  | false =>
    cases q2 : t.1.drop i with
    | nil => rw [q2] at w2; simp only [forGo, lk] at w2; exact w2.elim
    | cons d r => rw [q2] at w2; simp only [forGo, lk] at w2; exact w2.elim
  | true =>
    have ok := lock_ok hd2 f2.g f2.a hlt lk
    by_cases hlt2 : i < t.1.length
    · refine .inr ⟨gz.go i G' H' hlt2 ok, _, fun σ3 H3 h3 => ⟨t.1.length - (i + 1), by omega, rfl, hlt2, h3⟩, fun x H3 y => ?_⟩
      obtain ⟨d, ed, hy⟩ := gz.yld i G' H' x H3 hlt2 ok y
      obtain ⟨G3, f3, hd3, od⟩ := hy α' S' hd2
      have e1 : t.1.drop i = d :: t.1.drop (i + 1) := by
        rw [List.drop_eq_getElem_cons hlt2]
        rw [List.getElem?_eq_getElem hlt2] at ed
        cases ed
        rfl
      rw [e1] at w2
      simp only [forGo, lk, if_true] at w2
      cases q : ftg d env' with
      | none => simp only [q] at w2; exact w2.elim
      | some env2 =>
        simp only [q] at w2
        refine ⟨env', G3, α', S', d, env2, hd3, oe2.up f3.g f3.a, od, q, fun σ4 oe4 _ => ⟨env2, G3, α', S', hd3, oe4, ?_⟩⟩
        have w3 := WkS.later w2 f3
        cases q3 : fb env2 S' with
        | nx e5 S5 =>
          simp only [q3] at w3
          exact fun σ5 H5 G5 α5 f5 hd5 oe5 => ⟨e5, G5, α5, S5, (f2.trans f3).trans f5, hd5, oe5, WkS.later w3 f5⟩
        | ct e5 S5 =>
          simp only [q3] at w3
          exact fun σ5 H5 G5 α5 f5 hd5 oe5 => ⟨e5, G5, α5, S5, (f2.trans f3).trans f5, hd5, oe5, WkS.later w3 f5⟩
        | bk e5 S5 => simp only [q3] at w3; exact w3
        | rt S5 r => simp only [q3] at w3; exact w3
        | ex e5 S5 x => simp only [q3] at w3; exact w3
        | no => simp only [q3] at w3; exact w3
    · have e : i = t.1.length := by omega
      subst e
      rw [List.drop_length] at w2
      simp only [forGo, lk, if_true] at w2
      exact .inl ⟨gz.stop G' H' ok, w2.here hd2 oe2⟩
end
/-- a cell is changed at an index or a key -/
def putC (c : Cell) (i v : Dv) : Option Cell := match c, i with
  | .lst l, .int k => match ixN l.length k with
    | some j => some (.lst (l.set j v))
    | none => none
  | _, _ => none
def setIx (env : Env) (S : Sto) (o i v : Vr) : RS := match o, i, v with
  | .r n, .d i, .d v => match S[n]? with
    | some c => match putC c i v with
      | some c2 => .nx env (S.set n c2)
      | none => .no
    | none => .no
  | _, _, _ => .no
def kSub (fo fi fv : FE) : FS := fun env S => sV env (fv env S) fun S1 v => sV env (fo env S1) fun S2 o => sV env (fi env S2) fun S3 i => setIx env S3 o i v
section
variable {Z : Zx} {W : WX} {X : Cx} {pos p' : Pos} {o i e : Expr} {fo fi fe : FE}
theorem psf_sub (ho : PF Z (WE W) X o fo) (hi : PF Z (WE W) X i fi) (he : PF Z (WE W) X e fe)
    (ha : ∀ v, assign (.Subscript o i p') X.env v = (do
      let ov ← holding [v] (eval o X.env)
      let iv ← holding [v, ov] (eval i X.env)
      standAt p'
      holding [v, ov, iv] (setItem ov iv v)
      release [v, ov, iv] []) := by intro _; rfl)
    (hs : swapsWithSole [.Subscript o i p'] e pos.line X.env = pure false := by rfl) (hw : swappedStores [.Subscript o i p'] e X.env = pure none := by rfl)
    (h1 : (assignEach [.Subscript o i p'] X.env).map (·.2) = [assign (.Subscript o i p') X.env] := by rfl) : PSF Z W X (.Assign [.Subscript o i p'] e pos) (kSub fo fi fe) := by
  refine .of (ps_asg he.pe (pg_sub ho.pe hi.pe set_list ha) hs hw h1) fun env σ G α S H D hd oe w => se_tF.bindS hd oe w fun S2 dv v H2 G2 α2 _ f2 hd2 oe2 ov w2 => ?_
  refine se_tF.bindS hd2 oe2 w2 fun S3 d3 o3 H3 G3 α3 _ f3 hd3 oe3 ov3 w3 => se_tF.bindS hd3 oe3 w3 fun S4 d4 i4 H4 G4 α4 _ f4 hd4 oe4 ov4 w4 => ?_
  cases d3 with
  | d _ => exact w4.elim
  | r n =>
    cases d4 with
    | r _ => exact w4.elim
    | d di =>
      cases dv with
      | r _ => exact w4.elim
      | d dv =>
        have w4 : WkS Z (match S4[n]? with | some c => (match putC c di dv with | some c2 => RS.nx env (S4.set n c2) | none => .no) | none => .no) G4 α4 H4 D W := w4
        cases q : S4[n]? with
        | none => rw [q] at w4; exact w4.elim
        | some c =>
          rw [q] at w4
          have w4 : WkS Z (match putC c di dv with | some c2 => RS.nx env (S4.set n c2) | none => .no) G4 α4 H4 D W := w4
          cases q2 : putC c di dv with
          | none => rw [q2] at w4; exact w4.elim
          | some c2 =>
            rw [q2] at w4
            have w4 : WkS Z (RS.nx env (S4.set n c2)) G4 α4 H4 D W := w4
            obtain ⟨a, rfl, ha3⟩ := ov3
            have ha4 := f4.a.get ha3
            have ovv : On Z G4 dv v := (On.up f3.g (show On Z G2 dv v from ov)).up f4.g
            cases c with
            | lst l =>
              cases di with
              | int k =>
                have e' : (match ixN l.length k with | some j => some (Cell.lst (l.set j dv)) | none => none) = some c2 := q2
                cases q3 : ixN l.length k with
                | none => rw [q3] at e'; cases e'
                | some j =>
                  rw [q3] at e'
                  cases e'
                  obtain ⟨xs, e1, e2⟩ := (hd4.at_ n a _ ha4 q).2
                  obtain ⟨hd5, f5⟩ := hd4.put (c2 := .lst (l.set j dv)) (o := .lst (xs.set j v)) ha4 q (fun c => nomatch c) ⟨_, rfl, e2.set ovv⟩
                  have ok4 : On Z G4 (.int k) i4 := ov4
                  unfold On at ok4
                  exact ⟨a, xs, k, j, rfl, ok4, e1, by rw [e2.len]; exact q3, w4 _ _ _ _ f5 hd5 (oe4.up f5.g f5.a)⟩
              | _ => cases q2
            | _ => cases di <;> cases q2
end
end DN
namespace DN
open PySem PySem.Spec PyProof.Rows L2 Evl
abbrev FD := List Vr → Sto → R Rt
def cutX (k : Nat) (S : Sto) (x : Xn) : R Rt := match x with
  | .own c (.r n) => if n < k then .ex (S.take k) (.own c (.r n)) else .no
  | x => .ex (S.take k) x
/-- a def is left: its own cells are forgotten, one that is handed back is new -/
def exitR (k : Nat) (r : R Rt) : R Rt := match r with
  | .ok S (.val (.r n)) => if n < k then .ok (S.take k) (.val (.r n)) else (match S[n]? with
    | some (.lst l) => .ok (S.take k) (.new (.lst l))
    | some (.ob c l) => .ok (S.take k) (.new (.ob c l))
    | some (.dc t ks vs) => .ok (S.take k) (.new (.dc t ks vs))
    | _ => .no)
  | .ok S b => .ok (S.take k) b
  | .ex S x => cutX k S x
  | .no => .no
def startE (n : Nat) (args : List Vr) : Env := args.map .v ++ List.replicate (n - args.length) .u
def outS (r : RS) : R Rt := match r with
  | .nx _ S => .ok S (.val (.d .non))
  | .rt S r => .ok S r
  | .ex _ S x => .ex S x
  | _ => .no
def defD (n : Nat) (body : FS) : FD := fun args S => exitR S.length (outS (body (startE n args) S))
def spD (Z : Zx) (m : Nat) (D : FD) : Sp := fun vs H Q E => ∃ G α S args, Hd Z G α S H ∧ OnA Z G α args vs ∧ args.length = m ∧ Wk Z (D args S) G α H (pRt Z Q) E
section
variable {Z : Zx} {G H G2 H2 : Hp} {α α2 : List Addr} {S : Sto} {Q : VK} {E : XK}
theorem take_pre {S2 : Sto} (f : Fr G α H G2 α2 H2) (hd2 : Hd Z G2 α2 S2 H2) : Hd Z G2 α (S2.take α.length) H2 := by
  have := hd2.cut α.length
  rw [f.a.cut] at this
  exact this
theorem pre_get {n : Nat} {a : Addr} (p : Px α α2) (hn : n < α.length) (h : α2[n]? = some a) : α[n]? = some a := by
  obtain ⟨γ, rfl⟩ := p
  rw [List.getElem?_append_left hn] at h
  exact h
theorem cutX_ok {S2 : Sto} {x : Xn} (w : Wk Z (cutX α.length S2 x) G α H (pRt Z Q) E) : Xp Z S2 x G α H E := by
  intro cls d H2 G2 α2 f2 hd2 ox
  have hd3 := take_pre f2 hd2
  cases x with
  | blt n => exact w cls d H2 G2 α f2.cut hd3 ox
  | own c v =>
    cases v with
    | d v => exact w cls d H2 G2 α f2.cut hd3 ox
    | r n =>
      have w : Wk Z (if n < α.length then R.ex (S2.take α.length) (.own c (.r n)) else .no) G α H (pRt Z Q) E := w
      by_cases hn : n < α.length
      · rw [if_pos hn] at w
        obtain ⟨h1, dd, v, h2, h3, a, h4, h5⟩ := ox
        exact w cls d H2 G2 α f2.cut hd3 ⟨h1, dd, v, h2, h3, a, h4, pre_get f2.a hn h5⟩
      · rw [if_neg hn] at w
        exact w.elim
/-- a cell that the def made -/
theorem own_cell {S2 : Sto} {n : Nat} {a : Addr} {c : Cell} (hd : Hd Z G α S H) (f2 : Fr G α H G2 α2 H2) (hd2 : Hd Z G2 α2 S2 H2) (hn : ¬ n < α.length) (ha : α2[n]? = some a) (hs : S2[n]? = some c) (hc : c ≠ .dead) (ht : ∀ r, c ≠ .tab r) : Nw Z H G2 α H2 c a := by
  obtain ⟨h1, h2⟩ := hd2.at_ n a c ha hs
  have na : a ∉ α := fun hm => by
    obtain ⟨m, hm1, hm2⟩ := List.mem_iff_getElem.mp hm
    have h3 : α2[m]? = some a := f2.a.get (by rw [List.getElem?_eq_getElem hm1, hm2])
    have e : m = n := (List.getElem?_inj (List.getElem?_eq_some_iff.mp h3).1 hd2.nd).mp (h3.trans ha.symm)
    omega
  refine ⟨?_, h1 hc, na, h2.at ht⟩
  rcases f2.m a (List.mem_of_getElem? ha) with h | h
  · exact absurd h na
  · exact h
theorem exitR_ok {r : R Rt} (hd : Hd Z G α S H) (w : Wk Z (exitR S.length r) G α H (pRt Z Q) E) : Wk Z r G α H (pRt Z Q) E := by
  rw [← hd.len] at w
  cases r with
  | no => exact w.elim
  | ex S2 x => exact cutX_ok w
  | ok S2 b =>
    cases b with
    | new c =>
      intro H2 G2 α2 f2 hd2 p n
      exact w H2 G2 α f2.cut (take_pre f2 hd2) p ⟨n.h, n.g, fun hm => n.a (f2.a.mem hm), n.c⟩
    | val v =>
      cases v with
      | d d => exact fun H2 G2 α2 f2 hd2 x ox => w H2 G2 α f2.cut (take_pre f2 hd2) x ox
      | r n =>
        intro H2 G2 α2 f2 hd2 x ox
        obtain ⟨a, rfl, ha⟩ := ox
        have hd3 := take_pre f2 hd2
        by_cases hn : n < α.length
        · simp only [exitR, if_pos hn] at w
          exact w H2 G2 α f2.cut hd3 _ ⟨a, rfl, pre_get f2.a hn ha⟩
        · simp only [exitR, if_neg hn] at w
          cases q : S2[n]? with
          | none => simp only [q] at w; exact w.elim
          | some c =>
            simp only [q] at w
            have nw : c ≠ .dead → (∀ r, c ≠ .tab r) → Nw Z H G2 α H2 c a := fun hc ht => own_cell hd f2 hd2 hn ha q hc ht
            cases c with
            | lst l => exact w H2 G2 α f2.cut hd3 a (nw (fun e => nomatch e) (fun _ e => nomatch e))
            | ob c l => exact w H2 G2 α f2.cut hd3 a (nw (fun e => nomatch e) (fun _ e => nomatch e))
            | dc t ks vs => exact w H2 G2 α f2.cut hd3 a (nw (fun e => nomatch e) (fun _ e => nomatch e))
            | dead => exact w.elim
            | tab rows => exact w.elim
theorem OnA.get : ∀ {l : List Vr} {xs : List V} {i : Nat} {d : Vr}, OnA Z G α l xs → l[i]? = some d → ∃ x, xs[i]? = some x ∧ OnR Z G α d x
  | [], _, _, _, _, e => by simp at e
  | c :: l, xs, 0, d, h, e => by
    obtain ⟨y, ys, rfl, h2, h3⟩ := h
    simp at e
    subst e
    exact ⟨y, rfl, h2⟩
  | c :: l, xs, i + 1, d, h, e => by
    obtain ⟨y, ys, rfl, h2, h3⟩ := h
    obtain ⟨x, h4, h5⟩ := OnA.get (i := i) h3 (by simpa using e)
    exact ⟨x, by simpa using h4, h5⟩
theorem start_on {N : List Str} {args : List Vr} {vs : List V} (h : OnA Z G α args vs) : OnE Z G α (startE N.length args) (L2.start N vs) := by
  have hl := h.len
  refine ⟨?_, fun i d e => ?_, fun i c r e => ?_⟩
  · unfold startE L2.start
    rw [List.length_append, List.length_append, List.length_map, List.length_map, List.length_replicate, List.length_replicate, hl]
  · unfold startE at e
    by_cases hi : i < args.length
    · rw [List.getElem?_append_left (by rw [List.length_map]; exact hi), List.getElem?_map] at e
      cases q : args[i]? with
      | none => rw [q] at e; cases e
      | some a =>
        rw [q] at e
        cases e
        obtain ⟨x, h1, h2⟩ := h.get q
        refine ⟨x, ?_, h2⟩
        unfold L2.start
        rw [List.getElem?_append_left (by rw [List.length_map, hl]; exact hi), List.getElem?_map, h1]
        rfl
    · rw [List.getElem?_append_right (by rw [List.length_map]; omega), List.getElem?_replicate] at e
      split at e <;> cases e
  · unfold startE at e
    by_cases hi : i < args.length
    · rw [List.getElem?_append_left (by rw [List.length_map]; exact hi), List.getElem?_map] at e
      cases q : args[i]? with
      | none => rw [q] at e; cases e
      | some a => rw [q] at e; cases e
    · rw [List.getElem?_append_right (by rw [List.length_map]; omega), List.getElem?_replicate] at e
      split at e <;> cases e
end
/-- a def with defaults or without -/
structure FunD (K : PySem.W.Frag) (x qual : Str) (st : Stmt) (f : Addr) (fd : FuncData) : Prop where
  ex : ∃ (oc : Value) (od : Option Addr) (dV kV doc pm : Value) (an : Option Addr) (cdv ct : Value) (osl : Array (Option Value)),
    fd = PySem.W.fnOf x qual (defArgs st) (defBody st) (defScope st) dV kV doc pm an cdv ct ∧ K.lookup f = some ⟨oc, od, .func fd, osl⟩ ∧ PySem.W.codeIn K cdv qual = true
  kp : PySem.W.keepIn K (.ref f) = true
theorem Fun.d {K : PySem.W.Frag} {x qual : Str} {st : Stmt} {f : Addr} {fd : FuncData} (F : Fun K x qual st f fd) : FunD K x qual st f fd := by
  obtain ⟨⟨oc, od, kV, doc, pm, an, cdv, ct, osl, h1, h2, h3⟩, h4⟩ := F
  exact ⟨⟨oc, od, .none, kV, doc, pm, an, cdv, ct, osl, h1, h2, h3⟩, h4⟩
/-- the wish of a def about exceptions -/
abbrev WD (E : XK) : WX := fun cls d _ H => E cls d H
/-- THE RULE: a def computes its denotation -/
theorem fn_d {Z : Zx} {P : Program} {w : World} {K : PySem.W.Frag} {mg : Str → Option Value} {base : Heap} {b : Bool} {x qual : Str} {st : Stmt} {f : Addr} {fd : FuncData} {N ps : List Str} {k : Nat} {fb : FS} (F : FunD K x qual st f fd) (sc : FnScope N ps (defScope st))
    (hb : ∀ (cdv : Value) (A : Around) (outer : List PySem.Env) (s : Shared) (H : Hp) (E : XK), RoomG b k (A.deeper (envOfC qual (defScope st) s.heap.objs.size f cdv)) →
      PSsF Z (WD E) (cxOf (L2N.CX P w) P w K mg base N qual (defScope st) f cdv A outer s H E) (defBody st) fb) : FnG b P w K mg base (L2N.CX P w) (k + 1) f fd ps (spD Z ps.length (defD N.length fb)) := by
  obtain ⟨oc, od, dV, kV, doc, pm, an, cdv, ct, osl, rfl, lk, hcd⟩ := F.ex
  refine fn_ofG lk hcd sc (fun vs H Q E h => ?_) fun A outer s H vs Q E hr h => ?_
  · obtain ⟨G, α, S, args, _, h1, h2, _⟩ := h
    rw [h1.len, h2]
  · obtain ⟨G, α, S, args, hd, oa, hl, w'⟩ := h
    refine ⟨_, (hb cdv A outer s H E hr).ps, startE N.length args, G, α, S, hd, start_on oa, ?_⟩
    have w2 := exitR_ok hd w'
    cases q : fb (startE N.length args) S with
    | nx e2 S2 =>
      rw [q] at w2
      exact fun σ2 H2 G2 α2 f2 hd2 oe2 => w2 H2 G2 α2 f2 hd2 _ (or_non Z G2 α2)
    | rt S2 r =>
      rw [q] at w2
      show Wk Z (.ok S2 r) G α H (pRt Z Q) E0
      cases r <;> exact w2
    | ex e2 S2 x =>
      rw [q] at w2
      exact fun σ2 cls d H2 G2 α2 f2 hd2 oe2 ox => w2 cls d H2 G2 α2 f2 hd2 ox
    | bk e2 S2 => rw [q] at w2; exact w2.elim
    | ct e2 S2 => rw [q] at w2; exact w2.elim
    | no => rw [q] at w2; exact w2.elim
def fCallD (m : Nat) (D : FD) (fa : FA) : FE := fun env S => (fa env S).bind fun S1 l => if l.length = m then D l S1 else .no
/-- an argument that the callee changes: a new thing becomes a cell -/
def fConsC (fa : FE) (fr : FA) : FA := fun env S => match fa env S with
  | .ok S1 (.val v) => (fr env S1).bind fun S2 l => .ok S2 (v :: l)
  | .ok S1 (.new c) => (fr env (S1 ++ [c])).bind fun S2 l => .ok S2 (.r S1.length :: l)
  | .ex S1 x => .ex S1 x
  | .no => .no
section
variable {Z : Zx} {X : Cx} {W : WX} {k m : Nat} {f : Addr} {fd : FuncData} {ps : List Str} {D : FD} {x : Str} {p pos : Pos} {e : Expr} {es : List Expr} {fa : FA} {fe : FE}
theorem pafc_cons {fr : FA} (ha : PF Z (WE W) X e fe) (hr : PAF Z (WE W) X es fr) (he : starEach (e :: es) X.env = (false, eval e X.env) :: starEach es X.env := by rfl) : PAF Z (WE W) X (e :: es) (fConsC fe fr) := by
  obtain ⟨tb, h3, h4⟩ := hr.ex
  refine ⟨_, pa_cons ha.pe h3 he, fun env σ G α S H Q hd oe w => ?_⟩
  refine ⟨env, G, α, S, hd, oe, ?_⟩
  unfold fConsC at w
  cases q : fe env S with
  | no => rw [q] at w; exact w.elim
  | ex S1 x => rw [q] at w; exact w
  | ok S1 b =>
    rw [q] at w
    cases b with
    | val v =>
      intro H2 G2 α2 f2 hd2 y oy
      refine h4.bind hd2 (oe.up f2.g f2.a) (Wk.later w f2) fun S3 l vs H3 G3 α3 f3 hd3 oe3 ol w3 => w3.here hd3 _ ⟨_, _, rfl, oy.up f3.g f3.a, ol⟩
    | new c =>
      intro H2 G2 α2 f2 hd2 q n
      have hd3 := hd2.push n.g n.a n.c
      have f3 := f2.push n.h
      have hq : OnR Z G2 (α2 ++ [q]) (.r S1.length) (.ref q) := ⟨q, rfl, by rw [← hd2.len, List.getElem?_append_right (Nat.le_refl _), Nat.sub_self]; rfl⟩
      exact h4.bind hd3 (oe.up f3.g f3.a) (Wk.later w f3) fun S4 l vs H4 G4 α4 f4 hd4 oe4 ol w4 => w4.here hd4 _ ⟨_, _, rfl, hq.up f4.g f4.a, ol⟩
theorem sp_of {vs : List V} {l : List Vr} {G H : Hp} {α : List Addr} {S : Sto} {Q : VK} {E : XK} (hd : Hd Z G α S H) (ol : OnA Z G α l vs) (w : Wk Z (if l.length = m then D l S else .no) G α H (pRt Z Q) E) : spD Z m D vs H Q E := by
  by_cases h : l.length = m
  · rw [if_pos h] at w
    exact ⟨G, α, S, l, hd, ol, h, w⟩
  · rw [if_neg h] at w
    exact w.elim
theorem pf_call {b : Bool} (F : FnG b X.prog X.w X.K X.mg X.base (L2N.CX X.prog X.w) k f fd ps (spD Z m D)) (hr : RoomG b k X.A) (tk : Takes X W) (hg : Gl X x) (hm : X.mg x = some (.ref f)) (hk : PySem.W.keepIn X.K (.ref f) = true) (hb : Binds X.K fd ps [])
    (ha : PAF Z (WE W) X (e :: es) fa) (hdb : (x == ("__debug__" : Str)) = false := by decide) (he : starEach (e :: es) X.env = (false, eval e X.env) :: starEach es X.env := by rfl) (hpl : (backTo pos (starEach es X.env)).any (·.1) = false := by rfl) :
    PF Z (WE W) X (.Call (.Name x p) (e :: es) [] pos) (fCallD m D fa) := by
  obtain ⟨ta, h1, h2⟩ := ha.ex
  refine ⟨_, pe_callG (E := WE W) F hr hg hm hk hb .nil (passAt tk) h1 hdb he hpl, fun env σ G α S H Q hd oe w => h2.bind hd oe w fun S2 l vs H2 G2 α2 f2 hd2 oe2 ol w2 => ?_⟩
  rw [List.append_nil]
  exact sp_of hd2 ol w2
end
end DN
namespace DN
open PySem PySem.Spec PyProof.Rows L2 Evl
def AllC (P : String → Prop) : List String → Prop
  | [] => True
  | c :: r => P c ∧ AllC P r
theorem AllC.mem {P : String → Prop} : ∀ {cs : List String} {c : String}, AllC P cs → cs.contains c = true → P c
  | [], c, _, h => by simp at h
  | a :: r, c, h, e => by
    rw [List.contains_cons, Bool.or_eq_true] at e
    rcases e with e | e
    · rw [beq_iff_eq.mp e]; exact h.1
    · exact AllC.mem h.2 e
section
variable {Z : Zx} {X : Cx} {G H G2 H2 : Hp} {α α2 : List Addr} {S : Sto} {Q : VK} {E : XK}
variable {Ew : L2.St → XK} {W : WX} {o e : Expr} {es : List Expr} {fo fe : FE} {fa : FA} {pos apos : Pos} {f : Str}
def idxS (f : Str) : List Str → Option Nat
  | [] => none
  | g :: r => if f == g then some 0 else (idxS f r).map (· + 1)
def putFd (c : String) (f : Str) (l : List Dv) (v : Dv) : Option (List Dv) := match idxS f (flds c) with
  | some i => if i < l.length then some (l.set i v) else if i = l.length then some (l ++ [v]) else none
  | none => none
def setFd (cs : List String) (f : Str) (env : Env) (S : Sto) (o v : Vr) : RS := match o, v with
  | .r n, .d v => match S[n]? with
    | some (.ob c l) => if cs.contains c then (match putFd c f l v with
      | some l2 => .nx env (S.set n (.ob c l2))
      | none => .no) else .no
    | _ => .no
  | _, _ => .no
def kFld (cs : List String) (f : Str) (fo fv : FE) : FS := fun env S => sV env (fv env S) fun S1 v => sV env (fo env S1) fun S2 o => setFd cs f env S2 o v
end
end DN
namespace DN
open PySem PySem.Spec PyProof.Rows L2 Evl
/-- for each class: how many arguments, what the def computes -/
abbrev MT := List (String × Nat × FD)
def MT.at (t : MT) (c : String) : Option (Nat × FD) := match t with
  | [] => none
  | (b, p) :: r => if b == c then some p else MT.at r c
def AllM (P : String → Nat → FD → Prop) : MT → Prop
  | [] => True
  | (c, n, D) :: r => P c n D ∧ AllM P r
theorem AllM.mem {P : String → Nat → FD → Prop} : ∀ {t : MT} {c : String} {n : Nat} {D : FD}, AllM P t → t.at c = some (n, D) → P c n D
  | [], c, n, D, _, h => by cases h
  | (b, p, q) :: r, c, n, D, h, e => by
    have e' : (if b == c then some (p, q) else MT.at r c) = some (n, D) := e
    cases g : b == c with
    | true =>
      rw [g] at e'
      cases e'
      rw [← beq_iff_eq.mp g]
      exact h.1
    | false =>
      rw [g] at e'
      exact AllM.mem h.2 e'
def clsV (S : Sto) : Vr → Option String
  | .d (.obj c _) => some c
  | .r n => match S[n]? with
    | some (.ob c _) => some c
    | _ => none
  | _ => none
section
variable {Z : Zx} {X : Cx} {G H G2 H2 : Hp} {α α2 : List Addr} {S : Sto} {Q : VK} {E : XK}
variable {W : WX} {o e : Expr} {es : List Expr} {m x : Str} {p pos apos : Pos} {ta : TE} {t : TA} {fo : FE} {fa : FA}
def fMethD (t : MT) (fo : FE) (fa : FA) : FE := fun env S => (fo env S).bindV fun S1 o => match clsV S1 o with
  | some c => (match t.at c with
    | some (n, D) => (fa env S1).bind fun S2 l => if (o :: l).length = n then D (o :: l) S2 else .no
    | none => .no)
  | none => .no
def okR : R Rt → R Rt
  | .ex _ _ => .no
  | r => r
theorem okR_ok {r : R Rt} {E' : XK} (w : Wk Z (okR r) G α H (pRt Z Q) E) : Wk Z r G α H (pRt Z Q) E' := by
  cases r with
  | no => exact w.elim
  | ex S x => exact w.elim
  | ok S b => exact w
def fAsk1 (t : MT) (S : Sto) (o : Vr) : R Rt := match clsV S o with
  | some c => (match t.at c with
    | some (n, D) => if [o].length = n then okR (D [o] S) else .no
    | none => .no)
  | none => .no
def fPropD (t : MT) (fo : FE) : FE := fun env S => (fo env S).bindV fun S1 o => fAsk1 t S1 o
def makeR (k : Nat) (r : R Rt) : R Rt := match r with
  | .ok S (.val (.d .non)) => (match S[k]? with
    | some (.ob c l) => .ok (S.take k) (.new (.ob c l))
    | _ => .no)
  | .ok _ _ => .no
  | .ex S x => cutX k S x
  | .no => .no
def fMakeD (c : String) (dl : List Dv) (n : Nat) (D : FD) (fa : FA) : FE := fun env S => (fa env S).bind fun S1 l =>
  if (Vr.r S1.length :: (l ++ dl.map .d)).length = n then makeR S1.length (D (.r S1.length :: (l ++ dl.map .d)) (S1 ++ [.ob c []])) else .no
theorem OnA.app : ∀ {l m : List Vr} {xs ys : List V}, OnA Z G α l xs → OnA Z G α m ys → OnA Z G α (l ++ m) (xs ++ ys)
  | [], _, _, _, h, g => by rw [show _ = [] from h]; exact g
  | d :: l, m, xs, ys, h, g => by
    obtain ⟨y, zs, rfl, h2, h3⟩ := h
    exact ⟨y, zs ++ ys, rfl, h2, OnA.app h3 g⟩
/-- cls(..), the class held by a name -/
def fMakeL (i : Nat) (c : String) (n : Nat) (D : FD) (fa : FA) : FE := fun env S => match env[i]? with
  | some (.v (.d (.cls b))) => if b == c then fMakeD c [] n D fa env S else .no
  | _ => .no
def fCMeth (c : String) (n : Nat) (D : FD) (fo : FE) (fa : FA) : FE := fun env S => (fo env S).bindV fun S1 o => match o with
  | .d (.cls b) => if b == c then (fa env S1).bind fun S2 l => if (Vr.d (.cls c) :: l).length = n then D (.d (.cls c) :: l) S2 else .no else .no
  | _ => .no
end
end DN
namespace DN
open PySem PySem.Spec PyProof.Rows L2 Evl
inductive Tk where
  | b (n : String) | o (c : String)
def TYS : List String := ["bool", "int", "str", "list", "tuple", "dict"]
def tkD : Dv → Option Tk
  | .non => some (.b "NoneType")
  | .bl _ => some (.b "bool")
  | .int _ => some (.b "int")
  | .str _ => some (.b "str")
  | .lst _ => some (.b "list")
  | .tup _ => some (.b "tuple")
  | .ktp _ => some (.b "tuple")
  | .dic _ _ _ => some (.b "dict")
  | .obj c _ => some (.o c)
  | _ => none
def tkV (Z : Zx) : Tk → Value
  | .b n => .type n
  | .o c => .ref (Z.cm c)
structure ClOk (Z : Zx) (c : String) : Prop where
  cl : Cls Z.K (Z.cm c)
  it : OP.InsT Z.K (Z.cm c)
  kc : PySem.W.kitOne Z.K (.type "int") (.ref (Z.cm c)) = some false
  kb : AllC (fun t => PySem.W.kitOne Z.K (.ref (Z.cm c)) (.type t) = some false) TYS
structure CsOk (Z : Zx) (cs : List String) : Prop where
  all : AllC (ClOk Z) cs
  two : AllC (fun c => AllC (fun d => c = d ∨ PySem.W.kitOne Z.K (.ref (Z.cm c)) (.ref (Z.cm d)) = some false) cs) cs
def BTS : List String := ["NoneType", "bool", "int", "str", "list", "tuple", "dict"]
/-- is a thing of type k one of the class d? -/
def isa1 (cs : List String) (k : Tk) (d : Dv) : Option Bool := match k, d with
  | .b n, .ty m => if BTS.contains n && TYS.contains m then some (n == m || (n == "bool" && m == "int")) else none
  | .b n, .cls c => if BTS.contains n && cs.contains c then some false else none
  | .o c, .ty m => if cs.contains c && TYS.contains m then some false else none
  | .o c, .cls e => if cs.contains c && cs.contains e then some (c == e) else none
  | _, _ => none
def okT (cs : List String) : Tk → Bool
  | .b n => BTS.contains n
  | .o c => cs.contains c
section
variable {Z : Zx} {X : Cx} {G H G2 H2 : Hp} {α α2 : List Addr} {S : Sto} {Q : VK} {E : XK} {cs : List String}
theorem beq_tr (n : String) (C : Addr) : (Value.type n == Value.ref C) = false := rfl
theorem kit_c {C : Addr} (h : PySem.W.kitOne Z.K (.type "int") (.ref C) = some false) : ((PySem.W.clsIn Z.K C).isSome && PySem.W.typeIn Z.K (.ref C) == some (.type "type")) = true := by
  unfold PySem.W.kitOne at h
  rw [beq_tr] at h
  simp only [Bool.false_eq_true, if_false] at h
  unfold PySem.W.kitCls at h
  simp only at h
  split at h
  · assumption
  · cases h
theorem kit_bo {C : Addr} {n : String} (h : PySem.W.kitOne Z.K (.type "int") (.ref C) = some false) (hn : BTS.contains n = true) : PySem.W.kitOne Z.K (.type n) (.ref C) = some false := by
  have h2 := kit_c h
  unfold PySem.W.kitOne
  rw [beq_tr]
  simp only [Bool.false_eq_true, if_false]
  unfold PySem.W.kitCls
  simp only [h2, if_true]
  simp only [BTS, List.contains_cons, List.contains_nil, Bool.or_false, Bool.or_eq_true, beq_iff_eq] at hn
  rcases hn with rfl | rfl | rfl | rfl | rfl | rfl | rfl <;> rfl
theorem kit_bb {n m : String} (hn : BTS.contains n = true) (hm : TYS.contains m = true) : PySem.W.kitOne Z.K (.type n) (.type m) = some (n == m || (n == "bool" && m == "int")) := by
  simp only [BTS, List.contains_cons, List.contains_nil, Bool.or_false, Bool.or_eq_true, beq_iff_eq] at hn
  simp only [TYS, List.contains_cons, List.contains_nil, Bool.or_false, Bool.or_eq_true, beq_iff_eq] at hm
  rcases hn with rfl | rfl | rfl | rfl | rfl | rfl | rfl <;> rcases hm with rfl | rfl | rfl | rfl | rfl | rfl <;> rfl
theorem isa1_ok (C : CsOk Z cs) {k : Tk} {d : Dv} {b : Bool} (h : isa1 cs k d = some b) : ∃ x u, (∀ G, On Z G d x) ∧ ClsV x u ∧ PySem.W.kitOne Z.K (tkV Z k) u = some b := by
  cases k with
  | b n =>
    cases d with
    | ty m =>
      have h : (if BTS.contains n && TYS.contains m then some (n == m || (n == "bool" && m == "int")) else none) = some b := h
      split at h
      · rename_i q
        obtain ⟨q1, q2⟩ := and2 q
        cases h
        exact ⟨.ty m, .type m, fun G => on_ty, .ty m, kit_bb q1 q2⟩
      · cases h
    | cls c =>
      have h : (if BTS.contains n && cs.contains c then some false else none) = some b := h
      split at h
      · rename_i q
        obtain ⟨q1, q2⟩ := and2 q
        cases h
        exact ⟨.ref (Z.cm c), .ref (Z.cm c), fun G => on_cls, .own _, kit_bo (C.all.mem q2).kc q1⟩
      · cases h
    | _ => cases h
  | o c =>
    cases d with
    | ty m =>
      have h : (if cs.contains c && TYS.contains m then some false else none) = some b := h
      split at h
      · rename_i q
        obtain ⟨q1, q2⟩ := and2 q
        cases h
        exact ⟨.ty m, .type m, fun G => on_ty, .ty m, (C.all.mem q1).kb.mem q2⟩
      · cases h
    | cls e =>
      have h : (if cs.contains c && cs.contains e then some (c == e) else none) = some b := h
      split at h
      · rename_i q
        obtain ⟨q1, q2⟩ := and2 q
        cases h
        refine ⟨.ref (Z.cm e), .ref (Z.cm e), fun G => on_cls, .own _, ?_⟩
        cases q3 : c == e with
        | true =>
          rw [beq_iff_eq.mp q3]
          show PySem.W.kitOne Z.K (.ref (Z.cm e)) (.ref (Z.cm e)) = some true
          unfold PySem.W.kitOne
          rw [if_pos (by simp)]
        | false =>
          rcases (C.two.mem q1).mem q2 with rfl | h
          · simp at q3
          · exact h
      · cases h
    | _ => cases h
theorem tk_on (C : CsOk Z cs) {d : Dv} {y : V} {k : Tk} (eG : Ex G H) (h : OnH Z G H d y) (e : tkD d = some k) (hk : okT cs k = true) : TyX Z.K H y (tkV Z k) := by
  cases d with
  | non => cases e; cases h; exact .base .non
  | bl b => cases e; cases h; exact .base (.bl b)
  | int b => cases e; cases h; exact .base (.int b)
  | str b => cases e; cases h; exact .base (.str b)
  | lst l => cases e; obtain ⟨a, xs, rfl, h2, _⟩ := h; exact .base (.lst h2)
  | tup l => cases e; obtain ⟨a, xs, rfl, h2, _⟩ := h; exact .base (.tup (eG _ _ h2))
  | ktp l =>
    cases e
    obtain ⟨a, xs, rfl, h1, _⟩ := h
    rcases h1 with ⟨_, o, h1, h2, _⟩ | ⟨o, _, _, h1⟩
    · exact .kTuple h1 h2
    · exact .fTuple (eG _ _ h1)
  | obj c l =>
    cases e
    obtain ⟨a, dx, xs, rfl, h2, _⟩ := h
    have cc := C.all.mem hk
    exact .base (.ins h2 cc.cl cc.it.ha cc.it.hn cc.it.htk cc.it.hm)
  | dic t ks vs =>
    cases e
    obtain ⟨a, ws, rfl, h2, _⟩ := h
    cases t with
    | false => obtain ⟨kk, _, h3⟩ := h2; exact .base (.dK h3)
    | true => obtain ⟨kk, _, h3⟩ := h2; exact .base (.dT h3)
  | _ => cases e
/-- all classes of the tuple are asked -/
def isaA (cs : List String) (k : Tk) : List Dv → Option Bool
  | [] => some false
  | d :: l => match isa1 cs k d, isaA cs k l with
    | some a, some b => some (a || b)
    | _, _ => none
theorem isaA_ok (C : CsOk Z cs) {k : Tk} : ∀ {l : List Dv} {b : Bool} {xs : List V}, isaA cs k l = some b → OnL Z G l xs → ∃ us, Paired ClsV xs us ∧ PySem.W.kitAny Z.K (tkV Z k) us = some b
  | [], b, xs, h, o => by
    cases h
    rw [OnL.nil.mp o]
    exact ⟨[], .nil, rfl⟩
  | d :: l, b, xs, h, o => by
    obtain ⟨y, ys, rfl, h2, h3⟩ := OnL.cons.mp o
    have h : (match isa1 cs k d, isaA cs k l with | some a, some b => some (a || b) | _, _ => none) = some b := h
    cases q : isa1 cs k d with
    | none => rw [q] at h; cases h
    | some c =>
      cases q2 : isaA cs k l with
      | none => rw [q, q2] at h; cases h
      | some c2 =>
        rw [q, q2] at h
        cases h
        obtain ⟨x, u, e1, e2, e3⟩ := isa1_ok C q
        have ey : y = x := by
          cases d with
          | ty m => have a := e1 G; unfold On at a h2; rw [a, h2]
          | cls m => have a := e1 G; unfold On at a h2; rw [a, h2]
          | _ => cases k <;> cases q
        subst ey
        obtain ⟨us, f1, f2⟩ := isaA_ok C (l := l) q2 h3
        exact ⟨u :: us, .cons e2 f1, kitAny_cons e3 (fun h => by rw [h]; exact f2) (fun h => by rw [h]; rfl)⟩
end
def gIsi (cs : List String) (x c : Dv) : Option Rt := match tkD x with
  | some k => if okT cs k then (match c with
    | .tup l => (match isaA cs k l with
      | some b => vB b
      | none => none)
    | c => (match isa1 cs k c with
      | some b => vB b
      | none => none)) else none
  | none => none
def arg2 (f : Dv → Dv → Option Rt) : List Dv → Option Rt
  | [x, y] => f x y
  | _ => none
section
variable {Z : Zx} {X : Cx} {G H G2 H2 : Hp} {α α2 : List Addr} {S : Sto} {Q : VK} {E : XK} {cs : List String}
theorem arg2_ok {P : Pst Rt} {f : Dv → Dv → Option Rt} {l : List Dv} {xs : List V} (h : OnHA Z G H l xs) (w : Wk Z (R.of S (arg2 f l)) G α H P E) : ∃ x x2 y y2, xs = [y, y2] ∧ OnH Z G H x y ∧ OnH Z G H x2 y2 ∧ Wk Z (R.of S (f x x2)) G α H P E := by
  cases l with
  | nil => exact w.elim
  | cons a r =>
    cases r with
    | nil => exact w.elim
    | cons b r =>
      cases r with
      | nil =>
        obtain ⟨y, z, e, o, o2⟩ := h.two
        exact ⟨a, b, y, z, e, o, o2, w⟩
      | cons c r => exact w.elim
theorem cd_isi (C : CsOk Z cs) (hK : X.K = Z.K) : CallR X (.builtin "isinstance") (rA Z (arg2 (gIsi cs))) := by
  intro pins s σ H xs us Q I r h
  obtain ⟨G, α, S, l, hd, ol, w⟩ := h
  obtain ⟨x, c, y, z, rfl, ox, oc, w⟩ := arg2_ok ol w
  unfold gIsi at w
  cases q : tkD x with
  | none => rw [q] at w; exact w.elim
  | some k =>
    rw [q] at w
    simp only at w
    by_cases q2 : okT cs k = true
    · rw [if_pos q2] at w
      have ty := tk_on C hd.ex ox q q2
      rw [← hK] at ty
      by_cases ht : ∃ l, c = .tup l
      · obtain ⟨l, rfl⟩ := ht
        simp only at w
        cases q3 : isaA cs k l with
        | none => rw [q3] at w; exact w.elim
        | some b =>
          rw [q3] at w
          obtain ⟨tp, cs', rfl, h1, h2⟩ := oc
          obtain ⟨us', f1, f2⟩ := isaA_ok C q3 h2
          exact call_isiT pins s σ H _ us Q I r ⟨y, tp, cs', _, us', b, rfl, hd.ex _ _ h1, f1, ty, hK ▸ f2, wB w hd⟩
      · have w' : Wk Z (R.of S (match isa1 cs k c with | some b => vB b | none => none)) G α H (pRt Z Q) E0 := by
          cases c with
          | tup l => exact absurd ⟨l, rfl⟩ ht
          | _ => exact w
        cases q3 : isa1 cs k c with
        | none => rw [q3] at w'; exact w'.elim
        | some b =>
          rw [q3] at w'
          obtain ⟨x', u, e1, e2, e3⟩ := isa1_ok C q3
          have ez : z = x' := by
            cases c with
            | ty m => have a := e1 G; unfold On at a; have oc : z = .ty m := oc; rw [a, oc]
            | cls m => have a := e1 G; unfold On at a; have oc : z = .ref (Z.cm m) := oc; rw [a, oc]
            | _ => cases k <;> cases q3
          subst ez
          exact OP.call_isZ pins s σ H _ us Q I r ⟨y, z, _, u, b, rfl, e2, .x ty, hK ▸ e3, wB w' hd⟩
    · rw [if_neg q2] at w
      exact w.elim
def onlyV (p : Dv → Option Dv) (r : R Rt) : R Rt := match r with
  | .ok S (.val (.d d)) => (match p d with
    | some e => .ok S (.val (.d e))
    | none => .no)
  | _ => .no
def pInt : Dv → Option Dv
  | .int i => if 0 ≤ i ∧ i < 2 ^ 63 then some (.int i) else none
  | _ => none
def pStr : Dv → Option Dv
  | .str i => some (.str i)
  | _ => none
def pBl (neg : Bool) : Dv → Option Dv
  | .bl b => some (.bl (if neg then !b else b))
  | _ => none
/-- the own method of o, at these arguments -/
def askT (t : MT) (c : String) (l : List Vr) (S : Sto) : R Rt := match t.at c with
  | some (n, D) => if l.length = n then D l S else .no
  | none => .no
/-- len -/
def lenR (T : MT) (S : Sto) (l : List Vr) : R Rt := match l with
  | [o] => (match clsV S o with
    | some c => onlyV pInt (askT T c [o] S)
    | none => gA S [o] gLen)
  | _ => .no
def fLenD (T : MT) (fa : FA) : FE := fun env S => (fa env S).bind fun S1 l => lenR T S1 l
variable {Ew : L2.St → XK} {x : Str} {p pos : Pos} {e : Expr} {es : List Expr} {fa : FA}
/-- str -/
def strR (T : MT) (S : Sto) (l : List Vr) : R Rt := match l with
  | [o] => (match clsV S o with
    | some c => onlyV pStr (askT T c [o] S)
    | none => gA S [o] gStr)
  | _ => .no
def fStrD (T : MT) (fa : FA) : FE := fun env S => (fa env S).bind fun S1 l => strR T S1 l
def eqR (cs : List String) (T : MT) (neg : Bool) (S : Sto) (a b : Vr) : R Rt := match clsV S a with
  | some c => (match snap S b with
    | some y => (match tkD y with
      | some k => if okT cs k && cs.contains c then (match k, neg with
        | .b _, true => .no
        | .o e, true => if e == c then onlyV (pBl true) (askT T c [a, b] S) else .no
        | _, false => onlyV (pBl false) (askT T c [a, b] S)) else .no
      | none => .no)
    | none => .no)
  | none => g2 S a b (if neg then gNe else gEq)
def fEqD (cs : List String) (T : MT) (neg : Bool) (fa fb : FE) : FE := fun env S => (fa env S).bindV fun S1 a => (fb env S1).bindV fun S2 b => eqR cs T neg S2 a b
variable {a b : Expr} {fx fy : FE}
def ixR (T : MT) (S : Sto) (a b : Vr) : R Rt := match clsV S a with
  | some c => okR (askT T c [a, b] S)
  | none => g2 S a b gIx
def fIxD (T : MT) (fa fb : FE) : FE := fun env S => (fa env S).bindV fun S1 a => (fb env S1).bindV fun S2 b => ixR T S2 a b
end
end DN
namespace DN
open PySem PySem.Spec PyProof.Rows L2 Evl
section
variable {Z : Zx} {X : Cx} {G H G2 H2 : Hp} {α α2 : List Addr} {S : Sto} {Q : VK} {E : XK} {cs : List String} {Ew : L2.St → XK} {pos p p2 : Pos} {a b : Expr} {fx fy : FE}
def fDisp (ks vs : List Dv) : FE := fun _ S => .ok S (.new (.dc false ks vs))
theorem pairs_c {σ : L2.St} {R' : List (V × V) → Hp → Prop} : ∀ (l : List (V × V)), R' l H → tPairs (l.map fun x => (tC x.1, tC x.2)) σ H R'
  | [], h => h
  | x :: l, h => pairs_c (R' := fun ps H' => R' ((x.1, x.2) :: ps) H') l h
theorem pf_disp {keys : List (Option Expr)} {values : List Expr} (kvs : List (Key × V)) (ks vs : List Dv) (h : PPs X pos keys values ((kvs.map fun kv => (kV kv.1, kv.2)).map fun x => (tC x.1, tC x.2))) (hk : ks.map key? = (kvs.map Prod.fst).map some) (hv : ∀ G, OnL Z G vs (kvs.map Prod.snd)) (hmg : mergeK [] kvs = kvs) (hl : kvs.length ≤ 15)
    (hall : keys.all (·.isSome) = true := by rfl) (hl2 : keys.length = values.length := by rfl) (h0 : keys ≠ [] := by exact fun z => by cases z) (h15 : keys.length ≤ 15 := by decide) : PF Z Ew X (.Dict keys values pos) (fDisp ks vs) := by
  refine ⟨_, pe_disp h hall hl2 h0 h15, fun env σ G α S H Q hd oe w p hp => pairs_c _ ⟨upd_same, kvs, rfl, hl, ?_⟩⟩
  rw [hmg]
  have e2 : Ex H (upd (upd H p (.dK [])) p (.dK kvs)) := fun a o ha => by
    have hn : a ≠ p := fun c => by subst c; rw [hp] at ha; cases ha
    rw [upd_ne hn, upd_ne hn]
    exact ha
  have hz : (kvs.map Prod.fst).zip (kvs.map Prod.snd) = kvs := by
    have : ∀ l : List (Key × V), (l.map Prod.fst).zip (l.map Prod.snd) = l := fun l => by
      induction l with
      | nil => rfl
      | cons x l ih => rw [List.map_cons, List.map_cons, List.zip_cons_cons, ih]
    exact this kvs
  have hlen : ks.length = (kvs.map Prod.snd).length := by
    have := congrArg List.length hk
    simpa using this
  exact w _ G α (Fr.grow hd e2) (hd.grow e2) p ⟨hp, fresh_back hd.ex hp, fun hm => hd.live hm hp, ⟨kvs.map Prod.snd, ⟨kvs.map Prod.fst, hk, by rw [upd_same, hz]⟩, hlen, hv G⟩⟩
end
end DN
namespace DN
open PySem PySem.Spec PyProof.Rows L2 Evl
theorem AllM.nil {P : String → Nat → FD → Prop} : AllM P [] := trivial
theorem AllM.cons {P : String → Nat → FD → Prop} {c : String} {n : Nat} {D : FD} {r : MT} (h : P c n D) (t : AllM P r) : AllM P ((c, n, D) :: r) := ⟨h, t⟩
theorem AllC.nil {P : String → Prop} : AllC P [] := trivial
theorem AllC.cons {P : String → Prop} {c : String} {r : List String} (h : P c) (t : AllC P r) : AllC P (c :: r) := ⟨h, t⟩
theorem _root_.L2.Room.u1 {k : Nat} {A : Around} (r : Room k A) : A.units + 1 < cLine := by have := r.un; omega
theorem _root_.L2.Room.u64 {k : Nat} {A : Around} (r : Room k A) : A.units + 64 < cLine := by have := r.un; omega
theorem _root_.L2.Room.u65 {k : Nat} {A : Around} (r : Room k A) : A.units + 65 < cLine := by have := r.un; omega
theorem tk0 {X : Cx} : Takes X (fun _ _ _ _ => False) := fun u s' x => by
  obtain ⟨_, _, _, _, _, _, _, _, _, _, _, _, _, _, _, _, h⟩ := x
  exact h.elim
theorem tkd {P : Program} {w : World} {K : PySem.W.Frag} {mg : Str → Option Value} {base : Heap} {N : List Str} {qual : Str} {scope : Scope} {f : Addr} {cd : Value} {A : Around} {outer : List PySem.Env} {s : Shared} {H : Hp} {E : XK} :
    Takes (cxOf (L2N.CX P w) P w K mg base N qual scope f cd A outer s H E) (WD E) := takes_of rfl rfl rfl rfl
theorem pod {P : Program} {w : World} {K : PySem.W.Frag} {mg : Str → Option Value} {base : Heap} {N : List Str} {qual : Str} {scope : Scope} {f : Addr} {cd : Value} {A : Around} {outer : List PySem.Env} {s : Shared} {H : Hp} {E : XK} :
    PassesOwn (model P w) (cxOf (L2N.CX P w) P w K mg base N qual scope f cd A outer s H E).A (cxOf (L2N.CX P w) P w K mg base N qual scope f cd A outer s H E).env (cxOf (L2N.CX P w) P w K mg base N qual scope f cd A outer s H E).xe := passes_of (X := cxOf (L2N.CX P w) P w K mg base N qual scope f cd A outer s H E) rfl
def spLaw (K : PySem.W.Frag) : Sp := fun vs H Q _ => ∃ (a : Addr) (ns : List Int), vs = [.ref a] ∧ SqL K H a (ns.map V.int) ∧ ns.length ≤ 63 ∧ ∀ H', Q (.bl true) H'
theorem law_sp {Z : Zx} {D : FD} (h : ∀ ns : List Int, ns.length ≤ 63 → ∃ S, D [.d (.scr ns)] [] = .ok S (.val (.d (.bl true)))) (vs : List V) (H : Hp) (Q : VK) (E : XK) (q : spLaw Z.K vs H Q E) : spD Z 1 D vs H Q E := by
  obtain ⟨a, ns, rfl, hS, hl, k⟩ := q
  obtain ⟨S, e⟩ := h ns hl
  refine ⟨H, [], [], [.d (.scr ns)], ⟨Ex.refl H, rfl, List.nodup_nil, fun n a c h1 h2 => by simp at h1⟩, ⟨_, _, rfl, ?_, rfl⟩, rfl, ?_⟩
  · show On Z H (.scr ns) (.ref a)
    unfold On
    exact ⟨a, rfl, hS⟩
  · rw [e]
    intro H2 G2 α2 f hd v ov
    have ov : On Z G2 (.bl true) v := ov
    unfold On at ov
    rw [ov]
    exact k H2
theorem cx_no {P : Program} {w : World} {o : List PySem.Env} {H : Hp} {s : Shared} {e : Value} {s' : Shared} (h : L2N.CX P w o H s (fun _ _ _ => False) e s') : False := by
  obtain ⟨_, _, _, _, _, _, _, _, _, _, _, _, h⟩ := h
  exact h
end DN
namespace DN
open PySem
theorem got_val {S : Sto} {v : Vr} : Got (.ok S (.val v)) S v := .val S v
theorem noex_ok {β : Type} {S : Sto} {b : β} : (R.ok S b).noex = .ok S b := rfl
/-- a comprehension that changes nothing -/
theorem lc_pure {t : Its} {tg : FG} {ft : FT} {fe : FE} {env : Env} {S : Sto} (p : Dv → Bool) (g : Dv → Dv) (hk : lockOk t S = true) : ∀ {l acc : List Dv},
    (∀ d ∈ l, ∃ env', tg d env = some env' ∧ ft env' S = .ok S (p d) ∧ (p d = true → Got (fe env' S) S (.d (g d)))) → acc.length + l.length ≤ 100000 → lcGo t tg ft fe env l S acc = .ok S (acc ++ (l.filter p).map g)
  | [], acc, h, hl => by simp [lcGo, hk]
  | d :: l, acc, h, hl => by
    obtain ⟨env', h1, h2, h3⟩ := h d List.mem_cons_self
    have ih := fun acc => lc_pure p g hk (l := l) (acc := acc) fun x hx => h x (List.mem_cons_of_mem _ hx)
    have hl' : acc.length + l.length + 1 ≤ 100000 := by simpa [Nat.add_assoc] using hl
    simp only [lcGo, hk, if_true, h1, h2, noex_ok, R.bind]
    cases q : p d with
    | false =>
      simp only [Bool.false_eq_true, if_false]
      rw [ih acc (by omega), List.filter_cons, q]
      rfl
    | true =>
      have g3 := h3 q
      simp only [if_true]
      have e : (fe env' S).noex.bindV (fun S2 v => onD v fun y => if acc.length < 100000 then lcGo t tg ft fe env l S2 (acc ++ [y]) else .no) = lcGo t tg ft fe env l S (acc ++ [g d]) := by
        generalize fe env' S = r at g3
        cases g3 with
        | val =>
          simp only [noex_ok, R.bindV, onD]
          rw [if_pos (by omega)]
        | new S c d' hc => rw [noex_ok, bindV_new hc]; simp only [onD]; rw [if_pos (by omega)]
      rw [e, ih (acc ++ [g d]) (by simp; omega), List.filter_cons, q]
      simp
theorem fLc_pure {fi : FI} {tg : FG} {ft : FT} {fe : FE} {vs : List Nat} {env : Env} {S : Sto} {t : Its} (p : Dv → Bool) (g : Dv → Dv) (hi : fi env S = .ok S t) (hk : lockOk t S = true) (hl : t.1.length ≤ 100000)
    (h : ∀ d ∈ t.1, ∃ env', tg d (wipeE env vs) = some env' ∧ ft env' S = .ok S (p d) ∧ (p d = true → Got (fe env' S) S (.d (g d)))) : fLc fi tg ft fe vs env S = .ok S (.new (.lst ((t.1.filter p).map g))) := by
  unfold fLc
  rw [hi]
  simp only [R.bind]
  rw [lc_pure p g hk h (by simpa using hl)]
  rfl
theorem def_val {n : Nat} {body : FS} {args : List Vr} {S S' : Sto} {d : Dv} (h : outS (body (startE n args) S) = .ok S' (.val (.d d))) (h2 : S'.take S.length = S) : defD n body args S = .ok S (.val (.d d)) := by
  unfold defD
  rw [h]
  show R.ok _ _ = _
  rw [h2]
theorem def_pure {n : Nat} {body : FS} {args : List Vr} {S : Sto} {d : Dv} (h : outS (body (startE n args) S) = .ok S (.val (.d d))) : defD n body args S = .ok S (.val (.d d)) := def_val h (by simp)
theorem def_new {n : Nat} {body : FS} {args : List Vr} {S : Sto} {c : Cell} (h : outS (body (startE n args) S) = .ok S (.new c)) : defD n body args S = .ok S (.new c) := by
  unfold defD
  rw [h]
  show R.ok _ _ = _
  rw [List.take_length]
end DN
namespace DN
open PySem
structure Fx {α : Sort _} (a : α) : Type where
def bindW {γ : Type} (r : R Rt) (f : Sto → Vr → R γ) (_ : Fx f) : R γ := r.bindV f
def bindX {β γ : Type} (r : R β) (f : Sto → β → R γ) (_ : Fx f) : R γ := r.bind f
def sVW (env : Env) (r : R Rt) (f : Sto → Vr → RS) (_ : Fx f) : RS := sV env r f
def sBW {β : Type} (env : Env) (r : R β) (f : Sto → β → RS) (_ : Fx f) : RS := sB env r f
def onBW {β : Type} (S : Sto) (a : Vr) (f : Bool → R β) (_ : Fx f) : R β := onB S a f
section
variable {β γ : Type} {S S1 : Sto} {env : Env}
theorem bindV_val {v : Vr} {f : Sto → Vr → R γ} {u : Fx f} : bindW (.ok S (.val v)) f u = f S v := rfl
theorem bindV_lst {l : List Dv} {f : Sto → Vr → R γ} {u : Fx f} : bindW (.ok S (.new (.lst l))) f u = f S (.d (.lst l)) := rfl
theorem bindV_ob {c : String} {l : List Dv} {f : Sto → Vr → R γ} {u : Fx f} : bindW (.ok S (.new (.ob c l))) f u = f S (.d (.obj c l)) := rfl
theorem bindV_dc {t : Bool} {k l : List Dv} {f : Sto → Vr → R γ} {u : Fx f} : bindW (.ok S (.new (.dc t k l))) f u = f S (.d (.dic t k l)) := rfl
theorem bindV_no {f : Sto → Vr → R γ} {u : Fx f} : bindW .no f u = .no := rfl
theorem bindV_ex {x : Xn} {f : Sto → Vr → R γ} {u : Fx f} : bindW (.ex S x) f u = .ex S x := rfl
theorem bind_ok {b : β} {f : Sto → β → R γ} {u : Fx f} : bindX (.ok S b) f u = f S b := rfl
theorem bind_no {f : Sto → β → R γ} {u : Fx f} : bindX .no f u = .no := rfl
theorem bind_ex {x : Xn} {f : Sto → β → R γ} {u : Fx f} : bindX (.ex S x) f u = .ex S x := rfl
theorem sV_val {v : Vr} {f : Sto → Vr → RS} {u : Fx f} : sVW env (.ok S (.val v)) f u = f S v := rfl
theorem sV_lst {l : List Dv} {f : Sto → Vr → RS} {u : Fx f} : sVW env (.ok S (.new (.lst l))) f u = f S (.d (.lst l)) := rfl
theorem sV_ob {c : String} {l : List Dv} {f : Sto → Vr → RS} {u : Fx f} : sVW env (.ok S (.new (.ob c l))) f u = f S (.d (.obj c l)) := rfl
theorem sV_dc {t : Bool} {k l : List Dv} {f : Sto → Vr → RS} {u : Fx f} : sVW env (.ok S (.new (.dc t k l))) f u = f S (.d (.dic t k l)) := rfl
theorem sV_ex {x : Xn} {f : Sto → Vr → RS} {u : Fx f} : sVW env (.ex S x) f u = .ex env S x := rfl
theorem sB_ok {b : β} {f : Sto → β → RS} {u : Fx f} : sBW env (.ok S b) f u = f S b := rfl
theorem sB_ex {x : Xn} {f : Sto → β → RS} {u : Fx f} : sBW env (.ex S x) f u = .ex env S x := rfl
/-- one statement, then the rest -/
def seqR (r : RS) (b : FS) : RS := match r with
  | .nx e2 S2 => b e2 S2
  | r => r
theorem kSeq_ {a b : FS} : kSeq a b env S = seqR (a env S) b := rfl
theorem seqR_nx {b : FS} : seqR (.nx env S) b = b env S := rfl
theorem seqR_rt {r : Rt} {b : FS} : seqR (.rt S r) b = .rt S r := rfl
theorem seqR_ex {x : Xn} {b : FS} : seqR (.ex env S x) b = .ex env S x := rfl
theorem seqR_no {b : FS} : seqR .no b = .no := rfl
def retR (env : Env) (r : R Rt) : RS := match r with
  | .ok S2 r => .rt S2 r
  | .ex S2 x => .ex env S2 x
  | .no => .no
theorem kRet_ {fe : FE} : kRet fe env S = retR env (fe env S) := rfl
theorem retR_ok {r : Rt} : retR env (.ok S r) = .rt S r := rfl
theorem retR_ex {x : Xn} : retR env (.ex S x) = .ex env S x := rfl
theorem kRetN_ : kRetN env S = .rt S (.val (.d .non)) := rfl
theorem kNext_ : kNext env S = .nx env S := rfl
theorem kIf_ {ft : FT} {a b : FS} : kIf ft a b env S = (sBW env (ft env S) (fun S1 t => if t then a env S1 else b env S1) ⟨⟩) := rfl
theorem kExpr_ {fe : FE} : kExpr fe env S = (sBW env (fe env S) (fun S1 _ => .nx env S1) ⟨⟩) := rfl
theorem kSet_ {i : Nat} {fe : FE} : kSet i fe env S = (sVW env (fe env S) (fun S1 v => .nx (env.set i (.v v)) S1) ⟨⟩) := rfl
def setC (i : Nat) (env : Env) (r : R Rt) : RS := match r with
  | .ok S1 (.val v) => .nx (env.set i (.v v)) S1
  | .ok S1 (.new c) => .nx (env.set i (.v (.r S1.length))) (S1 ++ [c])
  | .ex S1 x => .ex env S1 x
  | .no => .no
theorem kSetC_ {i : Nat} {fe : FE} : kSetC i fe env S = setC i env (fe env S) := rfl
theorem setC_val {i : Nat} {v : Vr} : setC i env (.ok S (.val v)) = .nx (env.set i (.v v)) S := rfl
theorem setC_new {i : Nat} {c : Cell} : setC i env (.ok S (.new c)) = .nx (env.set i (.v (.r S.length))) (S ++ [c]) := rfl
def asgR (f : FG) (env : Env) (S1 : Sto) (v : Vr) : RS := match v with
  | .d d => match f d env with
    | some env' => .nx env' S1
    | none => .no
  | .r _ => .no
theorem kAsg_ {f : FG} {fe : FE} : kAsg f fe env S = (sVW env (fe env S) (fun S1 v => asgR f env S1 v) ⟨⟩) := rfl
def asgO (o : Option Env) (S : Sto) : RS := match o with
  | some env' => .nx env' S
  | none => .no
theorem asgR_d {f : FG} {d : Dv} : asgR f env S (.d d) = asgO (f d env) S := rfl
theorem asgO_ {env' : Env} : asgO (some env') S = .nx env' S := rfl
theorem tgN_ {i : Nat} {d : Dv} : tgN i d env = some (env.set i (.v (.d d))) := rfl
theorem tgNil_ : tgNil [] env = some env := rfl
def tgO (o : Option Env) (fs : FGs) (l : List Dv) : Option Env := match o with
  | some e => fs l e
  | none => none
theorem tgCons_ {f : FG} {fs : FGs} {d : Dv} {l : List Dv} : tgCons f fs (d :: l) env = tgO (f d env) fs l := by
  cases h : f d env <;> simp [tgCons, tgO, h]
theorem tgO_ {fs : FGs} {l : List Dv} : tgO (some env) fs l = fs l env := rfl
theorem tgT_ {fs : FGs} {l : List Dv} : tgT fs (.tup l) env = fs l env := rfl
def parR (i j : Nat) (env : Env) (S1 : Sto) (l : List Vr) : RS := match l with
  | [v, w] => .nx ((env.set i (.v v)).set j (.v w)) S1
  | _ => .no
theorem kPar_ {i j : Nat} {fa : FA} : kPar i j fa env S = (sBW env (fa env S) (fun S1 l => parR i j env S1 l) ⟨⟩) := rfl
theorem parR_ {i j : Nat} {v w : Vr} : parR i j env S [v, w] = .nx ((env.set i (.v v)).set j (.v w)) S := rfl
theorem kSub_ {fo fi fv : FE} : kSub fo fi fv env S = (sVW env (fv env S) (fun S1 v => (sVW env (fo env S1) (fun S2 o => (sVW env (fi env S2) (fun S3 i => setIx env S3 o i v) ⟨⟩)) ⟨⟩)) ⟨⟩) := rfl
theorem kFld_ {cs : List String} {f : Str} {fo fv : FE} : kFld cs f fo fv env S = (sVW env (fv env S) (fun S1 v => (sVW env (fo env S1) (fun S2 o => setFd cs f env S2 o v) ⟨⟩)) ⟨⟩) := rfl
def loopR (r : RS) (k : Env → Sto → RS) (_ : Fx k) : RS := match r with
  | .nx e S => k e S
  | .ct e S => k e S
  | .bk e S => .nx e S
  | r => r
theorem loopR_nx {k : Env → Sto → RS} {u : Fx k} : loopR (.nx env S) k u = k env S := rfl
theorem loopR_ct {k : Env → Sto → RS} {u : Fx k} : loopR (.ct env S) k u = k env S := rfl
theorem loopR_bk {k : Env → Sto → RS} {u : Fx k} : loopR (.bk env S) k u = .nx env S := rfl
theorem loopR_rt {k : Env → Sto → RS} {r : Rt} {u : Fx k} : loopR (.rt S r) k u = .rt S r := rfl
def forO (o : Option Env) (S : Sto) (body : FS) (k : Env → Sto → RS) (u : Fx k) : RS := match o with
  | some e => loopR (body e S) k u
  | none => .no
theorem forO_ {body : FS} {k : Env → Sto → RS} {u : Fx k} : forO (some env) S body k u = loopR (body env S) k u := rfl
theorem forGo_c {l t : List Dv} {d : Dv} {tg : FG} {body : FS} : forGo (t, none) tg body (d :: l) env S = forO (tg d env) S body (fun e2 S2 => forGo (t, none) tg body l e2 S2) ⟨⟩ := by
  have hk : lockOk (t, none) S = true := rfl
  simp only [forGo, hk, if_true]
  cases tg d env with
  | none => rfl
  | some e => simp only [forO]; cases body e S <;> rfl
theorem forGo_n {t : List Dv} {tg : FG} {body : FS} : forGo (t, none) tg body [] env S = .nx env S := rfl
theorem iVal_ {fa : FE} : iVal fa env S = (bindW (fa env S) (fun S1 a => itOf S1 a) ⟨⟩) := rfl
theorem itOf_lst {l : List Dv} : itOf S (.d (.lst l)) = .ok S (l, none) := rfl
theorem itOf_tup {l : List Dv} : itOf S (.d (.tup l)) = .ok S (l, none) := rfl
def varR (o : Option Sl) (S : Sto) : R Rt := match o with
  | some (.v d) => .ok S (.val d)
  | _ => .no
theorem fVar_ {i : Nat} : fVar i env S = varR env[i]? S := rfl
theorem varR_ {d : Vr} : varR (some (.v d)) S = .ok S (.val d) := rfl
theorem fC_ {d : Dv} : fC d env S = .ok S (.val (.d d)) := rfl
theorem fOp_ {g : Dv → Dv → Option Rt} {fa fb : FE} : fOp g fa fb env S = (bindW (fa env S) (fun S1 a => (bindW (fb env S1) (fun S2 b => g2 S2 a b g) ⟨⟩)) ⟨⟩) := rfl
def g2o (S : Sto) (x y : Option Dv) (g : Dv → Dv → Option Rt) : R Rt := match x, y with
  | some x, some y => R.of S (g x y)
  | _, _ => .no
theorem g2_ {a b : Vr} {g : Dv → Dv → Option Rt} : g2 S a b g = g2o S (snap S a) (snap S b) g := rfl
theorem g2o_ {x y : Dv} {g : Dv → Dv → Option Rt} : g2o S (some x) (some y) g = R.of S (g x y) := rfl
theorem fUn_ {g : Dv → Option Rt} {fa : FE} : fUn g fa env S = (bindW (fa env S) (fun S1 a => g1 S1 a g) ⟨⟩) := rfl
def g1o (S : Sto) (x : Option Dv) (g : Dv → Option Rt) : R Rt := match x with
  | some x => R.of S (g x)
  | _ => .no
theorem g1_ {a : Vr} {g : Dv → Option Rt} : g1 S a g = g1o S (snap S a) g := by unfold g1 g1o; cases snap S a <;> rfl
theorem g1o_ {x : Dv} {g : Dv → Option Rt} : g1o S (some x) g = R.of S (g x) := rfl
theorem of_some {b : β} : R.of S (some b) = .ok S b := rfl
theorem snap_d {d : Dv} : snap S (.d d) = some d := rfl
def snapC : Option Cell → Option Dv
  | some (.lst l) => some (.lst l)
  | some (.ob c l) => some (.obj c l)
  | some (.dc t ks vs) => some (.dic t ks vs)
  | _ => none
theorem snap_r {n : Nat} : snap S (.r n) = snapC S[n]? := by
  cases q : S[n]? with
  | none => simp [snap, q, snapC]
  | some c => cases c <;> simp [snap, q, snapC]
theorem snapC_lst {l : List Dv} : snapC (some (.lst l)) = some (.lst l) := rfl
theorem snapC_ob {c : String} {l : List Dv} : snapC (some (.ob c l)) = some (.obj c l) := rfl
theorem fNil_ : fNil env S = .ok S [] := rfl
theorem fCons_ {fa : FE} {fr : FA} : fCons fa fr env S = (bindW (fa env S) (fun S1 a => (bindX (fr env S1) (fun S2 l => .ok S2 (a :: l)) ⟨⟩)) ⟨⟩) := rfl
theorem fTup_ {fa : FA} : fTup fa env S = (bindX (fa env S) (fun S1 l => R.of S1 (gTupD l)) ⟨⟩) := rfl
theorem fLst_ {fa : FA} : fLst fa env S = (bindX (fa env S) (fun S1 l => R.of S1 (gLstD l)) ⟨⟩) := rfl
theorem allD_n : allD [] = some [] := rfl
def allC (x : Dv) : Option (List Dv) → Option (List Dv)
  | some r => some (x :: r)
  | none => none
theorem allD_c {x : Dv} {l : List Vr} : allD (.d x :: l) = allC x (allD l) := rfl
theorem allC_ {x : Dv} {l : List Dv} : allC x (some l) = some (x :: l) := rfl
def tupO : Option (List Dv) → Option Rt
  | some r => if r.length ≤ 100000 then some (.val (.d (.tup r))) else none
  | none => none
def lstO : Option (List Dv) → Option Rt
  | some r => if r.length ≤ 100000 then some (.new (.lst r)) else none
  | none => none
theorem gTupD_ {l : List Vr} : gTupD l = tupO (allD l) := rfl
theorem gLstD_ {l : List Vr} : gLstD l = lstO (allD l) := rfl
theorem tupO_0 : tupO (some []) = some (.val (.d (.tup []))) := by simp only [tupO, lstO]; exact if_pos (show (0 : Nat) ≤ 100000 by decide)
theorem lstO_0 : lstO (some []) = some (.new (.lst [])) := by simp only [tupO, lstO]; exact if_pos (show (0 : Nat) ≤ 100000 by decide)
theorem tupO_1 {a : Dv} : tupO (some [a]) = some (.val (.d (.tup [a]))) := by simp only [tupO, lstO]; exact if_pos (show (1 : Nat) ≤ 100000 by decide)
theorem lstO_1 {a : Dv} : lstO (some [a]) = some (.new (.lst [a])) := by simp only [tupO, lstO]; exact if_pos (show (1 : Nat) ≤ 100000 by decide)
theorem tupO_2 {a b : Dv} : tupO (some [a, b]) = some (.val (.d (.tup [a, b]))) := by simp only [tupO, lstO]; exact if_pos (show (2 : Nat) ≤ 100000 by decide)
theorem lstO_2 {a b : Dv} : lstO (some [a, b]) = some (.new (.lst [a, b])) := by simp only [tupO, lstO]; exact if_pos (show (2 : Nat) ≤ 100000 by decide)
theorem tupO_3 {a b c : Dv} : tupO (some [a, b, c]) = some (.val (.d (.tup [a, b, c]))) := by simp only [tupO, lstO]; exact if_pos (show (3 : Nat) ≤ 100000 by decide)
theorem lstO_3 {a b c : Dv} : lstO (some [a, b, c]) = some (.new (.lst [a, b, c])) := by simp only [tupO, lstO]; exact if_pos (show (3 : Nat) ≤ 100000 by decide)
theorem tupO_4 {a b c d : Dv} : tupO (some [a, b, c, d]) = some (.val (.d (.tup [a, b, c, d]))) := by simp only [tupO, lstO]; exact if_pos (show (4 : Nat) ≤ 100000 by decide)
theorem lstO_4 {a b c d : Dv} : lstO (some [a, b, c, d]) = some (.new (.lst [a, b, c, d])) := by simp only [tupO, lstO]; exact if_pos (show (4 : Nat) ≤ 100000 by decide)
theorem tupO_5 {a b c d e : Dv} : tupO (some [a, b, c, d, e]) = some (.val (.d (.tup [a, b, c, d, e]))) := by simp only [tupO, lstO]; exact if_pos (show (5 : Nat) ≤ 100000 by decide)
theorem lstO_5 {a b c d e : Dv} : lstO (some [a, b, c, d, e]) = some (.new (.lst [a, b, c, d, e])) := by simp only [tupO, lstO]; exact if_pos (show (5 : Nat) ≤ 100000 by decide)
theorem tupO_6 {a b c d e f : Dv} : tupO (some [a, b, c, d, e, f]) = some (.val (.d (.tup [a, b, c, d, e, f]))) := by simp only [tupO, lstO]; exact if_pos (show (6 : Nat) ≤ 100000 by decide)
theorem lstO_6 {a b c d e f : Dv} : lstO (some [a, b, c, d, e, f]) = some (.new (.lst [a, b, c, d, e, f])) := by simp only [tupO, lstO]; exact if_pos (show (6 : Nat) ≤ 100000 by decide)
theorem tupO_7 {a b c d e f g : Dv} : tupO (some [a, b, c, d, e, f, g]) = some (.val (.d (.tup [a, b, c, d, e, f, g]))) := by simp only [tupO, lstO]; exact if_pos (show (7 : Nat) ≤ 100000 by decide)
theorem lstO_7 {a b c d e f g : Dv} : lstO (some [a, b, c, d, e, f, g]) = some (.new (.lst [a, b, c, d, e, f, g])) := by simp only [tupO, lstO]; exact if_pos (show (7 : Nat) ≤ 100000 by decide)
theorem fAnd_ {fa fb : FE} : fAnd fa fb env S = (bindW (fa env S) (fun S1 a => (onBW S1 a (fun b => if b then fb env S1 else .ok S1 (.val (.d (.bl false)))) ⟨⟩)) ⟨⟩) := rfl
theorem fOr_ {fa fb : FE} : fOr fa fb env S = (bindW (fa env S) (fun S1 a => (onBW S1 a (fun b => if b then .ok S1 (.val (.d (.bl true))) else fb env S1) ⟨⟩)) ⟨⟩) := rfl
theorem fNot_ {fa : FE} : fNot fa env S = (bindW (fa env S) (fun S1 a => (onBW S1 a (fun b => .ok S1 (.val (.d (.bl (!b))))) ⟨⟩)) ⟨⟩) := rfl
theorem fIf_ {ft : FT} {fa fb : FE} : fIf ft fa fb env S = (bindX (ft env S) (fun S1 b => if b then fa env S1 else fb env S1) ⟨⟩) := rfl
theorem onB_ {b : Bool} {f : Bool → R β} {u : Fx f} : onBW S (.d (.bl b)) f u = f b := rfl
theorem kVal_ {fa : FE} : kVal fa env S = (bindW (fa env S) (fun S1 a => (onBW S1 a (fun b => .ok S1 b) ⟨⟩)) ⟨⟩) := rfl
theorem kAnd_ {ta tb : FT} : kAnd ta tb env S = (bindX (ta env S) (fun S1 b => if b then tb env S1 else .ok S1 false) ⟨⟩) := rfl
theorem kOr_ {ta tb : FT} : kOr ta tb env S = (bindX (ta env S) (fun S1 b => if b then .ok S1 true else tb env S1) ⟨⟩) := rfl
theorem kNot_ {ta : FT} : kNot ta env S = (bindX (ta env S) (fun S1 b => .ok S1 (!b)) ⟨⟩) := rfl
theorem kYes_ : kYes env S = .ok S true := rfl
theorem fCall_ {g : List Dv → Option Rt} {fa : FA} : fCall g fa env S = (bindX (fa env S) (fun S1 l => gA S1 l g) ⟨⟩) := rfl
def gAo (S : Sto) (x : Option (List Dv)) (g : List Dv → Option Rt) : R Rt := match x with
  | some x => R.of S (g x)
  | _ => .no
theorem gA_ {l : List Vr} {g : List Dv → Option Rt} : gA S l g = gAo S (snaps S l) g := by unfold gA gAo; cases snaps S l <;> rfl
theorem gAo_ {l : List Dv} {g : List Dv → Option Rt} : gAo S (some l) g = R.of S (g l) := rfl
def snapsC : Option Dv → Option (List Dv) → Option (List Dv)
  | some d, some m => some (d :: m)
  | _, _ => none
theorem snaps_n : snaps S [] = some [] := rfl
theorem snaps_c {r : Vr} {l : List Vr} : snaps S (r :: l) = snapsC (snap S r) (snaps S l) := by
  unfold snapsC
  show (match snap S r, snaps S l with | some d, some m => some (d :: m) | _, _ => none) = _
  cases snap S r <;> cases snaps S l <;> rfl
theorem snapsC_ {d : Dv} {l : List Dv} : snapsC (some d) (some l) = some (d :: l) := rfl
theorem arg1_ {f : Dv → Option Rt} {x : Dv} : arg1 f [x] = f x := rfl
theorem arg12_1 {f : Dv → Option Rt} {g : Dv → Dv → Option Rt} {x : Dv} : arg12 f g [x] = f x := rfl
theorem arg12_2 {f : Dv → Option Rt} {g : Dv → Dv → Option Rt} {x y : Dv} : arg12 f g [x, y] = g x y := rfl
theorem arg2_ {f : Dv → Dv → Option Rt} {x y : Dv} : arg2 f [x, y] = f x y := rfl
theorem onlyIf_t {r : Option Rt} : onlyIf true r = r := rfl
theorem fCallD_ {m : Nat} {D : FD} {fa : FA} : fCallD m D fa env S = (bindX (fa env S) (fun S1 l => if l.length = m then D l S1 else .no) ⟨⟩) := rfl
theorem fMeth_ {T : String} {g : Dv → List Dv → Option Rt} {fo : FE} {fa : FA} : fMeth T g fo fa env S = (bindW (fo env S) (fun S1 a => onT T S1 a ((bindX (fa env S1) (fun S2 l => gM S2 a l g) ⟨⟩))) ⟨⟩) := rfl
def onTo (T : String) (x : Option Dv) (r : R β) : R β := match x with
  | some d => if isT T d then r else .no
  | none => .no
theorem onT_ {T : String} {a : Vr} {r : R β} : onT T S a r = onTo T (snap S a) r := rfl
theorem onTo_ {T : String} {d : Dv} {r : R β} : onTo T (some d) r = if isT T d then r else .no := rfl
def gMo (S : Sto) (x : Option Dv) (l : Option (List Dv)) (g : Dv → List Dv → Option Rt) : R Rt := match x, l with
  | some d, some ds => R.of S (g d ds)
  | _, _ => .no
theorem gM_ {a : Vr} {l : List Vr} {g : Dv → List Dv → Option Rt} : gM S a l g = gMo S (snap S a) (snaps S l) g := rfl
theorem gMo_ {d : Dv} {l : List Dv} {g : Dv → List Dv → Option Rt} : gMo S (some d) (some l) g = R.of S (g d l) := rfl
def clsC : Option Cell → Option String
  | some (.ob c _) => some c
  | _ => none
theorem clsV_r {n : Nat} : clsV S (.r n) = clsC S[n]? := by
  cases q : S[n]? with
  | none => simp [clsV, q, clsC]
  | some c => cases c <;> simp [clsV, q, clsC]
theorem clsC_lst {l : List Dv} : clsC (some (.lst l)) = none := rfl
theorem clsC_ob {c : String} {l : List Dv} : clsC (some (.ob c l)) = some c := rfl
theorem clsV_obj {c : String} {l : List Dv} : clsV S (.d (.obj c l)) = some c := rfl
theorem clsV_int {i : Int} : clsV S (.d (.int i)) = none := rfl
theorem clsV_bl {i : Bool} : clsV S (.d (.bl i)) = none := rfl
theorem clsV_str {i : Str} : clsV S (.d (.str i)) = none := rfl
theorem clsV_non : clsV S (.d .non) = none := rfl
theorem clsV_lst {l : List Dv} : clsV S (.d (.lst l)) = none := rfl
theorem clsV_tup {l : List Dv} : clsV S (.d (.tup l)) = none := rfl
theorem clsV_scr {l : List Int} : clsV S (.d (.scr l)) = none := rfl
theorem fLenD_ {T : MT} {fa : FA} : fLenD T fa env S = (bindX (fa env S) (fun S1 l => lenR T S1 l) ⟨⟩) := rfl
def lenC (k : Option String) (T : MT) (S : Sto) (o : Vr) : R Rt := match k with
  | some c => onlyV pInt (askT T c [o] S)
  | none => gA S [o] gLen
theorem lenR_ {T : MT} {o : Vr} : lenR T S [o] = lenC (clsV S o) T S o := rfl
theorem lenC_n {T : MT} {o : Vr} : lenC none T S o = gA S [o] gLen := rfl
theorem lenC_s {T : MT} {o : Vr} {c : String} : lenC (some c) T S o = onlyV pInt (askT T c [o] S) := rfl
theorem fIxD_ {T : MT} {fa fb : FE} : fIxD T fa fb env S = (bindW (fa env S) (fun S1 a => (bindW (fb env S1) (fun S2 b => ixR T S2 a b) ⟨⟩)) ⟨⟩) := rfl
def ixC (k : Option String) (T : MT) (S : Sto) (a b : Vr) : R Rt := match k with
  | some c => okR (askT T c [a, b] S)
  | none => g2 S a b gIx
theorem ixR_ {T : MT} {a b : Vr} : ixR T S a b = ixC (clsV S a) T S a b := rfl
theorem ixC_n {T : MT} {a b : Vr} : ixC none T S a b = g2 S a b gIx := rfl
theorem ixC_s {T : MT} {a b : Vr} {c : String} : ixC (some c) T S a b = okR (askT T c [a, b] S) := rfl
theorem fEqD_ {cs : List String} {T : MT} {neg : Bool} {fa fb : FE} : fEqD cs T neg fa fb env S = (bindW (fa env S) (fun S1 a => (bindW (fb env S1) (fun S2 b => eqR cs T neg S2 a b) ⟨⟩)) ⟨⟩) := rfl
theorem fPropD_ {t : MT} {fo : FE} : fPropD t fo env S = (bindW (fo env S) (fun S1 o => fAsk1 t S1 o) ⟨⟩) := rfl
theorem fMakeD_ {c : String} {dl : List Dv} {n : Nat} {D : FD} {fa : FA} : fMakeD c dl n D fa env S = (bindX (fa env S) (fun S1 l =>
  if (Vr.r S1.length :: (l ++ dl.map .d)).length = n then makeR S1.length (D (.r S1.length :: (l ++ dl.map .d)) (S1 ++ [.ob c []])) else .no) ⟨⟩) := rfl
theorem isi_int_int {cs : List String} {i : Int} : gIsi cs (.int i) (.ty "int") = vB true := rfl
theorem isi_int_bool {cs : List String} {i : Int} : gIsi cs (.int i) (.ty "bool") = vB false := rfl
theorem isi_int_str {cs : List String} {i : Int} : gIsi cs (.int i) (.ty "str") = vB false := rfl
theorem isi_str_str {cs : List String} {i : Str} : gIsi cs (.str i) (.ty "str") = vB true := rfl
theorem isi_str_int {cs : List String} {i : Str} : gIsi cs (.str i) (.ty "int") = vB false := rfl
theorem isi_lst_lst {cs : List String} {i : List Dv} : gIsi cs (.lst i) (.ty "list") = vB true := rfl
theorem isi_lst_str {cs : List String} {i : List Dv} : gIsi cs (.lst i) (.ty "str") = vB false := rfl
theorem isi_tup_str {cs : List String} {i : List Dv} : gIsi cs (.tup i) (.ty "str") = vB false := rfl
theorem isi_tup_tup {cs : List String} {i : List Dv} : gIsi cs (.tup i) (.ty "tuple") = vB true := rfl
theorem isi_lst_lt {cs : List String} {i : List Dv} : gIsi cs (.lst i) (.tup [.ty "list", .ty "tuple"]) = vB true := rfl
theorem isi_tup_lt {cs : List String} {i : List Dv} : gIsi cs (.tup i) (.tup [.ty "list", .ty "tuple"]) = vB true := rfl
theorem isi_str_lt {cs : List String} {i : Str} : gIsi cs (.str i) (.tup [.ty "list", .ty "tuple"]) = vB false := rfl
theorem vB_ {b : Bool} : vB b = some (.val (.d (.bl b))) := rfl
theorem vI_ {b : Int} : vI b = some (.val (.d (.int b))) := rfl
theorem vS_ {b : Str} : vS b = some (.val (.d (.str b))) := rfl
theorem vT_ {b : List Dv} : vT b = some (.val (.d (.tup b))) := rfl
theorem nL_ {b : List Dv} : nL b = some (.new (.lst b)) := rfl
theorem vD_ {b : Dv} : vD b = some (.val (.d b)) := rfl
theorem startE_ {n : Nat} {args : List Vr} : startE n args = args.map .v ++ List.replicate (n - args.length) .u := rfl
theorem outS_nx : outS (.nx env S) = .ok S (.val (.d .non)) := rfl
theorem outS_rt {r : Rt} : outS (.rt S r) = .ok S r := rfl
theorem outS_ex {x : Xn} : outS (.ex env S x) = .ex S x := rfl
def methP (p : Option (Nat × FD)) (o : Vr) (r : R (List Vr)) : R Rt := match p with
  | some (n, D) => r.bind fun S2 l => if (o :: l).length = n then D (o :: l) S2 else .no
  | none => .no
def methR (k : Option String) (t : MT) (o : Vr) (r : R (List Vr)) : R Rt := match k with
  | some c => methP (t.at c) o r
  | none => .no
theorem fMethD_ {t : MT} {fo : FE} {fa : FA} : fMethD t fo fa env S = (bindW (fo env S) (fun S1 o => methR (clsV S1 o) t o (fa env S1)) ⟨⟩) := by
  unfold fMethD methR methP
  congr 1
theorem methR_ {c : String} {t : MT} {o : Vr} {r : R (List Vr)} : methR (some c) t o r = methP (t.at c) o r := rfl
theorem methP_ {n : Nat} {D : FD} {o : Vr} {r : R (List Vr)} : methP (some (n, D)) o r = (bindX r (fun S2 l => if (o :: l).length = n then D (o :: l) S2 else .no) ⟨⟩) := rfl
def askP (p : Option (Nat × FD)) (l : List Vr) (S : Sto) : R Rt := match p with
  | some (n, D) => if l.length = n then D l S else .no
  | none => .no
theorem askT_ {t : MT} {c : String} {l : List Vr} : askT t c l S = askP (t.at c) l S := rfl
theorem askP_ {n : Nat} {D : FD} {l : List Vr} : askP (some (n, D)) l S = if l.length = n then D l S else .no := rfl
def ask1P (p : Option (Nat × FD)) (o : Vr) (S : Sto) : R Rt := match p with
  | some (n, D) => if [o].length = n then okR (D [o] S) else .no
  | none => .no
def ask1R (k : Option String) (t : MT) (o : Vr) (S : Sto) : R Rt := match k with
  | some c => ask1P (t.at c) o S
  | none => .no
theorem fAsk1_ {t : MT} {o : Vr} : fAsk1 t S o = ask1R (clsV S o) t o S := rfl
theorem ask1R_ {c : String} {t : MT} {o : Vr} : ask1R (some c) t o S = ask1P (t.at c) o S := rfl
theorem ask1P_ {n : Nat} {D : FD} {o : Vr} : ask1P (some (n, D)) o S = if [o].length = n then okR (D [o] S) else .no := rfl
theorem at_cons {b c : String} {p : Nat × FD} {r : MT} : MT.at ((b, p) :: r) c = if b == c then some p else MT.at r c := rfl
theorem eqR_int {cs : List String} {T : MT} {neg : Bool} {i : Int} {b : Vr} : eqR cs T neg S (.d (.int i)) b = g2 S (.d (.int i)) b (if neg then gNe else gEq) := rfl
theorem eqR_bl {cs : List String} {T : MT} {neg : Bool} {i : Bool} {b : Vr} : eqR cs T neg S (.d (.bl i)) b = g2 S (.d (.bl i)) b (if neg then gNe else gEq) := rfl
theorem eqR_str {cs : List String} {T : MT} {neg : Bool} {i : Str} {b : Vr} : eqR cs T neg S (.d (.str i)) b = g2 S (.d (.str i)) b (if neg then gNe else gEq) := rfl
theorem eqR_lst {cs : List String} {T : MT} {neg : Bool} {i : List Dv} {b : Vr} : eqR cs T neg S (.d (.lst i)) b = g2 S (.d (.lst i)) b (if neg then gNe else gEq) := rfl
theorem eqR_tup {cs : List String} {T : MT} {neg : Bool} {i : List Dv} {b : Vr} : eqR cs T neg S (.d (.tup i)) b = g2 S (.d (.tup i)) b (if neg then gNe else gEq) := rfl
theorem eqR_non {cs : List String} {T : MT} {neg : Bool} {b : Vr} : eqR cs T neg S (.d .non) b = g2 S (.d .non) b (if neg then gNe else gEq) := rfl
theorem onlyV_bl {neg b : Bool} : onlyV (pBl neg) (.ok S (.val (.d (.bl b)))) = .ok S (.val (.d (.bl (if neg then !b else b)))) := rfl
theorem onlyV_str {s : Str} : onlyV pStr (.ok S (.val (.d (.str s)))) = .ok S (.val (.d (.str s))) := rfl
theorem fStrD_ {T : MT} {fa : FA} : fStrD T fa env S = (bindX (fa env S) (fun S1 l => strR T S1 l) ⟨⟩) := rfl
def strC (k : Option String) (T : MT) (S : Sto) (o : Vr) : R Rt := match k with
  | some c => onlyV pStr (askT T c [o] S)
  | none => gA S [o] gStr
theorem strR_ {T : MT} {o : Vr} : strR T S [o] = strC (clsV S o) T S o := rfl
theorem strC_n {T : MT} {o : Vr} : strC none T S o = gA S [o] gStr := rfl
theorem strC_s {T : MT} {o : Vr} {c : String} : strC (some c) T S o = onlyV pStr (askT T c [o] S) := rfl
theorem fChain_ {g g' : Dv → Dv → Option Rt} {fa fb fc : FE} : fChain g g' fa fb fc env S = (bindW (fa env S) (fun S1 a => (bindW (fb env S1) (fun S2 b => (bindW (g2 S2 a b g) (fun S3 k => (onBW S3 k (fun t =>
  if t then (bindW (fc env S3) (fun S4 c => g2 S4 b c g') ⟨⟩) else .ok S3 (.val (.d (.bl false)))) ⟨⟩)) ⟨⟩)) ⟨⟩)) ⟨⟩) := rfl
theorem fSl_ {fa : FE} {lo hi : FO} : fSl fa lo hi env S = (bindW (fa env S) (fun S1 a => (bindX (lo env S1) (fun S2 l => (bindX (hi env S2) (fun S3 h => g1 S3 a (gSl l h)) ⟨⟩)) ⟨⟩)) ⟨⟩) := rfl
theorem fNoPart_ : fNoPart env S = .ok S none := rfl
def partR (S : Sto) (a : Vr) : R (Option Int) := match a with
  | .d (.int i) => .ok S (some i)
  | _ => .no
theorem fPart_ {fa : FE} : fPart fa env S = (bindW (fa env S) (fun S1 a => partR S1 a) ⟨⟩) := rfl
theorem partR_ {i : Int} : partR S (.d (.int i)) = .ok S (some i) := rfl
theorem fDisp_ {ks vs : List Dv} : fDisp ks vs env S = .ok S (.new (.dc false ks vs)) := rfl
theorem gSl_lst {l : List Dv} {lo hi : Option Int} : gSl lo hi (.lst l) = nL (cutL l lo hi) := rfl
theorem gSl_tup {l : List Dv} {lo hi : Option Int} : gSl lo hi (.tup l) = vT (cutL l lo hi) := rfl
theorem fMut_ {g : List Dv → List Dv → Option (List Dv × Dv)} {fo : FE} {fa : FA} : fMut g fo fa env S = (bindW (fo env S) (fun S1 a => onT "list" S1 a ((bindX (fa env S1) (fun S2 l => gMu S2 a l g) ⟨⟩))) ⟨⟩) := rfl
def muC (n : Nat) (o : Option Cell) (S : Sto) (ds : Option (List Dv)) (g : List Dv → List Dv → Option (List Dv × Dv)) : R Rt := match ds, o with
  | some ds, some (.lst l0) => muP n S (g l0 ds)
  | _, _ => .no
where muP (n : Nat) (S : Sto) (p : Option (List Dv × Dv)) : R Rt := match p with
  | some (l1, res) => .ok (S.set n (.lst l1)) (.val (.d res))
  | none => .no
theorem gMu_ {n : Nat} {l : List Vr} {g : List Dv → List Dv → Option (List Dv × Dv)} : gMu S (.r n) l g = muC n S[n]? S (allD l) g := by
  unfold gMu muC muC.muP
  cases q : allD l with
  | none => rfl
  | some ds =>
    cases q2 : S[n]? with
    | none => simp only [q2]
    | some c => cases c <;> simp only [q2] <;> rfl
theorem muC_ {n : Nat} {ds l0 : List Dv} {g : List Dv → List Dv → Option (List Dv × Dv)} : muC n (some (.lst l0)) S (some ds) g = muC.muP n S (g l0 ds) := rfl
theorem muP_ {n : Nat} {l1 : List Dv} {res : Dv} : muC.muP n S (some (l1, res)) = .ok (S.set n (.lst l1)) (.val (.d res)) := rfl
theorem isT_str {s : Str} : isT "str" (.str s) = true := rfl
theorem isT_lst {s : List Dv} : isT "list" (.lst s) = true := rfl
theorem gClear_ {l : List Dv} : gClear l [] = some ([], .non) := rfl
def cmR (c : String) (n : Nat) (D : FD) (o : Vr) (r : R (List Vr)) : R Rt := match o with
  | .d (.cls b) => if b == c then r.bind fun S2 l => if (Vr.d (.cls c) :: l).length = n then D (.d (.cls c) :: l) S2 else .no else .no
  | _ => .no
theorem fCMeth_ {c : String} {n : Nat} {D : FD} {fo : FE} {fa : FA} : fCMeth c n D fo fa env S = (bindW (fo env S) (fun S1 o => cmR c n D o (fa env S1)) ⟨⟩) := by
  unfold fCMeth cmR
  congr 1
theorem cmR_ {c : String} {n : Nat} {D : FD} {r : R (List Vr)} : cmR c n D (.d (.cls c)) r = (bindX r (fun S2 l => if (Vr.d (.cls c) :: l).length = n then D (.d (.cls c) :: l) S2 else .no) ⟨⟩) := by
  unfold cmR bindX
  simp
theorem makeR_ok {c : String} {l : List Dv} : makeR (List.length S) (.ok (S ++ [.ob c l]) (.val (.d .non))) = .ok S (.new (.ob c l)) := by
  unfold makeR
  simp
def mkLR (c : String) (o : Option Sl) (r : R Rt) : R Rt := match o with
  | some (.v (.d (.cls b))) => if b == c then r else .no
  | _ => .no
theorem fMakeL_ {i n : Nat} {c : String} {D : FD} {fa : FA} : fMakeL i c n D fa env S = mkLR c env[i]? (fMakeD c [] n D fa env S) := by
  unfold fMakeL mkLR
  rfl
theorem mkLR_ {c : String} {r : R Rt} : mkLR c (some (.v (.d (.cls c)))) r = r := by
  unfold mkLR
  simp
end
end DN
local macro_rules | `(tactic| simp_arith [$ls,*]) => `(tactic| simp -dsimp only [↓reduceIte, DN.bindV_val, DN.bindV_lst, DN.bindV_ob, DN.bindV_dc, DN.bindV_no, DN.bindV_ex, DN.bind_ok, DN.bind_no, DN.bind_ex, DN.sV_val, DN.sV_lst, DN.sV_ob, DN.sV_dc, DN.sV_ex, DN.sB_ok, DN.sB_ex, DN.kSeq_, DN.seqR_nx, DN.seqR_rt, DN.seqR_ex, DN.seqR_no, DN.kRet_, DN.retR_ok, DN.retR_ex, DN.kRetN_, DN.kNext_, DN.loopR_nx, DN.loopR_ct, DN.loopR_bk, DN.loopR_rt, DN.forGo_c, DN.forO_, DN.forGo_n, DN.iVal_, DN.itOf_lst, DN.itOf_tup, DN.kIf_, DN.kExpr_, DN.kSet_, DN.kSetC_, DN.setC_val, DN.setC_new, DN.kAsg_, DN.asgR_d, DN.asgO_, DN.tgN_, DN.tgNil_, DN.tgCons_, DN.tgO_, DN.tgT_, DN.kPar_, DN.parR_, DN.kSub_, DN.kFld_, DN.fVar_, DN.varR_, DN.fC_, DN.fOp_, DN.g2_, DN.g2o_, DN.fUn_, DN.g1_, DN.g1o_, DN.of_some, DN.snap_d, DN.snap_r, DN.snapC_lst, DN.snapC_ob, DN.fNil_, DN.fCons_, DN.fTup_, DN.fLst_, DN.allD_n, DN.allD_c, DN.allC_, DN.gTupD_, DN.gLstD_, DN.tupO_0, DN.lstO_0, DN.tupO_1, DN.lstO_1, DN.tupO_2, DN.lstO_2, DN.tupO_3, DN.lstO_3, DN.tupO_4, DN.lstO_4, DN.tupO_5, DN.lstO_5, DN.tupO_6, DN.lstO_6, DN.tupO_7, DN.lstO_7, DN.fAnd_, DN.fOr_, DN.fNot_, DN.fIf_, DN.onB_, DN.kVal_, DN.kAnd_, DN.kOr_, DN.kNot_, DN.kYes_, DN.fCall_, DN.gA_, DN.gAo_, DN.snaps_n, DN.snaps_c, DN.snapsC_, DN.arg1_, DN.arg12_1, DN.arg12_2, DN.arg2_, DN.onlyIf_t, DN.fCallD_, DN.fMeth_, DN.onT_, DN.onTo_, DN.gM_, DN.gMo_, DN.clsV_r, DN.clsC_lst, DN.clsC_ob, DN.clsV_obj, DN.clsV_int, DN.clsV_bl, DN.clsV_str, DN.clsV_non, DN.clsV_lst, DN.clsV_tup, DN.clsV_scr, DN.fLenD_, DN.lenR_, DN.lenC_n, DN.lenC_s, DN.fIxD_, DN.ixR_, DN.ixC_n, DN.ixC_s, DN.okR_ok, DN.fEqD_, DN.fMethD_, DN.fPropD_, DN.fMakeD_, DN.isi_int_int, DN.isi_int_bool, DN.isi_int_str, DN.isi_str_str, DN.isi_str_int, DN.isi_lst_lst, DN.isi_lst_str, DN.isi_tup_str, DN.isi_tup_tup, DN.isi_lst_lt, DN.isi_tup_lt, DN.isi_str_lt, DN.methR_, DN.methP_, DN.askT_, DN.askP_, DN.fAsk1_, DN.ask1R_, DN.ask1P_, DN.at_cons, beq_self_eq_true, DN.eqR_int, DN.eqR_bl, DN.eqR_str, DN.eqR_lst, DN.eqR_tup, DN.eqR_non, DN.onlyV_bl, DN.onlyV_str, DN.fStrD_, DN.strR_, DN.strC_n, DN.strC_s, DN.fChain_, DN.fSl_, DN.fNoPart_, DN.fPart_, DN.partR_, DN.fDisp_, DN.gSl_lst, DN.gSl_tup, DN.fMut_, DN.gMu_, DN.muC_, DN.muP_, DN.isT_str, DN.isT_lst, DN.gClear_, DN.fCMeth_, DN.cmR_, DN.fMakeL_, DN.mkLR_, DN.makeR_ok, List.append_nil, DN.vB_, DN.vI_, DN.vS_, DN.vT_, DN.nL_, DN.vD_, DN.startE_, DN.outS_nx, DN.outS_rt, DN.outS_ex, List.map, List.nil_append, List.cons_append, List.length_cons, List.length_nil, List.replicate, List.getElem?_cons_zero, List.getElem?_cons_succ, List.getElem?_nil, List.set_cons_zero, List.set_cons_succ, if_true, if_false, ite_true, ite_false, Bool.not_true, Bool.not_false, Bool.false_eq_true, Bool.and_true, Bool.true_and, Bool.or_false, Bool.false_or, Nat.add_sub_cancel, Nat.zero_add, Nat.reduceSub, Nat.reduceAdd, $ls,*])
namespace DN
open PySem L2
/-- a comprehension that changes nothing, all items kept -/
theorem fLc_map {fi : FI} {i : Nat} {fe : FE} {vs : List Nat} {env : Env} {S : Sto} {t : Its} (g : Dv → Dv) (hi : fi env S = .ok S t) (hk : lockOk t S = true) (hl : t.1.length ≤ 100000)
    (h : ∀ d ∈ t.1, Got (fe ((wipeE env vs).set i (.v (.d d))) S) S (.d (g d))) : fLc fi (tgN i) kYes fe vs env S = .ok S (.new (.lst (t.1.map g))) := by
  have := fLc_pure (fi := fi) (tg := tgN i) (ft := kYes) (fe := fe) (vs := vs) (env := env) (p := fun _ => true) g hi hk hl fun d hd => ⟨_, rfl, rfl, fun _ => h d hd⟩
  rw [this, List.filter_eq_self.mpr fun _ _ => rfl]
theorem strs_map : ∀ (ws : List Str), strs? (ws.map .str) = some ws
  | [] => rfl
  | w :: ws => by simp only [List.map, strs?, strs_map ws]
theorem bools_map : ∀ (ws : List Bool), bools? (ws.map .bl) = some ws
  | [] => rfl
  | w :: ws => by simp only [List.map, bools?, bools_map ws]
theorem okN_str {n : Nat} {s : Str} : okN n (.str s) = PyData.strOk s := by cases n <;> rfl
theorem okN_int {n : Nat} {s : Int} : okN n (.int s) = true := by cases n <;> rfl
theorem okN_lst {n : Nat} {l : List Dv} : okN (n + 1) (.lst l) = okNs n l := rfl
theorem okNs_all {n : Nat} : ∀ {l : List Dv}, (∀ d ∈ l, okN n d = true) → okNs n l = true
  | [], _ => by cases n <;> rfl
  | d :: l, h => by
    have h1 := h d List.mem_cons_self
    have h2 := okNs_all (n := n) (l := l) fun x hx => h x (List.mem_cons_of_mem _ hx)
    show (okN n d && okNs n l) = true
    rw [h1, h2]; rfl
theorem gEq_int {i j : Int} : gEq (.int i) (.int j) = vB (decide (i = j)) := by
  show onlyIf (okN 60 (.int i) && okN 60 (.int j)) (vB (i == j)) = _
  rw [okN_int, okN_int]
  by_cases h : i = j
  · simp [onlyIf, h]
  · simp [onlyIf, h, beq_false_of_ne h]
theorem gNe_int {i j : Int} : gNe (.int i) (.int j) = vB (!decide (i = j)) := by
  show onlyIf (okN 60 (.int i) && okN 60 (.int j)) (vB (!(i == j))) = _
  rw [okN_int, okN_int]
  by_cases h : i = j
  · simp [onlyIf, h]
  · simp [onlyIf, h, beq_false_of_ne h]
theorem atI_nat {β : Type} {l : List β} {i : Nat} {x : β} (h : l[i]? = some x) : atI l (i : Int) = some x := by
  have hl := (List.getElem?_eq_some_iff.mp h).1
  have : ixN l.length (i : Int) = some i := by
    unfold ixN
    rw [if_pos (by omega), if_pos (by omega)]
    simp
  unfold atI
  rw [this]
  exact h
theorem gIx_lst {l : List Dv} {i : Nat} {x : Dv} (h : l[i]? = some x) : gIx (.lst l) (.int i) = vD x := by
  show (match atI l (i : Int) with | some d => vD d | none => none) = _
  rw [atI_nat h]
theorem gIx_tup {l : List Dv} {i : Nat} {x : Dv} (h : l[i]? = some x) : gIx (.tup l) (.int i) = vD x := by
  show (match atI l (i : Int) with | some d => vD d | none => none) = _
  rw [atI_nat h]
theorem gIx_scr {l : List Int} {i : Nat} {x : Int} (h : l[i]? = some x) : gIx (.scr l) (.int i) = vI x := by
  show (match atI l (i : Int) with | some d => vI d | none => none) = _
  rw [atI_nat h]
theorem gIx_str {s : Str} {i : Nat} {c : Nat} (hl : s.length ≤ 100000) (h : s.cps.toList[i]? = some c) : gIx (.str s) (.int i) = vS ⟨#[c]⟩ := by
  show (if s.length ≤ 100000 then (match atI s.cps.toList (i : Int) with | some c => vS ⟨#[c]⟩ | none => none) else none) = _
  rw [if_pos hl, atI_nat h]
theorem gLen_lst {l : List Dv} : gLen [.lst l] = vI l.length := rfl
theorem gLen_scr {l : List Int} : gLen [.scr l] = vI l.length := rfl
theorem gLen_str {s : Str} (h : s.length ≤ 100000) : gLen [.str s] = vI s.length := by
  show (if s.length ≤ 100000 then vI s.length else none) = _
  rw [if_pos h]
theorem gLe_ {i j : Int} : gLe (.int i) (.int j) = vB (decide (i ≤ j)) := rfl
theorem gLt_ {i j : Int} : gLt (.int i) (.int j) = vB (decide (i < j)) := rfl
theorem gGt_ {i j : Int} : gGt (.int i) (.int j) = vB (decide (i > j)) := rfl
theorem gAdd_ {i j : Int} : gAdd (.int i) (.int j) = vI (i + j) := rfl
theorem gSub_ {i j : Int} : gSub (.int i) (.int j) = vI (i - j) := rfl
theorem gMax2_ {i j : Int} : gMax [.int i, .int j] = gMax2 (.int i) (.int j) := rfl
theorem gMin2_ {i j : Int} : gMin [.int i, .int j] = gMin2 (.int i) (.int j) := rfl
theorem iRange1_ {fa : FA} {env : Env} {S : Sto} {n : Nat} (h : fa env S = .ok S [.d (.int n)]) (hn : n ≤ 1000000) : iRange1 fa env S = .ok S ((List.range n).map fun i : Nat => Dv.int i, none) := by
  unfold iRange1
  rw [h]
  show rng1 S (some (n : Int)) = _
  unfold rng1
  have : smallR (n : Int) = true := by unfold smallR; rw [decide_eq_true (by omega), decide_eq_true (by omega)]; rfl
  simp only [this, if_true]
  unfold rangeD
  congr 2
  simp
end DN
namespace DN
open PySem L2
abbrev box (a b c : Int) : Cell := .lst [.int a, .int b, .int c]
theorem ix_0 {x : Dv} {l : List Dv} : gIx (.lst (x :: l)) (.int 0) = vD x := gIx_lst (i := 0) rfl
theorem ix_1 {x y : Dv} {l : List Dv} : gIx (.lst (x :: y :: l)) (.int 1) = vD y := gIx_lst (i := 1) rfl
theorem ix_2 {x y z : Dv} {l : List Dv} : gIx (.lst (x :: y :: z :: l)) (.int 2) = vD z := gIx_lst (i := 2) rfl
theorem gMod_ {i j : Int} (h : 0 < j) : gMod (.int i) (.int j) = vI (i.fmod j) := by
  show onlyIf (decide (j ≠ 0)) _ = _
  rw [decide_eq_true (by omega)]; rfl
theorem gDiv_ {i j : Int} (h : 0 < j) (h2 : j < 1073741824) : gDiv (.int i) (.int j) = vI (i.fdiv j) := by
  show onlyIf (decide (j ≠ 0) && decide (j.natAbs < 1073741824)) _ = _
  rw [decide_eq_true (by omega), decide_eq_true (by omega)]; rfl
theorem gMul_ {i j : Int} (h : -(2 ^ 64) < i) (h2 : i < 2 ^ 64) : gMul (.int i) (.int j) = vI (i * j) := by
  show onlyIf (small64 i || small64 j) _ = _
  have : small64 i = true := by unfold small64; rw [decide_eq_true h, decide_eq_true h2]; rfl
  rw [this]; rfl
theorem gPow_ {i : Int} {j : Nat} (h : i.natAbs < 2 ^ 64) (h2 : j ≤ 1000000) : gPow (.int i) (.int j) = vI (i ^ j) := by
  show onlyIf (decide (0 ≤ (j : Int)) && decide ((j : Int) ≤ 1000000) && decide (i.natAbs < 2 ^ 64)) _ = _
  rw [decide_eq_true (by omega), decide_eq_true (by omega), decide_eq_true h]; rfl
theorem exit_d {k : Nat} {S : Sto} {d : Dv} : exitR k (.ok S (.val (.d d))) = .ok (S.take k) (.val (.d d)) := rfl
theorem set_ix {T : Sto} {n k : Nat} {l : List Dv} {v : Dv} {env : Env} (h : T[n]? = some (.lst l)) (hk : k < l.length) : setIx env T (.r n) (.d (.int k)) (.d v) = .nx env (T.set n (.lst (l.set k v))) := by
  have e : ixN l.length (k : Int) = some k := by
    unfold ixN
    rw [if_pos (by omega), if_pos (by omega)]
    simp
  show (match T[n]? with | some c => (match putC c (.int k) v with | some c2 => RS.nx env (T.set n c2) | none => .no) | none => .no) = _
  rw [h]
  show (match (match ixN l.length (k : Int) with | some j => some (Cell.lst (l.set j v)) | none => none) with | some c2 => RS.nx env (T.set n c2) | none => .no) = _
  rw [e]
theorem set_ix0 {T : Sto} {n : Nat} {x v : Dv} {l : List Dv} {env : Env} (h : T[n]? = some (.lst (x :: l))) : setIx env T (.r n) (.d (.int 0)) (.d v) = .nx env (T.set n (.lst (v :: l))) := set_ix (k := 0) h (by simp)
theorem set_ix2 {T : Sto} {n : Nat} {x y z v : Dv} {l : List Dv} {env : Env} (h : T[n]? = some (.lst (x :: y :: z :: l))) : setIx env T (.r n) (.d (.int 2)) (.d v) = .nx env (T.set n (.lst (x :: y :: v :: l))) := set_ix (k := 2) h (by simp)
theorem take_set {T : Sto} {n : Nat} {c : Cell} : (T.set n c).take T.length = T.set n c := List.take_of_length_le (by simp)
theorem take_len {T : Sto} : T.take T.length = T := List.take_length
theorem get_set {T : Sto} {n : Nat} {c d : Cell} (h : T[n]? = some d) : (T.set n c)[n]? = some c := List.getElem?_set_self (List.getElem?_eq_some_iff.mp h).1
/-- the box at cell n, after at most m turns of the small numbers -/
def BxC (B : Int) (m : Nat) (k : Cell) : Prop := ∃ a b c : Int, k = box a b c ∧ 0 ≤ b ∧ b < B ∧ 0 ≤ c ∧ c ≤ m
theorem BxC.le {B : Int} {n m : Nat} {k : Cell} (h : BxC B n k) (l : n ≤ m) : BxC B m k := by
  obtain ⟨a, b, c, rfl, h1, h2, h3, h4⟩ := h
  exact ⟨a, b, c, rfl, h1, h2, h3, by omega⟩
section
variable {fa : FE} {fl : FA} {ft : FT} {fe : FE} {vs : List Nat} {env : Env} {S : Sto} {i n : Nat}
theorem fLc_it {d : Dv} {l : List Dv} (g : Dv → Dv) (h1 : fa env S = .ok S (.val (.d d))) (h2 : iterD d = some l) (hl : l.length ≤ 100000)
    (h : ∀ x ∈ l, Got (fe ((wipeE env vs).set i (.v (.d x))) S) S (.d (g x))) : fLc (iVal fa) (tgN i) kYes fe vs env S = .ok S (.new (.lst (l.map g))) := by
  refine fLc_map (t := (l, none)) g ?_ rfl hl h
  unfold iVal
  rw [h1]
  show itOf S (.d d) = _
  simp only [itOf, h2]
theorem range_1 (h : fl env S = .ok S [.d (.int n)]) (hn : n ≤ 100000) : iRange1 fl env S = .ok S ((List.range n).map fun i : Nat => Dv.int i, none) := iRange1_ h (by omega)
theorem fLc_rgF (p : Nat → Bool) (g : Nat → Dv) (h1 : fl env S = .ok S [.d (.int n)]) (hn : n ≤ 100000)
    (h0 : ∀ k, k < n → ft ((wipeE env vs).set i (.v (.d (.int k)))) S = .ok S (p k))
    (h : ∀ k, k < n → p k = true → Got (fe ((wipeE env vs).set i (.v (.d (.int k)))) S) S (.d (g k))) : fLc (iRange1 fl) (tgN i) ft fe vs env S = .ok S (.new (.lst (((List.range n).filter p).map g))) := by
  have := fLc_pure (fi := iRange1 fl) (tg := tgN i) (ft := ft) (fe := fe) (vs := vs) (env := env) (S := S) (fun d => match d with | .int s => p s.toNat | _ => false) (fun d => match d with | .int s => g s.toNat | _ => .non) (range_1 h1 hn) rfl (by simpa using hn) (fun x hx => by
    obtain ⟨s, hs, rfl⟩ := List.mem_map.mp hx
    exact ⟨_, rfl, h0 s (List.mem_range.mp hs), h s (List.mem_range.mp hs)⟩)
  rw [this, List.filter_map, List.map_map]
  rfl
end
theorem lc_ix {t : Its} {tg : FG} {ft : FT} {fe : FE} {env : Env} (I : Nat → Sto → Prop) (P : Nat → Dv → Prop) (ht : t.2 = none) : ∀ {l acc : List Dv} {i : Nat} {S : Sto}, I i S →
    (∀ k d S, l[k]? = some d → I (i + k) S → ∃ env' S' y, tg d env = some env' ∧ ft env' S = .ok S true ∧ Got (fe env' S) S' (.d y) ∧ I (i + k + 1) S' ∧ P (i + k) y) → acc.length + l.length ≤ 100000 →
    ∃ S' ys, lcGo t tg ft fe env l S acc = .ok S' (acc ++ ys) ∧ I (i + l.length) S' ∧ ys.length = l.length ∧ ∀ k y, ys[k]? = some y → P (i + k) y
  | [], acc, i, S, hI, h, hl => ⟨S, [], by
      have : lockOk t S = true := by unfold lockOk; rw [ht]
      simp [lcGo, this], hI, rfl, fun k y h => by simp at h⟩
  | d :: l, acc, i, S, hI, h, hl => by
    have hk : lockOk t S = true := by unfold lockOk; rw [ht]
    obtain ⟨env', S1, y, h1, h2, h3, h4, h5⟩ := h 0 d S rfl hI
    have hl' : acc.length + l.length + 1 ≤ 100000 := by simpa [Nat.add_assoc] using hl
    obtain ⟨S2, ys, e1, e2, e3, e4⟩ := lc_ix I P ht (l := l) (acc := acc ++ [y]) (i := i + 1) (S := S1) h4 (fun k x S hx hi => by
      have := h (k + 1) x S (by simpa using hx) (by rw [show i + (k + 1) = i + 1 + k by omega]; exact hi)
      rw [show i + (k + 1) + 1 = i + 1 + k + 1 by omega, show i + (k + 1) = i + 1 + k by omega] at this
      exact this) (by simp; omega)
    refine ⟨S2, y :: ys, ?_, by rw [List.length_cons, show i + (l.length + 1) = i + 1 + l.length by omega]; exact e2, by rw [List.length_cons, List.length_cons, e3], fun k z hz => ?_⟩
    · simp only [lcGo, hk, if_true, h1, h2, noex_ok, R.bind]
      have e : (fe env' S).noex.bindV (fun S2 v => onD v fun y => if acc.length < 100000 then lcGo t tg ft fe env l S2 (acc ++ [y]) else .no) = lcGo t tg ft fe env l S1 (acc ++ [y]) := by
        generalize fe env' S = r at h3
        cases h3 with
        | val =>
          simp only [noex_ok, R.bindV, onD]
          rw [if_pos (by omega)]
        | new S c d' hc => rw [noex_ok, bindV_new hc]; simp only [onD]; rw [if_pos (by omega)]
      rw [e, e1]
      simp
    · cases k with
      | zero => simp at hz; subst hz; exact h5
      | succ k =>
        have := e4 k z (by simpa using hz)
        rw [show i + (k + 1) = i + 1 + k by omega]
        exact this
/-- a comprehension over a range that draws -/
theorem fLc_draw {fl : FA} {fe : FE} {vs : List Nat} {env : Env} {S : Sto} {i n : Nat} (I : Nat → Sto → Prop) (P : Nat → Dv → Prop) (h1 : fl env S = .ok S [.d (.int n)]) (hn : n ≤ 100000) (hI : I 0 S)
    (h : ∀ k S, k < n → I k S → ∃ S' y, Got (fe ((wipeE env vs).set i (.v (.d (.int k)))) S) S' (.d y) ∧ I (k + 1) S' ∧ P k y) :
    ∃ S' ys, fLc (iRange1 fl) (tgN i) kYes fe vs env S = .ok S' (.new (.lst ys)) ∧ I n S' ∧ ys.length = n ∧ ∀ k y, ys[k]? = some y → P k y := by
  obtain ⟨S', ys, e1, e2, e3, e4⟩ := lc_ix (t := ((List.range n).map fun i : Nat => Dv.int i, none)) (tg := tgN i) (ft := kYes) (fe := fe) (env := wipeE env vs) I P rfl (l := (List.range n).map fun i : Nat => Dv.int i) (acc := []) (i := 0) hI (fun k d T hd hi => by
    rw [List.getElem?_map] at hd
    cases q : (List.range n)[k]? with
    | none => rw [q] at hd; cases hd
    | some x =>
      rw [q] at hd
      have hx := List.getElem?_eq_some_iff.mp q
      have : x = k := by rw [← hx.2]; simp
      subst this
      cases hd
      have hxn : x < n := by simpa using hx.1
      rw [Nat.zero_add] at hi ⊢
      obtain ⟨S', y, h2, h3, h4⟩ := h x T hxn hi
      exact ⟨_, S', y, rfl, rfl, h2, h3, h4⟩) (by simpa using hn)
  refine ⟨S', ys, ?_, by simpa using e2, by simpa using e3, fun k y hy => by simpa using e4 k y hy⟩
  unfold fLc
  rw [range_1 h1 hn]
  simp only [R.bind]
  rw [e1]
  rfl
theorem all_of_ix {ys : List Dv} {P : Dv → Prop} (h : ∀ (k : Nat) y, ys[k]? = some y → P y) : ∀ y ∈ ys, P y := fun y hy => by
  obtain ⟨k, hk, rfl⟩ := List.mem_iff_getElem.mp hy
  exact h k _ (List.getElem?_eq_getElem hk)
/-- a loop over items that do not change, by an invariant; it runs to its end -/
theorem for_inv {t : Its} {tg : FG} {body : FS} (ht : t.2 = none) : ∀ {l : List Dv} {env : Env} {S : Sto} (I : Nat → Env → Sto → Prop) (j : Nat), I j env S →
    (∀ k d env S, l[k]? = some d → I (j + k) env S → ∃ env1 env' S', tg d env = some env1 ∧ body env1 S = .nx env' S' ∧ I (j + k + 1) env' S') → ∃ env' S', forGo t tg body l env S = .nx env' S' ∧ I (j + l.length) env' S'
  | [], env, S, I, j, hI, _ => ⟨env, S, by
      have : lockOk t S = true := by unfold lockOk; rw [ht]
      simp [forGo, this], hI⟩
  | d :: l, env, S, I, j, hI, h => by
    have hk : lockOk t S = true := by unfold lockOk; rw [ht]
    obtain ⟨env1, env', S', h1, h2, h3⟩ := h 0 d env S rfl hI
    obtain ⟨e2, S2, h4, h5⟩ := for_inv ht (l := l) I (j + 1) h3 (fun k d' e S hd hi => by
      have := h (k + 1) d' e S (by simpa using hd) (by rw [show j + (k + 1) = j + 1 + k by omega]; exact hi)
      rw [show j + (k + 1) + 1 = j + 1 + k + 1 by omega] at this
      exact this)
    refine ⟨e2, S2, ?_, by rw [List.length_cons, show j + (l.length + 1) = j + 1 + l.length by omega]; exact h5⟩
    simp only [forGo, hk, if_true, h1, h2, h4]
/-- over a range -/
theorem for_rg {fl : FA} {body : FS} {env : Env} {S : Sto} {i n : Nat} (I : Nat → Env → Sto → Prop) (h1 : fl env S = .ok S [.d (.int n)]) (hn : n ≤ 100000) (h0 : I 0 env S)
    (h : ∀ k env S, k < n → I k env S → ∃ env' S', body (env.set i (.v (.d (.int k)))) S = .nx env' S' ∧ I (k + 1) env' S') : ∃ env' S', kFor (iRange1 fl) (tgN i) body env S = .nx env' S' ∧ I n env' S' := by
  obtain ⟨e, S', h2, h3⟩ := for_inv (t := ((List.range n).map fun i : Nat => Dv.int i, none)) (tg := tgN i) (body := body) rfl (l := (List.range n).map fun i : Nat => Dv.int i) (env := env) (S := S) I 0 h0 (fun k d e T hd hi => by
    rw [List.getElem?_map] at hd
    cases q : (List.range n)[k]? with
    | none => rw [q] at hd; cases hd
    | some x =>
      rw [q] at hd
      have hx := List.getElem?_eq_some_iff.mp q
      have : x = k := by rw [← hx.2]; simp
      subst this
      cases hd
      have hxn : x < n := by simpa using hx.1
      rw [Nat.zero_add] at hi ⊢
      obtain ⟨e', T', h4, h5⟩ := h x e T hxn hi
      exact ⟨_, e', T', rfl, h4, h5⟩)
  refine ⟨e, S', ?_, by simpa using h3⟩
  unfold kFor
  rw [range_1 h1 hn]
  exact h2
/-- a is a list or a tuple of the items ds, in the state S -/
structure Sq (S : Sto) (a : Vr) (ds : List Dv) : Prop where
  it : ∃ t, itOf S a = .ok S t ∧ t.1 = ds ∧ lockOk t S = true
  sn : ∃ d, snap S a = some d ∧ (∀ cs, gIsi cs d (.tup [.ty "list", .ty "tuple"]) = vB true) ∧ gLen [d] = vI ds.length ∧ gTuple [d] = vT ds ∧ gList [d] = nL ds ∧ ∀ i : Nat, ∀ x, ds[i]? = some x → gIx d (.int i) = vD x
  cl : clsV S a = none
theorem Sq.lst {S : Sto} {ds : List Dv} : Sq S (.d (.lst ds)) ds := ⟨⟨(ds, none), rfl, rfl, rfl⟩, ⟨.lst ds, rfl, fun _ => rfl, rfl, rfl, rfl, fun i x h => gIx_lst h⟩, rfl⟩
theorem Sq.tup {S : Sto} {ds : List Dv} : Sq S (.d (.tup ds)) ds := ⟨⟨(ds, none), rfl, rfl, rfl⟩, ⟨.tup ds, rfl, fun _ => rfl, rfl, rfl, rfl, fun i x h => gIx_tup h⟩, rfl⟩
theorem Sq.cell {S : Sto} {n : Nat} {ds : List Dv} (h : S[n]? = some (.lst ds)) : Sq S (.r n) ds := by
  refine ⟨⟨(ds, some n), ?_, rfl, ?_⟩, ⟨.lst ds, ?_, fun _ => rfl, rfl, rfl, rfl, fun i x h => gIx_lst h⟩, ?_⟩
  · simp [itOf, h]
  · simp [lockOk, h, beqDs_refl]
  · simp [snap, h]
  · simp [clsV, h]
theorem cutS_to {s : Str} {k : Nat} (h : k ≤ s.length) : cutS s none (some (k : Int)) = ⟨(s.cps.toList.take k).toArray⟩ := by
  unfold cutS
  rw [HT.sIx_nat, HT.sIx_none, Nat.min_eq_left h]
  simp
theorem cutS_from {s : Str} {k : Nat} (h : k ≤ s.length) : cutS s (some (k : Int)) none = ⟨(s.cps.toList.drop k).toArray⟩ := by
  unfold cutS
  rw [HT.sIx_nat, HT.sIx_none, Nat.min_eq_left h]
  rw [List.take_of_length_le (by simp [Str.length])]
theorem app_tl (a b : Str) : (a ++ b).cps.toList = a.cps.toList ++ b.cps.toList := by
  show (a.cps ++ b.cps).toList = _
  simp
theorem str_ext {a b : Str} (h : a.cps.toList = b.cps.toList) : a = b := by
  cases a; cases b
  congr
  exact Array.toList_inj.mp h
theorem gAdd_str {a b : Str} (h : a.length + b.length ≤ 100000) : gAdd (.str a) (.str b) = vS (a ++ b) := by
  show onlyIf (decide (a.length + b.length ≤ 100000)) _ = _
  rw [decide_eq_true h]; rfl
end DN
namespace DN
open PySem PySem.Spec PyProof.Rows L2 Evl
end DN
namespace DN
open PySem PySem.Spec PyProof.Rows L2 Evl
end DN
namespace DN
open PySem PySem.Spec PyProof.Rows L2 Evl
def cd2 (p : Int × Int) : Int := p.1 * 64 + p.2
section
variable {Z : Zx} {X : Cx} {Ew : L2.St → XK} {S : Sto} {G H : Hp} {α : List Addr} {Q : VK} {E : XK}
def rSetQ (K : PySem.W.Frag) (P : Program) (w : World) : List V → Hp → VK → Prop := fun xs H Q => ∃ (l : Addr) (ks : List (Addr × List Int)), xs = [V.ref l] ∧ (SqL K H l (ks.map fun p => V.ref p.1) ∨ SqT K H l (ks.map fun p => V.ref p.1)) ∧ (∀ p ∈ ks, SqT K H p.1 (p.2.map V.int)) ∧ ks.length < 64 ∧
  ∀ a L, H a = none → (∀ p ∈ L, p ∈ ks) → (∀ p ∈ ks, p.2 ∈ L.map (·.2)) → Q (.ref a) (upd H a (SetTO P w a L))
theorem rSetQ.imp {xs : List V} {Q Q' : VK} {K : PySem.W.Frag} {P : Program} {w : World} (h : rSetQ K P w xs H Q) (k : ∀ v H, Q v H → Q' v H) : rSetQ K P w xs H Q' := by
  obtain ⟨l, ks, h1, h2, h3, h4, h5⟩ := h
  exact ⟨l, ks, h1, h2, h3, h4, fun a L x y z => k _ _ (h5 a L x y z)⟩
end
end DN
namespace DN
open PySem PySem.Spec PyProof.Rows L2 Evl
end DN
namespace DN
open PySem PySem.Spec PyProof.Rows L2 Evl
end DN
namespace DN
open PySem PySem.Spec PyProof.Rows L2 Evl
end DN
namespace DN
open PySem PySem.Spec PyProof.Rows L2 Evl
end DN
namespace DN
open PySem PySem.Spec PyProof.Rows L2 Evl
section
variable {Z : Zx} {W : WX} {X : Cx} {Ew : L2.St → XK} {G H G2 H2 : Hp} {α α2 : List Addr} {S : Sto}
/-- rows of ours -/
structure Rws (Z : Zx) (G : Hp) (α : List Addr) (H0 H : Hp) (bs : List Addr) (rows : List (List Dv)) : Prop where
  len : bs.length = rows.length
  nd : bs.Nodup
  at_ : ∀ (k : Nat) row, rows[k]? = some row → ∃ b ys, bs[k]? = some b ∧ G b = none ∧ b ∉ α ∧ H0 b = none ∧ H b = some (.lst ys) ∧ OnL Z G row ys
theorem Rws.step {H0 : Hp} {bs : List Addr} {rows : List (List Dv)} (h : Rws Z G α H0 H bs rows) (f : Fr G α H G2 α2 H2) : Rws Z G2 α2 H0 H2 bs rows := ⟨h.len, h.nd, fun k row hk => by
  obtain ⟨b, ys, h1, h2, h3, h4, h5, h6⟩ := h.at_ k row hk
  obtain ⟨q1, q2, q3⟩ := f.ours h2 h3 h5
  exact ⟨b, ys, h1, q1, q2, h4, q3, h6.up f.g⟩⟩
theorem Rws.mem {H0 : Hp} {bs : List Addr} {rows : List (List Dv)} (h : Rws Z G α H0 H bs rows) {b : Addr} (hb : b ∈ bs) : G b = none ∧ b ∉ α ∧ H0 b = none ∧ H b ≠ none := by
  obtain ⟨k, hk, rfl⟩ := List.mem_iff_getElem.mp hb
  have hk' : k < rows.length := by rw [← h.len]; exact hk
  obtain ⟨c, ys, h1, h2, h3, h4, h5, _⟩ := h.at_ k rows[k] (List.getElem?_eq_getElem hk')
  rw [List.getElem?_eq_getElem hk] at h1
  cases h1
  exact ⟨h2, h3, h4, by rw [h5]; exact fun e => nomatch e⟩
end
end DN
namespace DN
open PySem PySem.Spec PyProof.Rows L2 Evl
end DN
namespace DN
open PySem PySem.Spec PyProof.Rows L2 Evl
section
variable {Z : Zx} {X : Cx} {Ew : L2.St → XK} {S : Sto} {G H : Hp} {α : List Addr} {Q : VK} {E : XK}
def fDNew (t : Bool) : FE := fun _ S => .ok S (.new (.dc t [] []))
theorem pf_dnewK {pos : Pos} : PF Z Ew X (.Dict [] [] pos) (fDNew false) := ⟨_, pe_dnewK, fun env σ G α S H Q hd oe w p hp => Wk.fresh (c := .dc false [] []) w hd hp ⟨[], ⟨[], rfl, rfl⟩, rfl, OnL.nil'⟩⟩
end
end DN
namespace DN
open PySem PySem.Spec PyProof.Rows L2 Evl
end DN
namespace DN
open PySem PySem.Spec PyProof.Rows L2 Evl
end DN
namespace DN
open PySem PySem.Spec PyProof.Rows L2 Evl
open Sem (wp)
abbrev EnX (h : Heap) (e it : Addr) (i : Int) (old : Value) (a : Addr) (f : Bool) : Prop :=
  h.get? e = some { cls := .type "enumerate", dict := none, data := .fields #[rawInt a, .bool f, .ref it, rawInt i, .none, old], slots := #[] }
section
variable {prog : Program} {w : World} {A : Around} {E : Value → Shared → Prop} {s : Shared}
/-- where the walk stands -/
def EnSt (h : Heap) (e it S : Addr) (i : Nat) : Prop := (i = 0 ∧ ∃ old, IsEnum h e it 0 old) ∨ ∃ old a f oa, EnX h e it i old a f ∧ h.get? a = some oa ∧ a ≠ e ∧ a ≠ it ∧ a ≠ S
theorem EnSt.keep {h h' : Heap} {e it S : Addr} {i : Nat} (x : EnSt h e it S i) (hk : ∀ b o, b ≠ S → h.get? b = some o → h'.get? b = some o) (he : e ≠ S) : EnSt h' e it S i := by
  rcases x with ⟨e1, old, hit⟩ | ⟨old, a, f, oa, hit, ha, h1, h2, h3⟩
  · exact .inl ⟨e1, old, hk _ _ he hit⟩
  · exact .inr ⟨old, a, f, oa, hk _ _ he hit, hk _ _ h3 ha, h1, h2, h3⟩
structure EnG (items : Array Value) (lo : Addr) (h : Heap) (as : List Addr) : Prop where
  rise : as.Pairwise (· < ·)
  above : ∀ a ∈ as, lo < a
  pairs : ∀ (j : Nat) (a : Addr), as[j]? = some a → ∃ t x, items[j]? = some x ∧ h.get? a = some { cls := .type "tuple", data := .seq #[.int j t, x] }
theorem EnG.there {items : Array Value} {lo : Addr} {h : Heap} {as : List Addr} (g : EnG items lo h as) {a : Addr} (ha : a ∈ as) : a < h.objs.size := by
  obtain ⟨j, hj⟩ := List.mem_iff_getElem?.mp ha
  obtain ⟨_, _, _, e⟩ := g.pairs j a hj
  exact Heap.lt_size e
end
end DN
namespace DN
open PySem PySem.Spec PyProof.Rows L2 Evl
end DN
namespace DN
open PySem PySem.Spec PyProof.Rows L2 Evl
end DN
namespace DN
open PySem PySem.Spec PyProof.Rows L2 Evl
end DN
namespace DN
open PySem PySem.Spec PyProof.Rows L2 Evl OP
end DN
namespace DN
open PySem PySem.Spec PyProof.Rows L2 Evl OP
end DN
namespace DN
open PySem PySem.Spec PyProof.Rows L2 Evl OP
end DN
namespace DN
open PySem PySem.Spec PyProof.Rows L2
/-- a clause: its class, the slot of its name, its suite -/
abbrev ClA := Value × Option Nat × (Addr → Value → Option Addr → TS)
/-- behind the suite the name is gone -/
def goneE (D : Ends) (i : Nat) : Ends := { nx := fun σ' H' => D.nx (σ'.set i none) H', rt := D.rt, bk := fun σ' H' => D.bk (σ'.set i none) H', ct := fun σ' H' => D.ct (σ'.set i none) H' }
def wClA (D : Ends) (o : Option Nat) (ts : Addr → Value → Option Addr → TS) : WX := fun cls d σ H => ∀ a, H a = none → match o with
  | none => ts a cls d D σ H
  | some i => ts a cls d (goneE D i) (σ.set i (some (.ref a))) H
def wManyA (K : PySem.W.Frag) (Wout : WX) (D : Ends) : List ClA → WX
  | [] => Wout
  | (c, o, ts) :: r => fun cls d σ H => ∃ b, PySem.W.exmOne K cls c = some b ∧ (b = true → wClA D o ts cls d σ H) ∧ (b = false → wManyA K Wout D r cls d σ H)
/-- the clause's name -/
inductive NameA (X : Cx) : Option Str → Option Nat → Prop
  | no : NameA X none none
  | as {n : Str} {i : Nat} (hi : X.N[i]? = some n) (hln : X.env.kindOf n = some .local) : NameA X (some n) (some i)
inductive HdsA (X : Cx) : List ExceptHandler → List ClA → Prop
  | nil : HdsA X [] []
  | cons {x : Str} {c : Value} {nm : Option Str} {o : Option Nat} {ts : Addr → Value → Option Addr → TS} {b₀ : Stmt} {suite : List Stmt} {np pos' : Pos} {hds : List ExceptHandler} {l : List ClA} (hc : Names X x c) (hn : NameA X nm o)
      (hsu : ∀ (a : Addr) (oe : Obj) (cls : Value) (d : Option Addr) (pn : List (Addr × Obj)), L2N.Zn cls d oe → (∃ vs, oe.data = .fields vs) → PSs (X.suite a ((a, oe) :: pn)) (b₀ :: suite) (ts a cls d)) (r : HdsA X hds l) :
      HdsA X (.ExceptHandler (some (.Name x np)) nm (b₀ :: suite) pos' :: hds) ((c, o, ts) :: l)
section
variable {X : Cx} {body : List Stmt} {h₀ : ExceptHandler} {hds : List ExceptHandler} {l : List ClA} {pos : Pos} {tb : WX → TS} {Wout : WX}
theorem ps_try_manyA (hs : X.stack = X.env :: X.outer) (hf : X.env.frame = some X.env.locals) (hN : X.N.Nodup) (tk : Takes X Wout)
    (hb : ∀ (W : WX) (pn : List (Addr × Obj)) (xe : Value → Shared → Prop), Takes (X.tr pn xe) W → PassesOwn (model X.prog X.w) X.A X.env xe → PSs (X.tr pn xe) body (tb W))
    (hh : HdsA X (h₀ :: hds) l) : PS X (.Try body (h₀ :: hds) [] [] pos) (fun D σ H => tb (wManyA X.K Wout D l) D σ H) := by
  refine ⟨fun pins s σ H D I h => ?_⟩
  have ok := I.ok
  have hfr : X.A.frames = some (X.env :: X.outer) := by rw [ok.frames, hs]
  refine wpAny_Try_except ?_
  refine wpAny_mono ((hb (wManyA X.K Wout D l) (X.pn ++ pins) (fun e s₁ => wpAny (model X.prog X.w) X.A (noteFrame e X.env) (fun _ s₂ => wpAny (model X.prog X.w) X.A (setFlight e none) (fun _ s₃ =>
    wpAny (model X.prog X.w) X.A (handleBy e X.env (h₀ :: hds)) (SP X pins D) X.xe s₃) X.xe s₂) X.xe s₁) (fun u s' xx => ?_) PassesOwn.looking).run [] s σ H D (I.toTry _) h) (fun f s1 hsp => ?_) (fun e s1 he => he)
  · obtain ⟨a, B, sI, pins', σ', H', cls, d, rfl, J', nb, up, sky, na, os, ag, w⟩ := xx
    have J : Inv X pins σ' H' sI := J'.ofTry ok
    have sky' : Sky B (X.env :: X.outer) a (L2N.Zn cls d) X.env.locals s'.heap := by rw [← hs]; exact sky
    show wpAny (model X.prog X.w) X.A (noteFrame (.ref a) X.env) _ _ _
    refine L2N.Sky.land L2N.Zn.steady hfr hf sky' fun h3 fl3 up3 => ?_
    have J3 : Inv X pins σ' H' { s' with heap := h3 } := J.landed nb fl3.1 (up.trans up3) os ag
    obtain ⟨oe3, vs3, he3, hz3, hd3⟩ := fl3.there
    have nfr : a ∉ frs (X.env :: X.outer) := fun hm => by
      obtain ⟨_, o', e', hnf⟩ := fl3.2.2.1.mem hm
      rw [he3] at e'; cases e'
      exact hnf _ hd3
    have nL : a ≠ X.env.locals := fun z => nfr (List.mem_filterMap.mpr ⟨X.env, List.mem_cons_self, by rw [hf, z]⟩)
    have nF : a ∉ X.fs := fun hm => by
      obtain ⟨e, he, q⟩ := List.mem_filterMap.mp hm
      exact nfr (List.mem_filterMap.mpr ⟨e, List.mem_cons_of_mem _ he, q⟩)
    have S3 := J3.suite he3 hd3 na nL nF
    have go : ∀ {hds' : List ExceptHandler} {l' : List ClA}, HdsA X hds' l' → wManyA X.K Wout D l' cls d σ' H' →
        wpAny (model X.prog X.w) X.A (handleBy (.ref a) X.env hds') (SP X pins D) X.xe { s' with heap := h3 } := by
      intro hds' l' hk
      induction hk with
      | nil =>
        intro w
        refine wpAny_handleBy_nil ?_
        obtain ⟨k1, k2, k3, oe, vs, T, oT, ts', he, hz, hd, h1, hr⟩ := id fl3
        unfold PySem.passOn
        refine wpAny_bind (wpAny_field he hd h1 ?_)
        rw [if_neg (show ¬ ((Value.ref T == Value.none) = true) from by simp)]
        have fin : wpAny (model X.prog X.w) X.A (setFlight (.ref a) X.env.frame) (fun _ s4 => wpAny (model X.prog X.w) X.A (throw (.ref a) : Sem Flow) (SP X pins D) X.xe s4) X.xe { s' with heap := h3 } := by
          rw [hf]
          refine HandSPX.setFlight_upZ fl3 fun h4 hh4 up4 => wpAny_throw (tk _ _ ?_)
          exact ⟨a, B, sI, pins, σ', H', cls, d, rfl, J, nb, (up.trans up3).trans up4, .inr (.inr (by rw [hs]; exact hh4)), na, os, ag, w⟩
        first
          | exact wpAny_bind (wpAny_pure (wpAny_bind fin))
          | exact wpAny_bind fin
      | @cons x c nm o ts b₀ suite np pos' hds2 l2 hc hn hsu r ih =>
        intro w
        obtain ⟨b, hb1, hyes, hno⟩ := w
        refine wpAny_handleBy_cons (codeAny_handlers_test ?_) (by intro q; cases q)
        have LT : PySem.W.Looks (model X.prog X.w) h3 (typeOf (.ref a)) cls := fun A Q E s k q => wpAny_typeOf_ref (k _ _ he3) (by rw [hz3.1]; exact q)
        have LM := PySem.W.exm_one (M := model X.prog X.w) (J3.kIn) LT hb1
        have test : ∀ {Q : Value → Shared → Prop} {E : Value → Shared → Prop}, Q c { s' with heap := h3 } → wpAny (model X.prog X.w) (X.A.mark (some (.ref a))) (eval (.Name x np) X.env) Q E { s' with heap := h3 } := fun {Q E} q => by
          obtain ⟨hg, hdbg, hm | ⟨hm, hv, hnn⟩⟩ := hc
          · exact ld_glob (X := X.suite a ((a, oe3) :: (X.pn ++ pins))) S3 hg hm q hdbg
          · exact ld_blt (X := X.suite a ((a, oe3) :: (X.pn ++ pins))) S3 hg hm hv q hnn hdbg
        refine test (LM.here ?_)
        cases b with
        | true =>
          have wy := hyes rfl a na
          cases hn with
          | no =>
            refine codeAny_handlers_suite ?_
            refine HandSPX.lands_againZ fl3 fun h4 fl4 up4 => ?_
            have J4 : Inv X pins σ' H' { s' with heap := h4 } := J.landed nb fl4.1 ((up.trans up3).trans up4) os ag
            obtain ⟨oe4, vs4, he4, hz4, hd4⟩ := fl4.there
            have S4 := J4.suite he4 hd4 na nL nF
            refine wpAny_mono ((hsu a oe4 cls d (X.pn ++ pins) hz4 ⟨_, hd4⟩).run [] _ _ H' _ S4 wy) (fun f s6 hsp => ?_) (fun _ _ z => False.elim z)
            cases f with
            | next =>
              obtain ⟨σ6, H6, S6, q6⟩ := hsp
              exact ⟨_, _, S6.unsuite ok, q6⟩
            | brk =>
              obtain ⟨σ6, H6, S6, q6⟩ := hsp
              exact ⟨_, _, S6.unsuite ok, q6⟩
            | cont =>
              obtain ⟨σ6, H6, S6, q6⟩ := hsp
              exact ⟨_, _, S6.unsuite ok, q6⟩
            | ret u =>
              obtain ⟨v6, σ6, H6, S6, r6, q6⟩ := hsp
              exact ⟨_, _, _, S6.unsuite ok, r6, q6⟩
          | @as n i hi hln =>
            refine codeAny_handlers_suite_as ?_
            refine HandSPX.lands_againZ fl3 fun h4 fl4 up4 => ?_
            have J4 : Inv X pins σ' H' { s' with heap := h4 } := J.landed nb fl4.1 ((up.trans up3).trans up4) os ag
            obtain ⟨oe4, vs4, he4, hz4, hd4⟩ := fl4.there
            have S4 := J4.suite he4 hd4 na nL nF
            refine store_ok (X := X.suite a ((a, oe4) :: (X.pn ++ pins))) (v := .ref a) S4 hN hi (.inl hln) rfl (fun s5 S5 => ?_) (.inr hln)
            refine wpAny_mono ((hsu a oe4 cls d (X.pn ++ pins) hz4 ⟨_, hd4⟩).run [] s5 _ H' _ S5 wy) (fun f s6 hsp => ?_) (fun _ _ z => False.elim z)
            have end_ : ∀ {σ6 : L2.St} {H6 : Hp} {Q : Shared → Prop}, Inv (X.suite a ((a, oe4) :: (X.pn ++ pins))) [] σ6 H6 s6 → (∀ s7, Inv X pins (σ6.set i none) H6 s7 → Q s7) →
                wpAny (model X.prog X.w) X.A (do bindName X.env n .none; unbindBehindTheSuite X.env n pos') (fun _ s7 => Q s7) X.xe s6 := fun {σ6 H6 Q} S6 hq => gone_ok (S6.unsuite ok) hN hi hln hq
            cases f with
            | next =>
              obtain ⟨σ6, H6, S6, q6⟩ := hsp
              exact end_ S6 fun s7 J7 => ⟨_, _, J7, q6⟩
            | brk =>
              obtain ⟨σ6, H6, S6, q6⟩ := hsp
              exact end_ S6 fun s7 J7 => ⟨_, _, J7, q6⟩
            | cont =>
              obtain ⟨σ6, H6, S6, q6⟩ := hsp
              exact end_ S6 fun s7 J7 => ⟨_, _, J7, q6⟩
            | ret u =>
              obtain ⟨v6, σ6, H6, S6, r6, q6⟩ := hsp
              exact end_ S6 fun s7 J7 => ⟨_, _, _, J7, r6, q6⟩
        | false =>
          show wpAny _ X.A (handleBy (.ref a) X.env hds2) _ _ _
          exact ih (hno rfl)
    exact go hh w
  · cases f with
    | next =>
      obtain ⟨σ', H', J', q⟩ := hsp
      exact wpAny_execs_nil ⟨σ', H', J'.ofTry ok, q⟩
    | brk =>
      obtain ⟨σ', H', J', q⟩ := hsp
      exact ⟨σ', H', J'.ofTry ok, q⟩
    | cont =>
      obtain ⟨σ', H', J', q⟩ := hsp
      exact ⟨σ', H', J'.ofTry ok, q⟩
    | ret u =>
      obtain ⟨v, σ', H', J', r, q⟩ := hsp
      exact ⟨v, σ', H', J'.ofTry ok, r, q⟩
end
end DN
namespace DN
open PySem PySem.Spec PyProof.Rows L2 Evl
section
variable {Z : Zx} {W : WX} {X : Cx} {S : Sto} {G H : Hp} {α : List Addr} {e : Expr} {fe : FE} {pos pos' p : Pos}
def kRaise (c : String) (fe : FE) : FS := fun env S => sV env (fe env S) fun S1 v => .ex env S1 (.own c v)
theorem psf_raise {b : Bool} {x : Str} {c : String} {fI D : Addr} {k : Nat} {fd : FuncData} {ps : List Str} (hc : X.calm = true) (tk : Takes X W) (O : OP.OpenC X.K D (Z.cm c)) (iC : PySem.W.findIn X.K (.ref (Z.cm c)) "__init__" = some (some (.ref fI))) (tI : PySem.W.typeIn X.K (.ref fI) = some (.type "function"))
    (F1 : FnOk X.prog X.w X.K X.mg X.base (L2N.CX X.prog X.w) k fI fd ps (OP.spInit X.K D)) (hr : RoomG b (k + 1) X.A) (hb : Binds X.K fd ps []) (hg : Gl X x) (hm : X.mg x = some (.ref (Z.cm c))) (h : PF Z (WE W) X e fe)
    (hdb : (x == ("__debug__" : Str)) = false := by decide) (he : starEach [e] X.env = [(false, eval e X.env)] := by rfl) (hpl : (backTo pos (starEach ([] : List Expr) X.env)).any (·.1) = false := by rfl) :
    PSF Z W X (.Raise (some (.Call (.Name x p) [e] [] pos)) none pos') (kRaise c fe) := by
  refine .of (L2N.ps_raise hc tk (pmk_oexN O.ox iC tI F1 hr.toRoom hb .nil (passes_call tk fun _ _ _ _ z => z.elim) hg hm (pa_cons h.pe pa_nil he) hdb he hpl)) fun env σ G α S H D' hd oe w => ?_
  refine se_tF.bindS hd oe w fun S2 d v H2 G2 α2 _ f2 hd2 oe2 ov w2 => ?_
  refine ⟨by simp, fun a ha => ⟨a, Z.cm c, v, rfl, O, upd_same, fun dx hdx hne => ⟨rfl, dx, [("value", v)], upd_same, ?_, ?_, ?_⟩⟩⟩
  · rw [upd_ne hne, upd_same]
  · rw [upd_ne hne] at hdx
    exact hdx
  · rw [upd_ne hne] at hdx
    have e1 : upd (del (upd (upd (upd H2 a (exo a (Z.cm c) none)) dx (exd dx [("value", v)])) a (exo a (Z.cm c) (some dx))) a) dx (.xd [("value", v)]) = upd H2 dx (.xd [("value", v)]) := by
      funext b
      by_cases h1 : b = dx
      · subst h1
        rw [upd_same, upd_same]
      · rw [upd_ne h1, upd_ne h1]
        by_cases h2 : b = a
        · subst h2
          rw [del_same, ha]
        · rw [del_ne h2, upd_ne h2, upd_ne h1, upd_ne h2]
    rw [e1]
    obtain ⟨h1, h2⟩ := hd2.know (o := .xd [("value", v)]) hdx
    exact w2 σ _ _ _ _ _ h2 h1 (oe2.up h2.g h2.a) ⟨rfl, dx, v, rfl, upd_same, ov.up h2.g h2.a⟩
end
end DN
namespace DN
open PySem PySem.Spec PyProof.Rows L2 Evl
section
variable {Z : Zx} {W : WX} {X : Cx} {S : Sto} {G H : Hp} {α : List Addr} {e : Expr} {fe : FE} {pos pos' p : Pos} {env : Env} {σ : L2.St} {D : Ends}
/-- in a suite nothing is raised -/
abbrev W0 : WX := fun _ _ _ _ => False
abbrev Zx.at (Z : Zx) (a : Addr) (cls : Value) (d : Option Addr) : Zx := ⟨Z.toZt, some (a, cls, d)⟩
def noX (env : Env) : Bool := env.all fun s => match s with | .x _ _ => false | _ => true
theorem noX_at {i : Nat} {c : String} {r : Vr} (h : noX env = true) : env[i]? ≠ some (.x c r) := fun e => by
  have := List.all_eq_true.mp h _ (List.mem_of_getElem? e)
  cases this
theorem OnE.plain {a : Addr} {cls : Value} {d : Option Addr} (h : OnE (Z.at a cls d) G α env σ) (hn : noX env = true) : OnE Z G α env σ := ⟨h.len, h.at_, fun i c r e => absurd e (noX_at hn)⟩
theorem OnE.hot {a : Addr} {cls : Value} {d : Option Addr} (h : OnE Z G α env σ) (hz : Z.xc = none) : OnE (Z.at a cls d) G α env σ := ⟨h.len, h.at_, fun i c r e => by
  obtain ⟨_, _, _, q, _⟩ := h.xs i c r e
  rw [hz] at q
  cases q⟩
theorem OnE.hotSet {a dd : Addr} {c : String} {v : Vr} {w : V} (i : Nat) (h : OnE Z G α env σ) (hz : Z.xc = none) (hd : G dd = some (.xd [(("value" : Str), w)])) (hv : OnR Z G α v w) : OnE (Z.at a (.ref (Z.cm c)) (some dd)) G α (env.set i (.x c v)) (σ.set i (some (.ref a))) := by
  refine ⟨by rw [List.length_set, List.length_set]; exact h.len, fun j e he => ?_, fun j c' r he => ?_⟩
  · by_cases q : i = j
    · subst q
      by_cases hl : i < env.length
      · rw [List.getElem?_set_self hl] at he
        cases he
      · rw [List.getElem?_eq_none (by rw [List.length_set]; omega)] at he
        cases he
    · rw [List.getElem?_set_ne q] at he ⊢
      exact h.at_ j e he
  · by_cases q : i = j
    · subst q
      by_cases hl : i < env.length
      · rw [List.getElem?_set_self hl] at he
        cases he
        exact ⟨a, dd, w, rfl, List.getElem?_set_self (by rw [← h.len]; exact hl), hd, hv⟩
      · rw [List.getElem?_eq_none (by rw [List.length_set]; omega)] at he
        cases he
    · rw [List.getElem?_set_ne q] at he
      obtain ⟨_, _, _, q2, _⟩ := h.xs j c' r he
      rw [hz] at q2
      cases q2
theorem AllC.imp {P Q : String → Prop} (h : ∀ c, P c → Q c) : ∀ {cs : List String}, AllC P cs → AllC Q cs
  | [], _ => trivial
  | _ :: _, ⟨h1, h2⟩ => ⟨h _ h1, AllC.imp h h2⟩
theorem CsOk.hot {cs : List String} {a : Addr} {cls : Value} {d : Option Addr} (h : CsOk Z cs) : CsOk (Z.at a cls d) cs := ⟨h.all.imp fun c x => ⟨x.cl, x.it, x.kc, x.kb⟩, h.two⟩
def fXv (errs : List String) (i : Nat) : FE := fun env S => match env[i]? with
  | some (.x c r) => if errs.contains c then .ok S (.val r) else .no
  | _ => .no
theorem pf_xv {errs : List String} {i : Nat} {x : Str} {a : Addr} {oe : Obj} {cls : Value} {d : Option Addr} {pn : List (Addr × Obj)} {Ew : L2.St → XK} (T : AllC (fun c => XfC X.K (Z.cm c) ∧ PySem.W.findIn X.K (.ref (Z.cm c)) "value" = some none) errs) (hz : L2N.Zn cls d oe) (hf : ∃ vs, oe.data = .fields vs)
    (hN : X.N[i]? = some x := by rfl) (hv : Vis X.env.scope x := by first | exact Or.inl rfl | exact Or.inr (Or.inl rfl) | exact Or.inr (Or.inr rfl)) (hd : (x == ("__debug__" : Str)) = false := by decide)
    (hcd : (x == ("__classdict__" : Str)) = false := by decide) (hb : attributeBase (.Name x p) "value" X.env (eval (.Name x p) X.env) = eval (.Name x p) X.env := by rfl) : PF (Z.at a cls d) Ew (X.suite a ((a, oe) :: pn)) (.Attribute (.Name x p) "value" pos) (fXv errs i) := by
  refine ⟨fun σ H Q => ∃ c ∈ errs, tXf a cls d (Z.cm c) "value" (tVar i) σ H Q, ⟨fun pins s σ H Q I h => ?_⟩, fun env σ G α S H Q hd oe w => ?_⟩
  · obtain ⟨c, hc, h⟩ := h
    obtain ⟨t1, t2⟩ := T.mem (by simpa using hc)
    exact (pe_xf (X := X) t1 t2 hz.zc hf (pe_var (X := X.suite a ((a, oe) :: pn)) hN hv hd hcd) hb).run pins s σ H Q I h
  · unfold fXv at w
    cases q : env[i]? with
    | none => rw [q] at w; exact w.elim
    | some s =>
      rw [q] at w
      cases s with
      | u => exact w.elim
      | v r => exact w.elim
      | x c r =>
        simp only at w
        by_cases hc : errs.contains c = true
        · rw [if_pos hc] at w
          obtain ⟨a', dd, v, h1, h2, h3, h4⟩ := oe.xs i c r q
          have h1 : some (a, cls, d) = some (a', Value.ref (Z.cm c), some dd) := h1
          simp only [Option.some.injEq, Prod.mk.injEq] at h1
          obtain ⟨rfl, rfl, rfl⟩ := h1
          exact ⟨c, by simpa using hc, _, h2, rfl, rfl, dd, _, v, rfl, hd.ex _ _ h3, by simp [List.lookup], w H G α (Fr.refl _ _ _) hd v h4⟩
        · rw [if_neg hc] at w
          exact w.elim
abbrev Cl := String × Option Nat × FS
def pick (b : String) (cl : List Cl) (c : String) : Option (Option Nat × FS) := (cl.find? fun k => k.1 == c || k.1 == b).map (·.2)
def ckX (r : RS) : RS := match r with
  | .nx env S => if noX env then .nx env S else .no
  | .bk env S => if noX env then .bk env S else .no
  | .ct env S => if noX env then .ct env S else .no
  | .rt S r => .rt S r
  | _ => .no
def goneS (i : Nat) (r : RS) : RS := match r with
  | .nx env S => .nx (env.set i .u) S
  | .bk env S => .bk (env.set i .u) S
  | .ct env S => .ct (env.set i .u) S
  | r => r
def goneR (i : Nat) (r : RS) : RS := ckX (goneS i r)
def runCl (o : Option (Option Nat × FS)) (c : String) (v : Vr) (env : Env) (S : Sto) : RS := match o with
  | none => .ex env S (.own c v)
  | some (none, f) => ckX (f env S)
  | some (some i, f) => goneR i (f (env.set i (.x c v)) S)
def kTry (b : String) (errs : List String) (cl : List Cl) (fb : FS) : FS := fun env S => match fb env S with
  | .ex e2 S2 (.own c v) => if errs.contains c then runCl (pick b cl c) c v e2 S2 else .no
  | .ex _ _ (.blt _) => .no
  | r => r
theorem ckX_ok {r : RS} {a : Addr} {cls : Value} {d : Option Addr} (w : WkS Z (ckX r) G α H D W) : WkS (Z.at a cls d) r G α H D W0 := by
  cases r with
  | nx env S =>
    unfold ckX at w
    by_cases h : noX env = true
    · simp only [h, if_true] at w
      exact fun σ2 H2 G2 α2 f hd oe => w σ2 H2 G2 α2 f hd (oe.plain h)
    · simp only [h, if_false] at w
      exact w.elim
  | bk env S =>
    unfold ckX at w
    by_cases h : noX env = true
    · simp only [h, if_true] at w
      exact fun σ2 H2 G2 α2 f hd oe => w σ2 H2 G2 α2 f hd (oe.plain h)
    · simp only [h, if_false] at w
      exact w.elim
  | ct env S =>
    unfold ckX at w
    by_cases h : noX env = true
    · simp only [h, if_true] at w
      exact fun σ2 H2 G2 α2 f hd oe => w σ2 H2 G2 α2 f hd (oe.plain h)
    · simp only [h, if_false] at w
      exact w.elim
  | rt S r =>
    have w : Wk Z (.ok S r) G α H (pRt Z D.rt) E0 := w
    show Wk (Z.at a cls d) (.ok S r) G α H (pRt (Z.at a cls d) D.rt) E0
    intro H2 G2 α2 f hd
    have := w H2 G2 α2 f hd
    cases r with
    | val v => exact this
    | new c => exact fun p n => this p ⟨n.h, n.g, n.a, n.c⟩
  | ex env S x => exact w.elim
  | no => exact w.elim
theorem goneR_ok {r : RS} {i : Nat} {a : Addr} {cls : Value} {d : Option Addr} (w : WkS Z (goneR i r) G α H D W) : WkS (Z.at a cls d) r G α H (goneE D i) W0 := by
  have w' : WkS (Z.at a cls d) (goneS i r) G α H D W0 := ckX_ok w
  cases r with
  | nx env S => exact fun σ2 H2 G2 α2 f hd oe => w' (σ2.set i none) H2 G2 α2 f hd (oe.forget i)
  | bk env S => exact fun σ2 H2 G2 α2 f hd oe => w' (σ2.set i none) H2 G2 α2 f hd (oe.forget i)
  | ct env S => exact fun σ2 H2 G2 α2 f hd oe => w' (σ2.set i none) H2 G2 α2 f hd (oe.forget i)
  | rt S r => exact w'
  | ex env S x => exact w'
  | no => exact w'.elim
inductive HdF (Z : Zx) (X : Cx) : List ExceptHandler → List Cl → Prop
  | nil : HdF Z X [] []
  | cons {x : Str} {c : String} {nm : Option Str} {o : Option Nat} {f : FS} {b₀ : Stmt} {suite : List Stmt} {np pos' : Pos} {hds : List ExceptHandler} {l : List Cl} (hc : Names X x (.ref (Z.cm c))) (hn : NameA X nm o)
      (hsu : ∀ (a : Addr) (oe : Obj) (cls : Value) (d : Option Addr) (pn : List (Addr × Obj)), L2N.Zn cls d oe → (∃ vs, oe.data = .fields vs) → PSsF (Z.at a cls d) W0 (X.suite a ((a, oe) :: pn)) (b₀ :: suite) f) (r : HdF Z X hds l) :
      HdF Z X (.ExceptHandler (some (.Name x np)) nm (b₀ :: suite) pos' :: hds) ((c, o, f) :: l)
abbrev clA (Z : Zx) (k : Cl) : ClA := (.ref (Z.cm k.1), k.2.1, fun a cls d => tS (Z.at a cls d) W0 k.2.2)
theorem HdF.a : ∀ {hds : List ExceptHandler} {l : List Cl}, HdF Z X hds l → HdsA X hds (l.map (clA Z))
  | _, _, .nil => .nil
  | _, _, .cons hc hn hsu r => .cons hc hn (fun a oe cls d pn h1 h2 => (hsu a oe cls d pn h1 h2).ps) r.a
theorem many_ok {K : PySem.W.Frag} {b c : String} {v : Vr} {e2 : Env} {S2 : Sto} {dd : Addr} {w0 : V} (hz : Z.xc = none) (hd : Hd Z G α S2 H) (oe : OnE Z G α e2 σ) (h1 : G dd = some (.xd [(("value" : Str), w0)])) (h2 : OnR Z G α v w0) : ∀ {cl : List Cl},
    (∀ k ∈ cl, PySem.W.exmOne K (.ref (Z.cm c)) (.ref (Z.cm k.1)) = some (k.1 == c || k.1 == b)) → WkS Z (runCl (pick b cl c) c v e2 S2) G α H D W → wManyA K W D (cl.map (clA Z)) (.ref (Z.cm c)) (some dd) σ H
  | [], _, w => w σ _ _ H G α (Fr.refl _ _ _) hd oe ⟨rfl, dd, w0, rfl, h1, h2⟩
  | k :: cl, hx, w => by
    refine ⟨_, hx k (by simp), fun hb => ?_, fun hb => ?_⟩
    · have e : pick b (k :: cl) c = some k.2 := by unfold pick; rw [List.find?_cons_of_pos (by simpa using hb)]; rfl
      rw [e] at w
      obtain ⟨kc, ko, kf⟩ := k
      intro a ha
      cases ko with
      | none => exact ⟨e2, G, α, S2, hd, oe.hot hz, ckX_ok w⟩
      | some i => exact ⟨e2.set i (.x c v), G, α, S2, hd, oe.hotSet i hz h1 h2, goneR_ok w⟩
    · have e : pick b (k :: cl) c = pick b cl c := by unfold pick; rw [List.find?_cons_of_neg (by rw [hb]; decide)]
      rw [e] at w
      exact many_ok hz hd oe h1 h2 (fun k hk => hx k (List.mem_cons_of_mem _ hk)) w
theorem psf_try {b : String} {errs : List String} {cl : List Cl} {fb : FS} {body : List Stmt} {h₀ : ExceptHandler} {hds : List ExceptHandler} (hz : Z.xc = none) (hs : X.stack = X.env :: X.outer) (hf : X.env.frame = some X.env.locals) (hN : X.N.Nodup) (tk : Takes X W)
    (hb : ∀ (W' : WX) (pn : List (Addr × Obj)) (xe : Value → Shared → Prop), Takes (X.tr pn xe) W' → PassesOwn (model X.prog X.w) X.A X.env xe → PSsF Z W' (X.tr pn xe) body fb)
    (hx : AllC (fun c => AllC (fun n => PySem.W.exmOne X.K (.ref (Z.cm c)) (.ref (Z.cm n)) = some (n == c || n == b)) (cl.map (·.1))) errs)
    (hh : HdF Z X (h₀ :: hds) cl) : PSF Z W X (.Try body (h₀ :: hds) [] [] pos) (kTry b errs cl fb) := by
  refine .of (ps_try_manyA (tb := fun W' => tS Z W' fb) hs hf hN tk (fun W' pn xe t1 t2 => (hb W' pn xe t1 t2).ps) hh.a) fun env σ G α S H D hd oe w => ⟨env, G, α, S, hd, oe, ?_⟩
  unfold kTry at w
  cases q : fb env S with
  | nx e2 S2 => rw [q] at w; exact w
  | bk e2 S2 => rw [q] at w; exact w
  | ct e2 S2 => rw [q] at w; exact w
  | rt S2 r => rw [q] at w; exact w
  | no => rw [q] at w; exact w.elim
  | ex e2 S2 x =>
    rw [q] at w
    cases x with
    | blt n => exact w.elim
    | own c v =>
      simp only at w
      by_cases hc : errs.contains c = true
      · rw [if_pos hc] at w
        intro σ2 cls d H2 G2 α2 f2 hd2 oe2 ox
        obtain ⟨rfl, dd, w0, rfl, h1, h2⟩ := ox
        exact many_ok hz hd2 oe2 h1 h2 (fun k hk => (hx.mem hc).mem (by simp only [List.contains_eq_mem, decide_eq_true_eq]; exact List.mem_map.mpr ⟨k, hk, rfl⟩)) (w.later f2)
      · rw [if_neg hc] at w
        exact w.elim
end
end DN
namespace DN
open PySem PySem.Spec PyProof.Rows L2 Evl
/-- the library's datum -/
def kpd : Key → PyData
  | .inl i => .int i
  | .inr s => .str s
mutual
def pd : Dv → Option PyData
  | .non => some .none
  | .bl b => some (.bool b)
  | .int i => some (.int i)
  | .str s => some (.str s)
  | .lst l => match pds l with | some m => some (.list m) | none => none
  | .tup l => match pds l with | some m => some (.tuple m) | none => none
  | .ktp l => match pds l with | some m => some (.tuple m) | none => none
  | .dic false ks vs => match ks.mapM key?, pds vs with | some a, some b => some (.dict ((a.map kpd).zip b)) | _, _ => none
  | .dic true ks vs => match ks.mapM tkey?, pds vs with | some a, some b => some (.dict ((a.map fun k => PyData.tuple (k.map kpd)).zip b)) | _, _ => none
  | _ => none
def pds : List Dv → Option (List PyData)
  | [] => some []
  | d :: l => match pd d, pds l with | some a, some b => some (a :: b) | _, _ => none
end
theorem mapM_some {α β : Type} {f : α → Option β} : ∀ {l : List α} {m : List β}, l.map f = m.map some → l.mapM f = some m
  | [], [], _ => rfl
  | [], b :: m, h => by cases h
  | a :: l, [], h => by cases h
  | a :: l, b :: m, h => by
    injection h with h1 h2
    rw [List.mapM_cons, h1, mapM_some h2]
    rfl
theorem rel_key {k : Key} {u : Value} (h : keyIs k u = true) {h0 : Heap} : Reads h0 u (kpd k) [] := by
  rcases keyIs_shape h with ⟨i, t, rfl, rfl⟩ | ⟨x, t, rfl, rfl⟩
  · exact .int i t
  · exact .str x t
theorem kV_reads {k : Key} {u : Value} (h : RelV (kV k) u) {h0 : Heap} : Reads h0 u (kpd k) [] := by
  cases k with
  | inl i => obtain ⟨t, rfl⟩ := h; exact .int i t
  | inr x => obtain ⟨t, rfl⟩ := h; exact .str x t
theorem kVs_reads {h0 : Heap} : ∀ {k : List Key} {us : List Value}, Vals (k.map kV) us → ReadsAll h0 us (k.map kpd) []
  | [], _, h => by cases h; exact .nil
  | a :: k, _, h => by
    cases h with
    | cons h1 h2 => exact .cons (as := []) (kV_reads h1) (kVs_reads h2)
section
variable {X : Cx} {Z : Zt} {pins : List (Addr × Obj)} {σ : L2.St} {G H : Hp} {s : Shared}
theorem pairs_read {P : Program} {w : World} {h0 : Heap} : ∀ {es : List DictEntry} {kvs : List (Key × Value)}, Pairs (mixKind P w) es kvs → ReadsAll h0 (es.map (·.key)) ((kvs.map (·.1)).map kpd) [] ∧ es.map (·.val) = kvs.map (·.2)
  | _, _, .nil => ⟨.nil, rfl⟩
  | _, _, .cons h1 h2 h3 => by
    obtain ⟨a, b⟩ := pairs_read h3
    exact ⟨.cons (as := []) (rel_key h1) a, by rw [List.map_cons, List.map_cons, h2, b]⟩
theorem kv_split {κ : Type} : ∀ {kvs : List (κ × V)} {vs : List (κ × Value)}, KV kvs vs → kvs.map (·.1) = vs.map (·.1) ∧ Vals (kvs.map (·.2)) (vs.map (·.2))
  | _, _, .nil => ⟨rfl, .nil⟩
  | _, _, .cons h t => by
    obtain ⟨a, b⟩ := kv_split t
    exact ⟨by rw [List.map_cons, List.map_cons, h.1, a], .cons h.2 b⟩
theorem zip_fst {α β : Type} : ∀ {l : List α} {m : List β}, l.length = m.length → (l.zip m).map (·.1) = l
  | [], _, _ => by simp
  | a :: l, [], h => by cases h
  | a :: l, b :: m, h => by rw [List.zip_cons_cons, List.map_cons, zip_fst (by simpa using h)]
theorem zip_snd {α β : Type} : ∀ {l : List α} {m : List β}, l.length = m.length → (l.zip m).map (·.2) = m
  | [], m, h => by cases m with | nil => rfl | cons b m => cases h
  | a :: l, [], h => by cases h
  | a :: l, b :: m, h => by rw [List.zip_cons_cons, List.map_cons, zip_snd (by simpa using h)]
theorem readsAll_len {h0 : Heap} : ∀ {us : List Value} {ps : List PyData} {as : List Addr}, ReadsAll h0 us ps as → us.length = ps.length
  | _, _, _, .nil => rfl
  | _, _, _, .cons _ h => by rw [List.length_cons, List.length_cons, readsAll_len h]
theorem tkeys_read {P : Program} {w : World} (I : Inv X pins σ H s) : ∀ {kvs : List (List Key × V)} {xs : List (List Key × Addr × Value)},
    Paired (fun (p : List Key × V) (q : List Key × Addr × Value) => p.1 = q.1 ∧ H q.2.1 = some (.tup (p.1.map kV)) ∧ RelV p.2 q.2.2) kvs xs →
      ReadsAll s.heap ((xs.map (entryOfKey (tupleKind (mixKind P w)))).map (·.key)) ((kvs.map (·.1)).map fun k => PyData.tuple (k.map kpd)) [] ∧ Vals (kvs.map (·.2)) ((xs.map (entryOfKey (tupleKind (mixKind P w)))).map (·.val))
  | _, _, .nil => ⟨.nil, .nil⟩
  | _, _, .cons (a := p) (b := q) h t => by
    obtain ⟨a, b⟩ := tkeys_read I t
    obtain ⟨its, rv, ⟨o, ho, hc, n, hd⟩, _⟩ := I.tuple (SqT.of h.2.1)
    exact ⟨.cons (as := []) (.tuple ho hc hd (kVs_reads rv)) a, .cons h.2.2 b⟩
mutual
/-- what stands for d is read as the datum -/
theorem on_reads (I : Inv X pins σ H s) (hK : Z.K = X.K) (e : Ex G H) : ∀ {d : Dv} {v : V} {u : Value} {p : PyData}, On Z G d v → pd d = some p → RelV v u → ∃ as, Reads s.heap u p as ∧ ∀ b ∈ as, H b ≠ none
  | .non, v, u, p, h, q, r => by
    unfold On at h
    unfold pd at q
    cases q
    subst h
    cases r
    exact ⟨_, .none, fun b hb => absurd hb (by simp)⟩
  | .bl c, v, u, p, h, q, r => by
    unfold On at h
    unfold pd at q
    cases q
    subst h
    cases r
    exact ⟨_, .bool c, fun b hb => absurd hb (by simp)⟩
  | .int i, v, u, p, h, q, r => by
    unfold On at h
    unfold pd at q
    cases q
    subst h
    obtain ⟨t, rfl⟩ := r
    exact ⟨_, .int i t, fun b hb => absurd hb (by simp)⟩
  | .str x, v, u, p, h, q, r => by
    unfold On at h
    unfold pd at q
    cases q
    subst h
    obtain ⟨t, rfl⟩ := r
    exact ⟨_, .str x t, fun b hb => absurd hb (by simp)⟩
  | .lst l, v, u, p, h, q, r => by
    unfold On at h
    unfold pd at q
    obtain ⟨a, xs, rfl, h2, h3⟩ := h
    cases z : pds l with
    | none => rw [z] at q; cases q
    | some m =>
      rw [z] at q
      cases q
      cases r
      have hH := e _ _ h2
      obtain ⟨its, rv, ⟨o, n, ho, hc, _, hd⟩, _⟩ := I.list (SqL.of hH)
      obtain ⟨as, ra, ia⟩ := onL_reads I hK e h3 z rv
      refine ⟨_, .list ho hc hd ra, fun b hb => ?_⟩
      rcases List.mem_cons.mp hb with rfl | hb
      · rw [hH]; exact fun z => nomatch z
      · exact ia b hb
  | .tup l, v, u, p, h, q, r => by
    unfold On at h
    unfold pd at q
    obtain ⟨a, xs, rfl, h2, h3⟩ := h
    cases z : pds l with
    | none => rw [z] at q; cases q
    | some m =>
      rw [z] at q
      cases q
      cases r
      obtain ⟨its, rv, ⟨o, ho, hc, n, hd⟩, _⟩ := I.tuple (SqT.of (e _ _ h2))
      obtain ⟨as, ra, ia⟩ := onL_reads I hK e h3 z rv
      exact ⟨_, .tuple ho hc hd ra, ia⟩
  | .ktp l, v, u, p, h, q, r => by
    unfold On at h
    unfold pd at q
    obtain ⟨a, xs, rfl, h2, h3⟩ := h
    cases z : pds l with
    | none => rw [z] at q; cases q
    | some m =>
      rw [z] at q
      cases q
      cases r
      rw [hK] at h2
      have h4 : SqT X.K H a xs := h2.sq e
      obtain ⟨its, rv, ⟨o, ho, hc, n, hd⟩, _⟩ := I.tuple h4
      obtain ⟨as, ra, ia⟩ := onL_reads I hK e h3 z rv
      exact ⟨_, .tuple ho hc hd ra, ia⟩
  | .dic false ks vs, v, u, p, h, q, r => by
    unfold On at h
    obtain ⟨a, ws, rfl, ⟨kk, hk, hg⟩, hl, h3⟩ := h
    unfold pd at q
    rw [mapM_some hk] at q
    cases z : pds vs with
    | none => simp only [z] at q; cases q
    | some m =>
      simp only [z] at q
      cases q
      cases r
      have hH := e _ _ hg
      obtain ⟨_, _, us, rel, o, es, ep, ho, hx, hd, _, pr, _⟩ := dk_of I.hok hH
      obtain ⟨e1, e2⟩ := kv_split rel
      have n1 : kk.length = ws.length := by
        have := congrArg List.length hk
        rw [List.length_map, List.length_map] at this
        rw [← this]; exact hl
      rw [zip_fst n1] at e1
      rw [zip_snd n1] at e2
      obtain ⟨r1, r2⟩ := pairs_read (h0 := s.heap) pr
      rw [← e1] at r1
      rw [← r2] at e2
      obtain ⟨as, ra, ia⟩ := onL_reads I hK e h3 z e2
      have n2 : (kk.map kpd).length = m.length := by
        rw [← readsAll_len r1, ← readsAll_len ra, List.length_map, List.length_map]
      refine ⟨_, .dict (kvs := (kk.map kpd).zip m) ho hx.1 hd (by rw [zip_fst n2]; exact r1) (by rw [zip_snd n2]; exact ra), fun b hb => ?_⟩
      rcases List.mem_cons.mp hb with rfl | hb
      · rw [hH]; exact fun z => nomatch z
      · exact ia b (by simpa using hb)
  | .dic true ks vs, v, u, p, h, q, r => by
    unfold On at h
    obtain ⟨a, ws, rfl, ⟨kk, hk, hg⟩, hl, h3⟩ := h
    unfold pd at q
    rw [mapM_some hk] at q
    cases z : pds vs with
    | none => simp only [z] at q; cases q
    | some m =>
      simp only [z] at q
      cases q
      cases r
      have hH := e _ _ hg
      obtain ⟨_, _, xs, rel, o, es, ep, ho, hx, hd, he, _⟩ := dt_of I.hok hH
      obtain ⟨r1, e2⟩ := tkeys_read I rel
      have n1 : kk.length = ws.length := by
        have := congrArg List.length hk
        rw [List.length_map, List.length_map] at this
        rw [← this]; exact hl
      rw [zip_fst n1] at r1
      rw [zip_snd n1] at e2
      rw [← he] at r1 e2
      obtain ⟨as, ra, ia⟩ := onL_reads I hK e h3 z e2
      have n2 : (kk.map fun k => PyData.tuple (k.map kpd)).length = m.length := by
        rw [← readsAll_len r1, ← readsAll_len ra, List.length_map, List.length_map]
      refine ⟨_, .dict (kvs := (kk.map fun k => PyData.tuple (k.map kpd)).zip m) ho hx.1 hd (by rw [zip_fst n2]; exact r1) (by rw [zip_snd n2]; exact ra), fun b hb => ?_⟩
      rcases List.mem_cons.mp hb with rfl | hb
      · rw [hH]; exact fun z => nomatch z
      · exact ia b (by simpa using hb)
  | .ty _, _, _, _, _, q, _ => by unfold pd at q; cases q
  | .cls _, _, _, _, _, q, _ => by unfold pd at q; cases q
  | .obj _ _, _, _, _, _, q, _ => by unfold pd at q; cases q
  | .scr _, _, _, _, _, q, _ => by unfold pd at q; cases q
theorem onL_reads (I : Inv X pins σ H s) (hK : Z.K = X.K) (e : Ex G H) : ∀ {l : List Dv} {vs : List V} {us : List Value} {ps : List PyData}, OnL Z G l vs → pds l = some ps → Vals vs us → ∃ as, ReadsAll s.heap us ps as ∧ ∀ b ∈ as, H b ≠ none
  | [], vs, us, ps, h, q, r => by
    unfold OnL at h
    unfold pds at q
    cases q
    subst h
    cases r
    exact ⟨_, .nil, fun b hb => absurd hb (by simp)⟩
  | d :: l, vs, us, ps, h, q, r => by
    unfold OnL at h
    obtain ⟨y, ys, rfl, h1, h2⟩ := h
    unfold pds at q
    cases z1 : pd d with
    | none => simp only [z1] at q; cases q
    | some a =>
      cases z2 : pds l with
      | none => simp only [z1, z2] at q; cases q
      | some m =>
        simp only [z1, z2] at q
        cases q
        cases r with
        | cons r1 r2 =>
          obtain ⟨as, ra, ia⟩ := on_reads I hK e h1 z1 r1
          obtain ⟨bs, rb, ib⟩ := onL_reads I hK e h2 z2 r2
          exact ⟨_, .cons ra rb, fun b hb => (List.mem_append.mp hb).elim (ia b) (ib b)⟩
end
end
/-- what may be shown: the text and the depth are small -/
def okShow (p : PyData) : Bool := p.showable && (decide (p.shown.length ≤ sizeLine) && decide (p.depth ≤ 40))
end DN
namespace DN
open PySem PySem.Spec PyProof.Rows L2 Evl
def isE : Dv → Bool
  | .dic false [] [] => true
  | _ => false
def gShowE1 (d : Dv) : Option Rt := match pd d with
  | some p => if (okShow p && (!p.hasDict || isE d)) = true then vS p.shown else none
  | none => none
def gShowE : List Dv → Option Rt := arg1 gShowE1
section
variable {Z : Zx} {X : Cx} {G H : Hp} {α : List Addr} {S : Sto} {Q : VK} {E : XK}
theorem isE_of {d : Dv} (h : isE d = true) : d = .dic false [] [] := by
  cases d with
  | dic t ks vs => cases t <;> cases ks <;> cases vs <;> first | rfl | cases h
  | _ => cases h
theorem cd_showE (hr : X.A.guards = some [] ∧ X.A.units + 64 < cLine) (hK : Z.K = X.K) : CallR X (.builtin "repr") (rA Z gShowE) := by
  intro pins s σ H xs us Q I r h
  obtain ⟨G, α, S, l, hd, hl, w⟩ := h
  obtain ⟨x, y, rfl, hx, w⟩ := arg1_ok hl w
  obtain ⟨u, rfl, ru⟩ := vals1 r
  unfold gShowE1 at w
  cases z : pd x with
  | none => rw [z] at w; exact w.elim
  | some p =>
    simp only [z] at w
    cases zs : (okShow p && (!p.hasDict || isE x)) with
    | false => rw [zs] at w; exact w.elim
    | true =>
      rw [zs, if_pos rfl] at w
      obtain ⟨zo, ze⟩ := Bool.and_eq_true_iff.mp zs
      obtain ⟨h1, h2⟩ := Bool.and_eq_true_iff.mp zo
      obtain ⟨h2, h3⟩ := Bool.and_eq_true_iff.mp h2
      have h2 := of_decide_eq_true h2
      have h3 := of_decide_eq_true h3
      have hon : On Z.toZt H x y := hx.on hd.ex
      have wq := wS w hd
      have fin : ∀ h' (t : Tok) tk, (∀ b o, s.heap.get? b = some o → h'.get? b = some o) → EP X pins σ Q (.str p.shown t) { s with heap := h', toks := tk } := fun h' t tk k => ⟨.str p.shown, H, I.kept k, ⟨t, rfl⟩, wq⟩
      have fin0 : EP X pins σ Q (.str p.shown s.toks) { s with toks := s.toks + 1 } := ⟨.str p.shown, H, I.tok _, ⟨_, rfl⟩, wq⟩
      by_cases he : isE x = true
      · obtain rfl := isE_of he
        have ep : p = .dict [] := by
          have : pd (.dic false [] []) = some (.dict []) := rfl
          rw [this] at z
          exact (Option.some.inj z).symm
        subst ep
        obtain ⟨as, ra, ia⟩ := on_reads I hK (Ex.refl H) hon z ru
        unfold On at hon
        obtain ⟨a, ws, rfl, ⟨kk, hk, hg⟩, hlw, h3'⟩ := hon
        cases ru
        have nsm := (dk_of I.hok hg).2.1
        cases ra with
        | dict a1 a2 a3 a4 a5 =>
          have e4 : ∀ {vs : List Value} {as : List Addr}, ReadsAll s.heap vs [] as → as = [] := fun h => by cases h; rfl
          obtain rfl := e4 a4
          obtain rfl := e4 a5
          exact repr_of_reads' (.dict a1 a2 a3 a4 a5) h1 (fun _ hm => by
            have : sysModules = a := by simpa using hm
            rw [← this] at nsm
            exact absurd nsm (by decide)) hr.1 (by have := hr.2; omega) (fun _ _ e => e) fin h2
      · have hn : p.hasDict = false := by
          cases q : p.hasDict with
          | false => rfl
          | true =>
            rw [q] at ze
            exact absurd ze (by simpa using he)
        have ns : ∀ as : List Addr, p.hasDict = true → sysModules ∉ as := fun as q => by rw [hn] at q; cases q
        obtain ⟨as, ra, ia⟩ := on_reads I hK (Ex.refl H) hon z ru
        cases ra with
        | none => exact PySem.P.repr_of_none (by simpa [PyData.shown] using fin0)
        | bool b => exact PySem.P.repr_of_bool (by simpa [PyData.shown] using fin0)
        | int i t => exact PySem.P.repr_of_int (by simpa [PyData.showable] using h1) (by simpa [PyData.shown] using fin0)
        | str v t => exact PySem.P.repr_of_str (by simpa [PyData.shown] using fin0) (by simpa [PyData.shown] using h2)
        | list a1 a2 a3 a4 => exact repr_of_reads' (.list a1 a2 a3 a4) h1 (ns _) hr.1 (by have := hr.2; omega) (fun _ _ e => e) fin h2
        | tuple a1 a2 a3 a4 => exact repr_of_reads' (.tuple a1 a2 a3 a4) h1 (ns _) hr.1 (by have := hr.2; omega) (fun _ _ e => e) fin h2
        | dict a1 a2 a3 a4 a5 => exact repr_of_reads' (.dict a1 a2 a3 a4 a5) h1 (ns _) hr.1 (by have := hr.2; omega) (fun _ _ e => e) fin h2
end
end DN
namespace DN
open PySem PySem.Spec PyProof.Rows L2 Evl
def tgTL (fs : FGs) : FG := fun d env => match d with
  | .tup l => fs l env
  | .lst l => fs l env
  | _ => none
theorem pgf_tl {Z : Zx} {X : Cx} {es : List Expr} {k : Nat} {fs : FGs} {sl : List Nat} {n : Nat} (hK : X.K = Z.K) (hc : X.calm = true) (h : PGFs Z X n es fs sl)
    (hn : (assignEach es X.env).length = n := by rfl) (hst : (assignEach es X.env).findIdx? (·.1) = none := by rfl) : PGF Z X (.Tuple es k pos) (tgTL fs) sl := by
  refine ⟨⟨fun pins s σ H v u Q I r h' => ?_⟩⟩
  obtain ⟨env, G, α, S, d, env', hd, oe, ov, e, kk⟩ := h'
  cases d with
  | tup l =>
    unfold On at ov
    obtain ⟨a, xs, rfl, o1, o2⟩ := ov
    exact (pg_tup hc h.pg hn hst).run pins s σ H _ u Q I r ⟨a, xs, rfl, SqT.of (hd.ex _ _ o1), by rw [o2.len]; exact h.len _ _ _ e, env, G, α, S, l, env', hd, oe, o2, e, kk⟩
  | lst l =>
    unfold On at ov
    obtain ⟨a, xs, rfl, o1, o2⟩ := ov
    exact (pg_unl hc h.pg hn hst).run pins s σ H _ u Q I r ⟨a, xs, rfl, SqL.of (hd.ex _ _ o1), by rw [o2.len]; exact h.len _ _ _ e, env, G, α, S, l, env', hd, oe, o2, e, kk⟩
  | _ => cases e
end DN
namespace DN
open PySem PySem.Spec PyProof.Rows L2 Evl OP
section
variable {Z : Zx} {X : Cx} {Ew : L2.St → XK} {G H : Hp} {α : List Addr} {ei : Expr} {es : List Expr} {fi : FE} {fa : FA} {pos p1 : Pos}
theorem onA_len : ∀ {l : List Vr} {vs : List V}, OnA Z G α l vs → vs.length = l.length
  | [], _, h => by cases (show _ = [] from h); rfl
  | a :: l, _, h => by
    obtain ⟨y, ys, rfl, _, h2⟩ := h
    rw [List.length_cons, List.length_cons, onA_len h2]
theorem onA_get : ∀ {l : List Vr} {vs : List V} {k : Nat} {v : Vr}, OnA Z G α l vs → l[k]? = some v → ∃ x, vs[k]? = some x ∧ OnR Z G α v x
  | [], _, k, _, _, e => by simp at e
  | a :: l, _, 0, v, h, e => by
    obtain ⟨y, ys, rfl, h1, _⟩ := h
    cases e
    exact ⟨y, rfl, h1⟩
  | a :: l, _, k + 1, v, h, e => by
    obtain ⟨y, ys, rfl, _, h2⟩ := h
    exact onA_get (k := k) h2 e
def pickR (l : List Vr) (S : Sto) (i : Vr) : R Rt := match i with
  | .d (.int i) => (match atI l i with
    | some v => .ok S (.val v)
    | none => .no)
  | _ => .no
def fPick (fa : FA) (fi : FE) : FE := fun env S => (fa env S).bind fun S1 l => if l.length ≤ 100000 then (fi env S1).bindV fun S2 i => pickR l S2 i else .no
theorem pf_pick (hK : X.K = Z.K) (ha : PAF Z Ew X es fa) (hi : PF Z Ew X ei fi) (hs : PlainIx ei := by exact fun _ _ => rfl) : PF Z Ew X (.Subscript (.List es p1) ei pos) (fPick fa fi) := by
  obtain ⟨ta, h1, h2⟩ := ha.ex
  obtain ⟨ti, h3, h4⟩ := hi.ex
  refine ⟨_, pe_ix ix_list (pe_lst h1) h3 hs, fun env σ G α S H Q hd oe w => h2.bind hd oe w fun S2 l vs H2 G2 α2 f2 hd2 oe2 ol w2 => ?_⟩
  by_cases hl : l.length ≤ 100000
  · rw [if_pos hl] at w2
    refine ⟨sz_of (by rw [onA_len ol]; exact hl), fun p hp => ?_⟩
    have e := Ex.new (o := .lst vs) hp
    have hg := hd2.grow e
    have fg : Fr G2 α2 H2 G2 α2 (upd H2 p (.lst vs)) := Fr.grow hd2 e
    have w3 := w2.later fg
    refine h4.bind hg (oe2.up fg.g fg.a) w3 fun S3 i x H3 G3 α3 f3 hd3 oe3 ox w4 => ?_
    unfold pickR at w4
    cases i with
    | r n => exact w4.elim
    | d d =>
      cases d with
      | int i =>
        have ox : On Z G3 (.int i) x := ox
        unfold On at ox
        subst ox
        simp only at w4
        cases q : atI l i with
        | none => rw [q] at w4; exact w4.elim
        | some v =>
          rw [q] at w4
          have hlen := onA_len ol
          have q2 : ∃ z, atI vs i = some z ∧ OnR Z G2 α2 v z := by
            unfold atI at q ⊢
            rw [hlen]
            cases e2 : ixN l.length i with
            | none => rw [e2] at q; cases q
            | some j =>
              rw [e2] at q
              obtain ⟨z, z1, z2⟩ := onA_get ol q
              exact ⟨z, z1, z2⟩
          obtain ⟨z, z1, z2⟩ := q2
          have hp3 : H3 p = some (.lst vs) := f3.h p _ upd_same fun hm => hd2.live hm hp
          exact ⟨p, vs, i, z, rfl, rfl, SqL.of hp3, z1, w4.dat hd3 ((z2.up fg.g fg.a).up f3.g f3.a)⟩
      | _ => exact w4.elim
  · rw [if_neg hl] at w2
    exact w2.elim
end
end DN
namespace DN
open PySem PySem.Spec PyProof.Rows L2 Evl OP
section
variable {Z : Zx} {X : Cx} {Ew : L2.St → XK} {S : Sto} {G H : Hp} {α : List Addr} {Q : VK} {E : XK} {a b : Expr} {fl : FA} {elts : List Expr} {kk : Nat} {p pos tpos : Pos}
theorem ex_upd {a : Addr} {o : HO} (hg : G a = none) : Ex G (upd G a o) := fun b q hb => by
  have : b ≠ a := fun e => by subst e; rw [hg] at hb; cases hb
  rw [upd_ne this]
  exact hb
end
end DN
namespace DN
open PySem PySem.Spec PyProof.Rows L2 Evl
section
variable {Z : Zx} {G H : Hp} {α : List Addr} {S : Sto}
theorem onA_lt {Z : Zt} : ∀ {l : List Vr} {xs : List V}, OnA Z G α l xs → ∀ m, Vr.r m ∈ l → m < α.length
  | [], _, _, m, hm => absurd hm (by simp)
  | d :: l, xs, h, m, hm => by
    obtain ⟨y, ys, _, h2, h3⟩ := h
    rcases List.mem_cons.mp hm with e | hm
    · subst e
      obtain ⟨a, _, e⟩ := h2
      exact (List.getElem?_eq_some_iff.mp e).1
    · exact onA_lt h3 m hm
theorem onA_app {Z : Zt} : ∀ {l m : List Vr} {xs ys : List V}, OnA Z G α l xs → OnA Z G α m ys → OnA Z G α (l ++ m) (xs ++ ys)
  | [], _, _, _, h, h2 => by rw [show _ = [] from h]; exact h2
  | d :: l, _, _, _, h, h2 => by
    obtain ⟨y, ys, rfl, h3, h4⟩ := h
    exact ⟨y, _, rfl, h3, onA_app h4 h2⟩
/-- it becomes a cell, told by the cells ahead of it -/
theorem Hd.pushI {Z : Zt} {p : Addr} {c : Cell} (h : Hd Z G α S H) (hG : G p = none) (hn : p ∉ α) (hc : CellIn Z G H (α ++ [p]) (S ++ [c]) α.length p c) : Hd Z G (α ++ [p]) (S ++ [c]) H := by
  refine ⟨h.ex, by rw [List.length_append, List.length_append, h.len]; rfl, ?_, fun n a d h1 h2 => ?_⟩
  · rw [List.nodup_append]
    exact ⟨h.nd, by simp, fun a ha b hb => by rw [List.mem_singleton.mp hb]; exact fun c => hn (c ▸ ha)⟩
  · by_cases hl : n < α.length
    · rw [List.getElem?_append_left hl] at h1
      rw [List.getElem?_append_left (by rw [← h.len]; exact hl)] at h2
      obtain ⟨h3, h4⟩ := h.at_ n a d h1 h2
      refine ⟨h3, h4.move (Ex.refl G) rfl (fun m b hm q => by rw [List.getElem?_append_left (by omega)]; exact q) fun m b hm q1 q2 q3 => ⟨?_, ?_, q3, fun o ho => ho⟩⟩
      · rw [List.getElem?_append_left (by omega)]; exact q1
      · rw [List.getElem?_append_left (by rw [← h.len]; omega)]; exact q2
    · have hn1 : n = α.length := by
        have := (List.getElem?_eq_some_iff.mp h1).1
        rw [List.length_append] at this
        simp only [List.length_singleton] at this
        omega
      subst hn1
      rw [List.getElem?_append_right (Nat.le_refl _), Nat.sub_self] at h1
      rw [h.len, List.getElem?_append_right (Nat.le_refl _), Nat.sub_self] at h2
      cases h1
      cases h2
      exact ⟨fun _ => hG, hc⟩
theorem Hd.layV {Z : Zt} {p : Addr} {l : List Vr} {xs : List V} (h : Hd Z G α S H) (ol : OnA Z G α l xs) (hp : H p = none) : Hd Z G (α ++ [p]) (S ++ [.tab (.vl l)]) (upd H p (.lst xs)) ∧ Fr G α H G (α ++ [p]) (upd H p (.lst xs)) := by
  have e := Ex.new (o := .lst xs) hp
  have hg := h.grow e
  have hpa : p ∉ α := fun hm => h.live hm hp
  have hG : G p = none := fresh_back h.ex hp
  refine ⟨hg.pushI hG hpa ⟨fun m hm => onA_lt ol m hm, xs, upd_same, ol.up (Ex.refl G) ⟨[p], rfl⟩⟩, (Fr.grow h e).push hp⟩
end
def layVR (i : Nat) (env : Env) (S : Sto) (l : List Vr) : RS := if l.length ≤ 100000 then .nx (env.set i (.v (.r S.length))) (S ++ [.tab (.vl l)]) else .no
def kSetV (i : Nat) (fa : FA) : FS := fun env S => sB env (fa env S) fun S1 l => layVR i env S1 l
section
variable {Z : Zx} {W : WX} {X : Cx} {G H : Hp} {α : List Addr} {S : Sto} {D : Ends} {env : Env} {σ : L2.St} {e : Expr} {es : List Expr} {pos pl p1 p2 : Pos} {fa : FA} {fi : FE} {Ew : L2.St → XK} {Q : VK}
theorem layV_ok {i : Nat} {l : List Vr} {xs : List V} (hd : Hd Z G α S H) (oe : OnE Z G α env σ) (ol : OnA Z G α l xs) (w : WkS Z (layVR i env S l) G α H D W) : xs.length ≤ sizeLine ∧ ∀ p, H p = none → D.nx (σ.set i (some (.ref p))) (upd H p (.lst xs)) := by
  unfold layVR at w
  by_cases hl : l.length ≤ 100000
  · rw [if_pos hl] at w
    refine ⟨sz_of (by rw [ol.len]; exact hl), fun p hp => ?_⟩
    obtain ⟨h1, f1⟩ := hd.layV ol hp
    refine w _ _ _ _ f1 h1 ((oe.up f1.g f1.a).set i ⟨p, rfl, ?_⟩)
    rw [← hd.len, List.getElem?_append_right (Nat.le_refl _), Nat.sub_self]
    rfl
  · rw [if_neg hl] at w
    exact w.elim
theorem psf_setV (i : Nat) {x : Str} {p' : Pos} (hN : X.N.Nodup) (hi : X.N[i]? = some x) (hx : Loc X.env.scope x) (ha : PAF Z (WE W) X es fa) (hs : swapsWith (.List es pl) (some (.Name x p')) pos.line X.env = pure false := by rfl) (hf : X.fn x = true ∨ X.env.scope.names.lookup x = some .local := by first | exact .inl rfl | exact .inr rfl) :
    PSF Z W X (.Assign [.Name x p'] (.List es pl) pos) (kSetV i fa) := by
  obtain ⟨ta, h1, h2⟩ := ha.ex
  exact .of (ps_set hN hi hx (pe_lst h1) hs hf) fun env σ G α S H D hd oe w => h2.bindS hd oe w fun S2 l vs H2 G2 α2 f2 hd2 oe2 ol w2 => layV_ok hd2 oe2 ol w2
def addVR (i : Nat) (env : Env) (S : Sto) (o : Vr) (l : List Vr) : RS := match o with
  | .r q => (match S[q]? with
    | some (.tab (.vl l0)) => layVR i env S (l0 ++ l)
    | _ => .no)
  | _ => .no
def kAddV (i j : Nat) (fa : FA) : FS := fun env S => sV env (fVar j env S) fun S1 o => sB env (fa env S1) fun S2 l => addVR i env S2 o l
/-- what a cell of the kind says -/
theorem vl_at {q : Nat} {a : Addr} {l : List Vr} (hd : Hd Z G α S H) (ha : α[q]? = some a) (hs : S[q]? = some (.tab (.vl l))) : ∃ xs, H a = some (.lst xs) ∧ OnA Z G α l xs := by
  obtain ⟨_, _, xs, h1, h2⟩ := hd.at_ q a _ ha hs
  exact ⟨xs, h1, h2⟩
theorem psf_addV (i j : Nat) {x y : Str} {p' : Pos} (hN : X.N.Nodup) (hi : X.N[i]? = some x) (hx : Loc X.env.scope x) (hy : PF Z (WE W) X (.Name y p1) (fVar j)) (ha : PAF Z (WE W) X es fa) (hs : swapsWith (.BinOp (.Name y p1) .Add (.List es pl) p2) (some (.Name x p')) pos.line X.env = pure false := by rfl) (hf : X.fn x = true ∨ X.env.scope.names.lookup x = some .local := by first | exact .inl rfl | exact .inr rfl) :
    PSF Z W X (.Assign [.Name x p'] (.BinOp (.Name y p1) .Add (.List es pl) p2) pos) (kAddV i j fa) := by
  obtain ⟨ty, y1, y2⟩ := hy.ex
  obtain ⟨ta, h1, h2⟩ := ha.ex
  refine .of (ps_set hN hi hx (pe_op op_cat y1 (pe_lst h1)) hs hf) fun env σ G α S H D hd oe w => y2.bindS hd oe w fun S2 d v H2 G2 α2 _ f2 hd2 oe2 ov w2 => h2.bindS hd2 oe2 w2 fun S3 l vs H3 G3 α3 f3 hd3 oe3 ol w3 => ?_
  unfold addVR at w3
  cases d with
  | d d => exact w3.elim
  | r q =>
    obtain ⟨a, rfl, ha2⟩ := ov
    have ha3 := f3.a.get ha2
    simp only at w3
    cases e : S3[q]? with
    | none => rw [e] at w3; exact w3.elim
    | some c =>
      rw [e] at w3
      cases c with
      | tab t =>
        cases t with
        | rows r => exact w3.elim
        | vl l0 =>
          obtain ⟨xs, e1, e2⟩ := vl_at hd3 ha3 e
          have oa := onA_app e2 ol
          have lk := (layV_ok (i := i) hd3 oe3 oa w3).1
          rw [List.length_append] at lk
          refine ⟨by omega, fun p hp => ⟨a, p, xs, vs, rfl, rfl, ?_, upd_same, lk, fun p' hp' => ?_⟩⟩
          · rw [upd_ne (fun c => by subst c; rw [e1] at hp; cases hp)]; exact e1
          · have ex := Ex.new (o := .lst vs) hp
            have hg := hd3.grow ex
            have fg : Fr G3 α3 H3 G3 α3 (upd H3 p (.lst vs)) := Fr.grow hd3 ex
            exact (layV_ok hg (oe3.up fg.g fg.a) (oa.up fg.g fg.a) (WkS.later w3 fg)).2 p' hp'
      | _ => exact w3.elim
def ixV (S : Sto) (o k : Vr) : R Rt := match o with
  | .r q => (match S[q]? with
    | some (.tab (.vl l)) => DN.pickR l S k
    | _ => .no)
  | _ => .no
def fVx (j : Nat) (fi : FE) : FE := fun env S => (fVar j env S).bindV fun S1 o => (fi env S1).bindV fun S2 k => ixV S2 o k
theorem pf_vx {j : Nat} {y : Str} {ei : Expr} (hK : X.K = Z.K) (hy : PF Z Ew X (.Name y p1) (fVar j)) (hi : PF Z Ew X ei fi) (hs : PlainIx ei := by exact fun _ _ => rfl) : PF Z Ew X (.Subscript (.Name y p1) ei pos) (fVx j fi) := by
  obtain ⟨ty, y1, y2⟩ := hy.ex
  obtain ⟨ti, h3, h4⟩ := hi.ex
  refine ⟨_, pe_ix ix_list y1 h3 hs, fun env σ G α S H Q hd oe w => y2.bind hd oe w fun S2 d v H2 G2 α2 f2 hd2 oe2 ov w2 => h4.bind hd2 oe2 w2 fun S3 k x H3 G3 α3 f3 hd3 oe3 ox w3 => ?_⟩
  unfold ixV at w3
  cases d with
  | d d => exact w3.elim
  | r q =>
    obtain ⟨a, rfl, ha2⟩ := ov
    have ha3 := f3.a.get ha2
    simp only at w3
    cases e : S3[q]? with
    | none => rw [e] at w3; exact w3.elim
    | some c =>
      rw [e] at w3
      cases c with
      | tab t =>
        cases t with
        | rows r => exact w3.elim
        | vl l =>
          obtain ⟨vs, e1, ol⟩ := vl_at hd3 ha3 e
          simp only at w3
          unfold DN.pickR at w3
          cases k with
          | r n => exact w3.elim
          | d d =>
            cases d with
            | int i =>
              have ox : On Z G3 (.int i) x := ox
              unfold On at ox
              subst ox
              simp only at w3
              cases q : atI l i with
              | none => rw [q] at w3; exact w3.elim
              | some v =>
                rw [q] at w3
                have hlen := onA_len ol
                have q2 : ∃ z, atI vs i = some z ∧ OnR Z G3 α3 v z := by
                  unfold atI at q ⊢
                  rw [hlen]
                  cases e2 : ixN l.length i with
                  | none => rw [e2] at q; cases q
                  | some j =>
                    rw [e2] at q
                    obtain ⟨z, z1, z2⟩ := onA_get ol q
                    exact ⟨z, z1, z2⟩
                obtain ⟨z, z1, z2⟩ := q2
                exact ⟨a, vs, i, z, rfl, rfl, SqL.of e1, z1, w3.dat hd3 z2⟩
            | _ => exact w3.elim
      | _ => exact w3.elim
def forV (n i : Nat) (body : FS) : Nat → Nat → Env → Sto → RS
  | 0, _, _, _ => .no
  | m + 1, k, env, S => match S[n]? with
    | some (.tab (.vl l)) => (match l[k]? with
      | some v => (match body (env.set i (.v v)) S with
        | .nx e2 S2 => forV n i body m (k + 1) e2 S2
        | .ct e2 S2 => forV n i body m (k + 1) e2 S2
        | .bk e2 S2 => .nx e2 S2
        | r => r)
      | none => .nx env S)
    | _ => .no
def kForV (i : Nat) (fa : FA) (body : FS) : FS := fun env S => sB env (fa env S) fun S1 l => if l.length ≤ 100000 then forV S1.length i body (l.length + 1) 0 env (S1 ++ [.tab (.vl l)]) else .no
end
end DN
namespace DN
open PySem PySem.Spec PyProof.Rows L2 Evl OP
theorem _root_.L2H.RoomH.u1 {k : Nat} {A : Around} (r : L2H.RoomH k A) : A.units + 1 < cLine := by have := r.un; omega
theorem _root_.L2H.RoomH.u64 {k : Nat} {A : Around} (r : L2H.RoomH k A) : A.units + 64 < cLine := by have := r.un; omega
theorem _root_.L2H.RoomH.u65 {k : Nat} {A : Around} (r : L2H.RoomH k A) : A.units + 65 < cLine := by have := r.un; omega
section
variable {Z : Zx} {X : Cx} {Ew : L2.St → XK} {G H : Hp} {α : List Addr} {S : Sto} {Q : VK} {E : XK} {cs : List String} {a b : Expr} {fx fy : FE} {pos : Pos}
theorem _root_.L2H.FnH.imp {P : Program} {w : World} {K : PySem.W.Frag} {mg : Str → Option Value} {base : Heap} {CX : CXT} {k : Nat} {f : Addr} {fd : FuncData} {ps : List Str} {sp sp' : Sp} (F : L2H.FnH P w K mg base CX k f fd ps sp) (h : ∀ vs H Q E, sp' vs H Q E → sp vs H Q E) : L2H.FnH P w K mg base CX k f fd ps sp' :=
  ⟨fun vs H Q E q => F.len vs H Q E (h _ _ _ _ q), fun A outer s H args us vs Q E p r hot pin e0 b v q => F.run A outer s H args us vs Q E p r hot pin e0 b v (h _ _ _ _ q)⟩
theorem passH {CX : CXT} {X : Cx} (h : ∀ o H s e s', CX o H s (fun _ _ _ => False) e s' → False) : Passes CX X E0 := fun _ _ _ _ _ _ _ c => (h _ _ _ _ _ c).elim
end
end DN
namespace HotL
open PySem PySem.Spec PyProof.Rows L2 L2H HotX
section
variable {prog : Program} {w : World} {A : Around} {E : Value → Shared → Prop} {s : Shared}
/-- the end of a list, where an exception is handled -/
theorem list_end {it l x1 : Addr} {i : Nat} {items : Array Value} {Q : Option Value → Shared → Prop} (hot : HotAt A x1 s.heap)
    (hit : s.heap.IsListIter it l i) (hl : s.heap.IsList l items) (hx : items[i]? = none)
    (hQ : ∀ h', Heap.ExtBut it s.heap h' → Q none { s with heap := h' }) : wpAny (model prog w) A (pyNext (.ref it)) Q E s := by
  obtain ⟨o, ho, hc, hd⟩ := id hit
  obtain ⟨ol, hol, _, nl, hdl⟩ := hl
  obtain ⟨hh, o1, vs1, h1, d1, c1⟩ := hot
  unfold pyNext
  refine wpAny_bind (wpAny_attempt (wpAny_callSpecial?_slot (name := Str.ofString "__next__") hit.typeIs slot_listiter_next
    (wpAny_call_entry slot_listiter_next hit.typeIs entry_listiter_next ?_ (args_listiter_next _))))
  show wpAny _ _ (field (.ref it) 0 >>= _) _ _ s
  refine wpAny_bind (wpAny_field ho hd (x := .ref l) rfl ?_)
  show wpAny _ _ (if (Value.ref l == Value.none) = true then _ else _) _ _ s
  rw [if_neg (show ¬ ((Value.ref l == Value.none) = true) from Bool.false_ne_true)]
  show wpAny _ _ (field (.ref it) 1 >>= _) _ _ s
  refine wpAny_bind (wpAny_field ho hd (x := .int i 0) rfl ?_)
  show wpAny _ _ (seqItems? (.ref l) >>= _) _ _ s
  refine wpAny_bind (wpAny_seqItems hol hdl ?_)
  simp only [Int.toNat_natCast, hx]
  refine wpAny_bind (wpAny_rule (wpAny_bind (wpAny_setField ho hd (by simp) ?_)))
  show wpAny _ _ (newExc (.type "StopIteration") [] >>= _) _ _ _
  refine wpAny_bind ?_
  simp only [newExc, newTuple]
  refine wpAny_bind (wpAny_newObj_type ?_ (by size_fits))
  refine wpAny_bind (m := firstArgMember _ _) (wpAny_of_eq (a := Value.none) (by first | rfl | (simp only [firstArgMember]; rfl)) ?_)
  refine wpAny_newObj_type ?_ (by size_fits)
  have hne : it ≠ x1 := fun z => by
    rw [z, h1] at ho
    cases ho
    rw [d1] at hd
    cases hd
    simp at c1
  have up : (s.heap.update it (Obj.mapFields fun vs => vs.setIfInBounds 0 Value.none)).get? x1 = some o1 := (Heap.get?_update_other _ _ hne).trans h1
  refine raiseNew_hot ⟨hh, o1, vs1, Heap.get?_push_of_some _ (Heap.get?_push_of_some _ up), d1, c1⟩ (Nat.ne_of_lt (Heap.lt_size (Heap.get?_push_of_some _ up))) (Heap.get?_push_size _ rfl) rfl (by first | (simp; done) | (simp; omega) | (simp only [Array.size_append]; simp; omega)) ?_
  refine wpAny_bind (wpAny_isInstance (T := "StopIteration") (b := true) ⟨_, Heap.get?_update_self _ (Heap.get?_push_size _ rfl) rfl, rfl⟩ isSubtype_stop ?_)
  refine wpAny_pure (hQ _ fun b o hb e => ?_)
  have e2 : (s.heap.update it (Obj.mapFields fun vs => vs.setIfInBounds 0 Value.none)).get? b = some o := (Heap.get?_update_other _ _ (Ne.symm hb)).trans e
  rw [Heap.get?_update_other _ _ (Nat.ne_of_gt (Heap.lt_size (Heap.get?_push_of_some _ e2)))]
  exact Heap.get?_push_of_some _ (Heap.get?_push_of_some _ e2)
theorem turn_listH {P : Program} {w : World} {K : PySem.W.Frag} {tg : Expr} (a it : Addr) : TurnH P w K tg (Itl K a) [it] it (fun i h => h.IsListIter it a i) where
  mem := by simp
  obj := fun i h st b hb => by
    have e : b = it := by simpa using hb
    subst e
    obtain ⟨o, e, c, d⟩ := st
    exact ⟨o, e, fun v z => by rw [d] at z; cases z⟩
  keep := fun i h h' st k => st.at fun o e => k it (by simp) o e
  item := by
    intro X hP hw hK hc i pins s σ H E I hf st hg
    subst hP hw hK
    obtain ⟨xs, x, hq, hx⟩ := hg
    obtain ⟨its, rv, p, hz⟩ := I.list hq
    obtain ⟨u, hu, ru⟩ := rv.get hx
    obtain ⟨f0, f1, f2, f3, f4, f5⟩ := hf it (by simp)
    refine wpAny_pyNext_list_item st p.isList (x := u) (by simpa using hu) fun h' st' sb => ?_
    have I1 : Inv X pins σ H { s with heap := h' } := I.turned (t' := s.toks) (fun b o hb e => (sb.2 b hb).trans e) f0 f1 f3 f4 f5
    obtain ⟨o, e, c, d⟩ := id st'
    exact ⟨u, rfl, go_of (s := { s with heap := h' }) e c d (by decide) ⟨x, H, I1, ru, ⟨rfl, fun ys hy => by rw [I.list_inj hy hq]; exact hx⟩, st', fun b hb => (hf b hb).1⟩⟩
  done := by
    intro X hP hw hK hc i pins s σ H E I hf st hg
    subst hP hw hK
    obtain ⟨xs, hq, hx⟩ := hg
    obtain ⟨its, rv, p, hz⟩ := I.list hq
    obtain ⟨f0, f1, f2, f3, f4, f5⟩ := hf it (by simp)
    have hl := rv.length
    obtain ⟨x1, hot⟩ := hc.at I
    exact list_end hot st p.isList (by simp; omega) fun h' eb => ⟨rfl, I.turned (t' := s.toks) (fun b o hb e => eb b o hb e) f0 f1 f3 f4 f5⟩
  self := fun _ _ _ _ _ st h => wpAny_pyIter_listiter st h
theorem pi_listH {X : Cx} {tg l : Expr} {tl : TE} (hl : PE X l tl) : PIH X tg l (iList X.K tl) := by
  refine ⟨fun pins s σ H R I h => ?_⟩
  refine thn (hl.run pins s σ H _ I h) fun v s1 ⟨x, H1, I1, r1, q1⟩ => ?_
  obtain ⟨a, e, ⟨xs, hq⟩, q⟩ := q1
  subst e
  cases r1
  obtain ⟨its, rv, p, hz⟩ := I1.list hq
  refine wpAny_pyIter_list p.isList ?_
  refine ⟨s1.heap.objs.size, [s1.heap.objs.size], _, _, H1, rfl, I1.kept (t' := s1.toks) fun b o e => Heap.get?_push_of_some _ e, turn_listH a _, ⟨_, Heap.get?_push_size _ rfl, rfl, rfl⟩, fun b hb => ?_, q⟩
  have e : b = s1.heap.objs.size := by simpa using hb
  subst e
  exact I1.fpOk (Nat.le_refl _) (I1.hok.fresh (Nat.le_refl _))
theorem pi_listKH {K : PySem.W.Frag} {X : Cx} {tg e : Expr} {tl : TE} (hl : PE X e tl) (h : X.K = K := by rfl) : PIH X tg e (iList K tl) := h ▸ pi_listH hl
end
end HotL
namespace DN
open PySem PySem.Spec PyProof.Rows L2 Evl OP
section
variable {Z : Zx} {W : WX} {X : Cx} {G H : Hp} {α : List Addr} {S : Sto} {D : Ends} {env : Env} {σ : L2.St} {e : Expr} {es : List Expr} {pos pl p1 p2 : Pos} {fa : FA} {fi : FE} {Ew : L2.St → XK} {Q : VK}
theorem psf_forVH (i : Nat) {x : Str} {body : List Stmt} {fb : FS} (hK : X.K = Z.K) (hp : PassesOwn (model X.prog X.w) X.A X.env X.xe) (hc : L2H.HotC X) (ha : PAF Z (WE W) X es fa) (hN : X.N.Nodup) (hi : X.N[i]? = some x) (hx : Loc X.env.scope x) (hb : PSsF Z W X body fb)
    (hf : X.fn x = true ∨ X.env.scope.names.lookup x = some .local := by first | exact .inl rfl | exact .inr rfl) (hs : ∀ x, foldedSetIterable (.List es pl) X.env x = pure x := by intro _; rfl) : PSF Z W X (.For (.Name x p1) (.List es pl) body [] pos) (kForV i fa fb) := by
  obtain ⟨ta, h1, h2⟩ := ha.ex
  refine .of (L2H.ps_forH hp hc (HotL.pi_listKH (K := Z.K) (pe_lst h1) hK) (pg_name hN hi hx hf) hb.ps hs) fun env σ G α S H D hd oe w => h2.bindS hd oe w fun S1 l vs H1 G1 α1 f1 hd1 oe1 ol w1 => ?_
  by_cases hl : l.length ≤ 100000
  · rw [if_pos hl] at w1
    refine ⟨sz_of (by rw [ol.len]; exact hl), fun p hp' => ?_⟩
    obtain ⟨hd2, f2⟩ := hd1.layV ol hp'
    have w2 := WkS.later w1 f2
    have hq : (α1 ++ [p])[S1.length]? = some p := by rw [← hd1.len, List.getElem?_append_right (Nat.le_refl _), Nat.sub_self]; rfl
    refine ⟨p, rfl, ⟨vs, SqL.of upd_same⟩, fun k m σ' H' => ∃ env' G' α' S', Fr G1 (α1 ++ [p]) (upd H1 p (.lst vs)) G' α' H' ∧ Hd Z G' α' S' H' ∧ OnE Z G' α' env' σ' ∧ WkS Z (forV S1.length i fb m k env' S') G' α' H' D W, ⟨l.length + 1, env, G1, α1 ++ [p], _, Fr.refl _ _ _, hd2, oe1.up f2.g f2.a, w2⟩, ?_⟩
    rintro k m σ' H' ⟨env', G', α', S', f3, hd3, oe3, w3⟩
    have hq3 := f3.a.get hq
    cases m with
    | zero => exact w3.elim
    | succ m =>
      unfold forV at w3
      cases e : S'[S1.length]? with
      | none => rw [e] at w3; exact w3.elim
      | some c =>
        rw [e] at w3
        cases c with
        | tab t =>
          cases t with
          | rows r => exact w3.elim
          | vl l' =>
            obtain ⟨ys, e1, ol'⟩ := vl_at hd3 hq3 e
            simp only at w3
            have hlen := onA_len ol'
            cases e2 : l'[k]? with
            | none =>
              rw [e2] at w3
              refine .inl ⟨⟨ys, SqL.of e1, by rw [hlen]; exact List.getElem?_eq_none_iff.mp e2⟩, WkS.here w3 hd3 oe3⟩
            | some v =>
              rw [e2] at w3
              obtain ⟨y, y1, y2⟩ := onA_get ol' e2
              refine .inr ⟨⟨ys, y, SqL.of e1, y1⟩, _, fun σ4 H4 h4 => ⟨m, Nat.lt_succ_self m, h4⟩, fun x4 H4 yy => ?_⟩
              obtain ⟨rfl, yx⟩ := yy
              have ex := yx ys (SqL.of e1)
              rw [y1] at ex
              cases ex
              refine ⟨env'.set i (.v v), G', α', S', hd3, oe3.set i y2, ?_⟩
              simp only at w3
              cases q3 : fb (env'.set i (.v v)) S' with
              | nx e5 S5 =>
                simp only [q3] at w3
                exact fun σ5 H5 G5 α5 f5 hd5 oe5 => ⟨e5, G5, α5, S5, f3.trans f5, hd5, oe5, WkS.later w3 f5⟩
              | ct e5 S5 =>
                simp only [q3] at w3
                exact fun σ5 H5 G5 α5 f5 hd5 oe5 => ⟨e5, G5, α5, S5, f3.trans f5, hd5, oe5, WkS.later w3 f5⟩
              | bk e5 S5 => simp only [q3] at w3; exact w3
              | rt S5 r => simp only [q3] at w3; exact w3
              | ex e5 S5 x => simp only [q3] at w3; exact w3
              | no => simp only [q3] at w3; exact w3
        | _ => exact w3.elim
  · rw [if_neg hl] at w1
    exact w1.elim
end
theorem pe_xfH {X : Cx} {a C : Addr} {oe : Obj} {cls : Value} {d : Option Addr} {e : Expr} {te : TE} {pos : Pos} {n : Str} (T : XfC X.K C) (hno : PySem.W.findIn X.K (.ref C) n = some none)
    (hz : Zc cls d oe) (hf : ∃ vs, oe.data = .fields vs) (hp : (a, oe) ∈ X.pn) (he : PE X e te) (hb : attributeBase e n X.env (eval e X.env) = eval e X.env := by rfl) :
    PE X (.Attribute e n pos) (tXf a cls d C n te) := by
  refine ⟨fun pins s σ H Q I h => ?_⟩
  refine attr_of hb (thn (he.run pins s σ H _ I h) fun u s1 hh => ?_)
  obtain ⟨x, H1, I1, rx, ex, ec, dd, fs, v, ed, ea, l, q⟩ := hh
  subst ex
  obtain rfl : u = Value.ref a := rx
  subst ec
  subst ed
  obtain ⟨ha, _⟩ := I1.pin (a, oe) (List.mem_append_left _ hp)
  obtain ⟨vs, hd⟩ := hf
  have hx : ObjOk X.prog X.w H1 s1.heap dd (.xd fs) := I1.hok dd _ ea
  obtain ⟨mA, hns, hr⟩ := hx
  obtain ⟨od, ho, hl⟩ := lookIn_ns hns
  obtain ⟨u, hu, ru⟩ := RelO.some_of (v := v) (o := mA n) (by rw [← l]; exact hr n)
  have J : PySem.W.InstAt s1.heap a oe C (some od) := ⟨ha, hz.1, by unfold PySem.W.notCls; rw [hd] <;> rfl, by rw [hz.2]; exact ho⟩
  exact HandSPX.exc_get I1.kIn J T.ga T.gg T.exC (PySem.W.findObj_own T.hdC hno rfl (by rw [hl, hu])) (handed_of ru) ⟨v, H1, I1.tok _, ru, q⟩
theorem pf_xvH {errs : List String} {i : Nat} {x : Str} {Z : Zx} {X : Cx} {p : Addr × Obj} {cls : Value} {d : Option Addr} {Ew : L2.St → XK} {pos p1 : Pos} (T : AllC (fun c => XfC X.K (Z.cm c) ∧ PySem.W.findIn X.K (.ref (Z.cm c)) "value" = some none) errs) (hz : Zc cls d p.2) (hf : ∃ vs, p.2.data = .fields vs) (hp : p ∈ X.pn)
    (hN : X.N[i]? = some x := by rfl) (hv : Vis X.env.scope x := by first | exact Or.inl rfl | exact Or.inr (Or.inl rfl) | exact Or.inr (Or.inr rfl)) (hd : (x == ("__debug__" : Str)) = false := by decide)
    (hcd : (x == ("__classdict__" : Str)) = false := by decide) (hb : attributeBase (.Name x p1) "value" X.env (eval (.Name x p1) X.env) = eval (.Name x p1) X.env := by rfl) : PF (Z.at p.1 cls d) Ew X (.Attribute (.Name x p1) "value" pos) (fXv errs i) := by
  refine ⟨fun σ H Q => ∃ c ∈ errs, tXf p.1 cls d (Z.cm c) "value" (tVar i) σ H Q, ⟨fun pins s σ H Q I h => ?_⟩, fun env σ G α S H Q hd oe w => ?_⟩
  · obtain ⟨c, hc, h⟩ := h
    obtain ⟨t1, t2⟩ := T.mem (by simpa using hc)
    exact (pe_xfH (X := X) t1 t2 hz hf hp (pe_var (X := X) hN hv hd hcd) hb).run pins s σ H Q I h
  · unfold fXv at w
    cases q : env[i]? with
    | none => rw [q] at w; exact w.elim
    | some s =>
      rw [q] at w
      cases s with
      | u => exact w.elim
      | v r => exact w.elim
      | x c r =>
        simp only at w
        by_cases hc : errs.contains c = true
        · rw [if_pos hc] at w
          obtain ⟨a', dd, v, h1, h2, h3, h4⟩ := oe.xs i c r q
          have h1 : some (p.1, cls, d) = some (a', Value.ref (Z.cm c), some dd) := h1
          simp only [Option.some.injEq, Prod.mk.injEq] at h1
          obtain ⟨rfl, rfl, rfl⟩ := h1
          exact ⟨c, by simpa using hc, _, h2, rfl, rfl, dd, _, v, rfl, hd.ex _ _ h3, by simp [List.lookup], w H G α (Fr.refl _ _ _) hd v h4⟩
        · rw [if_neg hc] at w
          exact w.elim
abbrev FDX := String → FD
def startX (n : Nat) (c : String) (args : List Vr) : Env := match args with
  | r :: l => .x c r :: startE (n - 1) l
  | [] => []
def defDX (n : Nat) (body : FS) : FDX := fun c args S => exitR S.length (outS (body (startX n c args) S))
/-- the promise: a the exception, its class, its dict -/
def spDX (Z : Zx) (m : Nat) (D : FDX) (a : Addr) (cls : Value) (d : Option Addr) : Sp := fun vs H Q _ => ∃ G α S c dd w r l ws, cls = .ref (Z.cm c) ∧ d = some dd ∧ G dd = some (.xd [(("value" : Str), w)]) ∧ OnR Z G α r w ∧
  Hd Z G α S H ∧ vs = .ref a :: ws ∧ OnA Z G α l ws ∧ l.length + 1 = m ∧ Wk (Z.at a cls d) (D c (r :: l) S) G α H (pRt (Z.at a cls d) Q) E0
/-- room where an exception is handled; if b, no repr is under way -/
structure RoomX (b : Bool) (k : Nat) (A : Around) : Prop extends L2H.RoomH k A where
  gd : b = true → A.guards = some []
theorem RoomX.mono {b : Bool} {j k : Nat} {A : Around} (r : RoomX b k A) (h : j ≤ k) : RoomX b j A := ⟨r.toRoomH.mono h, r.gd⟩
theorem RoomX.deeper {b : Bool} {k : Nat} {A : Around} (r : RoomX b (k + 1) A) (env : PySem.Env) : RoomX b k (A.deeper env) := ⟨r.toRoomH.deeper env, r.gd⟩
theorem RoomX.suite {b : Bool} {k : Nat} {X : Cx} {a : Addr} {pn : List (Addr × Obj)} (r : RoomG b k X.A) : RoomX b k (X.suite a pn).A := ⟨⟨r.dp, r.un⟩, r.gd⟩
structure FnHX (b : Bool) (P : Program) (w : World) (K : PySem.W.Frag) (mg : Str → Option Value) (base : Heap) (CX : CXT) (k : Nat) (f : Addr) (fd : FuncData) (ps : List Str) (sp : Addr → Value → Option Addr → Sp) : Prop where
  len : ∀ a cls d vs H Q E, sp a cls d vs H Q E → vs.length = ps.length
  run : ∀ (A : Around) (outer : List PySem.Env) (s : Shared) (H : Hp) (args : Args) (us : List Value) (vs : List V) (Q : VK) (E : XK) (p : Addr × Obj) (cls : Value) (d : Option Addr), RoomX b k A → L2H.Hot1 A p → L2N.Zn cls d p.2 → L2H.PinOk outer H s p →
    Env0 P w K mg base A outer s H → BindsTo s fd args (ps.zip us) → Vals vs us → sp p.1 cls d vs H Q E → codeAny (model P w) A (.call (.ref f) args) (CR CX outer P w H s Q E) s
section
open L2H
variable {b : Bool} {P : Program} {w : World} {K : PySem.W.Frag} {mg : Str → Option Value} {base : Heap} {CX : CXT} {j k : Nat} {f : Addr} {fd : FuncData} {ps : List Str} {sp : Addr → Value → Option Addr → Sp}
theorem FnHX.mono (F : FnHX b P w K mg base CX j f fd ps sp) (h : j ≤ k) : FnHX b P w K mg base CX k f fd ps sp := ⟨F.len, fun A o s H args us vs Q E p cls d r => F.run A o s H args us vs Q E p cls d (r.mono h)⟩
theorem fn_ofHX {name qual : Str} {params : Arguments} {body : List Stmt} {scope : Scope} {dV kV doc pm cdv ct oc : Value} {an od : Option Addr}
    {osl : Array (Option Value)} {N : List Str} (lk : K.lookup f = some ⟨oc, od, .func (PySem.W.fnOf name qual params body scope dV kV doc pm an cdv ct), osl⟩) (hcd : PySem.W.codeIn K cdv qual = true) (S : FnScope N ps scope)
    (len : ∀ a cls d vs H Q E, sp a cls d vs H Q E → vs.length = ps.length)
    (hbody : ∀ (A : Around) (outer : List PySem.Env) (s : Shared) (H : Hp) (vs : List V) (Q : VK) (E : XK) (p : Addr × Obj) (cls : Value) (d : Option Addr), Hot1 A p → L2N.Zn cls d p.2 → RoomX b k (A.deeper (envOfC qual scope s.heap.objs.size f cdv)) → sp p.1 cls d vs H Q E →
      ∃ t, PSs (cxH CX P w K mg base N qual scope f cdv A outer s H E p) body t ∧ t { nx := fun _ H' => Q .non H', rt := Q } (L2.start N vs) H) :
    FnHX b P w K mg base CX (k + 1) f (PySem.W.fnOf name qual params body scope dV kV doc pm an cdv ct) ps sp := by
  refine ⟨len, fun A outer s H args us vs Q E p cls d hr hot hz hpin e0 hb r hsp => ?_⟩
  have hl := len _ _ _ _ _ _ _ hsp
  have KX : K.In s.heap := e0.mod.kin.keeps fun b o e => (e0.bs b o e).1
  have lim : s.heap.NoLimit := e0.mod.nolimit.keeps fun b o e => (e0.bs b o e).1
  have hkind : ∀ y ∈ ps.zip us, scope.names.lookup y.1 = some .local ∨ (scope.names.lookup y.1 = some .cell ∧ ((cellsFrom (s.heap.objs.size + 1) scope.names []).lookup y.1).isSome = true) := fun ⟨n, v⟩ hy => by
    rcases S.par n (List.of_mem_zip hy).1 with q | q
    · exact .inl q
    · exact .inr ⟨q, PySem.W.cellsFrom_some _ _ _ (.inl q)⟩
  refine codeAny_call_function hr.toRoomH.depth (KX _ _ lk) rfl S.co S.gen rfl (PySem.W.codeRec_of KX hcd) (hb _ _ _ _ ?_)
  refine wpAny_newFunctionEnv_cells S.kind hkind fun env he s1 x => ?_
  subst he
  refine ⟨lim.keeps x.toInCall.keep, codeAny_func ?_⟩
  obtain ⟨t, ht, hq⟩ := hbody A outer s H vs Q E p cls d hot hz (hr.deeper _) hsp
  have I : Inv (cxH CX P w K mg base N qual scope f cdv A outer s H E p) [] (L2.start N vs) H s1 := inv_startH S hpin e0 hl r x
  refine wpAny_mono (ht.run [] s1 (L2.start N vs) H _ I hq) (fun fl s' hs => ?_) fun e s' hs => hs
  have fin : ∀ {σ' : L2.St} {H' : Hp} {v : V} {u : Value}, Inv (cxH CX P w K mg base N qual scope f cdv A outer s H E p) [] σ' H' s' → RelV v u → Q v H' → CE outer P w H s Q u s' :=
    fun {σ' H' v u} J rv q => ⟨v, H', J.os, J.bare, J.base, J.hok, rv, q⟩
  cases fl with
  | ret u =>
    obtain ⟨v, σ', H', J, rv, q⟩ := hs
    exact fin J rv q
  | next =>
    obtain ⟨σ', H', J, q⟩ := hs
    exact fin (v := V.non) (u := Value.none) J rfl q
  | brk =>
    obtain ⟨_, _, _, q⟩ := hs
    exact False.elim q
  | cont =>
    obtain ⟨_, _, _, q⟩ := hs
    exact False.elim q
end
theorem start_onX {Z : Zx} {G : Hp} {α : List Addr} {N : List Str} {c : String} {r : Vr} {l : List Vr} {ws : List V} {w : V} {a dd : Addr} {m : Nat} (hN : N.length = m + 1) (h : OnA Z G α l ws) (hd : G dd = some (.xd [(("value" : Str), w)])) (hr : OnR Z G α r w) :
    OnE (Z.at a (.ref (Z.cm c)) (some dd)) G α (startX N.length c (r :: l)) (L2.start N (.ref a :: ws)) := by
  have hl := h.len
  have e0 : startX N.length c (r :: l) = .x c r :: startE m l := by
    unfold startX
    rw [hN]
    rfl
  have e1 : L2.start N (.ref a :: ws) = some (.ref a) :: (ws.map some ++ List.replicate (m - ws.length) none) := by
    unfold L2.start
    rw [hN]
    simp
  rw [e0, e1]
  refine ⟨?_, fun i d e => ?_, fun i c' r' e => ?_⟩
  · unfold startE
    simp [hl]
  · cases i with
    | zero => cases e
    | succ i =>
      rw [List.getElem?_cons_succ] at e ⊢
      unfold startE at e
      by_cases hi : i < l.length
      · rw [List.getElem?_append_left (by rw [List.length_map]; exact hi), List.getElem?_map] at e
        cases q : l[i]? with
        | none => rw [q] at e; cases e
        | some a' =>
          rw [q] at e
          cases e
          obtain ⟨x, h1, h2⟩ := h.get q
          refine ⟨x, ?_, h2⟩
          rw [List.getElem?_append_left (by rw [List.length_map, hl]; exact hi), List.getElem?_map, h1]
          rfl
      · rw [List.getElem?_append_right (by rw [List.length_map]; omega), List.getElem?_replicate] at e
        split at e <;> cases e
  · cases i with
    | zero =>
      cases e
      exact ⟨a, dd, w, rfl, rfl, hd, hr⟩
    | succ i =>
      rw [List.getElem?_cons_succ] at e
      unfold startE at e
      by_cases hi : i < l.length
      · rw [List.getElem?_append_left (by rw [List.length_map]; exact hi), List.getElem?_map] at e
        cases q : l[i]? with
        | none => rw [q] at e; cases e
        | some a' => rw [q] at e; cases e
      · rw [List.getElem?_append_right (by rw [List.length_map]; omega), List.getElem?_replicate] at e
        split at e <;> cases e
/-- such a def computes its denotation -/
theorem fn_dHX {Z : Zx} {P : Program} {w : World} {K : PySem.W.Frag} {mg : Str → Option Value} {base : Heap} {CX : CXT} {b : Bool} {x qual : Str} {st : Stmt} {f : Addr} {fd : FuncData} {N ps : List Str} {k n : Nat} {fb : FS} (F : FunD K x qual st f fd) (sc : FnScope N ps (defScope st)) (hps : ps.length = n + 1) (hN : ∃ m, N.length = m + 1)
    (hb : ∀ (cdv : Value) (A : Around) (outer : List PySem.Env) (s : Shared) (H : Hp) (E : XK) (p : Addr × Obj) (cls : Value) (d : Option Addr), L2H.Hot1 A p → L2N.Zn cls d p.2 → (∃ vs, p.2.data = .fields vs) → RoomX b k (A.deeper (envOfC qual (defScope st) s.heap.objs.size f cdv)) →
      PSsF (Z.at p.1 cls d) (WD E) (L2H.cxH CX P w K mg base N qual (defScope st) f cdv A outer s H E p) (defBody st) fb) : FnHX b P w K mg base CX (k + 1) f fd ps (spDX Z ps.length (defDX N.length fb)) := by
  obtain ⟨oc, od, dV, kV, doc, pm, an, cdv, ct, osl, rfl, lk, hcd⟩ := F.ex
  obtain ⟨m0, hN⟩ := hN
  refine fn_ofHX lk hcd sc (fun a cls d vs H Q E h => ?_) fun A outer s H vs Q E p cls d hot hz hr h => ?_
  · obtain ⟨G, α, S, c, dd, w0, r, l, ws, _, _, _, _, _, rfl, h1, h2, _⟩ := h
    rw [List.length_cons, h1.len, h2]
  · obtain ⟨G, α, S, c, dd, w0, r, l, ws, rfl, rfl, hx, hxr, hd, rfl, oa, hl, w'⟩ := h
    have hf : ∃ vs, p.2.data = .fields vs := by
      obtain ⟨_, vs, e, _⟩ := hot
      exact ⟨vs, e⟩
    refine ⟨_, (hb cdv A outer s H E p _ _ hot hz hf hr).ps, startX N.length c (r :: l), G, α, S, hd, start_onX hN oa hx hxr, ?_⟩
    have w2 := exitR_ok (Z := Z.at p.1 (.ref (Z.cm c)) (some dd)) hd w'
    cases q : fb (startX N.length c (r :: l)) S with
    | nx e2 S2 =>
      rw [q] at w2
      exact fun σ2 H2 G2 α2 f2 hd2 oe2 => w2 H2 G2 α2 f2 hd2 _ (or_non (Z.at _ _ _) G2 α2)
    | rt S2 r =>
      rw [q] at w2
      show Wk (Z.at _ _ _) (.ok S2 r) G α H (pRt (Z.at _ _ _) Q) E0
      cases r <;> exact w2
    | ex e2 S2 x =>
      rw [q] at w2
      exact fun σ2 cls d H2 G2 α2 f2 hd2 oe2 ox => (w2 cls d H2 G2 α2 f2 hd2 ox).elim
    | bk e2 S2 => rw [q] at w2; exact w2.elim
    | ct e2 S2 => rw [q] at w2; exact w2.elim
    | no => rw [q] at w2; exact w2.elim
def fCallX (m : Nat) (D : FDX) (i : Nat) (fa : FA) : FE := fun env S => match env[i]? with
  | some (.x c r) => (fa env S).bind fun S1 l => if l.length + 1 = m then okR (D c (r :: l) S1) else .no
  | _ => .no
section
variable {b : Bool} {X : Cx} {CX : CXT} {k m i : Nat} {f : Addr} {fd : FuncData} {ps : List Str} {sp : Addr → Value → Option Addr → Sp} {x y : Str} {q q2 pos : Pos} {es : List Expr} {ta : TA} {E : XK} {cls : Value} {d : Option Addr} {p : Addr × Obj}
theorem run_fnHX {pins : List (Addr × Obj)} {σ : L2.St} {H : Hp} {s : Shared} {Q : VK} {us : List Value} {vs : List V} (F : FnHX b X.prog X.w X.K X.mg X.base CX k f fd ps sp) (hr : RoomX b k X.A) (hot : L2H.Hot1 X.A p) (hz : L2N.Zn cls d p.2) (hp : p ∈ X.pn) (hb : Binds X.K fd ps []) (hx : PassesAt CX X σ E)
    (I : Inv X pins σ H s) (r : Vals vs us) (h : sp p.1 cls d vs H Q E) : wpAny (model X.prog X.w) X.A (call (.ref f) us) (EP X pins σ Q) X.xe s := by
  have hl : us.length = ps.length := by rw [← r.length]; exact F.len _ _ _ _ _ _ _ h
  have b0 := hb s us I.kIn (by rw [List.append_nil]; exact hl)
  rw [List.append_nil] at b0
  have P1 := I.pin p (List.mem_append_left _ hp)
  have hpin : L2H.PinOk X.stack H s p := ⟨P1.1, P1.2.1, fun hm => (List.mem_cons.mp (I.stkSub p.1 hm)).elim P1.2.2.1 P1.2.2.2.1, P1.2.2.2.2⟩
  refine wpAny_call (codeAny_mono (F.run X.A X.stack s H ⟨us, []⟩ us vs Q E p cls d hr hot hz hpin I.env0 b0 r h) fun r s' hq => ?_)
  cases r with
  | error e => exact hx pins H s e s' I hq
  | ok fl =>
    cases fl with
    | ret u => exact I.after hq
    | next => exact False.elim hq
    | brk => exact False.elim hq
    | cont => exact False.elim hq
theorem pe_callHX (F : FnHX b X.prog X.w X.K X.mg X.base CX k f fd ps sp) (hr : RoomX b k X.A) (hot : L2H.Hot1 X.A p) (hz : L2N.Zn cls d p.2) (hp : p ∈ X.pn) (hg : Gl X x) (hm : X.mg x = some (.ref f)) (hk : PySem.W.keepIn X.K (.ref f) = true) (hb : Binds X.K fd ps []) (hx : ∀ σ, PassesAt CX X σ E) {e : Expr} {t : TA}
    (ha : PA X (e :: es) t) (hdb : (x == ("__debug__" : Str)) = false := by decide) (he : starEach (e :: es) X.env = (false, eval e X.env) :: starEach es X.env := by rfl) (hpl : (backTo pos (starEach es X.env)).any (·.1) = false := by rfl) :
    PE X (.Call (.Name x q) (e :: es) [] pos) (fun σ H Q => t σ H fun vs H1 => sp p.1 cls d vs H1 Q E) := by
  refine ⟨fun pins s σ H Q I h => ?_⟩
  refine wpAny_Call_Name_kw (ld_glob I hg hm ?_ hdb)
  refine PySem.W.callWith_K (h₀ := X.base) I.ok.mod.kin hk (thn (ha.run pos pins s σ H _ I h) fun us s1 ⟨vs, H1, I1, r, q⟩ => ⟨I1.kIn, ?_⟩) he hpl
  exact run_fnHX F hr hot hz hp hb (hx σ) I1 r q
/-- f(e, ..) in the suite of a clause -/
theorem pf_callX {D : FDX} {Z : Zx} {a : Addr} {oe : Obj} {pn : List (Addr × Obj)} {fa : FA} {Ew : L2.St → XK} (F : FnHX b X.prog X.w X.K X.mg X.base (L2N.CX X.prog X.w) k f fd ps (spDX Z m D)) (hr : RoomG b k X.A) (hz : L2N.Zn cls d oe) (hf : ∃ vs, oe.data = .fields vs)
    (hg : Gl (X.suite a ((a, oe) :: pn)) x) (hm : X.mg x = some (.ref f)) (hk : PySem.W.keepIn X.K (.ref f) = true) (hb : Binds X.K fd ps [])
    (ha : PAF (Z.at a cls d) Ew (X.suite a ((a, oe) :: pn)) es fa)
    (hN : X.N[i]? = some y := by rfl) (hv : Vis X.env.scope y := by first | exact Or.inl rfl | exact Or.inr (Or.inl rfl) | exact Or.inr (Or.inr rfl)) (hd : (y == ("__debug__" : Str)) = false := by decide)
    (hcd : (y == ("__classdict__" : Str)) = false := by decide)
    (hdb : (x == ("__debug__" : Str)) = false := by decide) (he : starEach (.Name y q2 :: es) X.env = (false, eval (.Name y q2) X.env) :: starEach es X.env := by rfl) (hpl : (backTo pos (starEach es X.env)).any (·.1) = false := by rfl) :
    PF (Z.at a cls d) Ew (X.suite a ((a, oe) :: pn)) (.Call (.Name x q) (.Name y q2 :: es) [] pos) (fCallX m D i fa) := by
  obtain ⟨ta, h1, h2⟩ := ha.ex
  have hot : L2H.Hot1 (X.suite a ((a, oe) :: pn)).A (a, oe) := by
    obtain ⟨vs, e⟩ := hf
    exact ⟨rfl, vs, e, hz.2.2 vs e⟩
  refine ⟨_, pe_callHX (X := X.suite a ((a, oe) :: pn)) (p := (a, oe)) F (RoomX.suite hr) hot hz List.mem_cons_self hg hm hk hb (fun σ => passesAt (passH fun _ _ _ _ _ => cx_no) σ) (pa_cons (pe_var (X := X.suite a ((a, oe) :: pn)) hN hv hd hcd) h1 he) hdb he hpl, fun env σ G α S H Q hd oe' w => ?_⟩
  unfold fCallX at w
  cases q : env[i]? with
  | none => rw [q] at w; exact w.elim
  | some sl =>
    rw [q] at w
    cases sl with
    | u => exact w.elim
    | v r => exact w.elim
    | x c r =>
      obtain ⟨a', dd, w0, e1, e2, e3, e4⟩ := oe'.xs i c r q
      have e1 : some (a, cls, d) = some (a', Value.ref (Z.cm c), some dd) := e1
      simp only [Option.some.injEq, Prod.mk.injEq] at e1
      obtain ⟨rfl, rfl, rfl⟩ := e1
      refine ⟨_, e2, ?_⟩
      refine h2.bind hd oe' w fun S2 l vs H2 G2 α2 f2 hd2 oe2 ol w2 => ?_
      by_cases hl : l.length + 1 = m
      · rw [if_pos hl] at w2
        exact ⟨G2, α2, S2, c, dd, w0, r, l, vs, rfl, rfl, f2.g _ _ e3, e4.up f2.g f2.a, hd2, rfl, ol, hl, okR_ok w2⟩
      · rw [if_neg hl] at w2
        exact w2.elim
end
theorem podH {P : Program} {w : World} {K : PySem.W.Frag} {mg : Str → Option Value} {base : Heap} {N : List Str} {qual : Str} {scope : Scope} {f : Addr} {cd : Value} {A : Around} {outer : List PySem.Env} {s : Shared} {H : Hp} {E : XK} {p : Addr × Obj} :
    PassesOwn (model P w) (L2H.cxH (L2N.CX P w) P w K mg base N qual scope f cd A outer s H E p).A (L2H.cxH (L2N.CX P w) P w K mg base N qual scope f cd A outer s H E p).env (L2H.cxH (L2N.CX P w) P w K mg base N qual scope f cd A outer s H E p).xe := pod (N := N) (base := base) (mg := mg) (K := K)
end DN
namespace DN
open PySem PySem.Spec PyProof.Rows L2 Evl
def fKIx (tbl : List (Str × Str)) (fb : FE) : FE := fun env S => (fb env S).bindV fun S1 b => match b with
  | .d (.str s) => (match tbl.lookup s with
    | some t => .ok S1 (.val (.d (.str t)))
    | none => .no)
  | _ => .no
section
variable {Z : Zx} {X : Cx} {Ew : L2.St → XK} {b : Expr} {fb : FE} {pos p : Pos} {x : Str} {a : Addr} {tbl : List (Str × Str)}
theorem pf_kix (hg : Gl X x) (hm : X.mg x = some (.ref a)) (kd : ∀ q ∈ tbl, L2.KDct X.K X.w a q.1 (.str q.2)) (hb : PF Z Ew X b fb) (hs : PlainIx b := by exact fun _ _ => rfl) (hd : (x == ("__debug__" : Str)) = false := by decide) : PF Z Ew X (.Subscript (.Name x p) b pos) (fKIx tbl fb) := by
  obtain ⟨tb, h3, h4⟩ := hb.ex
  refine ⟨_, pe_ix ix_kdict (pe_glob (v := .ref a) hg hm rfl hd) h3 hs, fun env σ G α S H Q hd oe w => ?_⟩
  refine h4.bind hd oe w fun S2 d y H2 G2 α2 f2 hd2 oe2 oy w2 => ?_
  cases d with
  | r n => exact w2.elim
  | d d =>
    cases d with
    | str s =>
      simp only at w2
      cases q : tbl.lookup s with
      | none => rw [q] at w2; exact w2.elim
      | some t =>
        rw [q] at w2
        have hy : On Z G2 (.str s) y := oy
        unfold On at hy
        subst hy
        exact ⟨a, s, .str t, rfl, rfl, kd (s, t) (mem_of_lookup q), w2 H2 G2 α2 (Fr.refl _ _ _) hd2 _ (on_str (Z := Z) (G := G2))⟩
    | _ => exact w2.elim
end
/-- the walk under the written head (a top with a dict display is not run by the kernel: the hash of a text stands for any number) -/
theorem walk_ofW {l : PySem.W.OpenLaw} {n k : Nat} {q : Program} {loose : List Str} {XP : (Str → Option Value) → Heap → Prop} {YP : World → Heap → Prop} {d : DefRec} {K : Params → PySem.W.Frag} {CX : World → CXT} {sp : World → Sp} {x : Str}
    (hn : l.most = some n) (hn2 : n ≤ sizeLine) (hdf : d.params.defaults = []) (hr : RoomG true k callerA)
    (hY : ∀ (w : World) (h : Heap), YP w h → (K w.params).In h)
    (F : ∀ (w : World) (mg : Str → Option Value) (fa : Addr) (h : Heap), (K w.params).In h → h.Ns mainGlobals mg → mg d.name = some (.ref fa) →
      ∃ fd : FuncData, (∀ (s : Shared) (u : Value), BindsTo s fd ⟨[u], []⟩ [(x, u)]) ∧
        ∀ base : Heap, (K w.params).In base → base.Ns mainGlobals mg → FnG true l.prog w (K w.params) mg base (CX w) k fa fd [x] (sp w))
    (hsp : ∀ (w : World) (H : Hp) (a : Addr) (ns : List Int), ns.length ≤ n → Only H → SqL (K w.params) H a (ns.map V.int) → sp w [.ref a] H (fun v _ => v = .bl true) fun _ _ _ => False)
    (hCX : ∀ (w : World) (H : Hp) (s : Shared) (e : Value) (s' : Shared), CX w [] H s (fun _ _ _ => False) e s' → False) :
    PySem.W.WalkO q loose XP YP l.row.toRowW d [] (fun f vs => PySem.call f vs) := by
  refine Att.attach_call hn hdf fun w s₀ s₁ mg mb fa o pm cd doc a vs ns G Y ho hd hcd hmg hobj hints hlen hg => ?_
  have KX := hY w _ Y
  obtain ⟨fd, hb, hF⟩ := F w mg fa _ KX G.T.g hmg
  exact lawG_call KX G.T.g G.T.b G.T.builtins G.T.nolimit hg hobj hints (Nat.le_trans hlen hn2) hr hF hb (fun H hO hS => hsp w H a ns hlen hO hS) fun H e s' => hCX w H s₁ e s'
end DN
namespace Q03
open DN
abbrev errs : List String := ["InvalidWord", "UnlikeLengths", "InvalidPlace"]
abbrev B_law_box : FS :=
  (kRet (fLst (fCons (fCall gMax (fCons (fC (.int 0)) (fCons (fOp gSub (fVar 0) (fOp gPow (fC (.int 10)) (fC (.int 18)))) fNil))) (fCons (fOp gMod (fVar 0) (fC (.int 2147483629))) (fCons (fC (.int 0)) fNil)))))
def D_law_box : FD := defD 1 B_law_box
abbrev B_law_take : FS :=
  (kSeq (kIf (kVal (fOp gGt (fOp gIx (fVar 0) (fC (.int 0))) (fC (.int 0)))) (kSeq (kSet 2 (fOp gMod (fOp gIx (fVar 0) (fC (.int 0))) (fVar 1)))
    (kSeq (kSub (fVar 0) (fC (.int 0)) (fOp gDiv (fOp gIx (fVar 0) (fC (.int 0))) (fVar 1)))
    (kRet (fVar 2)))) kNext)
    (kSeq (kSub (fVar 0) (fC (.int 2)) (fOp gAdd (fOp gIx (fVar 0) (fC (.int 2))) (fC (.int 1))))
    (kSeq (kSet 3 (fOp gMod (fOp gPow (fOp gAdd (fOp gAdd (fOp gIx (fVar 0) (fC (.int 1))) (fOp gMul (fC (.int 69888)) (fOp gIx (fVar 0) (fC (.int 2))))) (fC (.int 30488))) (fC (.int 5))) (fC (.int 2147483647))))
    (kSeq (kSet 3 (fOp gMod (fOp gPow (fOp gAdd (fVar 3) (fOp gMul (fC (.int 227719)) (fOp gIx (fVar 0) (fC (.int 2))))) (fC (.int 3))) (fC (.int 2147483587))))
    (kRet (fOp gMod (fOp gDiv (fVar 3) (fC (.int 16))) (fVar 1)))))))
def D_law_take : FD := defD 4 B_law_take
abbrev B_law_words : FS :=
  (kSeq (kSet 1 (fOp gIx (fLst (fCons (fCallD 2 D_law_take (fCons (fVar 0) (fCons (fC (.int 9)) fNil))) (fCons (fCallD 2 D_law_take (fCons (fVar 0) (fCons (fC (.int 61)) fNil))) (fCons (fOp gAdd (fC (.int 58)) (fCallD 2 D_law_take (fCons (fVar 0) (fCons (fC (.int 3)) fNil)))) fNil)))) (fCallD 2 D_law_take (fCons (fVar 0) (fCons (fC (.int 3)) fNil)))))
    (kSeq (kSet 2 (fMeth "str" gJoin (fC (.str "")) (fCons (fLc (iRange1 (fCons (fVar 1) fNil)) (tgN 3) kYes (fOp gIx (fC (.str "01*")) (fCallD 2 D_law_take (fCons (fVar 0) (fCons (fC (.int 3)) fNil)))) [3]) fNil)))
    (kSeq (kSet 4 (fMeth "str" gJoin (fC (.str "")) (fCons (fLc (iVal (fVar 2)) (tgN 5) kYes (fOp gIx (fLst (fCons (fVar 5) (fCons (fOp gIx (fC (.str "01*")) (fCallD 2 D_law_take (fCons (fVar 0) (fCons (fC (.int 3)) fNil)))) fNil))) (fCallD 2 D_law_take (fCons (fVar 0) (fCons (fC (.int 2)) fNil)))) [5]) fNil)))
    (kSeq (kIf (kVal (fOp gEq (fCallD 2 D_law_take (fCons (fVar 0) (fCons (fC (.int 6)) fNil))) (fC (.int 0)))) (kSet 4 (fSl (fVar 4) fNoPart (fPart (fCallD 2 D_law_take (fCons (fVar 0) (fCons (fOp gAdd (fVar 1) (fC (.int 1))) fNil)))))) kNext)
    (kRet (fTup (fCons (fVar 2) (fCons (fVar 4) fNil))))))))
def D_law_words : FD := defD 6 B_law_words
abbrev B_law_cell_at : FS :=
  (kRet (fIf (kVal (fOp gLt (fVar 1) (fCall gLen (fCons (fVar 0) fNil)))) (fOp gIx (fVar 0) (fVar 1)) (fOp gAdd (fOp gMul (fC (.int 28724)) (fVar 1)) (fC (.int 19042)))))
def D_law_cell_at : FD := defD 2 B_law_cell_at
abbrev B_law_very : FS :=
  (kSeq (kSet 3 (fCall gShowE (fCons (fXv errs 0) fNil)))
    (kSeq (kForV 4 (fCons (fVar 1) (fCons (fVar 2) fNil))
      (kIf (kAnd (kVal (fCall (arg2 (gIsi [])) (fCons (fVar 4) (fCons (fC (.ty "list")) fNil)))) (kVal (fOp gEq (fCall gShowE (fCons (fVar 4) fNil)) (fVar 3)))) (kSeq (kExpr (fMut gAppend (fVar 4) (fCons (fC (.str "late")) fNil)))
    (kSeq (kIf (kVal (fOp gNe (fCall gShowE (fCons (fXv errs 0) fNil)) (fVar 3))) (kSeq (kExpr (fMut gPop (fVar 4) fNil))
    (kRet (fVar 3))) kNext)
    (kSeq (kExpr (fMut gPop (fVar 4) fNil))
    (kRet (fC (.str "a copy")))))) kNext))
    (kRet (fVar 3))))
def D_law_very : FDX := defDX 5 B_law_very
abbrev B_is_word : FS :=
  (kRet (fAnd (fCall (arg2 (gIsi [])) (fCons (fVar 0) (fCons (fC (.ty "str")) fNil))) (fAnd (fOp gLe (fCall gLen (fCons (fVar 0) fNil)) (fC (.int 60))) (fCall gAll (fCons (fLc (iVal (fVar 0)) (tgN 1) kYes (fOp gIn (fVar 1) (fC (.str "01*"))) [1]) fNil)))))
def D_is_word : FD := defD 2 B_is_word
abbrev B_check_word : FS :=
  (kIf (kNot (kVal (fCallD 1 D_is_word (fCons (fVar 0) fNil)))) (kRaise "InvalidWord" (fVar 0)) kNext)
def D_check_word : FD := defD 1 B_check_word
abbrev B_differing : FS :=
  (kSeq (kExpr (fCallD 1 D_check_word (fCons (fVar 0) fNil)))
    (kSeq (kExpr (fCallD 1 D_check_word (fCons (fVar 1) fNil)))
    (kSeq (kIf (kVal (fOp gNe (fCall gLen (fCons (fVar 0) fNil)) (fCall gLen (fCons (fVar 1) fNil)))) (kRaise "UnlikeLengths" (fTup (fCons (fVar 0) (fCons (fVar 1) fNil)))) kNext)
    (kRet (fLc (iEz (fCons (fVar 0) (fCons (fVar 1) fNil))) (tgT (tgCons (tgN 2) (tgCons (tgN 3) tgNil))) (kVal (fOp gIn (fVar 3) (fTup (fCons (fTup (fCons (fC (.str "0")) (fCons (fC (.str "1")) fNil))) (fCons (fTup (fCons (fC (.str "1")) (fCons (fC (.str "0")) fNil))) fNil))))) (fVar 2) [2, 3])))))
def D_differing : FD := defD 4 B_differing
abbrev B_apart : FS :=
  (kRet (fCall gLen (fCons (fCallD 2 D_differing (fCons (fVar 0) (fCons (fVar 1) fNil))) fNil)))
def D_apart : FD := defD 2 B_apart
abbrev B_flipped : FS :=
  (kSeq (kExpr (fCallD 1 D_check_word (fCons (fVar 0) fNil)))
    (kRet (fMeth "str" gJoin (fC (.str "")) (fCons (fLc (iVal (fVar 0)) (tgN 1) kYes (fKIx [("0", "1"), ("1", "0"), ("*", "*")] (fVar 1)) [1]) fNil))))
def D_flipped : FD := defD 2 B_flipped
abbrev B_is_integer : FS :=
  (kRet (fAnd (fCall (arg2 (gIsi [])) (fCons (fVar 0) (fCons (fC (.ty "int")) fNil))) (fNot (fCall (arg2 (gIsi [])) (fCons (fVar 0) (fCons (fC (.ty "bool")) fNil))))))
def D_is_integer : FD := defD 1 B_is_integer
abbrev B_opened : FS :=
  (kSeq (kExpr (fCallD 1 D_check_word (fCons (fVar 0) fNil)))
    (kSeq (kIf (kOr (kNot (kVal (fCallD 1 D_is_integer (fCons (fVar 1) fNil)))) (kNot (kVal (fChain gLe gLt (fC (.int 0)) (fVar 1) (fCall gLen (fCons (fVar 0) fNil)))))) (kRaise "InvalidPlace" (fVar 1)) kNext)
    (kRet (fOp gAdd (fOp gAdd (fSl (fVar 0) fNoPart (fPart (fVar 1))) (fC (.str "*"))) (fSl (fVar 0) (fPart (fOp gAdd (fVar 1) (fC (.int 1)))) fNoPart)))))
def D_opened : FD := defD 2 B_opened
abbrev B_law_caught : FS :=
  (kTry "OpenpostsError" errs [("InvalidWord", (some 3), (kRet (fLst (fCons (fC (.str "word")) (fCons (fCallX 3 D_law_very 3 (fCons (fVar 1) (fCons (fVar 2) fNil))) fNil))))), ("UnlikeLengths", (some 3), (kRet (fLst (fCons (fC (.str "unlike")) (fCons (fCall gShowE (fCons (fXv errs 3) fNil)) fNil))))), ("InvalidPlace", (some 3), (kRet (fLst (fCons (fC (.str "place")) (fCons (fCallX 3 D_law_very 3 (fCons (fVar 2) (fCons (fVar 2) fNil))) fNil))))), ("OpenpostsError", none, (kRet (fLst (fCons (fC (.str "other")) (fCons (fC (.str "")) fNil)))))]
      (kSeq (kIf (kVal (fOp gEq (fVar 0) (fC (.int 0)))) (kRet (fLst (fCons (fC (.str "told")) (fCons (fCall gShowE (fCons (fCallD 2 D_differing (fCons (fVar 1) (fCons (fVar 2) fNil))) fNil)) fNil)))) kNext)
    (kSeq (kIf (kVal (fOp gEq (fVar 0) (fC (.int 1)))) (kRet (fLst (fCons (fC (.str "told")) (fCons (fCall gShowE (fCons (fCallD 2 D_apart (fCons (fVar 1) (fCons (fVar 2) fNil))) fNil)) fNil)))) kNext)
    (kRet (fLst (fCons (fC (.str "told")) (fCons (fCall gShowE (fCons (fIf (kVal (fOp gEq (fVar 0) (fC (.int 2)))) (fCallD 1 D_flipped (fCons (fVar 1) fNil)) (fCallD 2 D_opened (fCons (fVar 1) (fCons (fVar 2) fNil)))) fNil)) fNil)))))))
def D_law_caught : FD := defD 4 B_law_caught
abbrev B_law_is_word : FS :=
  (kSeq (kIf (kOr (kNot (kVal (fCall (arg2 (gIsi [])) (fCons (fVar 0) (fCons (fC (.ty "str")) fNil))))) (kVal (fOp gGt (fCall gLen (fCons (fVar 0) fNil)) (fC (.int 60))))) (kRet (fC (.bl false))) kNext)
    (kRet (fOp gEq (fLc (iVal (fVar 0)) (tgN 1) (kVal (fOp gNotIn (fVar 1) (fCall gList (fCons (fC (.str "01*")) fNil)))) (fVar 1) [1]) (fLst fNil))))
def D_law_is_word : FD := defD 2 B_law_is_word
abbrev B_law_due : FS :=
  (kSeq (kIf (kNot (kVal (fCallD 1 D_law_is_word (fCons (fVar 1) fNil)))) (kRet (fLst (fCons (fC (.str "word")) (fCons (fCall gShowE (fCons (fVar 1) fNil)) fNil)))) kNext)
    (kSeq (kIf (kVal (fOp gEq (fVar 0) (fC (.int 2)))) (kRet (fLst (fCons (fC (.str "told")) (fCons (fCall gShowE (fCons (fMeth "str" gJoin (fC (.str "")) (fCons (fLc (iVal (fVar 1)) (tgN 3) kYes (fOp gIx (fDisp [.str "0", .str "1", .str "*"] [.str "1", .str "0", .str "*"]) (fVar 3)) [3]) fNil)) fNil)) fNil)))) kNext)
    (kSeq (kIf (kVal (fOp gEq (fVar 0) (fC (.int 3)))) (kSeq (kIf (kOr (kVal (fCall (arg2 (gIsi [])) (fCons (fVar 2) (fCons (fC (.ty "bool")) fNil)))) (kOr (kNot (kVal (fCall (arg2 (gIsi [])) (fCons (fVar 2) (fCons (fC (.ty "int")) fNil))))) (kNot (kVal (fChain gLe gLt (fC (.int 0)) (fVar 2) (fCall gLen (fCons (fVar 1) fNil))))))) (kRet (fLst (fCons (fC (.str "place")) (fCons (fCall gShowE (fCons (fVar 2) fNil)) fNil)))) kNext)
    (kRet (fLst (fCons (fC (.str "told")) (fCons (fCall gShowE (fCons (fMeth "str" gJoin (fC (.str "")) (fCons (fLc (iEnumD (fVar 1)) (tgT (tgCons (tgN 4) (tgCons (tgN 3) tgNil))) kYes (fOp gIx (fLst (fCons (fC (.str "*")) (fCons (fVar 3) fNil))) (fCall gInt (fCons (fOp gNe (fVar 4) (fVar 2)) fNil))) [4, 3]) fNil)) fNil)) fNil))))) kNext)
    (kSeq (kIf (kNot (kVal (fCallD 1 D_law_is_word (fCons (fVar 2) fNil)))) (kRet (fLst (fCons (fC (.str "word")) (fCons (fCall gShowE (fCons (fVar 2) fNil)) fNil)))) kNext)
    (kSeq (kIf (kVal (fOp gNe (fCall gLen (fCons (fVar 1) fNil)) (fCall gLen (fCons (fVar 2) fNil)))) (kRet (fLst (fCons (fC (.str "unlike")) (fCons (fCall gShowE (fCons (fTup (fCons (fVar 1) (fCons (fVar 2) fNil))) fNil)) fNil)))) kNext)
    (kSeq (kSet 5 (fLc (iRange1 (fCons (fCall gLen (fCons (fVar 1) fNil)) fNil)) (tgN 4) (kVal (fOp gIn (fOp gAdd (fOp gIx (fVar 1) (fVar 4)) (fOp gIx (fVar 2) (fVar 4))) (fLst (fCons (fC (.str "01")) (fCons (fC (.str "10")) fNil))))) (fVar 4) [4]))
    (kRet (fLst (fCons (fC (.str "told")) (fCons (fCall gShowE (fCons (fOp gIx (fLst (fCons (fVar 5) (fCons (fCall gLen (fCons (fVar 5) fNil)) fNil))) (fVar 0)) fNil)) fNil))))))))))
def D_law_due : FD := defD 6 B_law_due
abbrev B_law : FS :=
  (kSeq (kFor (iRange1 (fCons (fCall gMax (fCons (fC (.int 2)) (fCons (fCall gMin (fCons (fC (.int 8)) (fCons (fCall gLen (fCons (fVar 0) fNil)) fNil))) fNil))) fNil)) (tgN 1)
      (kSeq (kSetC 2 (fCallD 1 D_law_box (fCons (fCallD 2 D_law_cell_at (fCons (fVar 0) (fCons (fVar 1) fNil))) fNil)))
    (kSeq (kAsg (tgTL (tgCons (tgN 3) (tgCons (tgN 4) tgNil))) (fCallD 1 D_law_words (fCons (fVar 2) fNil)))
    (kSeq (kSetV 5 (fCons (fC .non) (fCons (fC (.bl true)) (fCons (fC (.bl false)) (fCons (fC (.int 0)) (fCons (fC (.int 1)) (fCons (fUn gNeg (fC (.int 1))) (fCons (fC (.str "2")) (fCons (fC (.str "0 ")) (fConsC (fLst (fCons (fC (.str "0")) fNil)) (fCons (fTup (fCons (fC (.str "0")) (fCons (fC (.str "1")) fNil))) fNil)))))))))))
    (kSeq (kAddV 5 5 (fCons (fDNew false) (fConsC (fLst fNil) (fCons (fOp gMul (fC (.str "0")) (fC (.int 61))) (fCons (fOp gPow (fC (.int 10)) (fC (.int 29))) (fCons (fCall gLen (fCons (fVar 3) fNil)) (fCons (fOp gSub (fCall gLen (fCons (fVar 3) fNil)) (fC (.int 1))) fNil)))))))
    (kSeq (kAddV 5 5 (fCons (fVar 3) (fCons (fVar 4) (fCons (fC (.str "")) (fCons (fC (.str "*")) (fCons (fOp gSub (fCallD 2 D_law_take (fCons (fVar 2) (fCons (fC (.int 62)) fNil))) (fC (.int 1))) fNil))))))
    (kSeq (kFor (iRange1 (fCons (fC (.int 12)) fNil)) (tgN 6)
      (kSeq (kSet 7 (fPick (fCons (fVar 3) (fCons (fVar 4) (fCons (fVx 5 (fCallD 2 D_law_take (fCons (fVar 2) (fCons (fC (.int 21)) fNil)))) fNil))) (fCallD 2 D_law_take (fCons (fVar 2) (fCons (fC (.int 3)) fNil)))))
    (kSeq (kSet 8 (fPick (fCons (fVar 4) (fCons (fVar 3) (fCons (fVx 5 (fCallD 2 D_law_take (fCons (fVar 2) (fCons (fC (.int 21)) fNil)))) (fCons (fVx 5 (fCallD 2 D_law_take (fCons (fVar 2) (fCons (fC (.int 21)) fNil)))) fNil)))) (fCallD 2 D_law_take (fCons (fVar 2) (fCons (fC (.int 4)) fNil)))))
    (kFor (iRange1 (fCons (fC (.int 4)) fNil)) (tgN 9)
      (kIf (kVal (fOp gNe (fCallD 3 D_law_caught (fCons (fVar 9) (fCons (fVar 7) (fCons (fVar 8) fNil)))) (fCallD 3 D_law_due (fCons (fVar 9) (fCons (fVar 7) (fCons (fVar 8) fNil)))))) (kRet (fC (.bl false))) kNext)))))
    (kFor (iRange1 (fCons (fC (.int 2)) fNil)) (tgN 6)
      (kFor (iRange1 (fCons (fC (.int 2)) fNil)) (tgN 9)
      (kSeq (kIf (kVal (fOp gNe (fCallD 3 D_law_caught (fCons (fVar 9) (fCons (fVar 3) (fCons (fVar 4) fNil)))) (fCallD 3 D_law_due (fCons (fVar 9) (fCons (fVar 3) (fCons (fVar 4) fNil)))))) (kRet (fC (.bl false))) kNext)
    (kIf (kAnd (kVal (fOp gEq (fCall gLen (fCons (fVar 3) fNil)) (fCall gLen (fCons (fVar 4) fNil)))) (kVal (fOp gNe (fCallD 3 D_law_caught (fCons (fVar 9) (fCons (fVar 4) (fCons (fVar 3) fNil)))) (fCallD 3 D_law_due (fCons (fVar 9) (fCons (fVar 3) (fCons (fVar 4) fNil))))))) (kRet (fC (.bl false))) kNext)))))))))))
    (kRet (fC (.bl true))))
def D_law : FD := defD 10 B_law
end Q03
namespace Q03
open PySem PySem.Spec PyProof.Rows L2 OP Evl
def topS (i : Nat) : Stmt := PySem.Challenge.pw_openposts_k03_words_side_by_side.main.body.getD i (.Pass ⟨0, 0, 0, 0⟩)
abbrev PP : Program := PySem.Challenge.pw_openposts_k03_words_side_by_side
abbrev s_init : Stmt := inClass (topS 1) 0
def initArg : Arg := (defArgs s_init).args.headD { arg := "self", annotation := none, pos := ⟨0, 0, 0, 0⟩ }
abbrev s_law_box : Stmt := topS 19
abbrev N_law_box : List Str := ["_law_number"]
theorem sc_law_box : FnScope N_law_box ["_law_number"] (defScope s_law_box) := ⟨rfl, rfl, rfl, by decide +kernel, rfl, by decide +kernel, by decide +kernel⟩
abbrev s_law_take : Stmt := topS 20
abbrev N_law_take : List Str := ["_law_box_here", "_law_many", "_law_digit", "_law_number"]
theorem sc_law_take : FnScope N_law_take ["_law_box_here", "_law_many"] (defScope s_law_take) := ⟨rfl, rfl, rfl, by decide +kernel, rfl, by decide +kernel, by decide +kernel⟩
abbrev s_law_words : Stmt := topS 21
abbrev N_law_words : List Str := ["_law_box_here", "_law_many", "_law_one", "_law_k", "_law_other", "_law_sign"]
theorem sc_law_words : FnScope N_law_words ["_law_box_here"] (defScope s_law_words) := ⟨rfl, rfl, rfl, by decide +kernel, rfl, by decide +kernel, by decide +kernel⟩
abbrev s_law_cell_at : Stmt := topS 18
abbrev N_law_cell_at : List Str := ["_law_script", "_law_k"]
theorem sc_law_cell_at : FnScope N_law_cell_at ["_law_script", "_law_k"] (defScope s_law_cell_at) := ⟨rfl, rfl, rfl, by decide +kernel, rfl, by decide +kernel, by decide +kernel⟩
abbrev s_law_very : Stmt := topS 23
abbrev N_law_very : List Str := ["_law_error", "_law_one", "_law_other", "_law_text", "_law_value"]
theorem sc_law_very : FnScope N_law_very ["_law_error", "_law_one", "_law_other"] (defScope s_law_very) := ⟨rfl, rfl, rfl, by decide +kernel, rfl, by decide +kernel, by decide +kernel⟩
abbrev s_is_word : Stmt := topS 11
abbrev N_is_word : List Str := ["value", "sign"]
theorem sc_is_word : FnScope N_is_word ["value"] (defScope s_is_word) := ⟨rfl, rfl, rfl, by decide +kernel, rfl, by decide +kernel, by decide +kernel⟩
abbrev s_check_word : Stmt := topS 12
abbrev N_check_word : List Str := ["value"]
theorem sc_check_word : FnScope N_check_word ["value"] (defScope s_check_word) := ⟨rfl, rfl, rfl, by decide +kernel, rfl, by decide +kernel, by decide +kernel⟩
abbrev s_differing : Stmt := topS 13
abbrev N_differing : List Str := ["one", "other", "place", "signs"]
theorem sc_differing : FnScope N_differing ["one", "other"] (defScope s_differing) := ⟨rfl, rfl, rfl, by decide +kernel, rfl, by decide +kernel, by decide +kernel⟩
abbrev s_apart : Stmt := topS 14
abbrev N_apart : List Str := ["one", "other"]
theorem sc_apart : FnScope N_apart ["one", "other"] (defScope s_apart) := ⟨rfl, rfl, rfl, by decide +kernel, rfl, by decide +kernel, by decide +kernel⟩
abbrev s_flipped : Stmt := topS 15
abbrev N_flipped : List Str := ["word", "sign"]
theorem sc_flipped : FnScope N_flipped ["word"] (defScope s_flipped) := ⟨rfl, rfl, rfl, by decide +kernel, rfl, by decide +kernel, by decide +kernel⟩
abbrev s_is_integer : Stmt := topS 10
abbrev N_is_integer : List Str := ["value"]
theorem sc_is_integer : FnScope N_is_integer ["value"] (defScope s_is_integer) := ⟨rfl, rfl, rfl, by decide +kernel, rfl, by decide +kernel, by decide +kernel⟩
abbrev s_opened : Stmt := topS 16
abbrev N_opened : List Str := ["word", "place"]
theorem sc_opened : FnScope N_opened ["word", "place"] (defScope s_opened) := ⟨rfl, rfl, rfl, by decide +kernel, rfl, by decide +kernel, by decide +kernel⟩
abbrev s_law_caught : Stmt := topS 22
abbrev N_law_caught : List Str := ["_law_kind", "_law_one", "_law_other", "e"]
theorem sc_law_caught : FnScope N_law_caught ["_law_kind", "_law_one", "_law_other"] (defScope s_law_caught) := ⟨rfl, rfl, rfl, by decide +kernel, rfl, by decide +kernel, by decide +kernel⟩
abbrev s_law_is_word : Stmt := topS 24
abbrev N_law_is_word : List Str := ["_law_value", "_law_sign"]
theorem sc_law_is_word : FnScope N_law_is_word ["_law_value"] (defScope s_law_is_word) := ⟨rfl, rfl, rfl, by decide +kernel, rfl, by decide +kernel, by decide +kernel⟩
abbrev s_law_due : Stmt := topS 25
abbrev N_law_due : List Str := ["_law_kind", "_law_one", "_law_other", "_law_sign", "_law_k", "_law_found"]
theorem sc_law_due : FnScope N_law_due ["_law_kind", "_law_one", "_law_other"] (defScope s_law_due) := ⟨rfl, rfl, rfl, by decide +kernel, rfl, by decide +kernel, by decide +kernel⟩
abbrev s_law : Stmt := topS 26
abbrev N_law : List Str := ["_law_script", "_law_k", "_law_box_here", "_law_one", "_law_other", "_law_odd", "_law_turn", "_law_first", "_law_second", "_law_kind"]
theorem sc_law : FnScope N_law ["_law_script"] (defScope s_law) := ⟨rfl, rfl, rfl, by decide +kernel, rfl, by decide +kernel, by decide +kernel⟩
structure TX (w : World) (K : PySem.W.Frag) (mg : Str → Option Value) : Type where
  f_law_box : Addr
  d_law_box : FuncData
  F_law_box : Fun K "_law_box" "_law_box" s_law_box f_law_box d_law_box
  b_law_box : Binds K d_law_box ["_law_number"] []
  g_law_box : mg "_law_box" = some (.ref f_law_box)
  f_law_take : Addr
  d_law_take : FuncData
  F_law_take : Fun K "_law_take" "_law_take" s_law_take f_law_take d_law_take
  b_law_take : Binds K d_law_take ["_law_box_here", "_law_many"] []
  g_law_take : mg "_law_take" = some (.ref f_law_take)
  f_law_words : Addr
  d_law_words : FuncData
  F_law_words : Fun K "_law_words" "_law_words" s_law_words f_law_words d_law_words
  b_law_words : Binds K d_law_words ["_law_box_here"] []
  g_law_words : mg "_law_words" = some (.ref f_law_words)
  f_law_cell_at : Addr
  d_law_cell_at : FuncData
  F_law_cell_at : Fun K "_law_cell_at" "_law_cell_at" s_law_cell_at f_law_cell_at d_law_cell_at
  b_law_cell_at : Binds K d_law_cell_at ["_law_script", "_law_k"] []
  g_law_cell_at : mg "_law_cell_at" = some (.ref f_law_cell_at)
  f_law_very : Addr
  d_law_very : FuncData
  F_law_very : Fun K "_law_very" "_law_very" s_law_very f_law_very d_law_very
  b_law_very : Binds K d_law_very ["_law_error", "_law_one", "_law_other"] []
  g_law_very : mg "_law_very" = some (.ref f_law_very)
  f_is_word : Addr
  d_is_word : FuncData
  F_is_word : Fun K "is_word" "is_word" s_is_word f_is_word d_is_word
  b_is_word : Binds K d_is_word ["value"] []
  g_is_word : mg "is_word" = some (.ref f_is_word)
  f_check_word : Addr
  d_check_word : FuncData
  F_check_word : Fun K "check_word" "check_word" s_check_word f_check_word d_check_word
  b_check_word : Binds K d_check_word ["value"] []
  g_check_word : mg "check_word" = some (.ref f_check_word)
  f_differing : Addr
  d_differing : FuncData
  F_differing : Fun K "differing" "differing" s_differing f_differing d_differing
  b_differing : Binds K d_differing ["one", "other"] []
  g_differing : mg "differing" = some (.ref f_differing)
  f_apart : Addr
  d_apart : FuncData
  F_apart : Fun K "apart" "apart" s_apart f_apart d_apart
  b_apart : Binds K d_apart ["one", "other"] []
  g_apart : mg "apart" = some (.ref f_apart)
  f_flipped : Addr
  d_flipped : FuncData
  F_flipped : Fun K "flipped" "flipped" s_flipped f_flipped d_flipped
  b_flipped : Binds K d_flipped ["word"] []
  g_flipped : mg "flipped" = some (.ref f_flipped)
  f_is_integer : Addr
  d_is_integer : FuncData
  F_is_integer : Fun K "is_integer" "is_integer" s_is_integer f_is_integer d_is_integer
  b_is_integer : Binds K d_is_integer ["value"] []
  g_is_integer : mg "is_integer" = some (.ref f_is_integer)
  f_opened : Addr
  d_opened : FuncData
  F_opened : Fun K "opened" "opened" s_opened f_opened d_opened
  b_opened : Binds K d_opened ["word", "place"] []
  g_opened : mg "opened" = some (.ref f_opened)
  f_law_caught : Addr
  d_law_caught : FuncData
  F_law_caught : Fun K "_law_caught" "_law_caught" s_law_caught f_law_caught d_law_caught
  b_law_caught : Binds K d_law_caught ["_law_kind", "_law_one", "_law_other"] []
  g_law_caught : mg "_law_caught" = some (.ref f_law_caught)
  f_law_is_word : Addr
  d_law_is_word : FuncData
  F_law_is_word : Fun K "_law_is_word" "_law_is_word" s_law_is_word f_law_is_word d_law_is_word
  b_law_is_word : Binds K d_law_is_word ["_law_value"] []
  g_law_is_word : mg "_law_is_word" = some (.ref f_law_is_word)
  f_law_due : Addr
  d_law_due : FuncData
  F_law_due : Fun K "_law_due" "_law_due" s_law_due f_law_due d_law_due
  b_law_due : Binds K d_law_due ["_law_kind", "_law_one", "_law_other"] []
  g_law_due : mg "_law_due" = some (.ref f_law_due)
  f_law : Addr
  d_law : FuncData
  F_law : Fun K "law" "law" s_law f_law d_law
  b_law : Binds K d_law ["_law_script"] []
  g_law : mg "law" = some (.ref f_law)
  z_max : mg "max" = none
  z_range : mg "range" = none
  z_len : mg "len" = none
  z_repr : mg "repr" = none
  z_isinstance : mg "isinstance" = none
  z_list : mg "list" = none
  z_str : mg "str" = none
  z_all : mg "all" = none
  z_enumerate : mg "enumerate" = none
  z_zip : mg "zip" = none
  z_int : mg "int" = none
  z_bool : mg "bool" = none
  z_min : mg "min" = none
  t_MOST_SIGNS : Tok
  c_MOST_SIGNS : mg "MOST_SIGNS" = some (.int 60 t_MOST_SIGNS)
  t_SIGNS : Tok
  c_SIGNS : mg "SIGNS" = some (.str "01*" t_SIGNS)
  t_OPEN : Tok
  c_OPEN : mg "OPEN" = some (.str "*" t_OPEN)
  a_FLIPPED : Addr
  g_FLIPPED : mg "FLIPPED" = some (.ref a_FLIPPED)
  kd_FLIPPED : ∀ q ∈ ([("0", "1"), ("1", "0"), ("*", "*")] : List (Str × Str)), L2.KDct K w a_FLIPPED q.1 (.str q.2)
  D0 : Addr
  gD0 : mg "OpenpostsError" = some (.ref D0)
  fI : Addr
  dI : FuncData
  bI : Binds K dI ["self", "value"] []
  tI : PySem.W.typeIn K (.ref fI) = some (.type "function")
  okI : ∀ (w : World) (base : Heap) (CX : CXT), FnOk PP w K mg base CX 1 fI dI ["self", "value"] (spInit K D0)
  C_InvalidWord : Addr
  gC_InvalidWord : mg "InvalidWord" = some (.ref C_InvalidWord)
  oC_InvalidWord : OpenC K D0 C_InvalidWord
  eC_InvalidWord : ExcC K C_InvalidWord
  iC_InvalidWord : PySem.W.findIn K (.ref C_InvalidWord) "__init__" = some (some (.ref fI))
  C_UnlikeLengths : Addr
  gC_UnlikeLengths : mg "UnlikeLengths" = some (.ref C_UnlikeLengths)
  oC_UnlikeLengths : OpenC K D0 C_UnlikeLengths
  eC_UnlikeLengths : ExcC K C_UnlikeLengths
  iC_UnlikeLengths : PySem.W.findIn K (.ref C_UnlikeLengths) "__init__" = some (some (.ref fI))
  C_InvalidPlace : Addr
  gC_InvalidPlace : mg "InvalidPlace" = some (.ref C_InvalidPlace)
  oC_InvalidPlace : OpenC K D0 C_InvalidPlace
  eC_InvalidPlace : ExcC K C_InvalidPlace
  iC_InvalidPlace : PySem.W.findIn K (.ref C_InvalidPlace) "__init__" = some (some (.ref fI))
  xm_InvalidWord_InvalidWord : PySem.W.exmOne K (.ref C_InvalidWord) (.ref C_InvalidWord) = some true
  xm_InvalidWord_UnlikeLengths : PySem.W.exmOne K (.ref C_InvalidWord) (.ref C_UnlikeLengths) = some false
  xm_InvalidWord_InvalidPlace : PySem.W.exmOne K (.ref C_InvalidWord) (.ref C_InvalidPlace) = some false
  xm_InvalidWord_OpenpostsError : PySem.W.exmOne K (.ref C_InvalidWord) (.ref D0) = some true
  xm_UnlikeLengths_InvalidWord : PySem.W.exmOne K (.ref C_UnlikeLengths) (.ref C_InvalidWord) = some false
  xm_UnlikeLengths_UnlikeLengths : PySem.W.exmOne K (.ref C_UnlikeLengths) (.ref C_UnlikeLengths) = some true
  xm_UnlikeLengths_InvalidPlace : PySem.W.exmOne K (.ref C_UnlikeLengths) (.ref C_InvalidPlace) = some false
  xm_UnlikeLengths_OpenpostsError : PySem.W.exmOne K (.ref C_UnlikeLengths) (.ref D0) = some true
  xm_InvalidPlace_InvalidWord : PySem.W.exmOne K (.ref C_InvalidPlace) (.ref C_InvalidWord) = some false
  xm_InvalidPlace_UnlikeLengths : PySem.W.exmOne K (.ref C_InvalidPlace) (.ref C_UnlikeLengths) = some false
  xm_InvalidPlace_InvalidPlace : PySem.W.exmOne K (.ref C_InvalidPlace) (.ref C_InvalidPlace) = some true
  xm_InvalidPlace_OpenpostsError : PySem.W.exmOne K (.ref C_InvalidPlace) (.ref D0) = some true
open DN
def zt {w : World} {K : PySem.W.Frag} {mg : Str → Option Value} (T : TX w K mg) : Zx := ⟨⟨K, fun c => if c = "InvalidWord" then T.C_InvalidWord else if c = "UnlikeLengths" then T.C_UnlikeLengths else if c = "InvalidPlace" then T.C_InvalidPlace else if c = "OpenpostsError" then T.D0 else 0⟩, none⟩
section
variable {w : World} {K : PySem.W.Frag} {mg : Str → Option Value}
theorem cm_OpenpostsError (T : TX w K mg) : (zt T).cm "OpenpostsError" = T.D0 := by simp [zt]
theorem gE_OpenpostsError (T : TX w K mg) : mg "OpenpostsError" = some (.ref ((zt T).cm "OpenpostsError")) := by rw [cm_OpenpostsError]; exact T.gD0
theorem cm_InvalidWord (T : TX w K mg) : (zt T).cm "InvalidWord" = T.C_InvalidWord := by simp [zt]
theorem oE_InvalidWord (T : TX w K mg) : OpenC K T.D0 ((zt T).cm "InvalidWord") := by rw [cm_InvalidWord]; exact T.oC_InvalidWord
theorem iE_InvalidWord (T : TX w K mg) : PySem.W.findIn K (.ref ((zt T).cm "InvalidWord")) "__init__" = some (some (.ref T.fI)) := by rw [cm_InvalidWord]; exact T.iC_InvalidWord
theorem gE_InvalidWord (T : TX w K mg) : mg "InvalidWord" = some (.ref ((zt T).cm "InvalidWord")) := by rw [cm_InvalidWord]; exact T.gC_InvalidWord
theorem cm_UnlikeLengths (T : TX w K mg) : (zt T).cm "UnlikeLengths" = T.C_UnlikeLengths := by simp [zt]
theorem oE_UnlikeLengths (T : TX w K mg) : OpenC K T.D0 ((zt T).cm "UnlikeLengths") := by rw [cm_UnlikeLengths]; exact T.oC_UnlikeLengths
theorem iE_UnlikeLengths (T : TX w K mg) : PySem.W.findIn K (.ref ((zt T).cm "UnlikeLengths")) "__init__" = some (some (.ref T.fI)) := by rw [cm_UnlikeLengths]; exact T.iC_UnlikeLengths
theorem gE_UnlikeLengths (T : TX w K mg) : mg "UnlikeLengths" = some (.ref ((zt T).cm "UnlikeLengths")) := by rw [cm_UnlikeLengths]; exact T.gC_UnlikeLengths
theorem cm_InvalidPlace (T : TX w K mg) : (zt T).cm "InvalidPlace" = T.C_InvalidPlace := by simp [zt]
theorem oE_InvalidPlace (T : TX w K mg) : OpenC K T.D0 ((zt T).cm "InvalidPlace") := by rw [cm_InvalidPlace]; exact T.oC_InvalidPlace
theorem iE_InvalidPlace (T : TX w K mg) : PySem.W.findIn K (.ref ((zt T).cm "InvalidPlace")) "__init__" = some (some (.ref T.fI)) := by rw [cm_InvalidPlace]; exact T.iC_InvalidPlace
theorem gE_InvalidPlace (T : TX w K mg) : mg "InvalidPlace" = some (.ref ((zt T).cm "InvalidPlace")) := by rw [cm_InvalidPlace]; exact T.gC_InvalidPlace
theorem xfall (T : TX w K mg) : AllC (fun c => XfC K ((zt T).cm c) ∧ PySem.W.findIn K (.ref ((zt T).cm c)) "value" = some none) errs := (AllC.cons (by rw [cm_InvalidWord]; exact ⟨⟨T.eC_InvalidWord.hg, T.eC_InvalidWord.hk, T.eC_InvalidWord.hs, T.eC_InvalidWord.hd⟩, T.oC_InvalidWord.nov⟩) (AllC.cons (by rw [cm_UnlikeLengths]; exact ⟨⟨T.eC_UnlikeLengths.hg, T.eC_UnlikeLengths.hk, T.eC_UnlikeLengths.hs, T.eC_UnlikeLengths.hd⟩, T.oC_UnlikeLengths.nov⟩) (AllC.cons (by rw [cm_InvalidPlace]; exact ⟨⟨T.eC_InvalidPlace.hg, T.eC_InvalidPlace.hk, T.eC_InvalidPlace.hs, T.eC_InvalidPlace.hd⟩, T.oC_InvalidPlace.nov⟩) AllC.nil)))
theorem xall_0 (T : TX w K mg) : AllC (fun c => AllC (fun n => PySem.W.exmOne K (.ref ((zt T).cm c)) (.ref ((zt T).cm n)) = some (n == c || n == "OpenpostsError")) ["InvalidWord", "UnlikeLengths", "InvalidPlace", "OpenpostsError"]) errs := (AllC.cons (AllC.cons (by simp only [cm_InvalidWord, cm_InvalidWord]; exact T.xm_InvalidWord_InvalidWord.trans (by decide)) (AllC.cons (by simp only [cm_InvalidWord, cm_UnlikeLengths]; exact T.xm_InvalidWord_UnlikeLengths.trans (by decide)) (AllC.cons (by simp only [cm_InvalidWord, cm_InvalidPlace]; exact T.xm_InvalidWord_InvalidPlace.trans (by decide)) (AllC.cons (by simp only [cm_InvalidWord, cm_OpenpostsError]; exact T.xm_InvalidWord_OpenpostsError.trans (by decide)) AllC.nil)))) (AllC.cons (AllC.cons (by simp only [cm_UnlikeLengths, cm_InvalidWord]; exact T.xm_UnlikeLengths_InvalidWord.trans (by decide)) (AllC.cons (by simp only [cm_UnlikeLengths, cm_UnlikeLengths]; exact T.xm_UnlikeLengths_UnlikeLengths.trans (by decide)) (AllC.cons (by simp only [cm_UnlikeLengths, cm_InvalidPlace]; exact T.xm_UnlikeLengths_InvalidPlace.trans (by decide)) (AllC.cons (by simp only [cm_UnlikeLengths, cm_OpenpostsError]; exact T.xm_UnlikeLengths_OpenpostsError.trans (by decide)) AllC.nil)))) (AllC.cons (AllC.cons (by simp only [cm_InvalidPlace, cm_InvalidWord]; exact T.xm_InvalidPlace_InvalidWord.trans (by decide)) (AllC.cons (by simp only [cm_InvalidPlace, cm_UnlikeLengths]; exact T.xm_InvalidPlace_UnlikeLengths.trans (by decide)) (AllC.cons (by simp only [cm_InvalidPlace, cm_InvalidPlace]; exact T.xm_InvalidPlace_InvalidPlace.trans (by decide)) (AllC.cons (by simp only [cm_InvalidPlace, cm_OpenpostsError]; exact T.xm_InvalidPlace_OpenpostsError.trans (by decide)) AllC.nil)))) AllC.nil)))
theorem csok (T : TX w K mg) : CsOk (zt T) [] := ⟨AllC.nil, AllC.nil⟩
end
section
variable {w : World} {K : PySem.W.Frag} {mg : Str → Option Value} {base : Heap}
theorem G_law_box {b : Bool} (T : TX w K mg) : FnG b PP w K mg base (L2N.CX PP w) 1 T.f_law_box T.d_law_box ["_law_number"] (spD (zt T) 1 D_law_box) :=
  fn_d (Z := zt T) (K := K) (N := N_law_box) (fb := B_law_box) (DN.Fun.d T.F_law_box) sc_law_box fun cdv A outer s H E hr =>
    (psf_one (psf_ret (pf_lst (paf_cons (pf_callB (cd_max rfl rfl) (by rfl) T.z_max (by decide +kernel) (paf_cons pf_int (paf_cons (pf_op od_sub (pf_var 0) (pf_op od_pow pf_int pf_int)) paf_nil))) (paf_cons (pf_op od_mod (pf_var 0) pf_int) (paf_cons pf_int paf_nil))))))
theorem G_law_take {b : Bool} (T : TX w K mg) : FnG b PP w K mg base (L2N.CX PP w) 1 T.f_law_take T.d_law_take ["_law_box_here", "_law_many"] (spD (zt T) 2 D_law_take) :=
  fn_d (Z := zt T) (K := K) (N := N_law_take) (fb := B_law_take) (DN.Fun.d T.F_law_take) sc_law_take fun cdv A outer s H E hr =>
    (psf_cons (psf_if (ptf_cmp od_gt (pf_ix (ix_d hr.u1 rfl) (pf_var 0) pf_int) pf_int (nomark _)) (psf_cons (psf_set 2 sc_law_take.nd rfl (.inl rfl) (pf_op od_mod (pf_ix (ix_d hr.u1 rfl) (pf_var 0) pf_int) (pf_var 1)))
    (psf_cons (psf_sub (pf_var 0) pf_int (pf_op od_div (pf_ix (ix_d hr.u1 rfl) (pf_var 0) pf_int) (pf_var 1)))
    (psf_one (psf_ret (pf_var 2))))) psf_nil)
    (psf_cons (psf_sub (pf_var 0) pf_int (pf_op (od_add rfl) (pf_ix (ix_d hr.u1 rfl) (pf_var 0) pf_int) pf_int))
    (psf_cons (psf_set 3 sc_law_take.nd rfl (.inl rfl) (pf_op od_mod (pf_op od_pow (pf_op (od_add rfl) (pf_op (od_add rfl) (pf_ix (ix_d hr.u1 rfl) (pf_var 0) pf_int) (pf_op od_mul pf_int (pf_ix (ix_d hr.u1 rfl) (pf_var 0) pf_int))) pf_int) pf_int) pf_int))
    (psf_cons (psf_set 3 sc_law_take.nd rfl (.inl rfl) (pf_op od_mod (pf_op od_pow (pf_op (od_add rfl) (pf_var 3) (pf_op od_mul pf_int (pf_ix (ix_d hr.u1 rfl) (pf_var 0) pf_int))) pf_int) pf_int))
    (psf_one (psf_ret (pf_op od_mod (pf_op od_div (pf_var 3) pf_int) (pf_var 1))))))))
theorem G_law_words {b : Bool} (T : TX w K mg) : FnG b PP w K mg base (L2N.CX PP w) 2 T.f_law_words T.d_law_words ["_law_box_here"] (spD (zt T) 1 D_law_words) :=
  fn_d (Z := zt T) (K := K) (N := N_law_words) (fb := B_law_words) (DN.Fun.d T.F_law_words) sc_law_words fun cdv A outer s H E hr =>
    (psf_cons (psf_set 1 sc_law_words.nd rfl (.inl rfl) (pf_ix (ix_d hr.u1 rfl) (pf_lst (paf_cons (pf_call (G_law_take T) (hr.mono (by decide)) tkd (by rfl) T.g_law_take T.F_law_take.kp T.b_law_take (paf_cons (pf_var 0) (paf_cons pf_int paf_nil))) (paf_cons (pf_call (G_law_take T) (hr.mono (by decide)) tkd (by rfl) T.g_law_take T.F_law_take.kp T.b_law_take (paf_cons (pf_var 0) (paf_cons pf_int paf_nil))) (paf_cons (pf_op (od_add rfl) pf_int (pf_call (G_law_take T) (hr.mono (by decide)) tkd (by rfl) T.g_law_take T.F_law_take.kp T.b_law_take (paf_cons (pf_var 0) (paf_cons pf_int paf_nil)))) paf_nil)))) (pf_call (G_law_take T) (hr.mono (by decide)) tkd (by rfl) T.g_law_take T.F_law_take.kp T.b_law_take (paf_cons (pf_var 0) (paf_cons pf_int paf_nil)))))
    (psf_cons (psf_set 2 sc_law_words.nd rfl (.inl rfl) (pf_meth md_join PySem.F.plainAttrs_str PySem.F.slot_str_join PySem.F.type_str_join rfl pf_str (paf_cons (pf_lc (own := [("_law_k", 3)]) rfl sc_law_words.nd (pif_range1 (by rfl) T.z_range (paf_cons (pf_var 1) paf_nil)) (blkOk_by (N := N_law_words) (sc := defScope s_law_words) (by decide +kernel)) (fun _ _ _ _ _ => (pgf_name 3 sc_law_words.nd rfl (by first | exact .inl rfl | exact .inr rfl))) (fun _ _ _ _ _ => ptsf_nil) (fun _ _ _ _ _ => (pf_ix (ix_d hr.u1 rfl) pf_str (pf_call (G_law_take T) (hr.mono (by decide)) tk0 (by rfl) T.g_law_take T.F_law_take.kp T.b_law_take (paf_cons (pf_var 0) (paf_cons pf_int paf_nil)))))) paf_nil)))
    (psf_cons (psf_set 4 sc_law_words.nd rfl (.inl rfl) (pf_meth md_join PySem.F.plainAttrs_str PySem.F.slot_str_join PySem.F.type_str_join rfl pf_str (paf_cons (pf_lc (own := [("_law_sign", 5)]) rfl sc_law_words.nd (pif_val rfl (pf_var 2)) (blkOk_by (N := N_law_words) (sc := defScope s_law_words) (by decide +kernel)) (fun _ _ _ _ _ => (pgf_name 5 sc_law_words.nd rfl (by first | exact .inl rfl | exact .inr rfl))) (fun _ _ _ _ _ => ptsf_nil) (fun _ _ _ _ _ => (pf_ix (ix_d hr.u1 rfl) (pf_lst (paf_cons (pf_var 5) (paf_cons (pf_ix (ix_d hr.u1 rfl) pf_str (pf_call (G_law_take T) (hr.mono (by decide)) tk0 (by rfl) T.g_law_take T.F_law_take.kp T.b_law_take (paf_cons (pf_var 0) (paf_cons pf_int paf_nil)))) paf_nil))) (pf_call (G_law_take T) (hr.mono (by decide)) tk0 (by rfl) T.g_law_take T.F_law_take.kp T.b_law_take (paf_cons (pf_var 0) (paf_cons pf_int paf_nil)))))) paf_nil)))
    (psf_cons (psf_if (ptf_cmp (od_eq hr.u64 rfl) (pf_call (G_law_take T) (hr.mono (by decide)) tkd (by rfl) T.g_law_take T.F_law_take.kp T.b_law_take (paf_cons (pf_var 0) (paf_cons pf_int paf_nil))) pf_int (nomark _)) (psf_one (psf_set 4 sc_law_words.nd rfl (.inl rfl) (pf_slice rfl (pf_var 4) pof_none (pof_some (pf_call (G_law_take T) (hr.mono (by decide)) tkd (by rfl) T.g_law_take T.F_law_take.kp T.b_law_take (paf_cons (pf_var 0) (paf_cons (pf_op (od_add rfl) (pf_var 1) pf_int) paf_nil))))))) psf_nil)
    (psf_one (psf_ret (pf_tup (paf_cons (pf_var 2) (paf_cons (pf_var 4) paf_nil)))))))))
theorem G_law_cell_at {b : Bool} (T : TX w K mg) : FnG b PP w K mg base (L2N.CX PP w) 1 T.f_law_cell_at T.d_law_cell_at ["_law_script", "_law_k"] (spD (zt T) 2 D_law_cell_at) :=
  fn_d (Z := zt T) (K := K) (N := N_law_cell_at) (fb := B_law_cell_at) (DN.Fun.d T.F_law_cell_at) sc_law_cell_at fun cdv A outer s H E hr =>
    (psf_one (psf_ret (pf_if (ptf_cmp od_lt (pf_var 1) (pf_callB (cd_len rfl) (by rfl) T.z_len (by decide +kernel) (paf_cons (pf_var 0) paf_nil)) (nomark _)) (pf_ix (ix_d hr.u1 rfl) (pf_var 0) (pf_var 1)) (pf_op (od_add rfl) (pf_op od_mul pf_int (pf_var 1)) pf_int))))
theorem G_law_very (T : TX w K mg) : FnHX true PP w K mg base (L2N.CX PP w) 1 T.f_law_very T.d_law_very ["_law_error", "_law_one", "_law_other"] (spDX (zt T) 3 D_law_very) :=
  fn_dHX (Z := zt T) (K := K) (N := N_law_very) (fb := B_law_very) (n := 2) (DN.Fun.d T.F_law_very) sc_law_very rfl ⟨_, rfl⟩ fun cdv A outer s H E p cls d0 hot hz hf hr =>
    (psf_cons (psf_set 3 sc_law_very.nd rfl (.inl rfl) (pf_callB (cd_showE ⟨hr.gd rfl, hr.u64⟩ rfl) (by rfl) T.z_repr (by decide +kernel) (paf_cons (pf_xvH (xfall T) hz.zc hf List.mem_cons_self) paf_nil)))
    (psf_cons (psf_forVH 4 rfl podH ⟨p, hot, List.mem_cons_self⟩ (paf_cons (pf_var 1) (paf_cons (pf_var 2) paf_nil)) sc_law_very.nd rfl (.inl rfl)
      (psf_one (psf_if (ptf_w (pwf_and (ptf_val (pf_callB (cd_isi (csok T).hot rfl) (by rfl) T.z_isinstance (by decide +kernel) (paf_cons (pf_var 4) (paf_cons (pf_bltn (v := .ty "list") (u := .type "list") (by rfl) T.z_list (by decide +kernel) rfl (fun _ => on_ty)) paf_nil)))) (pwf_one (ptf_cmp (od_eq hr.u64 rfl) (pf_callB (cd_showE ⟨hr.gd rfl, hr.u64⟩ rfl) (by rfl) T.z_repr (by decide +kernel) (paf_cons (pf_var 4) paf_nil)) (pf_var 3) (nomark _))))) (psf_cons (psf_expr (pf_mut md_append PySem.F.slot_list_append PySem.F.type_list_append rfl (pf_var 4) (paf_cons pf_str paf_nil)))
    (psf_cons (psf_if (ptf_cmp (od_ne hr.u64 rfl) (pf_callB (cd_showE ⟨hr.gd rfl, hr.u64⟩ rfl) (by rfl) T.z_repr (by decide +kernel) (paf_cons (pf_xvH (xfall T) hz.zc hf List.mem_cons_self) paf_nil)) (pf_var 3) (nomark _)) (psf_cons (psf_expr (pf_mut0 md_pop PySem.F.slot_list_pop PySem.F.type_list_pop rfl (pf_var 4)))
    (psf_one (psf_ret (pf_var 3)))) psf_nil)
    (psf_cons (psf_expr (pf_mut0 md_pop PySem.F.slot_list_pop PySem.F.type_list_pop rfl (pf_var 4)))
    (psf_one (psf_ret pf_str))))) psf_nil)))
    (psf_one (psf_ret (pf_var 3)))))
theorem G_is_word {b : Bool} (T : TX w K mg) : FnG b PP w K mg base (L2N.CX PP w) 1 T.f_is_word T.d_is_word ["value"] (spD (zt T) 1 D_is_word) :=
  fn_d (Z := zt T) (K := K) (N := N_is_word) (fb := B_is_word) (DN.Fun.d T.F_is_word) sc_is_word fun cdv A outer s H E hr =>
    (psf_one (psf_ret (pf_and (pf_callB (cd_isi (csok T) rfl) (by rfl) T.z_isinstance (by decide +kernel) (paf_cons (pf_var 0) (paf_cons (pf_bltn (v := .ty "str") (u := .type "str") (by rfl) T.z_str (by decide +kernel) rfl (fun _ => on_ty)) paf_nil))) (pf_and (pf_cmp od_le (pf_callB (cd_len rfl) (by rfl) T.z_len (by decide +kernel) (paf_cons (pf_var 0) paf_nil)) (pf_glob (v := .int 60) rfl T.c_MOST_SIGNS ⟨_, rfl⟩ (fun _ => on_int)) (nomark _)) (pf_one (pf_callB (cd_all rfl) (by rfl) T.z_all (by decide +kernel) (paf_cons (pf_lc (own := [("sign", 1)]) rfl sc_is_word.nd (pif_val rfl (pf_var 0)) (blkOk_by (N := N_is_word) (sc := defScope s_is_word) (by decide +kernel)) (fun _ _ _ _ _ => (pgf_name 1 sc_is_word.nd rfl (by first | exact .inl rfl | exact .inr rfl))) (fun _ _ _ _ _ => ptsf_nil) (fun _ _ _ _ _ => (pf_cmp (od_in hr.u65 rfl) (pf_var 1) (pf_glob (v := .str "01*") rfl T.c_SIGNS ⟨_, rfl⟩ (fun _ => on_str)) (by rfl)))) paf_nil)))))))
theorem G_check_word {b : Bool} (T : TX w K mg) : FnG b PP w K mg base (L2N.CX PP w) 3 T.f_check_word T.d_check_word ["value"] (spD (zt T) 1 D_check_word) :=
  fn_d (Z := zt T) (K := K) (N := N_check_word) (fb := B_check_word) (DN.Fun.d T.F_check_word) sc_check_word fun cdv A outer s H E hr =>
    (psf_one (psf_if (ptf_not (ptf_val (pf_call (G_is_word T) (hr.mono (by decide)) tkd (by rfl) T.g_is_word T.F_is_word.kp T.b_is_word (paf_cons (pf_var 0) paf_nil)))) (psf_one (psf_raise rfl tkd (oE_InvalidWord T) (iE_InvalidWord T) T.tI (T.okI _ _ _) (hr.mono (by decide)) T.bI (by rfl) (gE_InvalidWord T) (pf_var 0))) psf_nil))
theorem G_differing {b : Bool} (T : TX w K mg) : FnG b PP w K mg base (L2N.CX PP w) 4 T.f_differing T.d_differing ["one", "other"] (spD (zt T) 2 D_differing) :=
  fn_d (Z := zt T) (K := K) (N := N_differing) (fb := B_differing) (DN.Fun.d T.F_differing) sc_differing fun cdv A outer s H E hr =>
    (psf_cons (psf_expr (pf_call (G_check_word T) (hr.mono (by decide)) tkd (by rfl) T.g_check_word T.F_check_word.kp T.b_check_word (paf_cons (pf_var 0) paf_nil)))
    (psf_cons (psf_expr (pf_call (G_check_word T) (hr.mono (by decide)) tkd (by rfl) T.g_check_word T.F_check_word.kp T.b_check_word (paf_cons (pf_var 1) paf_nil)))
    (psf_cons (psf_if (ptf_cmp (od_ne hr.u64 rfl) (pf_callB (cd_len rfl) (by rfl) T.z_len (by decide +kernel) (paf_cons (pf_var 0) paf_nil)) (pf_callB (cd_len rfl) (by rfl) T.z_len (by decide +kernel) (paf_cons (pf_var 1) paf_nil)) (nomark _)) (psf_one (psf_raise rfl tkd (oE_UnlikeLengths T) (iE_UnlikeLengths T) T.tI (T.okI _ _ _) (hr.mono (by decide)) T.bI (by rfl) (gE_UnlikeLengths T) (pf_tup (paf_cons (pf_var 0) (paf_cons (pf_var 1) paf_nil))))) psf_nil)
    (psf_one (psf_ret (pf_lc (own := [("place", 2), ("signs", 3)]) rfl sc_differing.nd (pif_ez (by rfl) T.z_enumerate (by rfl) T.z_zip (paf_cons (pf_var 0) (paf_cons (pf_var 1) paf_nil))) (blkOk_by (N := N_differing) (sc := defScope s_differing) (by decide +kernel)) (fun _ _ _ _ _ => (pgf_tup rfl rfl (pgfs_cons (pgf_name 2 sc_differing.nd rfl (by first | exact .inl rfl | exact .inr rfl)) (pgfs_cons (pgf_name 3 sc_differing.nd rfl (by first | exact .inl rfl | exact .inr rfl)) pgfs_nil)))) (fun _ _ _ _ _ => (ptsf_one (ptf_cmp (od_in hr.u65 rfl) (pf_var 3) (pf_tup (paf_cons (pf_tup (paf_cons pf_str (paf_cons pf_str paf_nil))) (paf_cons (pf_tup (paf_cons pf_str (paf_cons pf_str paf_nil))) paf_nil))) (by rfl)))) (fun _ _ _ _ _ => (pf_var 2))))))))
theorem G_apart {b : Bool} (T : TX w K mg) : FnG b PP w K mg base (L2N.CX PP w) 5 T.f_apart T.d_apart ["one", "other"] (spD (zt T) 2 D_apart) :=
  fn_d (Z := zt T) (K := K) (N := N_apart) (fb := B_apart) (DN.Fun.d T.F_apart) sc_apart fun cdv A outer s H E hr =>
    (psf_one (psf_ret (pf_callB (cd_len rfl) (by rfl) T.z_len (by decide +kernel) (paf_cons (pf_call (G_differing T) (hr.mono (by decide)) tkd (by rfl) T.g_differing T.F_differing.kp T.b_differing (paf_cons (pf_var 0) (paf_cons (pf_var 1) paf_nil))) paf_nil))))
theorem G_flipped {b : Bool} (T : TX w K mg) : FnG b PP w K mg base (L2N.CX PP w) 4 T.f_flipped T.d_flipped ["word"] (spD (zt T) 1 D_flipped) :=
  fn_d (Z := zt T) (K := K) (N := N_flipped) (fb := B_flipped) (DN.Fun.d T.F_flipped) sc_flipped fun cdv A outer s H E hr =>
    (psf_cons (psf_expr (pf_call (G_check_word T) (hr.mono (by decide)) tkd (by rfl) T.g_check_word T.F_check_word.kp T.b_check_word (paf_cons (pf_var 0) paf_nil)))
    (psf_one (psf_ret (pf_meth md_join PySem.F.plainAttrs_str PySem.F.slot_str_join PySem.F.type_str_join rfl pf_str (paf_cons (pf_lc (own := [("sign", 1)]) rfl sc_flipped.nd (pif_val rfl (pf_var 0)) (blkOk_by (N := N_flipped) (sc := defScope s_flipped) (by decide +kernel)) (fun _ _ _ _ _ => (pgf_name 1 sc_flipped.nd rfl (by first | exact .inl rfl | exact .inr rfl))) (fun _ _ _ _ _ => ptsf_nil) (fun _ _ _ _ _ => (pf_kix (a := T.a_FLIPPED) (by rfl) T.g_FLIPPED T.kd_FLIPPED (pf_var 1)))) paf_nil)))))
theorem G_is_integer {b : Bool} (T : TX w K mg) : FnG b PP w K mg base (L2N.CX PP w) 1 T.f_is_integer T.d_is_integer ["value"] (spD (zt T) 1 D_is_integer) :=
  fn_d (Z := zt T) (K := K) (N := N_is_integer) (fb := B_is_integer) (DN.Fun.d T.F_is_integer) sc_is_integer fun cdv A outer s H E hr =>
    (psf_one (psf_ret (pf_and (pf_callB (cd_isi (csok T) rfl) (by rfl) T.z_isinstance (by decide +kernel) (paf_cons (pf_var 0) (paf_cons (pf_bltn (v := .ty "int") (u := .type "int") (by rfl) T.z_int (by decide +kernel) rfl (fun _ => on_ty)) paf_nil))) (pf_one (pf_not (pf_callB (cd_isi (csok T) rfl) (by rfl) T.z_isinstance (by decide +kernel) (paf_cons (pf_var 0) (paf_cons (pf_bltn (v := .ty "bool") (u := .type "bool") (by rfl) T.z_bool (by decide +kernel) rfl (fun _ => on_ty)) paf_nil))))))))
theorem G_opened {b : Bool} (T : TX w K mg) : FnG b PP w K mg base (L2N.CX PP w) 4 T.f_opened T.d_opened ["word", "place"] (spD (zt T) 2 D_opened) :=
  fn_d (Z := zt T) (K := K) (N := N_opened) (fb := B_opened) (DN.Fun.d T.F_opened) sc_opened fun cdv A outer s H E hr =>
    (psf_cons (psf_expr (pf_call (G_check_word T) (hr.mono (by decide)) tkd (by rfl) T.g_check_word T.F_check_word.kp T.b_check_word (paf_cons (pf_var 0) paf_nil)))
    (psf_cons (psf_if (ptf_w (pwf_or (ptf_not (ptf_val (pf_call (G_is_integer T) (hr.mono (by decide)) tkd (by rfl) T.g_is_integer T.F_is_integer.kp T.b_is_integer (paf_cons (pf_var 1) paf_nil)))) (pwf_one (ptf_not (ptf_chain od_le od_lt pf_int (pf_var 1) (pf_callB (cd_len rfl) (by rfl) T.z_len (by decide +kernel) (paf_cons (pf_var 0) paf_nil))))))) (psf_one (psf_raise rfl tkd (oE_InvalidPlace T) (iE_InvalidPlace T) T.tI (T.okI _ _ _) (hr.mono (by decide)) T.bI (by rfl) (gE_InvalidPlace T) (pf_var 1))) psf_nil)
    (psf_one (psf_ret (pf_op (od_add rfl) (pf_op (od_add rfl) (pf_slice rfl (pf_var 0) pof_none (pof_some (pf_var 1))) (pf_glob (v := .str "*") rfl T.c_OPEN ⟨_, rfl⟩ (fun _ => on_str))) (pf_slice rfl (pf_var 0) (pof_some (pf_op (od_add rfl) (pf_var 1) pf_int)) pof_none))))))
theorem G_law_caught (T : TX w K mg) : FnG true PP w K mg base (L2N.CX PP w) 6 T.f_law_caught T.d_law_caught ["_law_kind", "_law_one", "_law_other"] (spD (zt T) 3 D_law_caught) :=
  fn_d (Z := zt T) (K := K) (N := N_law_caught) (fb := B_law_caught) (DN.Fun.d T.F_law_caught) sc_law_caught fun cdv A outer s H E hr =>
    (psf_one (psf_try rfl rfl rfl sc_law_caught.nd tkd (fun W2 pn xe tk2 po2 => (psf_cons (psf_if (ptf_cmp (od_eq hr.u64 rfl) (pf_var 0) pf_int (nomark _)) (psf_one (psf_ret (pf_lst (paf_cons pf_str (paf_cons (pf_callB (cd_showE ⟨hr.gd rfl, hr.u64⟩ rfl) (by rfl) T.z_repr (by decide +kernel) (paf_cons (pf_call (G_differing T) (hr.mono (by decide)) tk2 (by rfl) T.g_differing T.F_differing.kp T.b_differing (paf_cons (pf_var 1) (paf_cons (pf_var 2) paf_nil))) paf_nil)) paf_nil))))) psf_nil)
    (psf_cons (psf_if (ptf_cmp (od_eq hr.u64 rfl) (pf_var 0) pf_int (nomark _)) (psf_one (psf_ret (pf_lst (paf_cons pf_str (paf_cons (pf_callB (cd_showE ⟨hr.gd rfl, hr.u64⟩ rfl) (by rfl) T.z_repr (by decide +kernel) (paf_cons (pf_call (G_apart T) (hr.mono (by decide)) tk2 (by rfl) T.g_apart T.F_apart.kp T.b_apart (paf_cons (pf_var 1) (paf_cons (pf_var 2) paf_nil))) paf_nil)) paf_nil))))) psf_nil)
    (psf_one (psf_ret (pf_lst (paf_cons pf_str (paf_cons (pf_callB (cd_showE ⟨hr.gd rfl, hr.u64⟩ rfl) (by rfl) T.z_repr (by decide +kernel) (paf_cons (pf_if (ptf_cmp (od_eq hr.u64 rfl) (pf_var 0) pf_int (nomark _)) (pf_call (G_flipped T) (hr.mono (by decide)) tk2 (by rfl) T.g_flipped T.F_flipped.kp T.b_flipped (paf_cons (pf_var 1) paf_nil)) (pf_call (G_opened T) (hr.mono (by decide)) tk2 (by rfl) T.g_opened T.F_opened.kp T.b_opened (paf_cons (pf_var 1) (paf_cons (pf_var 2) paf_nil)))) paf_nil)) paf_nil))))))))
      (xall_0 T) (HdF.cons (c := "InvalidWord") ⟨by rfl, by decide, .inl (gE_InvalidWord T)⟩ (.as rfl rfl) (fun a oe cls d0 pn hz hf => (psf_one (psf_ret (pf_lst (paf_cons pf_str (paf_cons (pf_callX (i := 3) (G_law_very T) (hr.mono (by decide)) hz hf (by rfl) T.g_law_very T.F_law_very.kp T.b_law_very (paf_cons (pf_var 1) (paf_cons (pf_var 2) paf_nil))) paf_nil)))))) (HdF.cons (c := "UnlikeLengths") ⟨by rfl, by decide, .inl (gE_UnlikeLengths T)⟩ (.as rfl rfl) (fun a oe cls d0 pn hz hf => (psf_one (psf_ret (pf_lst (paf_cons pf_str (paf_cons (pf_callB (cd_showE ⟨hr.gd rfl, hr.u64⟩ rfl) (by rfl) T.z_repr (by decide +kernel) (paf_cons (pf_xv (xfall T) hz hf) paf_nil)) paf_nil)))))) (HdF.cons (c := "InvalidPlace") ⟨by rfl, by decide, .inl (gE_InvalidPlace T)⟩ (.as rfl rfl) (fun a oe cls d0 pn hz hf => (psf_one (psf_ret (pf_lst (paf_cons pf_str (paf_cons (pf_callX (i := 3) (G_law_very T) (hr.mono (by decide)) hz hf (by rfl) T.g_law_very T.F_law_very.kp T.b_law_very (paf_cons (pf_var 2) (paf_cons (pf_var 2) paf_nil))) paf_nil)))))) (HdF.cons (c := "OpenpostsError") ⟨by rfl, by decide, .inl (gE_OpenpostsError T)⟩ .no (fun a oe cls d0 pn hz hf => (psf_one (psf_ret (pf_lst (paf_cons pf_str (paf_cons pf_str paf_nil)))))) HdF.nil))))))
theorem G_law_is_word {b : Bool} (T : TX w K mg) : FnG b PP w K mg base (L2N.CX PP w) 1 T.f_law_is_word T.d_law_is_word ["_law_value"] (spD (zt T) 1 D_law_is_word) :=
  fn_d (Z := zt T) (K := K) (N := N_law_is_word) (fb := B_law_is_word) (DN.Fun.d T.F_law_is_word) sc_law_is_word fun cdv A outer s H E hr =>
    (psf_cons (psf_if (ptf_w (pwf_or (ptf_not (ptf_val (pf_callB (cd_isi (csok T) rfl) (by rfl) T.z_isinstance (by decide +kernel) (paf_cons (pf_var 0) (paf_cons (pf_bltn (v := .ty "str") (u := .type "str") (by rfl) T.z_str (by decide +kernel) rfl (fun _ => on_ty)) paf_nil))))) (pwf_one (ptf_cmp od_gt (pf_callB (cd_len rfl) (by rfl) T.z_len (by decide +kernel) (paf_cons (pf_var 0) paf_nil)) pf_int (nomark _))))) (psf_one (psf_ret pf_bl)) psf_nil)
    (psf_one (psf_ret (pf_cmp (od_eq hr.u64 rfl) (pf_lc (own := [("_law_sign", 1)]) rfl sc_law_is_word.nd (pif_val rfl (pf_var 0)) (blkOk_by (N := N_law_is_word) (sc := defScope s_law_is_word) (by decide +kernel)) (fun _ _ _ _ _ => (pgf_name 1 sc_law_is_word.nd rfl (by first | exact .inl rfl | exact .inr rfl))) (fun _ _ _ _ _ => (ptsf_one (ptf_cmp (od_notin hr.u65 rfl) (pf_var 1) (pf_callT (cd_list rfl rfl) (by rfl) T.z_list (by decide +kernel) (paf_cons pf_str paf_nil)) (by rfl)))) (fun _ _ _ _ _ => (pf_var 1))) (pf_lst paf_nil) (nomark _)))))
theorem G_law_due (T : TX w K mg) : FnG true PP w K mg base (L2N.CX PP w) 2 T.f_law_due T.d_law_due ["_law_kind", "_law_one", "_law_other"] (spD (zt T) 3 D_law_due) :=
  fn_d (Z := zt T) (K := K) (N := N_law_due) (fb := B_law_due) (DN.Fun.d T.F_law_due) sc_law_due fun cdv A outer s H E hr =>
    (psf_cons (psf_if (ptf_not (ptf_val (pf_call (G_law_is_word T) (hr.mono (by decide)) tkd (by rfl) T.g_law_is_word T.F_law_is_word.kp T.b_law_is_word (paf_cons (pf_var 1) paf_nil)))) (psf_one (psf_ret (pf_lst (paf_cons pf_str (paf_cons (pf_callB (cd_showE ⟨hr.gd rfl, hr.u64⟩ rfl) (by rfl) T.z_repr (by decide +kernel) (paf_cons (pf_var 1) paf_nil)) paf_nil))))) psf_nil)
    (psf_cons (psf_if (ptf_cmp (od_eq hr.u64 rfl) (pf_var 0) pf_int (nomark _)) (psf_one (psf_ret (pf_lst (paf_cons pf_str (paf_cons (pf_callB (cd_showE ⟨hr.gd rfl, hr.u64⟩ rfl) (by rfl) T.z_repr (by decide +kernel) (paf_cons (pf_meth md_join PySem.F.plainAttrs_str PySem.F.slot_str_join PySem.F.type_str_join rfl pf_str (paf_cons (pf_lc (own := [("_law_sign", 3)]) rfl sc_law_due.nd (pif_val rfl (pf_var 1)) (blkOk_by (N := N_law_due) (sc := defScope s_law_due) (by decide +kernel)) (fun _ _ _ _ _ => (pgf_name 3 sc_law_due.nd rfl (by first | exact .inl rfl | exact .inr rfl))) (fun _ _ _ _ _ => ptsf_nil) (fun _ _ _ _ _ => (pf_ix (ix_d hr.u1 rfl) (pf_disp [(.inr "0", .str "1"), (.inr "1", .str "0"), (.inr "*", .str "*")] [.str "0", .str "1", .str "*"] [.str "1", .str "0", .str "*"] (pps_cons pe_str pe_str (pps_cons pe_str pe_str (pps_cons pe_str pe_str pps_nil))) rfl (fun _ => (OnL.cons' on_str (OnL.cons' on_str (OnL.cons' on_str OnL.nil')))) rfl (by decide)) (pf_var 3)))) paf_nil)) paf_nil)) paf_nil))))) psf_nil)
    (psf_cons (psf_if (ptf_cmp (od_eq hr.u64 rfl) (pf_var 0) pf_int (nomark _)) (psf_cons (psf_if (ptf_w (pwf_or (ptf_val (pf_callB (cd_isi (csok T) rfl) (by rfl) T.z_isinstance (by decide +kernel) (paf_cons (pf_var 2) (paf_cons (pf_bltn (v := .ty "bool") (u := .type "bool") (by rfl) T.z_bool (by decide +kernel) rfl (fun _ => on_ty)) paf_nil)))) (pwf_or (ptf_not (ptf_val (pf_callB (cd_isi (csok T) rfl) (by rfl) T.z_isinstance (by decide +kernel) (paf_cons (pf_var 2) (paf_cons (pf_bltn (v := .ty "int") (u := .type "int") (by rfl) T.z_int (by decide +kernel) rfl (fun _ => on_ty)) paf_nil))))) (pwf_one (ptf_not (ptf_chain od_le od_lt pf_int (pf_var 2) (pf_callB (cd_len rfl) (by rfl) T.z_len (by decide +kernel) (paf_cons (pf_var 1) paf_nil)))))))) (psf_one (psf_ret (pf_lst (paf_cons pf_str (paf_cons (pf_callB (cd_showE ⟨hr.gd rfl, hr.u64⟩ rfl) (by rfl) T.z_repr (by decide +kernel) (paf_cons (pf_var 2) paf_nil)) paf_nil))))) psf_nil)
    (psf_one (psf_ret (pf_lst (paf_cons pf_str (paf_cons (pf_callB (cd_showE ⟨hr.gd rfl, hr.u64⟩ rfl) (by rfl) T.z_repr (by decide +kernel) (paf_cons (pf_meth md_join PySem.F.plainAttrs_str PySem.F.slot_str_join PySem.F.type_str_join rfl pf_str (paf_cons (pf_lc (own := [("_law_k", 4), ("_law_sign", 3)]) rfl sc_law_due.nd (pi_enumD rfl (by rfl) T.z_enumerate (pf_var 1)) (blkOk_by (N := N_law_due) (sc := defScope s_law_due) (by decide +kernel)) (fun _ _ _ _ _ => (pgf_tup rfl rfl (pgfs_cons (pgf_name 4 sc_law_due.nd rfl (by first | exact .inl rfl | exact .inr rfl)) (pgfs_cons (pgf_name 3 sc_law_due.nd rfl (by first | exact .inl rfl | exact .inr rfl)) pgfs_nil)))) (fun _ _ _ _ _ => ptsf_nil) (fun _ _ _ _ _ => (pf_ix (ix_d hr.u1 rfl) (pf_lst (paf_cons pf_str (paf_cons (pf_var 3) paf_nil))) (pf_callT cd_int (by rfl) T.z_int (by decide +kernel) (paf_cons (pf_cmp (od_ne hr.u64 rfl) (pf_var 4) (pf_var 2) (nomark _)) paf_nil))))) paf_nil)) paf_nil)) paf_nil)))))) psf_nil)
    (psf_cons (psf_if (ptf_not (ptf_val (pf_call (G_law_is_word T) (hr.mono (by decide)) tkd (by rfl) T.g_law_is_word T.F_law_is_word.kp T.b_law_is_word (paf_cons (pf_var 2) paf_nil)))) (psf_one (psf_ret (pf_lst (paf_cons pf_str (paf_cons (pf_callB (cd_showE ⟨hr.gd rfl, hr.u64⟩ rfl) (by rfl) T.z_repr (by decide +kernel) (paf_cons (pf_var 2) paf_nil)) paf_nil))))) psf_nil)
    (psf_cons (psf_if (ptf_cmp (od_ne hr.u64 rfl) (pf_callB (cd_len rfl) (by rfl) T.z_len (by decide +kernel) (paf_cons (pf_var 1) paf_nil)) (pf_callB (cd_len rfl) (by rfl) T.z_len (by decide +kernel) (paf_cons (pf_var 2) paf_nil)) (nomark _)) (psf_one (psf_ret (pf_lst (paf_cons pf_str (paf_cons (pf_callB (cd_showE ⟨hr.gd rfl, hr.u64⟩ rfl) (by rfl) T.z_repr (by decide +kernel) (paf_cons (pf_tup (paf_cons (pf_var 1) (paf_cons (pf_var 2) paf_nil))) paf_nil)) paf_nil))))) psf_nil)
    (psf_cons (psf_setLc 5 (own := [("_law_k", 4)]) rfl sc_law_due.nd rfl rfl (sw_true rfl rfl rfl (by decide +kernel)) (pif_range1 (by rfl) T.z_range (paf_cons (pf_callB (cd_len rfl) (by rfl) T.z_len (by decide +kernel) (paf_cons (pf_var 1) paf_nil)) paf_nil)) (blkOk_by (N := N_law_due) (sc := defScope s_law_due) (by decide +kernel)) (fun _ _ _ _ _ => (pgf_name 4 sc_law_due.nd rfl (by first | exact .inl rfl | exact .inr rfl))) (fun _ _ _ _ _ => (ptsf_one (ptf_cmp (od_in hr.u65 rfl) (pf_op (od_add rfl) (pf_ix (ix_d hr.u1 rfl) (pf_var 1) (pf_var 4)) (pf_ix (ix_d hr.u1 rfl) (pf_var 2) (pf_var 4))) (pf_lst (paf_cons pf_str (paf_cons pf_str paf_nil))) (by rfl)))) (fun _ _ _ _ _ => (pf_var 4)))
    (psf_one (psf_ret (pf_lst (paf_cons pf_str (paf_cons (pf_callB (cd_showE ⟨hr.gd rfl, hr.u64⟩ rfl) (by rfl) T.z_repr (by decide +kernel) (paf_cons (pf_ix (ix_d hr.u1 rfl) (pf_lst (paf_cons (pf_var 5) (paf_cons (pf_callB (cd_len rfl) (by rfl) T.z_len (by decide +kernel) (paf_cons (pf_var 5) paf_nil)) paf_nil))) (pf_var 0)) paf_nil)) paf_nil)))))))))))
theorem G_law_end (T : TX w K mg) {f : Addr} {fd : FuncData} (F : Fun K "law" "law" s_law f fd) : FnG true PP w K mg base (L2N.CX PP w) 7 f fd ["_law_script"] (spD (zt T) 1 D_law) :=
  fn_d (Z := zt T) (K := K) (N := N_law) (fb := B_law) (DN.Fun.d F) sc_law fun cdv A outer s H E hr =>
    (psf_cons (psf_for pod rfl (pif_range1 (by rfl) T.z_range (paf_cons (pf_callB (cd_max rfl rfl) (by rfl) T.z_max (by decide +kernel) (paf_cons pf_int (paf_cons (pf_callB (cd_min rfl rfl) (by rfl) T.z_min (by decide +kernel) (paf_cons pf_int (paf_cons (pf_callB (cd_len rfl) (by rfl) T.z_len (by decide +kernel) (paf_cons (pf_var 0) paf_nil)) paf_nil))) paf_nil))) paf_nil)) (pgf_name 1 sc_law.nd rfl (.inl rfl))
      (psf_cons (psf_setC 2 sc_law.nd rfl (.inl rfl) (pf_call (G_law_box T) (hr.mono (by decide)) tkd (by rfl) T.g_law_box T.F_law_box.kp T.b_law_box (paf_cons (pf_call (G_law_cell_at T) (hr.mono (by decide)) tkd (by rfl) T.g_law_cell_at T.F_law_cell_at.kp T.b_law_cell_at (paf_cons (pf_var 0) (paf_cons (pf_var 1) paf_nil))) paf_nil)))
    (psf_cons (psf_asg (pf_call (G_law_words T) (hr.mono (by decide)) tkd (by rfl) T.g_law_words T.F_law_words.kp T.b_law_words (paf_cons (pf_var 2) paf_nil)) (pgf_tl rfl rfl (pgfs_cons (pgf_name 3 sc_law.nd rfl (.inl rfl)) (pgfs_cons (pgf_name 4 sc_law.nd rfl (.inl rfl)) pgfs_nil))))
    (psf_cons (psf_setV 5 sc_law.nd rfl (.inl rfl) (paf_cons pf_non (paf_cons pf_bl (paf_cons pf_bl (paf_cons pf_int (paf_cons pf_int (paf_cons (pf_un ud_neg pf_int) (paf_cons pf_str (paf_cons pf_str (pafc_cons (pf_lst (paf_cons pf_str paf_nil)) (paf_cons (pf_tup (paf_cons pf_str (paf_cons pf_str paf_nil))) paf_nil)))))))))))
    (psf_cons (psf_addV 5 5 sc_law.nd rfl (.inl rfl) (pf_var 5) (paf_cons pf_dnewK (pafc_cons (pf_lst paf_nil) (paf_cons (pf_op od_mul pf_str pf_int) (paf_cons (pf_op od_pow pf_int pf_int) (paf_cons (pf_callB (cd_len rfl) (by rfl) T.z_len (by decide +kernel) (paf_cons (pf_var 3) paf_nil)) (paf_cons (pf_op od_sub (pf_callB (cd_len rfl) (by rfl) T.z_len (by decide +kernel) (paf_cons (pf_var 3) paf_nil)) pf_int) paf_nil)))))))
    (psf_cons (psf_addV 5 5 sc_law.nd rfl (.inl rfl) (pf_var 5) (paf_cons (pf_var 3) (paf_cons (pf_var 4) (paf_cons pf_str (paf_cons pf_str (paf_cons (pf_op od_sub (pf_call (G_law_take T) (hr.mono (by decide)) tkd (by rfl) T.g_law_take T.F_law_take.kp T.b_law_take (paf_cons (pf_var 2) (paf_cons pf_int paf_nil))) pf_int) paf_nil))))))
    (psf_cons (psf_for pod rfl (pif_range1 (by rfl) T.z_range (paf_cons pf_int paf_nil)) (pgf_name 6 sc_law.nd rfl (.inl rfl))
      (psf_cons (psf_set 7 sc_law.nd rfl (.inl rfl) (pf_pick rfl (paf_cons (pf_var 3) (paf_cons (pf_var 4) (paf_cons (pf_vx rfl (pf_var 5) (pf_call (G_law_take T) (hr.mono (by decide)) tkd (by rfl) T.g_law_take T.F_law_take.kp T.b_law_take (paf_cons (pf_var 2) (paf_cons pf_int paf_nil)))) paf_nil))) (pf_call (G_law_take T) (hr.mono (by decide)) tkd (by rfl) T.g_law_take T.F_law_take.kp T.b_law_take (paf_cons (pf_var 2) (paf_cons pf_int paf_nil)))))
    (psf_cons (psf_set 8 sc_law.nd rfl (.inl rfl) (pf_pick rfl (paf_cons (pf_var 4) (paf_cons (pf_var 3) (paf_cons (pf_vx rfl (pf_var 5) (pf_call (G_law_take T) (hr.mono (by decide)) tkd (by rfl) T.g_law_take T.F_law_take.kp T.b_law_take (paf_cons (pf_var 2) (paf_cons pf_int paf_nil)))) (paf_cons (pf_vx rfl (pf_var 5) (pf_call (G_law_take T) (hr.mono (by decide)) tkd (by rfl) T.g_law_take T.F_law_take.kp T.b_law_take (paf_cons (pf_var 2) (paf_cons pf_int paf_nil)))) paf_nil)))) (pf_call (G_law_take T) (hr.mono (by decide)) tkd (by rfl) T.g_law_take T.F_law_take.kp T.b_law_take (paf_cons (pf_var 2) (paf_cons pf_int paf_nil)))))
    (psf_one (psf_for pod rfl (pif_range1 (by rfl) T.z_range (paf_cons pf_int paf_nil)) (pgf_name 9 sc_law.nd rfl (.inl rfl))
      (psf_one (psf_if (ptf_cmp (od_ne hr.u64 rfl) (pf_call (G_law_caught T) (hr.mono (by decide)) tkd (by rfl) T.g_law_caught T.F_law_caught.kp T.b_law_caught (paf_cons (pf_var 9) (paf_cons (pf_var 7) (paf_cons (pf_var 8) paf_nil)))) (pf_call (G_law_due T) (hr.mono (by decide)) tkd (by rfl) T.g_law_due T.F_law_due.kp T.b_law_due (paf_cons (pf_var 9) (paf_cons (pf_var 7) (paf_cons (pf_var 8) paf_nil)))) (nomark _)) (psf_one (psf_ret pf_bl)) psf_nil)))))))
    (psf_one (psf_for pod rfl (pif_range1 (by rfl) T.z_range (paf_cons pf_int paf_nil)) (pgf_name 6 sc_law.nd rfl (.inl rfl))
      (psf_one (psf_for pod rfl (pif_range1 (by rfl) T.z_range (paf_cons pf_int paf_nil)) (pgf_name 9 sc_law.nd rfl (.inl rfl))
      (psf_cons (psf_if (ptf_cmp (od_ne hr.u64 rfl) (pf_call (G_law_caught T) (hr.mono (by decide)) tkd (by rfl) T.g_law_caught T.F_law_caught.kp T.b_law_caught (paf_cons (pf_var 9) (paf_cons (pf_var 3) (paf_cons (pf_var 4) paf_nil)))) (pf_call (G_law_due T) (hr.mono (by decide)) tkd (by rfl) T.g_law_due T.F_law_due.kp T.b_law_due (paf_cons (pf_var 9) (paf_cons (pf_var 3) (paf_cons (pf_var 4) paf_nil)))) (nomark _)) (psf_one (psf_ret pf_bl)) psf_nil)
    (psf_one (psf_if (ptf_w (pwf_and (ptf_cmp (od_eq hr.u64 rfl) (pf_callB (cd_len rfl) (by rfl) T.z_len (by decide +kernel) (paf_cons (pf_var 3) paf_nil)) (pf_callB (cd_len rfl) (by rfl) T.z_len (by decide +kernel) (paf_cons (pf_var 4) paf_nil)) (nomark _)) (pwf_one (ptf_cmp (od_ne hr.u64 rfl) (pf_call (G_law_caught T) (hr.mono (by decide)) tkd (by rfl) T.g_law_caught T.F_law_caught.kp T.b_law_caught (paf_cons (pf_var 9) (paf_cons (pf_var 4) (paf_cons (pf_var 3) paf_nil)))) (pf_call (G_law_due T) (hr.mono (by decide)) tkd (by rfl) T.g_law_due T.F_law_due.kp T.b_law_due (paf_cons (pf_var 9) (paf_cons (pf_var 3) (paf_cons (pf_var 4) paf_nil)))) (nomark _))))) (psf_one (psf_ret pf_bl)) psf_nil))))))))))))))
    (psf_one (psf_ret pf_bl)))
end
end Q03
namespace DB
open PySem PySem.Spec PyProof.Rows L2
def cyc : Nat → Nat
  | 0 => 0
  | b + 1 => 5 * cyc b + 1
theorem cyc_add (b : Nat) : ∀ a, cyc (a + b) = (4 * cyc a + 1) * cyc b + cyc a
  | 0 => by rw [Nat.zero_add]; show _ = (4 * 0 + 1) * cyc b + 0; omega
  | a + 1 => by
    rw [Nat.succ_add]
    show 5 * cyc (a + b) + 1 = (4 * (5 * cyc a + 1) + 1) * cyc b + (5 * cyc a + 1)
    rw [cyc_add b a]
    generalize cyc a = u
    generalize cyc b = v
    have e1 : (4 * (5 * u + 1) + 1) * v = 20 * (u * v) + 5 * v := by
      rw [Nat.add_mul, Nat.mul_assoc, Nat.add_mul, Nat.mul_assoc]; omega
    have e2 : (4 * u + 1) * v = 4 * (u * v) + v := by rw [Nat.add_mul, Nat.mul_assoc]; omega
    rw [e1, e2]
    omega
theorem cyc_two : ∀ k, ∃ q, cyc (2 ^ k) = 2 ^ k * (2 * q + 1)
  | 0 => ⟨0, rfl⟩
  | k + 1 => by
    obtain ⟨q, e⟩ := cyc_two k
    generalize hc : cyc (2 ^ k) = c at e
    have e2 : cyc (2 ^ (k + 1)) = (2 * c) * (2 * c + 1) := by
      rw [show 2 ^ (k + 1) = 2 ^ k + 2 ^ k by rw [Nat.pow_succ]; omega, cyc_add, hc]
      have : (4 * c + 1) * c = 4 * (c * c) + c := by rw [Nat.add_mul, Nat.mul_assoc]; omega
      rw [this, Nat.mul_add, Nat.mul_assoc, show c * (2 * c) = 2 * (c * c) by rw [Nat.mul_left_comm]]
      omega
    refine ⟨2 * (q * c) + q + c, ?_⟩
    have e3 : (2 * q + 1) * (2 * c + 1) = 2 * (2 * (q * c) + q + c) + 1 := by
      rw [Nat.add_mul, Nat.mul_add, Nat.mul_assoc, Nat.mul_left_comm q 2 c]; omega
    rw [e2, ← e3, ← Nat.mul_assoc, Nat.pow_succ]
    congr 1
    rw [e, Nat.mul_comm (2 ^ k) 2, Nat.mul_assoc]
theorem half_or {x j M : Nat} (hj : j < M * 2) (e : x % M = j % M) : x % (M * 2) = j ∨ (x + M) % (M * 2) = j := by
  have hM : 0 < M := by omega
  have h1 : x % (M * 2) % M = x % M := Nat.mod_mod_of_dvd _ ⟨2, rfl⟩
  have h2 : (x + M) % (M * 2) = (x % (M * 2) + M) % (M * 2) := by rw [Nat.mod_add_mod]
  have hr : x % (M * 2) < M * 2 := Nat.mod_lt _ (by omega)
  rw [h2]
  generalize x % (M * 2) = r at *
  rw [e] at h1
  rcases Nat.lt_or_ge r M with c | c <;> rcases Nat.lt_or_ge j M with d | d
  · rw [Nat.mod_eq_of_lt c, Nat.mod_eq_of_lt d] at h1; exact .inl h1
  · rw [Nat.mod_eq_of_lt c, Nat.mod_eq_sub_mod d, Nat.mod_eq_of_lt (by omega)] at h1
    right; rw [Nat.mod_eq_of_lt (by omega)]; omega
  · rw [Nat.mod_eq_of_lt d, Nat.mod_eq_sub_mod c, Nat.mod_eq_of_lt (by omega)] at h1
    right; rw [Nat.mod_eq_sub_mod (by omega), Nat.mod_eq_of_lt (by omega)]; omega
  · rw [Nat.mod_eq_sub_mod c, Nat.mod_eq_sub_mod d, Nat.mod_eq_of_lt (by omega), Nat.mod_eq_of_lt (by omega)] at h1
    left; omega
theorem cyc_hits : ∀ k j, j < 2 ^ k → ∃ b, b < 2 ^ k ∧ cyc b % 2 ^ k = j
  | 0, j, h => ⟨0, by decide, by have : j < 1 := h; omega⟩
  | k + 1, j, h => by
    obtain ⟨b, hb, e⟩ := cyc_hits k (j % 2 ^ k) (Nat.mod_lt _ (Nat.pow_pos (by decide)))
    rw [Nat.pow_succ] at h ⊢
    rcases half_or h e with c | c
    · exact ⟨b, by omega, c⟩
    · refine ⟨2 ^ k + b, by omega, ?_⟩
      obtain ⟨q, eq⟩ := cyc_two k
      rw [cyc_add, eq, ← c]
      generalize cyc b = v
      generalize 2 ^ k = M
      have : (4 * (M * (2 * q + 1)) + 1) * v + M * (2 * q + 1) = v + M + M * 2 * ((2 * (2 * q + 1)) * v + q) := by
        have e1 : M * 2 * (2 * (2 * q + 1) * v) = 2 * 2 * (M * (2 * q + 1)) * v := by ac_rfl
        have e2 : M * (2 * q + 1) = M * 2 * q + M := by rw [Nat.mul_add, Nat.mul_one, Nat.mul_assoc]
        rw [Nat.mul_add (M * 2), e1, Nat.add_mul (4 * _), Nat.one_mul, show 2 * 2 = 4 from rfl]
        omega
      rw [this, Nat.add_mul_mod_self_left]
theorem lcg_cyc (m : Nat) : ∀ b, lcgN m b = cyc b % (m + 1)
  | 0 => (Nat.zero_mod _).symm
  | b + 1 => by
    show (lcgN m b * 5 + 1) % (m + 1) = (5 * cyc b + 1) % (m + 1)
    rw [lcg_cyc m b, Nat.add_mod, Nat.mul_mod, Nat.mod_mod, ← Nat.mul_mod, ← Nat.add_mod, Nat.mul_comm]
/-- the masks up to 2047 -/
def Msk (m : Nat) : Prop := ∃ k, m + 1 = 2 ^ k ∧ 1 ≤ k ∧ k ≤ 11
theorem Msk.back {m : Nat} (h : Msk m) (b : Nat) : lcgN m (m + 1 + b) = lcgN m b := by
  obtain ⟨k, e, _⟩ := h
  obtain ⟨q, eq⟩ := cyc_two k
  rw [lcg_cyc, lcg_cyc, cyc_add, e, eq]
  generalize 2 ^ k = M
  generalize cyc b = v
  have : (4 * (M * (2 * q + 1)) + 1) * v + M * (2 * q + 1) = v + M * ((4 * (2 * q + 1)) * v + (2 * q + 1)) := by
    simp only [Nat.mul_add, Nat.add_mul, Nat.mul_one, Nat.one_mul, Nat.mul_assoc, Nat.mul_comm, Nat.mul_left_comm]
    omega
  rw [this, Nat.add_mul_mod_self_left]
theorem Msk.all {m : Nat} (h : Msk m) {i j : Nat} (hi : i ≤ m) (hj : j ≤ m) : ∃ n, n ≤ m ∧ lcgI m i n = j := by
  have hit : ∀ x, x ≤ m → ∃ b, b ≤ m ∧ lcgN m b = x := fun x hx => by
    obtain ⟨k, e, _⟩ := h
    obtain ⟨b, hb, eb⟩ := cyc_hits k x (by omega)
    exact ⟨b, by omega, by rw [lcg_cyc, e]; exact eb⟩
  obtain ⟨u, hu, rfl⟩ := hit i hi
  obtain ⟨v, hv, rfl⟩ := hit j hj
  by_cases c : u ≤ v
  · exact ⟨v - u, by omega, by rw [lcgN_add, Nat.add_sub_cancel' c]⟩
  · exact ⟨v + (m + 1) - u, by omega, by rw [lcgN_add, show u + (v + (m + 1) - u) = m + 1 + v by omega, h.back]⟩
theorem Msk.le {m : Nat} (h : Msk m) : m ≤ 2047 := by
  obtain ⟨k, e, _, hk⟩ := h
  have : 2 ^ k ≤ 2 ^ 11 := Nat.pow_le_pow_right (by decide) hk
  omega
theorem Msk.odd {m : Nat} (h : Msk m) : m % 2 = 1 := by
  obtain ⟨k, e, h1, _⟩ := h
  obtain ⟨q, rfl⟩ : ∃ q, k = q + 1 := ⟨k - 1, by omega⟩
  rw [Nat.pow_succ] at e
  omega
theorem way_in (m : Nat) (x : Int) (c : Nat) : way m x c ≤ m := by
  have hi : SetTable.bits x % (m + 1) ≤ m := Nat.le_of_lt_succ (Nat.mod_lt _ (Nat.succ_pos _))
  have r := runEnd_bd hi
  have q := nth_in c (runAt m (SetTable.bits x % (m + 1)) (SetTable.bits x)) (m := m) (by
    show SetTable.bits x % (m + 1) + (SetTable.runEnd m (SetTable.bits x % (m + 1)) - SetTable.bits x % (m + 1)) ≤ m
    omega)
  exact Nat.le_trans (Nat.le_add_right _ _) q
/-- each hash stands at its slot, all slots ahead of it on its way are taken -/
structure Tab (t : SetTable) (hs : List Int) : Prop where
  asc : Ris t.place.toList
  clean : t.dummies = #[]
  len : t.place.toList.length = hs.length
  msk : Msk t.mask
  top : ∀ j ∈ t.place.toList, j ≤ t.mask
  sits : ∀ p ∈ t.place.toList.zip hs, ∃ c, way t.mask p.2 c = p.1 ∧ ∀ d, d < c → way t.mask p.2 d ∈ t.place.toList
abbrev put2 {α : Type} (l : List α) (p : Nat) (x : α) : List α := l.take p ++ x :: l.drop p
theorem put2_len {α : Type} {l : List α} {p : Nat} (h : p ≤ l.length) (x : α) : (put2 l p x).length = l.length + 1 := by
  simp only [put2, List.length_append, List.length_cons, List.length_take, List.length_drop]
  omega
theorem mem_put2 {α : Type} {l : List α} {p : Nat} {x y : α} : y ∈ put2 l p x ↔ y = x ∨ y ∈ l := by
  have h : y ∈ l ↔ y ∈ l.take p ++ l.drop p := by rw [List.take_append_drop]
  rw [h]
  simp only [put2, List.mem_append, List.mem_cons]
  constructor
  · rintro (h | h | h)
    · exact .inr (.inl h)
    · exact .inl h
    · exact .inr (.inr h)
  · rintro (h | h | h)
    · exact .inr (.inl h)
    · exact .inl h
    · exact .inr (.inr h)
theorem zip_put2 {α β : Type} {l : List α} {m : List β} (h : l.length = m.length) (p : Nat) (x : α) (y : β) : (put2 l p x).zip (put2 m p y) = put2 (l.zip m) p (x, y) := by
  simp only [put2]
  rw [List.zip_append (by simp [h]), List.zip_cons_cons]
  simp only [List.zip, List.take_zipWith, List.drop_zipWith]
theorem Tab.put {t : SetTable} {hs : List Int} (T : Tab t hs) {x : Int} {c : Nat} (out : way t.mask x c ∉ t.place.toList) (b : ∀ d, d < c → way t.mask x d ∈ t.place.toList) {j p : Nat} (hj : way t.mask x c = j) (hp : SetTable.below t.place j = p) :
    p ≤ hs.length ∧ (t.put j).2 = p ∧ Tab (t.put j).1 (put2 hs p x) ∧ (t.put j).1.mask = t.mask ∧ (t.put j).1.led = t.led ∧ (t.put j).1.plain = t.plain ∧ (t.put j).1.fill = hs.length + 1 := by
  have hin : p ≤ t.place.toList.length := by
    have := (below_cut T.asc j).1
    rw [hp] at this
    exact this
  have no : t.place[SetTable.below t.place j]? ≠ some j := fun e => out (hj ▸ List.mem_of_getElem? (by rw [Array.getElem?_toList]; exact e))
  have new : (t.put j).1.place.toList = put2 t.place.toList p j := by rw [← hp]; exact SetTable.toList_insertAt ..
  have old : ∀ {y : Nat}, y ∈ t.place.toList → y ∈ (t.put j).1.place.toList := fun h => new ▸ mem_put2.mpr (.inr h)
  have nd : (t.put j).1.dummies = #[] := by
    show (if _ then _ else t.dummies) = _
    rw [T.clean, L2.has_none]
    rfl
  have nl : (t.put j).1.place.toList.length = hs.length + 1 := by rw [new, put2_len hin, T.len]
  refine ⟨T.len ▸ hin, hp, ⟨ris_insert T.asc no, nd, by rw [nl, put2_len (T.len ▸ hin)], T.msk, fun y hy => ?_, fun q hq => ?_⟩, rfl, rfl, rfl, ?_⟩
  · rw [new] at hy
    rcases mem_put2.mp hy with rfl | hy
    · exact hj ▸ way_in t.mask x c
    · exact T.top y hy
  · rw [new, zip_put2 T.len] at hq
    rcases mem_put2.mp hq with rfl | hq
    · exact ⟨c, hj, fun d hd => old (b d hd)⟩
    · obtain ⟨d, e, z⟩ := T.sits q hq
      exact ⟨d, e, fun d' h => old (z d' h)⟩
  · show (t.put j).1.place.toList.length + (t.put j).1.dummies.size = _
    rw [nl, nd]
    rfl
def Ms (m : Nat) : Prop := m = 7 ∨ m = 31 ∨ m = 127 ∨ m = 511 ∨ m = 2047
theorem Ms.msk {m : Nat} (h : Ms m) : Msk m := by
  rcases h with rfl | rfl | rfl | rfl | rfl
  · exact ⟨3, rfl, by decide, by decide⟩
  · exact ⟨5, rfl, by decide, by decide⟩
  · exact ⟨7, rfl, by decide, by decide⟩
  · exact ⟨9, rfl, by decide, by decide⟩
  · exact ⟨11, rfl, by decide, by decide⟩
end DB
namespace DB
open PySem PySem.Spec PyProof.Rows L2
section
variable {P : Program} {w : World} {A : Around} {E : Value → Shared → Prop} {s : Shared}
/-- the set of the tuples L at a -/
structure SB (P : Program) (w : World) (h : Heap) (a : Addr) (L : List (Addr × List Int)) (es : Array (Int × Value)) (ep : Nat) (t : SetTable) : Prop where
  obj : ∃ o, h.get? a = some o ∧ o.ExactSet ∧ o.data = .set es ep t
  row : es.toList = rowsOf P w L
  tab : Tab t (L.map fun p => thash P w p.2)
  uniq : (L.map (·.2)).Nodup
  tups : ∀ p ∈ L, IsT P w h p.2 p.1
  pln : t.plain = true
  ld : w.params.followText "set-order" = true ∨ t.led = true
  rm : L.length * 5 < t.mask * 3
  ms : Ms t.mask
  most : L.length ≤ 1228
variable {a : Addr} {L : List (Addr × List Int)} {es : Array (Int × Value)} {ep : Nat} {t : SetTable}
theorem SB.here (R : SB P w s.heap a L es ep t) : ¬ t.gaveWay = true := by
  unfold SetTable.gaveWay
  simp [R.ms.msk.odd]
end
end DB
namespace DB
open PySem PySem.Spec PyProof.Rows L2
section
variable {P : Program} {w : World} {A : Around} {E : Value → Shared → Prop} {s : Shared} {a : Addr} {L : List (Addr × List Int)} {es : Array (Int × Value)} {ep : Nat} {t : SetTable}
theorem SB.kept {h h' : Heap} (R : SB P w h a L es ep t) (ha : ∀ o, h.get? a = some o → h'.get? a = some o) (ht : ∀ p ∈ L, IsT P w h' p.2 p.1) : SB P w h' a L es ep t := by
  obtain ⟨⟨o, ho, q⟩, h1, h2, h3, _, h5, h6, h7, h8, h9⟩ := R
  exact ⟨⟨o, ha o ho, q⟩, h1, h2, h3, ht, h5, h6, h7, h8, h9⟩
theorem SB.new {h : Heap} (ho : h.get? a = some { cls := .type "set", dict := none, data := .set #[] 0 (.fresh 0 0 (!w.params.followText "set-order")) }) : SB P w h a [] #[] 0 (.fresh 0 0 (!w.params.followText "set-order")) := by
  refine ⟨⟨_, ho, ⟨rfl, rfl, rfl⟩, rfl⟩, rfl, ⟨List.Pairwise.nil, rfl, rfl, Ms.msk (.inl rfl), (fun _ h => nomatch h), (fun _ h => nomatch h)⟩, List.nodup_nil, (fun _ h => nomatch h), rfl, ?_, ?_, .inl rfl, Nat.zero_le _⟩
  · show _ ∨ (!w.params.followText "set-order") = true
    cases w.params.followText "set-order"
    · exact .inr rfl
    · exact .inl rfl
  · show 0 * 5 < 7 * 3
    decide
end
end DB
namespace DB
open PySem PySem.Spec PyProof.Rows L2
/-- the set at a, the tuples left out -/
structure SB0 (P : Program) (w : World) (h : Heap) (a : Addr) (L : List (Addr × List Int)) : Prop where
  ex : ∃ (es : Array (Int × Value)) (ep : Nat) (t : SetTable), (∃ o, h.get? a = some o ∧ o.ExactSet ∧ o.data = .set es ep t) ∧ es.toList = rowsOf P w L ∧ Tab t (L.map fun p => thash P w p.2) ∧ (L.map (·.2)).Nodup ∧ t.plain = true ∧
    (w.params.followText "set-order" = true ∨ t.led = true) ∧ L.length * 5 < t.mask * 3 ∧ Ms t.mask ∧ L.length ≤ 1228
def SBO (P : Program) (w : World) (a : Addr) (L : List (Addr × List Int)) : HO := .ext fun h => SB0 P w h a L
theorem SB0.all {P : Program} {w : World} {h : Heap} {a : Addr} {L : List (Addr × List Int)} (R : SB0 P w h a L) (ht : ∀ p ∈ L, IsT P w h p.2 p.1) : ∃ es ep t, SB P w h a L es ep t := by
  obtain ⟨es, ep, t, h1, h2, h3, h4, h5, h6, h7, h8, h9⟩ := R.ex
  exact ⟨es, ep, t, h1, h2, h3, h4, ht, h5, h6, h7, h8, h9⟩
end DB
namespace DN
open PySem PySem.Spec PyProof.Rows L2 Evl
section
variable {Z : Zx} {X : Cx} {Ew : L2.St → XK} {S : Sto} {G H : Hp} {α : List Addr} {Q : VK} {E : XK}
def rSetBq (K : PySem.W.Frag) (P : Program) (w : World) : List V → Hp → VK → Prop := fun xs H Q => ∃ (l : Addr) (ks : List (Addr × List Int)), xs = [V.ref l] ∧ (SqL K H l (ks.map fun p => V.ref p.1) ∨ SqT K H l (ks.map fun p => V.ref p.1)) ∧ (∀ p ∈ ks, SqT K H p.1 (p.2.map V.int)) ∧ ks.length ≤ 1228 ∧
  ∀ a L, H a = none → (∀ p ∈ L, p ∈ ks) → (∀ p ∈ ks, p.2 ∈ L.map (·.2)) → Q (.ref a) (upd H a (DB.SBO P w a L))
theorem rSetBq.imp {xs : List V} {Q Q' : VK} {K : PySem.W.Frag} {P : Program} {w : World} (h : rSetBq K P w xs H Q) (k : ∀ v H, Q v H → Q' v H) : rSetBq K P w xs H Q' := by
  obtain ⟨l, ks, h1, h2, h3, h4, h5⟩ := h
  exact ⟨l, ks, h1, h2, h3, h4, fun a L x y z => k _ _ (h5 a L x y z)⟩
end
end DN
namespace DN
open PySem PySem.Spec PyProof.Rows L2 Evl
end DN
namespace Q03
open DN PySem
theorem take_pos {n : Nat} {a b c m : Int} {T : Sto} (h : T[n]? = some (box a b c)) (ha : 0 < a) (hm : 0 < m) (hm2 : m < 1073741824) : D_law_take [.r n, .d (.int m)] T = .ok (T.set n (box (a.fdiv m) b c)) (.val (.d (.int (a.fmod m)))) := by
  unfold D_law_take defD
  simp_arith [h, ix_0, ix_1, ix_2, gMod_ hm, gDiv_ hm hm2, gGt_, decide_eq_true ha, gt_iff_lt, set_ix0 h, exit_d, take_set]
theorem take_neg {n : Nat} {a b c m : Int} {T : Sto} (h : T[n]? = some (box a b c)) (ha : ¬ 0 < a) (hm : 0 < m) (hb : 0 ≤ b) (hb2 : b < 2147483629) (hc : 0 ≤ c) (hc2 : c < 1000000000) : 
    D_law_take [.r n, .d (.int m)] T = .ok (T.set n (box a b (c + 1))) (.val (.d (.int (((((b + 69888 * (c + 1) + 30488) ^ 5).fmod 2147483647 + 227719 * (c + 1)) ^ 3).fmod 2147483587 |>.fdiv 16 |>.fmod m)))) := by
  have q1 : 0 ≤ ((b + 69888 * (c + 1) + 30488) ^ 5).fmod 2147483647 := Int.fmod_nonneg_of_pos _ (by decide)
  have q2 : ((b + 69888 * (c + 1) + 30488) ^ 5).fmod 2147483647 < 2147483647 := Int.fmod_lt_of_pos _ (by decide)
  unfold D_law_take defD
  have h' : (T.set n (.lst [Dv.int a, .int b, .int (c + 1)]))[n]? = some (box a b (c + 1)) := get_set h
  simp_arith [h, ix_0, ix_1, ix_2, gGt_, decide_eq_false ha, gt_iff_lt, gAdd_, set_ix2 h, h', gMul_ (show -(2 ^ 64) < (69888 : Int) by decide) (show (69888 : Int) < 2 ^ 64 by decide)]
  rw [show (Dv.int 5) = Dv.int ((5 : Nat) : Int) from rfl, gPow_ (i := b + 69888 * (c + 1) + 30488) (j := 5) (by omega) (by decide)]
  simp_arith [h', gMod_ (show (0 : Int) < 2147483647 by decide), ix_2, gAdd_, gMul_ (show -(2 ^ 64) < (227719 : Int) by decide) (show (227719 : Int) < 2 ^ 64 by decide)]
  rw [show (Dv.int 3) = Dv.int ((3 : Nat) : Int) from rfl, gPow_ (j := 3) (by omega) (by decide)]
  simp_arith [gMod_ hm, gMod_ (show (0 : Int) < 2147483587 by decide), gDiv_ (show (0 : Int) < 16 by decide) (show (16 : Int) < 1073741824 by decide), exit_d, take_set]
/-- the box at cell n -/
abbrev Bx (n : Nat) (k : Cell) : Prop := BxC 2147483629 n k
theorem take_ok {k : Cell} {n j : Nat} {m : Int} {T : Sto} (h : Bx j k) (hn : n < T.length) (hj : j < 1000000000) (hm : 0 < m) (hm2 : m < 1073741824) : ∃ (d : Nat) (k' : Cell), (d : Int) < m ∧ Bx (j + 1) k' ∧
    D_law_take [.r n, .d (.int m)] (T.set n k) = .ok (T.set n k') (.val (.d (.int d))) := by
  obtain ⟨a, b, c, rfl, h1, h2, h3, h4⟩ := h
  have hT : (T.set n (box a b c))[n]? = some (box a b c) := List.getElem?_set_self hn
  by_cases ha : 0 < a
  · refine ⟨(a.fmod m).toNat, box (a.fdiv m) b c, ?_, ⟨_, b, c, rfl, h1, h2, h3, by omega⟩, ?_⟩
    · have := Int.fmod_nonneg_of_pos a hm; have := Int.fmod_lt_of_pos a hm; omega
    · rw [take_pos hT ha hm hm2, List.set_set, Int.toNat_of_nonneg (Int.fmod_nonneg_of_pos _ hm)]
  · refine ⟨_, box a b (c + 1), ?_, ⟨a, b, c + 1, rfl, h1, h2, by omega, by omega⟩, by rw [take_neg hT ha hm h1 h2 h3 (by omega), List.set_set, ← Int.toNat_of_nonneg (Int.fmod_nonneg_of_pos _ hm)]⟩
    rw [Int.toNat_of_nonneg (Int.fmod_nonneg_of_pos _ hm)]
    exact Int.fmod_lt_of_pos _ hm
theorem cell_at_ok {ns : List Int} {k : Nat} {S : Sto} (hn : ns.length ≤ 63) : ∃ v : Int, D_law_cell_at [.d (.scr ns), .d (.int k)] S = .ok S (.val (.d (.int v))) := by
  by_cases h : k < ns.length
  · refine ⟨ns[k], def_pure ?_⟩
    simp_arith [gLen_scr, gLt_, decide_eq_true (show (k : Int) < (ns.length : Int) by omega), gIx_scr (List.getElem?_eq_getElem h)]
  · refine ⟨28724 * k + 19042, def_pure ?_⟩
    simp_arith [gLen_scr, gLt_, decide_eq_false (show ¬ (k : Int) < (ns.length : Int) by omega), gMul_ (show -(2 ^ 64) < (28724 : Int) by decide) (show (28724 : Int) < 2 ^ 64 by decide), gAdd_]
theorem box_ok {v : Int} {S : Sto} : ∃ k, Bx 0 k ∧ D_law_box [.d (.int v)] S = .ok S (.new k) := by
  refine ⟨box (max 0 (v - 10 ^ 18)) (v.fmod 2147483629) 0, ⟨_, _, _, rfl, Int.fmod_nonneg_of_pos _ (by decide), Int.fmod_lt_of_pos _ (by decide), by omega, by omega⟩, def_new ?_⟩
  have e : (if v - 10 ^ 18 > 0 then v - 10 ^ 18 else 0) = max 0 (v - 10 ^ 18) := by omega
  simp_arith [gMax2_, gMod_ (show (0 : Int) < 2147483629 by decide), gSub_]
  rw [show (Dv.int 18) = Dv.int ((18 : Nat) : Int) from rfl, gPow_ (j := 18) (by decide) (by decide)]
  simp_arith [gMax2_, gMax2, gMod_ (show (0 : Int) < 2147483629 by decide), gSub_]
  rw [e]
end Q03
namespace Q03
open DN PySem L2
section
variable {S S1 S2 : Sto} {env env' : DN.Env} {fa fb fe : FE} {fl : FA} {l : List Vr} {a b c v : Dv} {x : Xn}
theorem op_ok {g : Dv → Dv → Option Rt} (ha : fa env S = .ok S (.val (.d a))) (hb : fb env S = .ok S (.val (.d b))) (hg : g a b = vD c) : fOp g fa fb env S = .ok S (.val (.d c)) := by
  simp_arith [ha, hb, hg]
theorem call_ok {g : List Dv → Option Rt} (ha : fa env S = .ok S (.val (.d a))) (hg : g [a] = vD c) : fCall g (fCons fa fNil) env S = .ok S (.val (.d c)) := by
  simp_arith [ha, hg]
theorem call_okL {g : List Dv → Option Rt} {k : List Dv} (ha : fa env S = .ok S (.new (.lst k))) (hg : g [.lst k] = vD c) : fCall g (fCons fa fNil) env S = .ok S (.val (.d c)) := by
  simp_arith [ha, hg]
theorem var_ok {i : Nat} (h : env[i]? = some (.v (.d a))) : fVar i env S = .ok S (.val (.d a)) := by
  simp_arith [h]
theorem c_ok : fC a env S = .ok S (.val (.d a)) := rfl
theorem nil_ok : fNil env S = .ok S [] := rfl
theorem cons_v {v : Vr} (h : fa env S = .ok S1 (.val v)) (hl : fl env S1 = .ok S2 l) : fCons fa fl env S = .ok S2 (v :: l) := by
  unfold fCons
  rw [h]
  show R.bind (fl env S1) _ = _
  rw [hl]
  rfl
theorem cons_d (h : fa env S = .ok S1 (.val (.d a))) (hl : fl env S1 = .ok S2 l) : fCons fa fl env S = .ok S2 (.d a :: l) := cons_v h hl
theorem cons_x (h : fa env S = .ex S1 x) : fCons fa fl env S = .ex S1 x := by
  unfold fCons
  rw [h]
  rfl
theorem tup_ok {m : List Dv} (hl : fl env S = .ok S1 l) (hg : gTupD l = vT m) : fTup fl env S = .ok S1 (.val (.d (.tup m))) := by
  unfold fTup
  rw [hl]
  show R.of S1 (gTupD l) = _
  rw [hg]
  rfl
theorem lst_ok {m : List Dv} (hl : fl env S = .ok S1 l) (hg : gLstD l = nL m) : fLst fl env S = .ok S1 (.new (.lst m)) := by
  unfold fLst
  rw [hl]
  show R.of S1 (gLstD l) = _
  rw [hg]
  rfl
theorem callD {m : Nat} {D : FD} {r : R Rt} (h1 : fl env S = .ok S1 l) (hm : l.length = m) (h2 : D l S1 = r) : fCallD m D fl env S = r := by
  show (fl env S).bind (fun S1 l => if l.length = m then D l S1 else .no) = r
  rw [h1]
  show (if l.length = m then D l S1 else .no) = r
  rw [if_pos hm, h2]
theorem st_set {i : Nat} {v : Vr} (h : fe env S = .ok S1 (.val v)) (he : env.set i (.v v) = env') : kSet i fe env S = .nx env' S1 := by
  rw [kSet_, h, ← he]
  rfl
theorem st_setL {i : Nat} {k : List Dv} (h : fe env S = .ok S1 (.new (.lst k))) (he : env.set i (.v (.d (.lst k))) = env') : kSet i fe env S = .nx env' S1 := by
  rw [kSet_, h, ← he]
  rfl
theorem seq_nx {k1 k2 : FS} {r : RS} (h1 : k1 env S = .nx env' S1) (h2 : k2 env' S1 = r) : kSeq k1 k2 env S = r := by
  rw [kSeq_, h1]
  exact h2
theorem seq_rt {k1 k2 : FS} {r : Rt} (h1 : k1 env S = .rt S1 r) : kSeq k1 k2 env S = .rt S1 r := by
  rw [kSeq_, h1]
  rfl
theorem seq_ex {k1 k2 : FS} (h1 : k1 env S = .ex env' S1 x) : kSeq k1 k2 env S = .ex env' S1 x := by
  rw [kSeq_, h1]
  rfl
theorem st_ifB {ft : FT} {k1 k2 : FS} {t : Bool} (h : ft env S = .ok S1 t) : kIf ft k1 k2 env S = if t then k1 env S1 else k2 env S1 := by
  rw [kIf_, h, sB_ok]
theorem if_yes {ft : FT} {k1 k2 : FS} {r : RS} (h : ft env S = .ok S1 true) (h2 : k1 env S1 = r) : kIf ft k1 k2 env S = r := by
  rw [st_ifB h, if_pos rfl, h2]
theorem if_no {ft : FT} {k1 k2 : FS} {r : RS} (h : ft env S = .ok S1 false) (h2 : k2 env S1 = r) : kIf ft k1 k2 env S = r := by
  rw [st_ifB h, if_neg (by decide), h2]
theorem val_s {t : Bool} (h : fe env S = .ok S1 (.val (.d (.bl t)))) : kVal fe env S = .ok S1 t := by
  simp_arith [h]
theorem orB {t1 t2 : FT} {b1 b2 : Bool} (h1 : t1 env S = .ok S b1) (h2 : b1 = false → t2 env S = .ok S b2) : kOr t1 t2 env S = .ok S (b1 || b2) := by
  cases b1 with
  | true => rw [Bool.true_or]; simp_arith [h1]
  | false => have := h2 rfl; rw [Bool.false_or]; simp_arith [h1, this]
theorem notB {t1 : FT} {b1 : Bool} (h1 : t1 env S = .ok S1 b1) : kNot t1 env S = .ok S1 (!b1) := by
  simp_arith [h1]
theorem ret_ok {r : Rt} (h : fe env S = .ok S1 r) : kRet fe env S = .rt S1 r := by
  rw [kRet_, h]
  rfl
theorem ret_x (h : fe env S = .ex S1 x) : kRet fe env S = .ex env S1 x := by
  rw [kRet_, h]
  rfl
theorem exp_ok {v : Vr} (h : fe env S = .ok S1 (.val v)) : kExpr fe env S = .nx env S1 := by
  rw [kExpr_, h]
  cases v <;> rfl
theorem exp_x (h : fe env S = .ex S1 x) : kExpr fe env S = .ex env S1 x := by
  rw [kExpr_, h]
  rfl
theorem raise_ok {c : String} {v : Vr} (h : fe env S = .ok S (.val v)) : kRaise c fe env S = .ex env S (.own c v) := by
  unfold kRaise
  rw [h]
  rfl
theorem got_of {r : R Rt} {d : Dv} (h : r = .ok S (.val (.d d))) : DN.Got r S (.d d) := h ▸ .val _ _
end
section
variable {S S1 S2 S' : Sto} {env env' : DN.Env} {fa fb fe : FE} {fl : FA} {l : List Vr} {a b c v : Dv} {x : Xn}
theorem consC_L {k : List Dv} (h : fa env S = .ok S1 (.new (.lst k))) (hl : fl env (S1 ++ [.lst k]) = .ok S2 l) : fConsC fa fl env S = .ok S2 (.r S1.length :: l) := by
  unfold fConsC
  rw [h]
  show R.bind (fl env (S1 ++ [.lst k])) _ = _
  rw [hl]
  rfl
theorem setV_ok {i : Nat} (h : fl env S = .ok S1 l) (hl : l.length ≤ 1000) : kSetV i fl env S = .nx (env.set i (.v (.r S1.length))) (S1 ++ [.tab (.vl l)]) := by
  unfold kSetV
  rw [h]
  show layVR i env S1 l = _
  unfold layVR
  rw [if_pos (by omega)]
theorem addV_ok {i j q : Nat} {l0 : List Vr} (h0 : env[j]? = some (.v (.r q))) (h : fl env S = .ok S1 l) (hq : S1[q]? = some (.tab (.vl l0))) (hl : l0.length + l.length ≤ 1000) : kAddV i j fl env S = .nx (env.set i (.v (.r S1.length))) (S1 ++ [.tab (.vl (l0 ++ l))]) := by
  unfold kAddV
  have e : fVar j env S = .ok S (.val (.r q)) := by simp_arith [h0]
  rw [e]
  show sB env (fl env S) _ = _
  rw [h]
  show addVR i env S1 (.r q) l = _
  unfold addVR
  simp only [hq]
  unfold layVR
  rw [if_pos (by simp; omega)]
theorem vx_ok {j q k : Nat} {v : Vr} (h0 : env[j]? = some (.v (.r q))) (hi : fa env S = .ok S1 (.val (.d (.int (k : Int))))) (hq : S1[q]? = some (.tab (.vl l))) (hv : l[k]? = some v) : fVx j fa env S = .ok S1 (.val v) := by
  unfold fVx
  have e : fVar j env S = .ok S (.val (.r q)) := by simp_arith [h0]
  rw [e]
  show (fa env S).bindV _ = _
  rw [hi]
  show ixV S1 (.r q) (.d (.int k)) = _
  unfold ixV
  simp only [hq]
  unfold DN.pickR
  have ha : atI l (k : Int) = some v := by
    have hk := (List.getElem?_eq_some_iff.mp hv).1
    unfold atI ixN
    rw [if_pos (by omega), if_pos (by omega)]
    exact hv
  simp only [ha]
theorem forV_step {v : Vr} {q i m k : Nat} {body : FS} {l : List Vr} (hS : S[q]? = some (.tab (.vl l))) (hv : l[k]? = some v) (h : body (env.set i (.v v)) S = .nx env' S') : forV q i body (m + 1) k env S = forV q i body m (k + 1) env' S' := by
  conv => lhs; unfold forV
  simp only [hS, hv]
  rw [h]
theorem forV_end {q i m k : Nat} {body : FS} {l : List Vr} (hS : S[q]? = some (.tab (.vl l))) (hv : l[k]? = none) : forV q i body (m + 1) k env S = .nx env S := by
  unfold forV
  simp only [hS, hv]
theorem def_st {n : Nat} {body : FS} {args : List Vr} {S U : Sto} {d : Dv} (h : outS (body (startE n args) S) = .ok U (.val (.d d))) (hl : U.length ≤ S.length) : defD n body args S = .ok U (.val (.d d)) := by
  unfold defD
  rw [h]
  show R.ok (U.take S.length) _ = _
  rw [List.take_of_length_le hl]
theorem ifS {ft : FT} {x y : FE} {r : R Rt} {b : Bool} (h : ft env S = .ok S1 b) (h2 : (if b then x else y) env S1 = r) : fIf ft x y env S = r := by
  rw [fIf_, h, bind_ok]
  cases b <;> exact h2
theorem lst2_ok {fa fb : FE} {a b : Dv} (h1 : fa env S = .ok S (.val (.d a))) (h2 : fb env S = .ok S (.val (.d b))) : fLst (fCons fa (fCons fb fNil)) env S = .ok S (.new (.lst [a, b])) := by
  simp_arith [h1, h2]
theorem var_v {i : Nat} {v : Vr} (h : env[i]? = some (.v v)) : fVar i env S = .ok S (.val v) := by
  simp_arith [h]
theorem op_S {g : Dv → Dv → Option Rt} (ha : fa env S = .ok S1 (.val (.d a))) (hb : fb env S1 = .ok S2 (.val (.d b))) (hg : g a b = vD c) : fOp g fa fb env S = .ok S2 (.val (.d c)) := by
  simp_arith [ha, hb, hg]
theorem op_L {g : Dv → Dv → Option Rt} {m : List Dv} (ha : fa env S = .ok S1 (.new (.lst m))) (hb : fb env S1 = .ok S2 (.val (.d b))) (hg : g (.lst m) b = vD c) : fOp g fa fb env S = .ok S2 (.val (.d c)) := by
  simp_arith [ha, hb, hg]
theorem op_LL {g : Dv → Dv → Option Rt} {m m' : List Dv} (ha : fa env S = .ok S1 (.new (.lst m))) (hb : fb env S1 = .ok S2 (.new (.lst m'))) (hg : g (.lst m) (.lst m') = vD c) : fOp g fa fb env S = .ok S2 (.val (.d c)) := by
  simp_arith [ha, hb, hg]
theorem join_at {ys : List Dv} {s : Str} (h : fa env S = .ok S1 (.new (.lst ys))) (hg : gJoin (.str "") [.lst ys] = vS s) : fMeth "str" gJoin (fC (.str "")) (fCons fa fNil) env S = .ok S1 (.val (.d (.str s))) := by
  simp_arith [h, hg]
theorem take_at {i : Nat} {j : Nat} {a : Int} {m : Nat} {k : Cell} (hm : m < S.length) (hB : Bx j k) (hj : j ≤ 100000000) (h0 : env[i]? = some (.v (.r m))) (he : fe env (S.set m k) = .ok (S.set m k) (.val (.d (.int a)))) (ha : 0 < a) (ha2 : a < 1000000) :
    ∃ (d : Nat) (c' : Cell), (d : Int) < a ∧ Bx (j + 1) c' ∧ fCallD 2 D_law_take (fCons (fVar i) (fCons fe fNil)) env (S.set m k) = .ok (S.set m c') (.val (.d (.int d))) := by
  obtain ⟨d, c', h1, h2, h3⟩ := take_ok (T := S) (m := a) hB hm (by omega) ha (by omega)
  exact ⟨d, c', h1, h2, callD (l := [.r m, .d (.int a)]) (cons_v (var_v h0) (cons_d he nil_ok)) rfl h3⟩
end
end Q03
namespace Q03
open DN PySem L2
/-- a word -/
structure Wd (s : Str) : Prop where
  le : s.length ≤ 60
  ok : ∀ c ∈ s.cps.toList, OP.okc c = true
theorem Wd.lay {s : Str} (h : Wd s) : PyData.strOk s = true := OP.strOk_of fun c hc => OP.okc_lt (h.ok c hc)
theorem okc_3 {c : Nat} (h : OP.okc c = true) : c = 48 ∨ c = 49 ∨ c = 42 := by
  unfold OP.okc at h
  have h := of_decide_eq_true h
  have e : ("01*" : Str).cps.toList = [48, 49, 42] := by decide
  rw [e] at h
  simpa using h
theorem join_cs {cs : List Nat} (hl : cs.length ≤ 1000) : gJoin (.str "") [.lst (cs.map fun c => .str ⟨#[c]⟩)] = vS ⟨cs.toArray⟩ := by
  have e0 : (cs.map fun c => Dv.str ⟨#[c]⟩) = (cs.map fun c => (⟨#[c]⟩ : Str)).map .str := by rw [List.map_map]; rfl
  rw [e0]
  show (match strs? ((cs.map fun c => (⟨#[c]⟩ : Str)).map .str) with | some ss => (if (ss.map fun s : Str => s.length).sum + ss.length * ("" : Str).length ≤ 100000 then vS (Txt.join "" ss) else none) | none => none) = _
  rw [strs_map]
  have : (((cs.map fun c => (⟨#[c]⟩ : Str))).map fun s : Str => s.length).sum = cs.length := by
    rw [List.map_map]
    clear hl e0
    induction cs with
    | nil => rfl
    | cons c cs ih => rw [List.map_cons, List.sum_cons, ih, List.length_cons]; show 1 + cs.length = _; omega
  show (if (((cs.map fun c => (⟨#[c]⟩ : Str))).map fun s : Str => s.length).sum + _ * 0 ≤ 100000 then vS (Txt.join "" _) else none) = _
  rw [this, if_pos (by omega), OP.join_signs]
theorem of_cs : ∀ {ys : List Dv}, (∀ y ∈ ys, ∃ c, y = .str ⟨#[c]⟩ ∧ OP.okc c = true) → ∃ cs : List Nat, ys = cs.map (fun c => .str ⟨#[c]⟩) ∧ ∀ c ∈ cs, OP.okc c = true
  | [], _ => ⟨[], rfl, fun c h => by simp at h⟩
  | y :: ys, h => by
    obtain ⟨c, rfl, hc⟩ := h y List.mem_cons_self
    obtain ⟨cs, rfl, hcs⟩ := of_cs fun z hz => h z (List.mem_cons_of_mem _ hz)
    exact ⟨c :: cs, rfl, fun x hx => by
      rcases List.mem_cons.mp hx with rfl | hx
      · exact hc
      · exact hcs x hx⟩
section
variable {S S1 S2 : Sto} {env : DN.Env} {fa fb fe : FE} {fl : FA} {k : Cell} {m j n : Nat}
abbrev TK (i q : Nat) : FE := fCallD 2 D_law_take (fCons (fVar i) (fCons (fC (.int q)) fNil))
theorem tk_at {i q : Nat} (hm : m < S.length) (hB : Bx j k) (hj : j ≤ 100000000) (h0 : env[i]? = some (.v (.r m))) (ha : 0 < q) (ha2 : q < 1000000) :
    ∃ (d : Nat) (c' : Cell), d < q ∧ Bx (j + 1) c' ∧ TK i q env (S.set m k) = .ok (S.set m c') (.val (.d (.int d))) := by
  obtain ⟨d, c', h1, h2, h3⟩ := take_at (a := q) (fe := fC (.int q)) hm hB hj h0 rfl (by omega) (by omega)
  exact ⟨d, c', by omega, h2, h3⟩
theorem sgn_at : ∀ d : Nat, d < 3 → ("01*" : Str).cps.toList[d]? = some (("01*" : Str).cps.toList.getD d 0) ∧ OP.okc (("01*" : Str).cps.toList.getD d 0) = true := by decide
/-- '01*'[draw] -/
theorem sign_ok {i : Nat} (hm : m < S.length) (hB : Bx j k) (hj : j ≤ 100000000) (h0 : env[i]? = some (.v (.r m))) : ∃ (c : Nat) (c' : Cell), OP.okc c = true ∧ Bx (j + 1) c' ∧ fOp gIx (fC (.str "01*")) (TK i 3) env (S.set m k) = .ok (S.set m c') (.val (.d (.str ⟨#[c]⟩))) := by
  obtain ⟨d, c', h1, h2, h3⟩ := tk_at (q := 3) hm hB hj h0 (by omega) (by omega)
  obtain ⟨g1, g2⟩ := sgn_at d h1
  exact ⟨_, c', g2, h2, op_S (a := .str "01*") rfl h3 (gIx_str (by decide) g1)⟩
abbrev EW (m : Nat) (u1 u2 u3 u4 u5 : Sl) : DN.Env := [.v (.r m), u1, u2, u3, u4, u5]
abbrev LC1 : FE := fLc (iRange1 (fCons (fVar 1) fNil)) (tgN 3) kYes (fOp gIx (fC (.str "01*")) (TK 0 3)) [3]
abbrev LC2 : FE := fLc (iVal (fVar 2)) (tgN 5) kYes (fOp gIx (fLst (fCons (fVar 5) (fCons (fOp gIx (fC (.str "01*")) (TK 0 3)) fNil))) (TK 0 2)) [5]
theorem lc1_ok {u2 u3 u4 u5 : Sl} (hm : m < S.length) (hB : Bx j k) (hn : n ≤ 60) (hj : j ≤ 10000000) : ∃ (cs : List Nat) (c' : Cell), cs.length = n ∧ (∀ c ∈ cs, OP.okc c = true) ∧ Bx (j + n) c' ∧
    LC1 (EW m (.v (.d (.int n))) u2 u3 u4 u5) (S.set m k) = .ok (S.set m c') (.new (.lst (cs.map fun c => .str ⟨#[c]⟩))) := by
  obtain ⟨S', ys, e1, ⟨c', b', rfl⟩, e3, e4⟩ := fLc_draw (fl := fCons (fVar 1) fNil) (i := 3) (fe := fOp gIx (fC (.str "01*")) (TK 0 3)) (vs := [3]) (env := EW m (.v (.d (.int n))) u2 u3 u4 u5) (S := S.set m k) (n := n)
    (fun i S' => ∃ k', Bx (j + i) k' ∧ S' = S.set m k') (fun _ y => ∃ c, y = .str ⟨#[c]⟩ ∧ OP.okc c = true) rfl (by omega) ⟨k, hB, rfl⟩ (fun i S' hi ⟨k', hk', eS⟩ => by
      subst eS
      obtain ⟨c, c', g1, g2, g3⟩ := sign_ok (env := (wipeE (EW m (.v (.d (.int n))) u2 u3 u4 u5) [3]).set 3 (.v (.d (.int i)))) (i := 0) hm hk' (by omega) rfl
      refine ⟨S.set m c', .str ⟨#[c]⟩, ?_, ⟨c', g2, rfl⟩, ⟨c, rfl, g1⟩⟩
      rw [g3]
      exact got_val)
  obtain ⟨cs, rfl, hcs⟩ := of_cs (all_of_ix e4)
  exact ⟨cs, c', by simpa using e3, hcs, b', e1⟩
theorem lc2_ok {s : Str} {u1 u3 u4 u5 : Sl} (hs : Wd s) (hm : m < S.length) (hB : Bx j k) (hj : j ≤ 10000000) : ∃ (cs : List Nat) (c' : Cell), cs.length = s.length ∧ (∀ c ∈ cs, OP.okc c = true) ∧ Bx (j + 2 * s.length) c' ∧
    LC2 (EW m u1 (.v (.d (.str s))) u3 u4 u5) (S.set m k) = .ok (S.set m c') (.new (.lst (cs.map fun c => .str ⟨#[c]⟩))) := by
  obtain ⟨S', ys, e1, ⟨c', b', rfl⟩, e3, e4⟩ := lc_ix (t := (s.cps.toList.map fun c => Dv.str ⟨#[c]⟩, none)) (tg := tgN 5) (ft := kYes) (fe := fOp gIx (fLst (fCons (fVar 5) (fCons (fOp gIx (fC (.str "01*")) (TK 0 3)) fNil))) (TK 0 2)) (env := wipeE (EW m u1 (.v (.d (.str s))) u3 u4 u5) [5])
    (fun i S' => ∃ k', Bx (j + 2 * i) k' ∧ S' = S.set m k') (fun _ y => ∃ c, y = .str ⟨#[c]⟩ ∧ OP.okc c = true) rfl (l := s.cps.toList.map fun c => Dv.str ⟨#[c]⟩) (acc := []) (i := 0) ⟨k, hB, rfl⟩ (fun i d S' hd ⟨k', hk', eS⟩ => by
      subst eS
      rw [List.getElem?_map] at hd
      cases q : s.cps.toList[i]? with
      | none => rw [q] at hd; cases hd
      | some x =>
        rw [q] at hd
        cases hd
        have hx := hs.ok x (List.mem_of_getElem? q)
        have hi : i < s.length := (List.getElem?_eq_some_iff.mp q).1
        have h60 := hs.le
        let E : DN.Env := (wipeE (EW m u1 (.v (.d (.str s))) u3 u4 u5) [5]).set 5 (.v (.d (.str ⟨#[x]⟩)))
        obtain ⟨c, c1, g1, g2, g3⟩ := sign_ok (env := E) (i := 0) hm hk' (by omega) rfl
        obtain ⟨d, c2, d1, d2, d3⟩ := tk_at (env := E) (i := 0) (q := 2) hm g2 (by omega) rfl (by omega) (by omega)
        have e0 : fLst (fCons (fVar 5) (fCons (fOp gIx (fC (.str "01*")) (TK 0 3)) fNil)) E (S.set m k') = .ok (S.set m c1) (.new (.lst [.str ⟨#[x]⟩, .str ⟨#[c]⟩])) := lst_ok (cons_d (var_ok rfl) (cons_d g3 nil_ok)) rfl
        have : d = 0 ∨ d = 1 := by omega
        refine ⟨E, S.set m c2, if d = 0 then .str ⟨#[x]⟩ else .str ⟨#[c]⟩, rfl, rfl, ?_, ⟨c2, by rw [show j + 2 * (0 + i + 1) = j + 2 * (0 + i) + 1 + 1 by omega]; exact d2, rfl⟩, ?_⟩
        · rcases this with rfl | rfl
          · rw [op_L (c := .str ⟨#[x]⟩) e0 d3 rfl, if_pos rfl]
            exact got_val
          · rw [op_L (c := .str ⟨#[c]⟩) e0 d3 rfl, if_neg (by decide)]
            exact got_val
        · rcases this with rfl | rfl
          · exact ⟨x, by rw [if_pos rfl], hx⟩
          · exact ⟨c, by rw [if_neg (by decide)], g1⟩) (by rw [List.length_map]; have h60 := hs.le; show 0 + s.length ≤ 100000; omega)
  obtain ⟨cs, rfl, hcs⟩ := of_cs (all_of_ix fun k y hy => e4 k y hy)
  have hl : (s.cps.toList.map fun c => Dv.str ⟨#[c]⟩).length = s.length := by rw [List.length_map]; rfl
  rw [hl, Nat.zero_add] at b'
  refine ⟨cs, c', by rw [List.length_map] at e3; rw [e3, hl], hcs, b', ?_⟩
  have hi : iVal (fVar 2) (EW m u1 (.v (.d (.str s))) u3 u4 u5) (S.set m k) = .ok (S.set m k) (s.cps.toList.map fun c => Dv.str ⟨#[c]⟩, none) := rfl
  show fLc _ _ _ _ _ _ _ = _
  unfold fLc
  rw [hi]
  simp only [R.bind]
  rw [e1]
  rfl
theorem wd_of {cs : List Nat} (hl : cs.length ≤ 60) (h : ∀ c ∈ cs, OP.okc c = true) : Wd ⟨cs.toArray⟩ := ⟨by show cs.toArray.size ≤ 60; simpa using hl, fun c hc => h c (by simpa using hc)⟩
theorem Wd.cut {s : Str} (h : Wd s) {d : Nat} (hd : d ≤ s.length) : Wd (cutS s none (some (d : Int))) := by
  rw [cutS_to hd]
  refine wd_of (by rw [List.length_take]; have := h.le; have : s.cps.toList.length = s.length := rfl; omega) fun c hc => h.ok c (List.mem_of_mem_take hc)
theorem gEq_b {i : Nat} {q : Int} : gEq (.int i) (.int q) = vB (decide ((i : Int) = q)) := gEq_int
/-- two words are drawn -/
theorem words_ok (hm : m < S.length) (hB : Bx j k) (hj : j ≤ 1000000) : ∃ (a b : Str) (c' : Cell), Wd a ∧ Wd b ∧ Bx (j + 200) c' ∧ D_law_words [.r m] (S.set m k) = .ok (S.set m c') (.val (.d (.tup [.str a, .str b]))) := by
  let E0 : DN.Env := EW m .u .u .u .u .u
  obtain ⟨d1, k1, x1, b1, e1⟩ := tk_at (env := E0) (i := 0) (q := 9) hm hB (by omega) rfl (by omega) (by omega)
  obtain ⟨d2, k2, x2, b2, e2⟩ := tk_at (env := E0) (i := 0) (q := 61) hm b1 (by omega) rfl (by omega) (by omega)
  obtain ⟨d3, k3, x3, b3, e3⟩ := tk_at (env := E0) (i := 0) (q := 3) hm b2 (by omega) rfl (by omega) (by omega)
  obtain ⟨d4, k4, x4, b4, e4⟩ := tk_at (env := E0) (i := 0) (q := 3) hm b3 (by omega) rfl (by omega) (by omega)
  have e3' : fOp gAdd (fC (.int 58)) (TK 0 3) E0 (S.set m k2) = .ok (S.set m k3) (.val (.d (.int ((58 + d3 : Nat) : Int)))) := op_S (a := .int 58) rfl e3 (by rw [gAdd_]; rfl)
  have l1 := lst_ok (m := [.int d1, .int d2, .int ((58 + d3 : Nat) : Int)]) (cons_d e1 (cons_d e2 (cons_d e3' nil_ok))) rfl
  obtain ⟨n, hn, e5⟩ : ∃ n : Nat, n ≤ 60 ∧ gIx (.lst [.int d1, .int d2, .int ((58 + d3 : Nat) : Int)]) (.int (d4 : Int)) = vI n := by
    have : d4 = 0 ∨ d4 = 1 ∨ d4 = 2 := by omega
    rcases this with rfl | rfl | rfl
    · exact ⟨d1, by omega, rfl⟩
    · exact ⟨d2, by omega, rfl⟩
    · exact ⟨58 + d3, by omega, rfl⟩
  have s1 := st_set (i := 1) (env' := EW m (.v (.d (.int n))) .u .u .u .u) (op_L l1 e4 e5) rfl
  obtain ⟨cs, k5, c1, c2, b5, e6⟩ := lc1_ok (u2 := .u) (u3 := .u) (u4 := .u) (u5 := .u) hm b4 hn (by omega)
  have W1 : Wd ⟨cs.toArray⟩ := wd_of (by omega) c2
  have hl1 : (⟨cs.toArray⟩ : Str).length = n := by rw [← c1]; show cs.toArray.size = _; simp
  have s2 := st_set (i := 2) (env' := EW m (.v (.d (.int n))) (.v (.d (.str ⟨cs.toArray⟩))) .u .u .u) (join_at e6 (join_cs (by omega))) rfl
  obtain ⟨cs2, k6, c3, c4, b6, e7⟩ := lc2_ok (u1 := .v (.d (.int n))) (u3 := .u) (u4 := .u) (u5 := .u) W1 hm b5 (by omega)
  rw [hl1] at c3 b6
  have W2 : Wd ⟨cs2.toArray⟩ := wd_of (by omega) c4
  have hl2 : (⟨cs2.toArray⟩ : Str).length = n := by rw [← c3]; show cs2.toArray.size = _; simp
  have s3 := st_set (i := 4) (env' := EW m (.v (.d (.int n))) (.v (.d (.str ⟨cs.toArray⟩))) .u (.v (.d (.str ⟨cs2.toArray⟩))) .u) (join_at e7 (join_cs (by omega))) rfl
  generalize (⟨cs.toArray⟩ : Str) = A at W1 hl1 s2 s3
  generalize (⟨cs2.toArray⟩ : Str) = B at W2 hl2 s3
  let E5 : DN.Env := EW m (.v (.d (.int n))) (.v (.d (.str A))) .u (.v (.d (.str B))) .u
  obtain ⟨d5, k7, x5, b7, e8⟩ := tk_at (env := E5) (i := 0) (q := 6) hm b6 (by omega) rfl (by omega) (by omega)
  have t1 : kVal (fOp gEq (TK 0 6) (fC (.int 0))) E5 (S.set m k6) = .ok (S.set m k7) (decide ((d5 : Int) = 0)) := val_s (op_S e8 rfl gEq_b)
  have fin : ∀ {k' : Cell} {C : Str}, B_law_words E0 (S.set m k) = .rt (S.set m k') (.val (.d (.tup [.str A, .str C]))) → D_law_words [.r m] (S.set m k) = .ok (S.set m k') (.val (.d (.tup [.str A, .str C]))) := fun h => def_st (congrArg outS h) (by simp)
  by_cases q : (d5 : Int) = 0
  · obtain ⟨d6, k8, x6, b8, e9⟩ := take_at (env := E5) (i := 0) (a := ((n + 1 : Nat) : Int)) (fe := fOp gAdd (fVar 1) (fC (.int 1))) hm b7 (by omega) rfl (op_ok rfl rfl (by rw [gAdd_]; rfl)) (by omega) (by omega)
    have hd6 : d6 ≤ B.length := by omega
    have sl : fSl (fVar 4) fNoPart (fPart (fCallD 2 D_law_take (fCons (fVar 0) (fCons (fOp gAdd (fVar 1) (fC (.int 1))) fNil)))) E5 (S.set m k7) = .ok (S.set m k8) (.val (.d (.str (cutS B none (some (d6 : Int)))))) := by
      have g : gSl none (some (d6 : Int)) (.str B) = vS (cutS B none (some (d6 : Int))) := by
        show (if B.length ≤ 100000 then vS _ else none) = _
        rw [if_pos (by omega)]
      have v4 : fVar 4 E5 (S.set m k7) = .ok (S.set m k7) (.val (.d (.str B))) := rfl
      generalize fCallD 2 D_law_take (fCons (fVar 0) (fCons (fOp gAdd (fVar 1) (fC (.int 1))) fNil)) = F at e9 ⊢
      generalize fVar 4 = F4 at v4 ⊢
      generalize E5 = E at v4 e9 ⊢
      simp_arith [v4, e9, g]
    refine ⟨A, cutS B none (some (d6 : Int)), k8, W1, W2.cut hd6, b8.le (by omega), fin ?_⟩
    rw [decide_eq_true q] at t1
    exact seq_nx s1 (seq_nx s2 (seq_nx s3 (seq_nx (if_yes t1 (st_set (env' := EW m (.v (.d (.int n))) (.v (.d (.str A))) .u (.v (.d (.str (cutS B none (some (d6 : Int)))))) .u) sl rfl)) (ret_ok (tup_ok (cons_d (var_ok rfl) (cons_d (var_ok rfl) nil_ok)) rfl)))))
  · refine ⟨A, B, k7, W1, W2, b7.le (by omega), fin ?_⟩
    rw [decide_eq_false q] at t1
    exact seq_nx s1 (seq_nx s2 (seq_nx s3 (seq_nx (if_no t1 rfl) (ret_ok (tup_ok (cons_d (var_ok rfl) (cons_d (var_ok rfl) nil_ok)) rfl)))))
end
end Q03
namespace Q03
open DN PySem L2
section
variable {S S1 S2 : Sto} {env : DN.Env} {fa fb fe : FE} {fl : FA} {k : Cell} {m j n : Nat} {a : Vr} {d c : Dv} {s : Str}
theorem call_val {g : List Dv → Option Rt} (h : fa env S = .ok S (.val a)) (hs : snap S a = some d) (hg : g [d] = vD c) : fCall g (fCons fa fNil) env S = .ok S (.val (.d c)) := by
  simp_arith [h, hs, hg]
theorem isi_val {t : Bool} {x : Dv} (h : fa env S = .ok S (.val a)) (hs : snap S a = some d) (hg : gIsi [] d x = vB t) : fCall (arg2 (gIsi [])) (fCons fa (fCons (fC x) fNil)) env S = .ok S (.val (.d (.bl t))) := by
  simp_arith [h, hs, hg]
theorem and_no (h : fa env S = .ok S1 (.val (.d (.bl false)))) : fAnd fa fb env S = .ok S1 (.val (.d (.bl false))) := by
  simp_arith [h]
theorem and_yes {r : Dv} (h : fa env S = .ok S1 (.val (.d (.bl true)))) (h2 : fb env S1 = .ok S2 (.val (.d r))) : fAnd fa fb env S = .ok S2 (.val (.d r)) := by
  simp_arith [h, h2]
theorem not_val {t : Bool} (h : fa env S = .ok S1 (.val (.d (.bl t)))) : fNot fa env S = .ok S1 (.val (.d (.bl (!t)))) := by
  cases t <;> simp_arith [h]
theorem orYes {t1 t2 : FT} (h : t1 env S = .ok S true) : kOr t1 t2 env S = .ok S true := by
  simp_arith [h]
def isw (s : Str) : Bool := decide (s.length ≤ 60) && s.cps.toList.all OP.okc
theorem Wd.isw {s : Str} (h : Wd s) : isw s = true := by
  unfold Q03.isw
  rw [decide_eq_true h.le, Bool.true_and, List.all_eq_true]
  exact h.ok
theorem inS_okc {c : Nat} : inS ⟨#[c]⟩ "01*" = OP.okc c := rfl
theorem is_word_str (hl : s.length ≤ 100) : D_is_word [.d (.str s)] S = .ok S (.val (.d (.bl (isw s)))) := by
  refine def_pure ?_
  have e1 : fCall (arg2 (gIsi [])) (fCons (fVar 0) (fCons (fC (.ty "str")) fNil)) [.v (.d (.str s)), .u] S = .ok S (.val (.d (.bl true))) := isi_val (var_v rfl) rfl rfl
  have e2 : fOp gLe (fCall gLen (fCons (fVar 0) fNil)) (fC (.int 60)) [.v (.d (.str s)), .u] S = .ok S (.val (.d (.bl (decide (s.length ≤ 60))))) := op_ok (call_ok (var_ok rfl) (gLen_str (by omega))) c_ok (by
    rw [gLe_]
    congr 1
    exact decide_eq_decide.mpr (by omega))
  by_cases h : s.length ≤ 60
  · rw [decide_eq_true h] at e2
    have e3 := fLc_it (fa := fVar 0) (fe := fOp gIn (fVar 1) (fC (.str "01*"))) (vs := [1]) (env := [.v (.d (.str s)), .u]) (S := S) (i := 1) (d := .str s) (l := s.cps.toList.map fun c => .str ⟨#[c]⟩)
      (fun d => match d with | .str z => (match z.cps.toList with | [c] => .bl (OP.okc c) | _ => .non) | _ => .non) (var_ok rfl) rfl (by
        have : s.cps.toList.length = s.length := rfl
        simp [this]; omega) (fun d hd => by
          obtain ⟨c, _, rfl⟩ := List.mem_map.mp hd
          refine got_of (op_ok (var_ok rfl) c_ok ?_)
          show vB (inS ⟨#[c]⟩ "01*") = _
          rw [inS_okc]
          rfl)
    have e4 : (s.cps.toList.map fun c => Dv.str ⟨#[c]⟩).map (fun d => match d with | .str z => (match z.cps.toList with | [c] => Dv.bl (OP.okc c) | _ => .non) | _ => .non) = (s.cps.toList.map OP.okc).map .bl := by
      rw [List.map_map, List.map_map]
      rfl
    rw [e4] at e3
    have e5 : gAll [.lst ((s.cps.toList.map OP.okc).map .bl)] = vB (isw s) := by
      show (match bools? ((s.cps.toList.map OP.okc).map .bl) with | some bs => vB (bs.all id) | none => none) = _
      rw [bools_map]
      unfold isw
      rw [decide_eq_true h, Bool.true_and]
      show vB ((s.cps.toList.map OP.okc).all id) = _
      rw [List.all_map]
      rfl
    exact congrArg outS (show B_is_word [.v (.d (.str s)), .u] S = _ from ret_ok (and_yes e1 (and_yes e2 (call_okL e3 e5))))
  · rw [decide_eq_false h] at e2
    have : isw s = false := by unfold isw; rw [decide_eq_false h, Bool.false_and]
    rw [this]
    exact congrArg outS (show B_is_word [.v (.d (.str s)), .u] S = _ from ret_ok (and_yes e1 (and_no e2)))
theorem eq_nil {l : List Nat} (h : ∀ c ∈ l, c < 1114112) : gEq (.lst (l.map fun c => .str ⟨#[c]⟩)) (.lst []) = vB l.isEmpty := by
  have hk : okN 60 (.lst (l.map fun c => Dv.str ⟨#[c]⟩)) = true := by
    rw [okN_lst]
    refine okNs_all fun d hd => ?_
    obtain ⟨c, hc, rfl⟩ := List.mem_map.mp hd
    rw [okN_str]
    exact OP.strOk_of fun x hx => by
      have : x = c := by simpa using hx
      rw [this]
      exact h c hc
  show onlyIf (okN 60 _ && okN 60 (.lst [])) (vB (eqD _ (.lst []))) = _
  rw [hk]
  cases l <;> rfl
theorem lc_mp {β : Type} {t : Its} {tg : FG} {ft : FT} {fe : FE} (f : β → Dv) (p : β → Bool) (g : β → Dv) (hk : lockOk t S = true) : ∀ {l : List β} {acc : List Dv},
    (∀ x ∈ l, ∃ env', tg (f x) env = some env' ∧ ft env' S = .ok S (p x) ∧ (p x = true → Got (fe env' S) S (.d (g x)))) → acc.length + l.length ≤ 100000 → lcGo t tg ft fe env (l.map f) S acc = .ok S (acc ++ (l.filter p).map g)
  | [], acc, h, hl => by simp [lcGo, hk]
  | d :: l, acc, h, hl => by
    obtain ⟨env', h1, h2, h3⟩ := h d List.mem_cons_self
    have ih := fun acc => lc_mp (t := t) (tg := tg) (ft := ft) (fe := fe) f p g hk (l := l) (acc := acc) fun x hx => h x (List.mem_cons_of_mem _ hx)
    have hl' : acc.length + l.length + 1 ≤ 100000 := by simpa [Nat.add_assoc] using hl
    simp only [List.map_cons, lcGo, hk, if_true, h1, h2, noex_ok, R.bind]
    cases q : p d with
    | false =>
      simp only [Bool.false_eq_true, if_false]
      rw [ih acc (by omega), List.filter_cons, q]
      rfl
    | true =>
      have g3 := h3 q
      simp only [if_true]
      have e : (fe env' S).noex.bindV (fun S2 v => onD v fun y => if acc.length < 100000 then lcGo t tg ft fe env (l.map f) S2 (acc ++ [y]) else .no) = lcGo t tg ft fe env (l.map f) S (acc ++ [g d]) := by
        generalize fe env' S = r at g3
        cases g3 with
        | val =>
          simp only [noex_ok, R.bindV, onD]
          rw [if_pos (by omega)]
        | new S c d' hc => rw [noex_ok, bindV_new hc]; simp only [onD]; rw [if_pos (by omega)]
      rw [e, ih (acc ++ [g d]) (by simp; omega), List.filter_cons, q]
      simp
theorem fLc_mp {β : Type} {fi : FI} {tg : FG} {ft : FT} {fe : FE} {vs : List Nat} (f : β → Dv) (l : List β) (p : β → Bool) (g : β → Dv) (hi : fi env S = .ok S (l.map f, none)) (hl : l.length ≤ 100000)
    (h : ∀ x ∈ l, ∃ env', tg (f x) (wipeE env vs) = some env' ∧ ft env' S = .ok S (p x) ∧ (p x = true → Got (fe env' S) S (.d (g x)))) : fLc fi tg ft fe vs env S = .ok S (.new (.lst ((l.filter p).map g))) := by
  unfold fLc
  rw [hi]
  simp only [R.bind]
  rw [lc_mp f p g rfl h (by simpa using hl)]
  rfl
theorem law_is_word_str (hl : s.length ≤ 100) (hs : PyData.strOk s = true) : D_law_is_word [.d (.str s)] S = .ok S (.val (.d (.bl (isw s)))) := by
  refine def_pure ?_
  let E : DN.Env := [.v (.d (.str s)), .u]
  have e1 : fCall (arg2 (gIsi [])) (fCons (fVar 0) (fCons (fC (.ty "str")) fNil)) E S = .ok S (.val (.d (.bl true))) := isi_val (var_v rfl) rfl rfl
  have e2 : fOp gGt (fCall gLen (fCons (fVar 0) fNil)) (fC (.int 60)) E S = .ok S (.val (.d (.bl (!decide (s.length ≤ 60))))) := op_ok (call_ok (var_ok rfl) (gLen_str (by omega))) c_ok (by
    rw [gGt_]
    congr 1
    by_cases h : s.length ≤ 60
    · rw [decide_eq_true h]; exact decide_eq_false (by omega)
    · rw [decide_eq_false h]; exact decide_eq_true (by omega))
  have e3 : kOr (kNot (kVal (fCall (arg2 (gIsi [])) (fCons (fVar 0) (fCons (fC (.ty "str")) fNil))))) (kVal (fOp gGt (fCall gLen (fCons (fVar 0) fNil)) (fC (.int 60)))) E S = .ok S (!decide (s.length ≤ 60)) :=
    orB (b1 := false) (notB (b1 := true) (val_s e1)) fun _ => val_s e2
  by_cases h : s.length ≤ 60
  · rw [decide_eq_true h] at e3
    have e4 := fLc_mp (S := S) (env := E) (fi := iVal (fVar 0)) (tg := tgN 1) (ft := kVal (fOp gNotIn (fVar 1) (fCall gList (fCons (fC (.str "01*")) fNil)))) (fe := fVar 1) (vs := [1])
      (fun c => .str ⟨#[c]⟩) s.cps.toList (fun c => !OP.okc c) (fun c => .str ⟨#[c]⟩) rfl (by have : s.cps.toList.length = s.length := rfl; omega) (fun c hc => by
        have hc' : PyData.strOk ⟨#[c]⟩ = true := OP.strOk_of fun x hx => by
          have hx : x = c := by simpa using hx
          rw [hx]
          unfold PyData.strOk at hs
          rw [← Array.all_toList, List.all_eq_true] at hs
          exact of_decide_eq_true (hs c hc)
        refine ⟨_, rfl, val_s ?_, fun _ => got_of (var_ok rfl)⟩
        have g1 : gList [.str "01*"] = nL [.str "0", .str "1", .str "*"] := rfl
        have g2 : gNotIn (.str ⟨#[c]⟩) (.lst [.str "0", .str "1", .str "*"]) = vB (!OP.okc c) := by
          show onlyIf (okN 60 (.str ⟨#[c]⟩) && okNs 60 [.str "0", .str "1", .str "*"]) (vB (!inD (.str ⟨#[c]⟩) [.str "0", .str "1", .str "*"])) = _
          rw [okN_str, hc', show okNs 60 [Dv.str "0", .str "1", .str "*"] = true from by decide +kernel]
          have : inD (.str ⟨#[c]⟩) [.str "0", .str "1", .str "*"] = OP.okc c := by
            unfold inD
            by_cases q : OP.okc c = true
            · rw [q]
              rcases okc_3 q with rfl | rfl | rfl <;> decide +kernel
            · have q' : OP.okc c = false := by simpa using q
              rw [q', List.any_eq_false]
              intro y hy
              simp only [List.mem_cons, List.not_mem_nil, or_false] at hy
              have ne : ∀ x : Nat, OP.okc x = true → ¬ (eqD (.str ⟨#[x]⟩) (.str ⟨#[c]⟩) = true) := fun x hx he => by
                have he : ((⟨#[x]⟩ : Str) == ⟨#[c]⟩) = true := he
                have : (⟨#[x]⟩ : Str) = ⟨#[c]⟩ := eq_of_beq he
                have : x = c := by
                  have h2 := congrArg (fun s : Str => s.cps.toList) this
                  simpa using h2
                rw [this] at hx
                exact q hx
              rcases hy with rfl | rfl | rfl
              · exact ne 48 (by decide)
              · exact ne 49 (by decide)
              · exact ne 42 (by decide)
          rw [this]
          rfl
        have v1 : fVar 1 ((wipeE E [1]).set 1 (.v (.d (.str ⟨#[c]⟩)))) S = .ok S (.val (.d (.str ⟨#[c]⟩))) := rfl
        generalize (wipeE E [1]).set 1 (.v (.d (.str ⟨#[c]⟩))) = E1 at v1 ⊢
        generalize fVar 1 = F1 at v1 ⊢
        simp_arith [v1, g1, g2])
    have hlt : ∀ c ∈ s.cps.toList.filter (fun c => !OP.okc c), c < 1114112 := fun c hc => by
      have hc := (List.mem_filter.mp hc).1
      unfold PyData.strOk at hs
      rw [← Array.all_toList, List.all_eq_true] at hs
      exact of_decide_eq_true (hs c hc)
    have e5 : (s.cps.toList.filter fun c => !OP.okc c).isEmpty = isw s := by
      unfold isw
      rw [decide_eq_true h, Bool.true_and]
      cases q : s.cps.toList.all OP.okc with
      | true =>
        rw [List.all_eq_true] at q
        rw [List.isEmpty_iff, List.filter_eq_nil_iff]
        intro c hc
        rw [q c hc]
        decide
      | false =>
        rw [List.all_eq_false] at q
        obtain ⟨c, hc, hn⟩ := q
        cases z : s.cps.toList.filter (fun c => !OP.okc c) with
        | nil =>
          have := (List.filter_eq_nil_iff.mp z) c hc
          simp at this
          exact absurd this hn
        | cons _ _ => rfl
    have e6 := eq_nil hlt
    rw [e5] at e6
    exact congrArg outS (show B_law_is_word E S = _ from seq_nx (if_no e3 rfl) (ret_ok (op_LL e4 (lst_ok (l := []) nil_ok rfl) e6)))
  · rw [decide_eq_false h] at e3
    have : isw s = false := by unfold isw; rw [decide_eq_false h, Bool.false_and]
    rw [this]
    exact congrArg outS (show B_law_is_word E S = _ from seq_rt (if_yes e3 (ret_ok c_ok)))
theorem is_word_no (hs : snap S a = some d) (h : gIsi [] d (.ty "str") = vB false) : D_is_word [a] S = .ok S (.val (.d (.bl false))) := by
  refine def_pure ?_
  exact congrArg outS (show B_is_word [.v a, .u] S = _ from ret_ok (and_no (isi_val (var_v rfl) hs h)))
theorem law_is_word_no (hs : snap S a = some d) (h : gIsi [] d (.ty "str") = vB false) : D_law_is_word [a] S = .ok S (.val (.d (.bl false))) := by
  refine def_pure ?_
  exact congrArg outS (show B_law_is_word [.v a, .u] S = _ from seq_rt (if_yes (orYes (notB (b1 := false) (val_s (isi_val (var_v rfl) hs h)))) (ret_ok c_ok)))
end
end Q03
namespace Q03
open DN PySem L2
def Asc (l : List Nat) : Prop := ∀ c ∈ l, c < 128
theorem asc_ok {s : Str} (h : Asc s.cps.toList) : PyData.strOk s = true := by
  unfold PyData.strOk
  rw [← Array.all_toList]
  simp only [List.all_eq_true, decide_eq_true_eq]
  exact fun c hc => Nat.lt_trans (h c hc) (by decide)
theorem app_asc {a b : Str} (ha : Asc a.cps.toList) (hb : Asc b.cps.toList) : Asc (a ++ b).cps.toList := by
  rw [app_tl]
  intro c hc
  rcases List.mem_append.mp hc with hc | hc
  · exact ha c hc
  · exact hb c hc
theorem app_len (a b : Str) : (a ++ b).length = a.length + b.length := by
  rw [TL.len_tl, TL.tl_append, List.length_append, ← TL.len_tl, ← TL.len_tl]
theorem asc_lit {l : List Nat} (h : (l.all fun c => decide (c < 128)) = true) : Asc l := fun c hc => by
  simp only [List.all_eq_true, decide_eq_true_eq] at h
  exact h c hc
/-- a datum whose text is plain and not longer than k -/
structure ShP (p : PyData) (k : Nat) : Prop where
  a : Asc p.shown.cps.toList
  n : p.shown.length ≤ k
  s : p.showable = true
  d : p.depth ≤ 10
  h : p.hasDict = false
theorem ShP.le {p : PyData} {k m : Nat} (h : ShP p k) (l : k ≤ m) : ShP p m := ⟨h.a, Nat.le_trans h.n l, h.s, h.d, h.h⟩
theorem textFrom_p {m : Nat} : ∀ (ts : List Str) (k : Nat) (acc : Str), Asc acc.cps.toList → (∀ t ∈ ts, Asc t.cps.toList ∧ t.length ≤ m) → Asc (textFrom k acc ts).cps.toList ∧ (textFrom k acc ts).length ≤ acc.length + ts.length * (m + 2)
  | [], k, acc, ha, _ => ⟨ha, by show acc.length ≤ _; omega⟩
  | t :: ts, k, acc, ha, h => by
    obtain ⟨h1, h2⟩ := h t List.mem_cons_self
    have hs : Asc (Str.ofString (if k > 0 then ", " else "")).cps.toList ∧ (Str.ofString (if k > 0 then ", " else "")).length ≤ 2 := by
      by_cases q : k > 0
      · rw [if_pos q]; exact ⟨show Asc [44, 32] from asc_lit (by decide), show 2 ≤ 2 by omega⟩
      · rw [if_neg q]; exact ⟨show Asc [] from asc_lit (by decide), show 0 ≤ 2 by omega⟩
    obtain ⟨i1, i2⟩ := textFrom_p (m := m) ts (k + 1) (acc ++ (if k > 0 then ", " else "" : String) ++ t) (app_asc (app_asc ha hs.1) h1) fun x hx => h x (List.mem_cons_of_mem _ hx)
    refine ⟨i1, Nat.le_trans i2 ?_⟩
    rw [app_len, app_len, List.length_cons, Nat.add_mul]
    have := hs.2
    omega
theorem shownAll_map : ∀ ps : List PyData, PyData.shownAll ps = ps.map PyData.shown
  | [] => rfl
  | p :: ps => by
    show PyData.shown p :: PyData.shownAll ps = _
    rw [shownAll_map ps]
    rfl
theorem all_show : ∀ {ps : List PyData}, (∀ p ∈ ps, p.showable = true) → PyData.showableAll ps = true
  | [], _ => rfl
  | p :: ps, h => by
    show (PyData.showable p && PyData.showableAll ps) = true
    rw [h p List.mem_cons_self, all_show fun q hq => h q (List.mem_cons_of_mem _ hq)]
    rfl
theorem all_dict : ∀ {ps : List PyData}, (∀ p ∈ ps, p.hasDict = false) → PyData.hasDictAll ps = false
  | [], _ => rfl
  | p :: ps, h => by
    show (PyData.hasDict p || PyData.hasDictAll ps) = false
    rw [h p List.mem_cons_self, all_dict fun q hq => h q (List.mem_cons_of_mem _ hq)]
    rfl
theorem all_depth {m : Nat} : ∀ {ps : List PyData}, (∀ p ∈ ps, p.depth ≤ m) → PyData.depthAll ps ≤ m
  | [], _ => Nat.zero_le _
  | p :: ps, h => by
    show max (PyData.depth p) (PyData.depthAll ps) ≤ m
    have h1 := h p List.mem_cons_self
    have h2 := all_depth (ps := ps) fun q hq => h q (List.mem_cons_of_mem _ hq)
    omega
theorem sh_list {ps : List PyData} {m : Nat} (h : ∀ p ∈ ps, ShP p m ∧ p.depth ≤ 9) : ShP (.list ps) (2 + ps.length * (m + 2)) := by
  obtain ⟨i1, i2⟩ := textFrom_p (m := m) (PyData.shownAll ps) 0 "[" (show Asc [91] from asc_lit (by decide)) fun t ht => by
    rw [shownAll_map] at ht
    obtain ⟨p, hp, rfl⟩ := List.mem_map.mp ht
    exact ⟨(h p hp).1.a, (h p hp).1.n⟩
  have hl : (PyData.shownAll ps).length = ps.length := by rw [shownAll_map, List.length_map]
  refine ⟨app_asc i1 (show Asc [93] from asc_lit (by decide)), ?_, all_show fun p hp => (h p hp).1.s, ?_, all_dict fun p hp => (h p hp).1.h⟩
  · show (textFrom 0 "[" (PyData.shownAll ps) ++ ("]" : Str)).length ≤ _
    rw [app_len, ← hl]
    have e : ("[" : Str).length = 1 := rfl
    have e2 : ("]" : Str).length = 1 := rfl
    omega
  · have := all_depth (m := 9) fun p hp => (h p hp).2
    show PyData.depthAll ps + 1 ≤ 10
    omega
theorem join_p {m : Nat} : ∀ (ts : List Str), (∀ t ∈ ts, Asc t.cps.toList ∧ t.length ≤ m) → Asc (Str.join ", " ts).cps.toList ∧ (Str.join ", " ts).length ≤ ts.length * (m + 2)
  | [], _ => ⟨show Asc [] from asc_lit (by decide), Nat.zero_le _⟩
  | [t], h => by
    obtain ⟨h1, h2⟩ := h t List.mem_cons_self
    refine ⟨h1, ?_⟩
    show t.length ≤ _
    simp
    omega
  | t :: u :: r, h => by
    obtain ⟨h1, h2⟩ := h t List.mem_cons_self
    obtain ⟨i1, i2⟩ := join_p (m := m) (u :: r) fun x hx => h x (List.mem_cons_of_mem _ hx)
    refine ⟨app_asc (app_asc h1 (show Asc [44, 32] from asc_lit (by decide))) i1, ?_⟩
    show (t ++ (", " : Str) ++ Str.join ", " (u :: r)).length ≤ _
    rw [app_len, app_len]
    have e : (", " : Str).length = 2 := rfl
    simp only [List.length_cons, Nat.add_mul, Nat.one_mul] at i2 ⊢
    omega
theorem sh_tuple {ps : List PyData} {m : Nat} (h : ∀ p ∈ ps, ShP p m ∧ p.depth ≤ 9) : ShP (.tuple ps) (3 + ps.length * (m + 2)) := by
  obtain ⟨i1, i2⟩ := join_p (m := m) (PyData.shownAll ps) fun t ht => by
    rw [shownAll_map] at ht
    obtain ⟨p, hp, rfl⟩ := List.mem_map.mp ht
    exact ⟨(h p hp).1.a, (h p hp).1.n⟩
  have hl : (PyData.shownAll ps).length = ps.length := by rw [shownAll_map, List.length_map]
  have he : Asc (Str.ofString (if (PyData.shownAll ps).length == 1 then ",)" else ")")).cps.toList ∧ (Str.ofString (if (PyData.shownAll ps).length == 1 then ",)" else ")")).length ≤ 2 := by
    cases (PyData.shownAll ps).length == 1
    · exact ⟨show Asc [41] from asc_lit (by decide), show 1 ≤ 2 by omega⟩
    · exact ⟨show Asc [44, 41] from asc_lit (by decide), show 2 ≤ 2 by omega⟩
  refine ⟨app_asc (app_asc (show Asc [40] from asc_lit (by decide)) i1) he.1, ?_, all_show fun p hp => (h p hp).1.s, ?_, all_dict fun p hp => (h p hp).1.h⟩
  · show (("(" : Str) ++ Str.join ", " (PyData.shownAll ps) ++ (if (PyData.shownAll ps).length == 1 then ",)" else ")" : String)).length ≤ _
    rw [app_len, app_len]
    rw [hl] at i2
    have e : ("(" : Str).length = 1 := rfl
    have := he.2
    omega
  · have := all_depth (m := 9) fun p hp => (h p hp).2
    show PyData.depthAll ps + 1 ≤ 10
    omega
theorem int_p : ∀ k : Fin 1000, ((PyData.int (k : Nat)).shown.cps.toList.all fun c => decide (c < 128)) = true ∧ (PyData.int (k : Nat)).shown.length ≤ 4 ∧ (PyData.int (k : Nat)).showable = true ∧ (PyData.int (k : Nat)).shown.cps.toList.head? ≠ some 91 := by decide +kernel
theorem sh_int {k : Nat} (h : k < 1000) : ShP (.int k) 4 := by
  obtain ⟨a, b, c, _⟩ := int_p ⟨k, h⟩
  exact ⟨asc_lit a, b, c, show 0 ≤ 10 by omega, rfl⟩
theorem rep_asc : ∀ c : Fin 128, ((Builtin.Str.reprChar 39 c).all (· < 128)) = true ∧ ((Builtin.Str.reprChar 34 c).all (· < 128)) = true := by decide +kernel
theorem fold_rep (q : Nat) : ∀ (l : List Nat) (acc : Array Nat), (l.foldl (fun out c => out ++ (Builtin.Str.reprChar q c).toArray) acc).toList = acc.toList ++ l.flatMap (Builtin.Str.reprChar q)
  | [], acc => by simp
  | c :: l, acc => by
    rw [List.foldl_cons, fold_rep q l]
    simp
theorem repr_asc {s : Str} (h : Asc s.cps.toList) : Asc (reprText s).cps.toList ∧ (reprText s).length ≤ 10 * s.length + 2 ∧ (reprText s).cps.toList.head? ≠ some 91 := by
  have hq : reprQuote s = 34 ∨ reprQuote s = 39 := by unfold reprQuote; split <;> simp
  have e : (reprText s).cps.toList = [reprQuote s] ++ s.cps.toList.flatMap (Builtin.Str.reprChar (reprQuote s)) ++ [reprQuote s] := by
    unfold reprText
    show (Array.push (s.cps.foldl (fun out c => out ++ (Builtin.Str.reprChar (reprQuote s) c).toArray) #[reprQuote s]) (reprQuote s)).toList = _
    rw [Array.toList_push, ← Array.foldl_toList, fold_rep]
  refine ⟨?_, StrLaws.reprText_len s (fun c hc => Nat.lt_trans (h c hc) (by decide)), ?_⟩
  · rw [e]
    intro c hc
    simp only [List.mem_append, List.mem_singleton, List.mem_flatMap] at hc
    rcases hc with (hc | ⟨a, ha, hc⟩) | hc
    · rcases hq with q | q <;> omega
    · have h2 := rep_asc ⟨a, h a ha⟩
      simp only [List.all_eq_true, decide_eq_true_eq] at h2
      rcases hq with q | q <;> rw [q] at hc
      · exact h2.2 c hc
      · exact h2.1 c hc
    · rcases hq with q | q <;> omega
  · rw [e]
    show some (reprQuote s) ≠ some 91
    rcases hq with q | q <;> rw [q] <;> decide
/-- what is shown of a value, and that it may be compared -/
def Sh (x : Dv) : Prop := ∃ s : Str, gShowE [x] = vS s ∧ PyData.strOk s = true
/-- .. and it begins with no bracket -/
def ShN (x : Dv) : Prop := ∃ s : Str, gShowE [x] = vS s ∧ PyData.strOk s = true ∧ s.cps.toList.head? ≠ some 91
theorem ShN.sh {x : Dv} (h : ShN x) : Sh x := by
  obtain ⟨s, h1, h2, _⟩ := h
  exact ⟨s, h1, h2⟩
theorem show_of {x : Dv} {p : PyData} {k : Nat} (h : pd x = some p) (hp : ShP p k) (hk : k ≤ 1000000) : gShowE [x] = vS p.shown := by
  show gShowE1 x = _
  unfold gShowE1
  rw [h]
  show (if (okShow p && (!p.hasDict || isE x)) = true then vS p.shown else none) = _
  unfold okShow
  rw [hp.s, decide_eq_true (Nat.le_trans hp.n (Nat.le_trans hk (by decide))), decide_eq_true (Nat.le_trans hp.d (by decide)), hp.h]
  rfl
theorem sh_of {x : Dv} {p : PyData} {k : Nat} (h : pd x = some p) (hp : ShP p k) (hk : k ≤ 1000000) : Sh x := ⟨p.shown, show_of h hp hk, asc_ok hp.a⟩
theorem shN_of {x : Dv} {p : PyData} {k : Nat} (h : pd x = some p) (hp : ShP p k) (hk : k ≤ 1000000) (hn : p.shown.cps.toList.head? ≠ some 91) : ShN x := ⟨p.shown, show_of h hp hk, asc_ok hp.a, hn⟩
theorem pds_map {f : α → Dv} {g : α → PyData} : ∀ {l : List α}, (∀ a ∈ l, pd (f a) = some (g a)) → pds (l.map f) = some (l.map g)
  | [], _ => rfl
  | a :: l, h => by
    rw [List.map_cons]
    unfold pds
    rw [h a List.mem_cons_self, pds_map fun b hb => h b (List.mem_cons_of_mem _ hb)]
    rfl
/-- a closed datum -/
theorem shN_lit {x : Dv} {p : PyData} (h : pd x = some p) (hp : (okShow p && (!p.hasDict || isE x) && PyData.strOk p.shown && decide (p.shown.cps.toList.head? ≠ some 91)) = true) : ShN x := by
  simp only [Bool.and_eq_true, decide_eq_true_eq] at hp
  refine ⟨p.shown, ?_, hp.1.2, hp.2⟩
  show gShowE1 x = _
  unfold gShowE1
  rw [h]
  show (if (okShow p && (!p.hasDict || isE x)) = true then vS p.shown else none) = _
  rw [if_pos (by rw [hp.1.1.1, hp.1.1.2]; rfl)]
theorem shP_str {s : Str} (h : Asc s.cps.toList) : ShP (.str s) (10 * s.length + 2) := ⟨(repr_asc h).1, (repr_asc h).2.1, rfl, show 0 ≤ 10 by omega, rfl⟩
theorem shN_str {s : Str} (h : Asc s.cps.toList) (hl : s.length ≤ 1000) : ShN (.str s) := shN_of (p := .str s) rfl (shP_str h) (by omega) (repr_asc h).2.2
theorem Wd.asc {s : Str} (h : Wd s) : Asc s.cps.toList := fun c hc => by rcases okc_3 (h.ok c hc) with rfl | rfl | rfl <;> decide
theorem Wd.shN {s : Str} (h : Wd s) : ShN (.str s) := shN_str h.asc (by have := h.le; omega)
theorem shN_nat {k : Nat} (h : k < 1000) : ShN (.int k) := shN_of (p := .int k) rfl (sh_int h) (by omega) (int_p ⟨k, h⟩).2.2.2
theorem shN_m1 : ShN (.int (-1)) := shN_lit (p := .int (-1)) rfl (by decide +kernel)
theorem sh_ints {l : List Nat} (h : ∀ k ∈ l, k < 1000) (hl : l.length ≤ 1000) : Sh (.lst (l.map fun k : Nat => .int k)) := by
  refine sh_of (p := .list (l.map fun k : Nat => .int k)) ?_ (sh_list (m := 4) fun q hq => ?_) (by simp; omega)
  · show (match pds (l.map fun k : Nat => Dv.int k) with | some m => some (PyData.list m) | none => none) = _
    rw [pds_map (g := fun k : Nat => PyData.int k) fun p _ => rfl]
  · obtain ⟨k, hk, rfl⟩ := List.mem_map.mp hq
    exact ⟨sh_int (h k hk), show 0 ≤ 9 by omega⟩
theorem sh_two {s t : Str} (hs : Wd s) (ht : Wd t) : Sh (.tup [.str s, .str t]) := by
  have h1 := (shP_str hs.asc).le (m := 602) (by have := hs.le; omega)
  have h2 := (shP_str ht.asc).le (m := 602) (by have := ht.le; omega)
  refine sh_of (p := .tuple [.str s, .str t]) rfl (sh_tuple (m := 602) fun q hq => ?_) (by show 3 + 2 * 604 ≤ _; omega)
  simp only [List.mem_cons, List.not_mem_nil, or_false] at hq
  rcases hq with rfl | rfl
  · exact ⟨h1, show 0 ≤ 9 by omega⟩
  · exact ⟨h2, show 0 ≤ 9 by omega⟩
end Q03
namespace Q03
open DN PySem L2
/-- a known value that is no word, no list -/
structure Od (d : Dv) : Prop where
  nw : ∀ S, D_is_word [.d d] S = .ok S (.val (.d (.bl false)))
  nl : ∀ S, D_law_is_word [.d d] S = .ok S (.val (.d (.bl false)))
  li : gIsi [] d (.ty "list") = vB false
  bo : ∃ r, gIsi [] d (.ty "bool") = vB r
  pl : (∃ i : Int, d = .int i) ∨ gIsi [] d (.ty "int") = vB false ∨ ∃ b, d = .bl b
  sh : ShN d
/-- the lists of the law -/
def Li (l : List Dv) : Prop := l = [.str "0"] ∨ l = []
/-- a value of the law, and what it stands for -/
inductive Va (S : Sto) : Vr → Dv → Prop
  | wd (s : Str) (h : Wd s) : Va S (.d (.str s)) (.str s)
  | od (d : Dv) (h : Od d) : Va S (.d d) d
  | ls (n : Nat) (l : List Dv) (h : S[n]? = some (.lst l)) (hl : Li l) : Va S (.r n) (.lst l)
section
variable {S S1 S2 T : Sto} {env : DN.Env} {fa fb fe : FE} {fl : FA} {k : Cell} {m j n : Nat} {a b e x y v : Vr} {d c : Dv} {s t : Str} {l : List Dv}
theorem Va.snap (h : Va S a d) : snap S a = some d := by
  cases h with
  | wd s h => rfl
  | od d h => rfl
  | ls n l h hl => show snapC S[n]? = _; rw [h]; rfl
theorem li_txt (h : Li l) : ∃ t, gShowE [.lst l] = vS t ∧ PyData.strOk t = true ∧ t.cps.toList.head? = some 91 ∧ ∃ t2, gShowE [.lst (l ++ [.str "late"])] = vS t2 ∧ PyData.strOk t2 = true ∧ t2 ≠ t := by
  have key : ∀ {x : Dv} {p : PyData}, pd x = some p → okShow p = true → p.hasDict = false → gShowE [x] = vS p.shown := fun {x p} h1 h2 h3 => by
    show gShowE1 x = _
    unfold gShowE1
    rw [h1]
    show (if (okShow p && (!p.hasDict || isE x)) = true then vS p.shown else none) = _
    rw [h2, h3]
    rfl
  rcases h with rfl | rfl
  · exact ⟨_, key (p := .list [.str "0"]) rfl (by decide +kernel) rfl, by decide +kernel, by decide +kernel, _, key (p := .list [.str "0", .str "late"]) rfl (by decide +kernel) rfl, by decide +kernel, by decide +kernel⟩
  · exact ⟨_, key (p := .list []) rfl (by decide +kernel) rfl, by decide +kernel, by decide +kernel, _, key (p := .list [.str "late"]) rfl (by decide +kernel) rfl, by decide +kernel, by decide +kernel⟩
theorem Va.sh (h : Va S a d) : Sh d := by
  cases h with
  | wd s h => exact h.shN.sh
  | od d h => exact h.sh.sh
  | ls n l h hl =>
    obtain ⟨t, h1, h2, _⟩ := li_txt hl
    exact ⟨t, h1, h2⟩
theorem Va.app (h : Va S a d) (c : Cell) : Va (S ++ [c]) a d := by
  cases h with
  | wd s h => exact .wd s h
  | od d h => exact .od d h
  | ls n l h hl => exact .ls n l (by rw [List.getElem?_append_left (List.getElem?_eq_some_iff.mp h).1]; exact h) hl
theorem Va.lt (h : Va S a d) : ∀ n, a = .r n → n < S.length := fun n e => by
  cases h with
  | wd s h => cases e
  | od d h => cases e
  | ls n' l h hl =>
    cases e
    exact (List.getElem?_eq_some_iff.mp h).1
theorem Va.isw (h : Va S a d) : (∃ s, a = .d (.str s) ∧ d = .str s ∧ Wd s) ∨ (D_is_word [a] S = .ok S (.val (.d (.bl false))) ∧ D_law_is_word [a] S = .ok S (.val (.d (.bl false)))) := by
  cases h with
  | wd s h => exact .inl ⟨s, rfl, rfl, h⟩
  | od d h => exact .inr ⟨h.nw S, h.nl S⟩
  | ls n l h hl =>
    have e := (Va.ls n l h hl).snap
    exact .inr ⟨is_word_no e rfl, law_is_word_no e rfl⟩
theorem Wd.is {s : Str} (h : Wd s) : D_is_word [.d (.str s)] S = .ok S (.val (.d (.bl true))) := by
  rw [is_word_str (by have := h.le; omega), h.isw]
theorem Wd.lis {s : Str} (h : Wd s) : D_law_is_word [.d (.str s)] S = .ok S (.val (.d (.bl true))) := by
  rw [law_is_word_str (by have := h.le; omega) h.lay, h.isw]
theorem gEq_strs {k u : Str} (hk : PyData.strOk k = true) (hu : PyData.strOk u = true) : gEq (.str k) (.str u) = vB (decide (k = u)) := by
  show onlyIf (okN 60 (.str k) && okN 60 (.str u)) (vB (eqD (.str k) (.str u))) = _
  rw [okN_str, okN_str, hk, hu]
  show vB (k == u) = _
  congr 1
theorem gNe_strs {k u : Str} (hk : PyData.strOk k = true) (hu : PyData.strOk u = true) : gNe (.str k) (.str u) = vB (!decide (k = u)) := by
  show onlyIf (okN 60 (.str k) && okN 60 (.str u)) (vB (!eqD (.str k) (.str u))) = _
  rw [okN_str, okN_str, hk, hu]
  show vB (!(k == u)) = _
  congr 1
abbrev EV (c : String) (e x y : Vr) (u3 u4 : Sl) : DN.Env := [.x c e, .v x, .v y, u3, u4]
theorem xv_ok {c : String} {u3 u4 : Sl} (hc : errs.contains c = true) : fXv errs 0 (EV c e x y u3 u4) S = .ok S (.val e) := by
  show (if errs.contains c = true then R.ok S (Rt.val e) else .no) = _
  rw [if_pos hc]
abbrev VB : FS := (kIf (kAnd (kVal (fCall (arg2 (gIsi [])) (fCons (fVar 4) (fCons (fC (.ty "list")) fNil)))) (kVal (fOp gEq (fCall gShowE (fCons (fVar 4) fNil)) (fVar 3)))) (kSeq (kExpr (fMut gAppend (fVar 4) (fCons (fC (.str "late")) fNil)))
    (kSeq (kIf (kVal (fOp gNe (fCall gShowE (fCons (fXv errs 0) fNil)) (fVar 3))) (kSeq (kExpr (fMut gPop (fVar 4) fNil))
    (kRet (fVar 3))) kNext)
    (kSeq (kExpr (fMut gPop (fVar 4) fNil))
    (kRet (fC (.str "a copy")))))) kNext)
theorem and_f {t1 t2 : FT} (h : t1 env S = .ok S false) : kAnd t1 t2 env S = .ok S false := by
  simp_arith [h]
theorem and_t {t1 t2 : FT} {b : Bool} (h : t1 env S = .ok S true) (h2 : t2 env S = .ok S b) : kAnd t1 t2 env S = .ok S b := by
  simp_arith [h, h2]
/-- a thing that is no list -/
theorem vb_no {c : String} (hv : snap S v = some d) (hl : gIsi [] d (.ty "list") = vB false) : VB (EV c e x y (.v (.d (.str t))) (.v v)) S = .nx (EV c e x y (.v (.d (.str t))) (.v v)) S :=
  if_no (and_f (val_s (isi_val (var_v rfl) hv hl))) rfl
/-- a list of another text -/
theorem vb_ne {c : String} {t2 : Str} (hv : snap S v = some (.lst l)) (h2 : gShowE [.lst l] = vS t2) (ht : PyData.strOk t = true) (ht2 : PyData.strOk t2 = true) (hne : t2 ≠ t) : VB (EV c e x y (.v (.d (.str t))) (.v v)) S = .nx (EV c e x y (.v (.d (.str t))) (.v v)) S :=
  if_no (and_t (val_s (isi_val (var_v rfl) hv rfl)) (val_s (op_ok (call_val (var_v rfl) hv h2) (var_ok rfl) (by rw [gEq_strs ht2 ht, decide_eq_false hne]; rfl)))) rfl
theorem app_ok (hS : S[n]? = some (.lst l)) (h0 : env[m]? = some (.v (.r n))) (hl : l.length ≤ 1000) : fMut gAppend (fVar m) (fCons (fC c) fNil) env S = .ok (S.set n (.lst (l ++ [c]))) (.val (.d .non)) := by
  have e0 : fVar m env S = .ok S (.val (.r n)) := var_v h0
  have sn : snap S (.r n) = some (.lst l) := by show snapC S[n]? = _; rw [hS]; rfl
  have g : gAppend l [c] = some (l ++ [c], .non) := by
    show (if l.length < 100000 then some (l ++ [c], Dv.non) else none) = _
    rw [if_pos (by omega)]
  unfold fMut
  rw [e0]
  show onT "list" S (.r n) _ = _
  unfold onT
  rw [sn]
  simp only [show isT "list" (.lst l) = true from rfl, if_true]
  show gMu S (.r n) [.d c] gAppend = _
  show (match S[n]? with | some (Cell.lst l0) => (match gAppend l0 [c] with | some (l1, res) => R.ok (S.set n (Cell.lst l1)) (Rt.val (Vr.d res)) | none => R.no) | _ => R.no) = _
  rw [hS]
  show (match gAppend l [c] with | some (l1, res) => R.ok (S.set n (Cell.lst l1)) (Rt.val (Vr.d res)) | none => R.no) = _
  rw [g]
theorem pop_ok (hS : S[n]? = some (.lst (l ++ [c]))) (h0 : env[m]? = some (.v (.r n))) : fMut gPop (fVar m) fNil env S = .ok (S.set n (.lst l)) (.val (.d c)) := by
  have e0 : fVar m env S = .ok S (.val (.r n)) := var_v h0
  have sn : snap S (.r n) = some (.lst (l ++ [c])) := by show snapC S[n]? = _; rw [hS]; rfl
  have g : gPop (l ++ [c]) [] = some (l, c) := by
    show (match (l ++ [c])[(l ++ [c]).length - 1]? with | some y => some ((l ++ [c]).dropLast, y) | none => none) = _
    simp
  unfold fMut
  rw [e0]
  show onT "list" S (.r n) _ = _
  unfold onT
  rw [sn]
  simp only [show isT "list" (.lst (l ++ [c])) = true from rfl, if_true]
  show gMu S (.r n) [] gPop = _
  show (match S[n]? with | some (Cell.lst l0) => (match gPop l0 [] with | some (l1, res) => R.ok (S.set n (Cell.lst l1)) (Rt.val (Vr.d res)) | none => R.no) | _ => R.no) = _
  rw [hS]
  show (match gPop (l ++ [c]) [] with | some (l1, res) => R.ok (S.set n (Cell.lst l1)) (Rt.val (Vr.d res)) | none => R.no) = _
  rw [g]
theorem set_self {c : Cell} (h : S[n]? = some c) : S.set n c = S := by
  obtain ⟨h1, h2⟩ := List.getElem?_eq_some_iff.mp h
  rw [← h2, List.set_getElem_self]
/-- the list itself -/
theorem vb_it {c : String} (hc : errs.contains c = true) (hS : S[n]? = some (.lst l)) (hl : Li l) (h2 : gShowE [.lst l] = vS t) (ht : PyData.strOk t = true) : VB (EV c (.r n) x y (.v (.d (.str t))) (.v (.r n))) S = .rt S (.val (.d (.str t))) := by
  have sn : snap S (.r n) = some (.lst l) := by show snapC S[n]? = _; rw [hS]; rfl
  obtain ⟨t', h1', _, _, t2, h3, h4, h5⟩ := li_txt hl
  have : t' = t := by
    rw [h1'] at h2
    have h2 : some (Rt.val (Vr.d (Dv.str t'))) = some (Rt.val (Vr.d (Dv.str t))) := h2
    injection h2 with h2
    injection h2 with h2
    injection h2 with h2
    injection h2
  rw [this] at h5
  have hlen : l.length ≤ 1000 := by rcases hl with rfl | rfl <;> simp
  let U := S.set n (.lst (l ++ [.str "late"]))
  have hU : U[n]? = some (.lst (l ++ [.str "late"])) := List.getElem?_set_self (List.getElem?_eq_some_iff.mp hS).1
  have snU : snap U (.r n) = some (.lst (l ++ [.str "late"])) := by show snapC U[n]? = _; rw [hU]; rfl
  have back : U.set n (.lst l) = S := by
    show (S.set n _).set n _ = S
    rw [List.set_set, set_self hS]
  let E : DN.Env := EV c (.r n) x y (.v (.d (.str t))) (.v (.r n))
  have p1 : kAnd (kVal (fCall (arg2 (gIsi [])) (fCons (fVar 4) (fCons (fC (.ty "list")) fNil)))) (kVal (fOp gEq (fCall gShowE (fCons (fVar 4) fNil)) (fVar 3))) E S = .ok S true :=
    and_t (val_s (isi_val (var_v rfl) sn rfl)) (val_s (op_ok (call_val (var_v rfl) sn h2) (var_ok rfl) (by rw [gEq_strs ht ht, decide_eq_true rfl]; rfl)))
  have p2 : kVal (fOp gNe (fCall gShowE (fCons (fXv errs 0) fNil)) (fVar 3)) E U = .ok U true := val_s (op_ok (call_val (xv_ok hc) snU h3) (var_ok rfl) (by rw [gNe_strs h4 ht, decide_eq_false h5]; rfl))
  have p3 := pop_ok (env := E) (m := 4) hU rfl
  rw [back] at p3
  exact if_yes p1 (seq_nx (exp_ok (app_ok hS rfl hlen)) (seq_rt (if_yes p2 (seq_nx (exp_ok p3) (ret_ok (var_ok rfl))))))
theorem forV_ret {q i m k : Nat} {body : FS} {l : List Vr} {r : Rt} {S' : Sto} (hS : S[q]? = some (.tab (.vl l))) (hv : l[k]? = some v) (h : body (env.set i (.v v)) S = .rt S' r) : forV q i body (m + 1) k env S = .rt S' r := by
  unfold forV
  simp only [hS, hv]
  rw [h]
/-- what may stand in the place of the value -/
def Hm (S : Sto) (e : Vr) (t : Str) (v : Vr) : Prop := (∃ d, Va S v d ∧ gIsi [] d (.ty "list") = vB false) ∨ (∃ l t2, snap S v = some (.lst l) ∧ gShowE [.lst l] = vS t2 ∧ PyData.strOk t2 = true ∧ t2 ≠ t) ∨ (∃ n l, v = e ∧ e = .r n ∧ S[n]? = some (.lst l) ∧ Li l)
theorem very_ok {c : String} (hc : errs.contains c = true) (he : Va S e d) (ht : gShowE [d] = vS t) (hto : PyData.strOk t = true) (hx : Hm (S ++ [.tab (.vl [x, y])]) e t x) (hy : Hm (S ++ [.tab (.vl [x, y])]) e t y) : D_law_very c [e, x, y] S = .ok S (.val (.d (.str t))) := by
  let T : Sto := S ++ [.tab (.vl [x, y])]
  have hT : T[S.length]? = some (.tab (.vl [x, y])) := by simp [T]
  have s1 : kSet 3 (fCall gShowE (fCons (fXv errs 0) fNil)) (EV c e x y .u .u) S = .nx (EV c e x y (.v (.d (.str t))) .u) S := st_set (call_val (xv_ok hc) he.snap ht) rfl
  have he' : Va T e d := he.app _
  have one : ∀ (v : Vr) (u : Sl), Hm T e t v → VB (EV c e x y (.v (.d (.str t))) (.v v)) T = .nx (EV c e x y (.v (.d (.str t))) (.v v)) T ∨ VB (EV c e x y (.v (.d (.str t))) (.v v)) T = .rt T (.val (.d (.str t))) := fun v u h => by
    rcases h with ⟨d', h1, h2⟩ | ⟨l, t2, h1, h2, h3, h4⟩ | ⟨n, l, rfl, rfl, h1, h2⟩
    · exact .inl (vb_no h1.snap h2)
    · exact .inl (vb_ne h1 h2 hto h3 h4)
    · refine .inr (vb_it hc h1 h2 ?_ hto)
      have sn : snap T (.r n) = some (.lst l) := by show snapC T[n]? = _; rw [h1]; rfl
      have := he'.snap
      rw [sn] at this
      cases this
      exact ht
  have lp : kForV 4 (fCons (fVar 1) (fCons (fVar 2) fNil)) VB (EV c e x y (.v (.d (.str t))) .u) S = forV S.length 4 VB 3 0 (EV c e x y (.v (.d (.str t))) .u) T := by
    have ea : fCons (fVar 1) (fCons (fVar 2) fNil) (EV c e x y (.v (.d (.str t))) .u) S = .ok S [x, y] := cons_v (var_v rfl) (cons_v (var_v rfl) nil_ok)
    unfold kForV
    rw [ea]
    rfl
  have fin : B_law_very (EV c e x y .u .u) S = .rt T (.val (.d (.str t))) → D_law_very c [e, x, y] S = .ok S (.val (.d (.str t))) := fun h => by
    show exitR S.length (outS (B_law_very (EV c e x y .u .u) S)) = _
    rw [h]
    show R.ok (T.take S.length) _ = _
    rw [show T.take S.length = S from List.take_left ..]
  refine fin ?_
  rcases one x .u hx with h1 | h1
  · rcases one y .u hy with h2 | h2
    · exact seq_nx s1 (seq_nx (lp.trans ((forV_step (k := 0) hT rfl h1).trans ((forV_step (k := 1) hT rfl h2).trans (forV_end (k := 2) hT rfl)))) (ret_ok (var_ok rfl)))
    · exact seq_nx s1 (seq_rt (lp.trans ((forV_step (k := 0) hT rfl h1).trans (forV_ret (env := EV c e x y (.v (.d (.str t))) (.v x)) (k := 1) hT rfl h2))))
  · exact seq_nx s1 (seq_rt (lp.trans (forV_ret (env := EV c e x y (.v (.d (.str t))) .u) (k := 0) hT rfl h1)))
end
end Q03
namespace Q03
open DN PySem L2
def apC (u v : Nat) : Bool := (decide (u = 48) && decide (v = 49)) || (decide (u = 49) && decide (v = 48))
/-- two signs that tell apart -/
def bad (c d : Nat) : Bool := (c == 48 && d == 49) || (c == 49 && d == 48)
theorem bad_ap {c d : Nat} : bad c d = apC c d := by
  unfold bad apC
  have e : ∀ a b : Nat, (a == b) = decide (a = b) := fun a b => by by_cases h : a = b <;> simp [h]
  rw [e, e, e, e]
theorem str_cps {a b : Str} : (a == b) = (a.cps.toList == b.cps.toList) := by
  by_cases h : a = b
  · subst h; simp
  · have : a.cps.toList ≠ b.cps.toList := fun c => h (by
      cases a; cases b
      congr
      exact Array.toList_inj.mp c)
    rw [beq_false_of_ne h, beq_false_of_ne this]
theorem z0 : PyData.strOk ("0" : Str) = true := OP.sgn_lay (c := 48) rfl
theorem z1 : PyData.strOk ("1" : Str) = true := OP.sgn_lay (c := 49) rfl
theorem bad_tup {c d : Nat} (hc : OP.okc c = true) (hd : OP.okc d = true) :
    gIn (.tup [.str ⟨#[c]⟩, .str ⟨#[d]⟩]) (.tup [.tup [.str "0", .str "1"], .tup [.str "1", .str "0"]]) = vB (bad c d) := by
  show onlyIf (okN 60 (.tup [.str ⟨#[c]⟩, .str ⟨#[d]⟩]) && _) _ = _
  have e1 : okN 60 (.tup [.str ⟨#[c]⟩, .str ⟨#[d]⟩]) = true := by
    show ((PyData.strOk ⟨#[c]⟩) && ((PyData.strOk ⟨#[d]⟩) && true)) = true
    rw [OP.sgn_lay hc, OP.sgn_lay hd]; rfl
  rw [e1]
  have e2 : okNs 60 [.tup [.str "0", .str "1"], .tup [.str "1", .str "0"]] = true := by
    show (((PyData.strOk ("0" : Str)) && ((PyData.strOk ("1" : Str)) && true)) && (((PyData.strOk ("1" : Str)) && ((PyData.strOk ("0" : Str)) && true)) && true)) = true
    rw [z0, z1]; rfl
  rw [e2]
  have hz : (("0" : Str) == ⟨#[c]⟩) = (48 == c) := by rw [str_cps]; simp [show (("0" : Str)).cps.toList = [48] from rfl]
  have ho : (("1" : Str) == ⟨#[c]⟩) = (49 == c) := by rw [str_cps]; simp [show (("1" : Str)).cps.toList = [49] from rfl]
  have hz' : (("0" : Str) == ⟨#[d]⟩) = (48 == d) := by rw [str_cps]; simp [show (("0" : Str)).cps.toList = [48] from rfl]
  have ho' : (("1" : Str) == ⟨#[d]⟩) = (49 == d) := by rw [str_cps]; simp [show (("1" : Str)).cps.toList = [49] from rfl]
  show vB _ = vB _
  congr 1
  simp only [inD, List.any, eqD, eqDs, Bool.and_true, Bool.or_false, hz, ho, hz', ho', bad]
  rw [show (48 == c) = (c == 48) from Bool.beq_comm, show (49 == c) = (c == 49) from Bool.beq_comm, show (48 == d) = (d == 48) from Bool.beq_comm, show (49 == d) = (d == 49) from Bool.beq_comm]
/-- the items of enumerate(zip(a, b)) -/
theorem ez_items (a b : List Nat) (h : a.length = b.length) : enumD (zipD (a.map fun c => Dv.str ⟨#[c]⟩) (b.map fun c => .str ⟨#[c]⟩)) = (List.range a.length).map fun k : Nat => Dv.tup [.int k, .tup [.str ⟨#[a.getD k 0]⟩, .str ⟨#[b.getD k 0]⟩]] := by
  unfold enumD zipD
  apply List.ext_getElem?
  intro k
  by_cases hk : k < a.length
  · have hk' : k < b.length := by omega
    simp [List.getElem?_map, List.getElem?_zipIdx, List.zip, List.getElem?_zipWith, List.getElem?_eq_getElem hk, List.getElem?_eq_getElem hk', List.getElem?_range hk, List.getD, Option.map]
  · rw [List.getElem?_eq_none, List.getElem?_eq_none]
    · simp; omega
    · simp [List.length_zip]; omega
section
variable {S S1 S2 : Sto} {env : DN.Env} {fa fb fe : FE} {fl : FA} {m j n : Nat} {a b v : Vr} {d c : Dv} {s t : Str} {x : Xn}
theorem def_exV {body : FS} {args : List Vr} {c : String} (h : outS (body (startE m args) S) = .ex S (.own c a)) (ha : ∀ n, a = .r n → n < S.length) : defD m body args S = .ex S (.own c a) := by
  unfold defD
  rw [h]
  show cutX S.length S (.own c a) = _
  cases a with
  | d d =>
    show R.ex (S.take S.length) _ = _
    rw [take_len]
  | r n =>
    show (if n < S.length then R.ex (S.take S.length) (.own c (.r n)) else .no) = _
    rw [if_pos (ha n rfl), take_len]
theorem call_x {g : List Dv → Option Rt} (h : fl env S = .ex S1 x) : fCall g fl env S = .ex S1 x := by
  unfold fCall
  rw [h]
  rfl
theorem Wd.sz (h : Wd s) : s.length ≤ 100000 := by have := h.le; omega
theorem ck_ok (h : Wd s) : D_check_word [.d (.str s)] S = .ok S (.val (.d .non)) := by
  refine def_pure ?_
  simp_arith [h.is]
theorem ck_no (h : D_is_word [a] S = .ok S (.val (.d (.bl false)))) (ha : ∀ n, a = .r n → n < S.length) : D_check_word [a] S = .ex S (.own "InvalidWord" a) := by
  refine def_exV ?_ ha
  exact congrArg outS (show B_check_word [.v a] S = _ from if_yes (notB (b1 := false) (val_s (callD (l := [a]) (cons_v (var_v rfl) nil_ok) rfl h))) (raise_ok (var_v rfl)))
abbrev ED (a b : Vr) : DN.Env := [.v a, .v b, .u, .u]
theorem ckE {i : Nat} {r : R Rt} (h0 : env[i]? = some (.v a)) (h : D_check_word [a] S = r) : fCallD 1 D_check_word (fCons (fVar i) fNil) env S = r := callD (l := [a]) (cons_v (var_v h0) nil_ok) rfl h
theorem df_1 (h : D_is_word [a] S = .ok S (.val (.d (.bl false)))) (ha : ∀ n, a = .r n → n < S.length) : D_differing [a, b] S = .ex S (.own "InvalidWord" a) := by
  refine def_exV ?_ ha
  exact congrArg outS (show B_differing (ED a b) S = _ from seq_ex (exp_x (ckE rfl (ck_no h ha))))
theorem df_2 (hs : Wd s) (h : D_is_word [b] S = .ok S (.val (.d (.bl false)))) (hb : ∀ n, b = .r n → n < S.length) : D_differing [.d (.str s), b] S = .ex S (.own "InvalidWord" b) := by
  refine def_exV ?_ hb
  exact congrArg outS (show B_differing (ED (.d (.str s)) b) S = _ from seq_nx (exp_ok (ckE rfl (ck_ok hs))) (seq_ex (exp_x (ckE rfl (ck_no h hb)))))
theorem len_t {i : Nat} (h0 : env[i]? = some (.v (.d (.str s)))) (hs : Wd s) : fCall gLen (fCons (fVar i) fNil) env S = .ok S (.val (.d (.int s.length))) := call_ok (var_ok h0) (gLen_str hs.sz)
theorem df_3 (hs : Wd s) (ht : Wd t) (h : s.length ≠ t.length) : D_differing [.d (.str s), .d (.str t)] S = .ex S (.own "UnlikeLengths" (.d (.tup [.str s, .str t]))) := by
  refine def_exV ?_ (fun n e => by cases e)
  exact congrArg outS (show B_differing (ED (.d (.str s)) (.d (.str t))) S = _ from seq_nx (exp_ok (ckE rfl (ck_ok hs))) (seq_nx (exp_ok (ckE rfl (ck_ok ht)))
    (seq_ex (if_yes (val_s (op_ok (len_t rfl hs) (len_t rfl ht) (by rw [gNe_int, decide_eq_false (by omega)]; rfl))) (raise_ok (tup_ok (cons_d (var_ok rfl) (cons_d (var_ok rfl) nil_ok)) rfl))))))
/-- the places that tell apart -/
def dfl (s t : Str) : List Nat := (List.range s.cps.toList.length).filter fun k => apC (s.cps.toList.getD k 0) (t.cps.toList.getD k 0)
theorem df_ok (hs : Wd s) (ht : Wd t) (h : s.length = t.length) : D_differing [.d (.str s), .d (.str t)] S = .ok S (.new (.lst ((dfl s t).map fun k : Nat => .int k))) := by
  have ha := hs.le
  have la : s.cps.toList.length = s.length := rfl
  have lb : t.cps.toList.length = t.length := rfl
  refine def_new ?_
  have hz : s.cps.size = t.cps.size := h
  have hi : iEz (fCons (fVar 0) (fCons (fVar 1) fNil)) (ED (.d (.str s)) (.d (.str t))) S = .ok S ((List.range s.cps.toList.length).map fun k : Nat => Dv.tup [.int k, .tup [.str ⟨#[s.cps.toList.getD k 0]⟩, .str ⟨#[t.cps.toList.getD k 0]⟩]], none) := by
    show itEz S [.d (.str s), .d (.str t)] = _
    unfold itEz
    simp only [hz, if_true]
    rw [ez_items _ _ (by omega)]
  have e := fLc_mp (tg := tgT (tgCons (tgN 2) (tgCons (tgN 3) tgNil))) (ft := kVal (fOp gIn (fVar 3) (fTup (fCons (fTup (fCons (fC (.str "0")) (fCons (fC (.str "1")) fNil))) (fCons (fTup (fCons (fC (.str "1")) (fCons (fC (.str "0")) fNil))) fNil)))))
    (fe := fVar 2) (vs := [2, 3]) (env := ED (.d (.str s)) (.d (.str t))) (S := S) (fun k : Nat => Dv.tup [.int k, .tup [.str ⟨#[s.cps.toList.getD k 0]⟩, .str ⟨#[t.cps.toList.getD k 0]⟩]]) (List.range s.cps.toList.length)
    (fun k => apC (s.cps.toList.getD k 0) (t.cps.toList.getD k 0)) (fun k : Nat => .int k) hi (by rw [List.length_range]; omega) (fun k hk => by
      have hk := List.mem_range.mp hk
      have hka : OP.okc (s.cps.toList.getD k 0) = true := hs.ok _ (by rw [List.getD, List.getElem?_eq_getElem hk]; exact List.getElem_mem _)
      have hkb : OP.okc (t.cps.toList.getD k 0) = true := ht.ok _ (by rw [List.getD, List.getElem?_eq_getElem (by omega)]; exact List.getElem_mem _)
      refine ⟨_, rfl, ?_, fun _ => ?_⟩
      · simp_arith [wipeE, bad_tup hka hkb, bad_ap]
      · exact got_val)
  exact congrArg outS (show B_differing (ED (.d (.str s)) (.d (.str t))) S = _ from seq_nx (exp_ok (ckE rfl (ck_ok hs))) (seq_nx (exp_ok (ckE rfl (ck_ok ht)))
    (seq_nx (if_no (val_s (op_ok (len_t rfl hs) (len_t rfl ht) (by rw [gNe_int, decide_eq_true (by omega)]; rfl))) rfl) (ret_ok e))))
theorem dfl_lt {k : Nat} (h : k ∈ dfl s t) : k < s.length := by
  unfold dfl at h
  exact List.mem_range.mp (List.mem_filter.mp h).1
theorem dfl_len (hs : Wd s) : (dfl s t).length ≤ 60 := by
  have h1 : (dfl s t).length ≤ (List.range s.cps.toList.length).length := List.length_filter_le _ _
  rw [List.length_range] at h1
  have := hs.le
  have la : s.cps.toList.length = s.length := rfl
  omega
theorem apC_sy {u v : Nat} : apC u v = apC v u := by
  unfold apC
  by_cases a : u = 48 <;> by_cases b : v = 49 <;> by_cases c : u = 49 <;> by_cases d : v = 48 <;> simp [a, b, c, d]
theorem dfl_sy (h : s.length = t.length) : dfl s t = dfl t s := by
  unfold dfl
  have la : s.cps.toList.length = s.length := rfl
  have lb : t.cps.toList.length = t.length := rfl
  rw [la, lb, h]
  refine List.filter_congr fun k _ => apC_sy
theorem ap_x (h : D_differing [a, b] S = .ex S (.own "InvalidWord" v)) (hv : ∀ n, v = .r n → n < S.length) : D_apart [a, b] S = .ex S (.own "InvalidWord" v) := by
  refine def_exV ?_ hv
  exact congrArg outS (show B_apart [.v a, .v b] S = _ from ret_x (call_x (cons_x (callD (l := [a, b]) (cons_v (var_v rfl) (cons_v (var_v rfl) nil_ok)) rfl h))))
theorem ap_x2 (h : D_differing [a, b] S = .ex S (.own "UnlikeLengths" (.d d))) : D_apart [a, b] S = .ex S (.own "UnlikeLengths" (.d d)) := by
  refine def_exV ?_ (fun n e => by cases e)
  exact congrArg outS (show B_apart [.v a, .v b] S = _ from ret_x (call_x (cons_x (callD (l := [a, b]) (cons_v (var_v rfl) (cons_v (var_v rfl) nil_ok)) rfl h))))
theorem ap_ok (hs : Wd s) (ht : Wd t) (h : s.length = t.length) : D_apart [.d (.str s), .d (.str t)] S = .ok S (.val (.d (.int (dfl s t).length))) := by
  refine def_pure ?_
  exact congrArg outS (show B_apart [.v (.d (.str s)), .v (.d (.str t))] S = _ from ret_ok (call_okL (callD (l := [.d (.str s), .d (.str t)]) (cons_v (var_v rfl) (cons_v (var_v rfl) nil_ok)) rfl (df_ok hs ht h)) (by rw [gLen_lst, List.length_map]; rfl)))
def fc (c : Nat) : Nat := if c = 48 then 49 else if c = 49 then 48 else c
def flp (s : Str) : Str := ⟨(s.cps.toList.map fc).toArray⟩
theorem fc_ok {c : Nat} (h : OP.okc c = true) : OP.okc (fc c) = true := by rcases okc_3 h with rfl | rfl | rfl <;> decide
theorem flp_wd (h : Wd s) : Wd (flp s) := wd_of (by rw [List.length_map]; exact h.le) fun c hc => by
  obtain ⟨x, hx, rfl⟩ := List.mem_map.mp hc
  exact fc_ok (h.ok x hx)
theorem fl_1 (h : D_is_word [a] S = .ok S (.val (.d (.bl false)))) (ha : ∀ n, a = .r n → n < S.length) : D_flipped [a] S = .ex S (.own "InvalidWord" a) := by
  refine def_exV ?_ ha
  exact congrArg outS (show B_flipped [.v a, .u] S = _ from seq_ex (exp_x (ckE rfl (ck_no h ha))))
theorem kix_at {c : Nat} {i : Nat} (h : OP.okc c = true) (h0 : env[i]? = some (.v (.d (.str ⟨#[c]⟩)))) : fKIx [("0", "1"), ("1", "0"), ("*", "*")] (fVar i) env S = .ok S (.val (.d (.str ⟨#[fc c]⟩))) := by
  unfold fKIx
  rw [var_v h0]
  rcases okc_3 h with rfl | rfl | rfl <;> rfl
theorem fl_ok (hs : Wd s) : D_flipped [.d (.str s)] S = .ok S (.val (.d (.str (flp s)))) := by
  refine def_pure ?_
  have e := fLc_mp (fi := iVal (fVar 0)) (tg := tgN 1) (ft := kYes) (fe := fKIx [("0", "1"), ("1", "0"), ("*", "*")] (fVar 1)) (vs := [1]) (env := [.v (.d (.str s)), .u]) (S := S) (fun c : Nat => .str ⟨#[c]⟩) s.cps.toList (fun _ => true) (fun c => .str ⟨#[fc c]⟩) rfl (by have := hs.le; have la : s.cps.toList.length = s.length := rfl; omega)
    (fun c hc => ⟨_, rfl, rfl, fun _ => got_of (kix_at (hs.ok c hc) rfl)⟩)
  rw [List.filter_eq_self.mpr fun _ _ => rfl, show (s.cps.toList.map fun c => Dv.str ⟨#[fc c]⟩) = (s.cps.toList.map fc).map fun c => .str ⟨#[c]⟩ by rw [List.map_map]; rfl] at e
  exact congrArg outS (show B_flipped [.v (.d (.str s)), .u] S = _ from seq_nx (exp_ok (ckE rfl (ck_ok hs))) (ret_ok (join_at e (join_cs (by rw [List.length_map]; have := hs.le; have la : s.cps.toList.length = s.length := rfl; omega)))))
def opn (s : Str) (k : Nat) : Str := ⟨(s.cps.toList.take k ++ [42] ++ s.cps.toList.drop (k + 1)).toArray⟩
theorem op_1 (h : D_is_word [a] S = .ok S (.val (.d (.bl false)))) (ha : ∀ n, a = .r n → n < S.length) : D_opened [a, b] S = .ex S (.own "InvalidWord" a) := by
  refine def_exV ?_ ha
  exact congrArg outS (show B_opened [.v a, .v b] S = _ from seq_ex (exp_x (ckE rfl (ck_no h ha))))
/-- no place -/
def NP (s : Str) (d : Dv) : Prop := gIsi [] d (.ty "int") = vB false ∨ (∃ b, d = .bl b) ∨ ∃ i : Int, d = .int i ∧ ¬ (0 ≤ i ∧ i < s.length)
theorem isint_no (hb : snap S b = some d) (h : gIsi [] d (.ty "int") = vB false) : D_is_integer [b] S = .ok S (.val (.d (.bl false))) := by
  refine def_pure ?_
  exact congrArg outS (show B_is_integer [.v b] S = _ from ret_ok (and_no (isi_val (var_v rfl) hb h)))
theorem isint_bl {t : Bool} : D_is_integer [.d (.bl t)] S = .ok S (.val (.d (.bl false))) := by
  refine def_pure ?_
  exact congrArg outS (show B_is_integer [.v (.d (.bl t))] S = _ from ret_ok (and_yes (isi_val (t := true) (var_v rfl) rfl rfl) (not_val (t := true) (isi_val (var_v rfl) rfl rfl))))
theorem isint_ok {i : Int} : D_is_integer [.d (.int i)] S = .ok S (.val (.d (.bl true))) := by
  refine def_pure ?_
  exact congrArg outS (show B_is_integer [.v (.d (.int i))] S = _ from ret_ok (and_yes (isi_val (t := true) (var_v rfl) rfl rfl) (not_val (t := false) (isi_val (var_v rfl) rfl rfl))))
theorem chain_ok {i : Int} {p q : Nat} (hs : Wd s) (h0 : env[p]? = some (.v (.d (.str s)))) (h1 : env[q]? = some (.v (.d (.int i)))) : fChain gLe gLt (fC (.int 0)) (fVar q) (fCall gLen (fCons (fVar p) fNil)) env S = .ok S (.val (.d (.bl (decide (0 ≤ i) && decide (i < s.length))))) := by
  have e1 := len_t (S := S) h0 hs
  have e2 : fVar q env S = .ok S (.val (.d (.int i))) := var_ok h1
  generalize fVar q = F at e2 ⊢
  generalize fCall gLen (fCons (fVar p) fNil) = F2 at e1 ⊢
  by_cases z : 0 ≤ i
  · rw [decide_eq_true z, Bool.true_and]
    simp_arith [e1, e2, gLe_, gLt_, decide_eq_true z]
  · rw [decide_eq_false z, Bool.false_and]
    simp_arith [e1, e2, gLe_, gLt_, decide_eq_false z]
abbrev PT : FT := (kOr (kNot (kVal (fCallD 1 D_is_integer (fCons (fVar 1) fNil)))) (kNot (kVal (fChain gLe gLt (fC (.int 0)) (fVar 1) (fCall gLen (fCons (fVar 0) fNil))))))
theorem op_2 (hs : Wd s) (hb : snap S b = some d) (hbb : (∃ n, b = .r n ∧ ∃ l, d = .lst l) ∨ b = .d d) (h : NP s d) (hlt : ∀ n, b = .r n → n < S.length) : D_opened [.d (.str s), b] S = .ex S (.own "InvalidPlace" b) := by
  refine def_exV ?_ hlt
  have e : PT [.v (.d (.str s)), .v b] S = .ok S true := by
    have no : D_is_integer [b] S = .ok S (.val (.d (.bl false))) → PT [.v (.d (.str s)), .v b] S = .ok S true := fun h => orYes (notB (b1 := false) (val_s (callD (l := [b]) (cons_v (var_v rfl) nil_ok) rfl h)))
    rcases h with h | ⟨t, rfl⟩ | ⟨i, rfl, h⟩
    · exact no (isint_no hb h)
    · rcases hbb with ⟨n, rfl, l, hl⟩ | rfl
      · cases hl
      · exact no isint_bl
    · rcases hbb with ⟨n, rfl, l, hl⟩ | rfl
      · cases hl
      · have hf : (decide (0 ≤ i) && decide (i < (s.length : Int))) = false := by
          by_cases z : 0 ≤ i
          · rw [decide_eq_true z, decide_eq_false (fun z2 => h ⟨z, z2⟩)]; rfl
          · rw [decide_eq_false z]; rfl
        have c := chain_ok (S := S) (i := i) (p := 0) (q := 1) (env := [.v (.d (.str s)), .v (.d (.int i))]) hs rfl rfl
        rw [hf] at c
        exact orB (b1 := false) (b2 := true) (notB (b1 := true) (val_s (callD (l := [.d (.int i)]) (cons_v (var_v rfl) nil_ok) rfl isint_ok))) fun _ => notB (b1 := false) (val_s c)
  exact congrArg outS (show B_opened [.v (.d (.str s)), .v b] S = _ from seq_nx (exp_ok (ckE rfl (ck_ok hs))) (seq_ex (if_yes e (raise_ok (var_v rfl)))))
theorem opn_wd (h : Wd s) {k : Nat} (hk : k < s.length) : Wd (opn s k) := by
  have la : s.cps.toList.length = s.length := rfl
  have hle := h.le
  refine wd_of (by rw [List.length_append, List.length_append, List.length_take, List.length_drop, List.length_cons, List.length_nil]; omega) fun c hc => ?_
  simp only [List.mem_append, List.mem_singleton] at hc
  rcases hc with (hc | rfl) | hc
  · exact h.ok c (List.mem_of_mem_take hc)
  · decide
  · exact h.ok c (List.mem_of_mem_drop hc)
theorem op_ok3 {k : Nat} (hs : Wd s) (hk : k < s.length) : D_opened [.d (.str s), .d (.int k)] S = .ok S (.val (.d (.str (opn s k)))) := by
  refine def_pure ?_
  let E : DN.Env := [.v (.d (.str s)), .v (.d (.int k))]
  have hle := hs.le
  have c := chain_ok (S := S) (i := k) (p := 0) (q := 1) (env := E) hs rfl rfl
  rw [decide_eq_true (by omega), decide_eq_true (by omega)] at c
  have e : PT E S = .ok S false := orB (b1 := false) (b2 := false) (notB (b1 := true) (val_s (callD (l := [.d (.int k)]) (cons_v (var_v rfl) nil_ok) rfl isint_ok))) fun _ => notB (b1 := true) (val_s c)
  have s1 : fSl (fVar 0) fNoPart (fPart (fVar 1)) E S = .ok S (.val (.d (.str ⟨(s.cps.toList.take k).toArray⟩))) := by
    have g : gSl none (some (k : Int)) (.str s) = vS ⟨(s.cps.toList.take k).toArray⟩ := by
      show (if s.length ≤ 100000 then vS (cutS s none (some (k : Int))) else none) = _
      rw [if_pos hs.sz, cutS_to (by omega)]
    show fSl _ _ _ [.v (.d (.str s)), .v (.d (.int k))] S = _
    simp_arith [g]
  have s2 : fSl (fVar 0) (fPart (fOp gAdd (fVar 1) (fC (.int 1)))) fNoPart E S = .ok S (.val (.d (.str ⟨(s.cps.toList.drop (k + 1)).toArray⟩))) := by
    have g : gSl (some ((k : Int) + 1)) none (.str s) = vS ⟨(s.cps.toList.drop (k + 1)).toArray⟩ := by
      show (if s.length ≤ 100000 then vS (cutS s (some ((k : Int) + 1)) none) else none) = _
      rw [if_pos hs.sz, show (k : Int) + 1 = ((k + 1 : Nat) : Int) by omega, cutS_from (by omega)]
    show fSl _ _ _ [.v (.d (.str s)), .v (.d (.int k))] S = _
    simp_arith [gAdd_, g]
  have la : s.cps.toList.length = s.length := rfl
  have l1 : (⟨(s.cps.toList.take k).toArray⟩ : Str).length ≤ 60 := by
    show (s.cps.toList.take k).toArray.size ≤ 60
    rw [List.size_toArray, List.length_take]
    omega
  have l2 : (⟨(s.cps.toList.drop (k + 1)).toArray⟩ : Str).length ≤ 60 := by
    show (s.cps.toList.drop (k + 1)).toArray.size ≤ 60
    rw [List.size_toArray, List.length_drop]
    omega
  have a1 := op_ok (S := S) (env := E) (g := gAdd) s1 (c_ok (a := .str "*")) (gAdd_str (by have : ("*" : Str).length = 1 := rfl; omega))
  have l3 : ((⟨(s.cps.toList.take k).toArray⟩ : Str) ++ ("*" : Str)).length ≤ 61 := by
    rw [app_len]
    have : ("*" : Str).length = 1 := rfl
    omega
  have a2 := op_ok (S := S) (env := E) (g := gAdd) a1 s2 (gAdd_str (by omega))
  have ev : ((⟨(s.cps.toList.take k).toArray⟩ : Str) ++ ("*" : Str)) ++ (⟨(s.cps.toList.drop (k + 1)).toArray⟩ : Str) = opn s k := by
    refine TL.ext_tl ?_
    show (((⟨(s.cps.toList.take k).toArray⟩ : Str) ++ ("*" : Str)) ++ (⟨(s.cps.toList.drop (k + 1)).toArray⟩ : Str)).cps.toList = (opn s k).cps.toList
    rw [app_tl, app_tl]
    unfold opn
    simp [show ("*" : Str).cps.toList = [42] from rfl]
  rw [ev] at a2
  exact congrArg outS (show B_opened E S = _ from seq_nx (exp_ok (ckE rfl (ck_ok hs))) (seq_nx (if_no e rfl) (ret_ok a2)))
end
end Q03
set_option maxHeartbeats 1000000
namespace Q03
open DN PySem L2
section
variable {S S1 S2 : Sto} {env : DN.Env} {fa fb fe : FE} {fl : FA} {m j n w : Nat} {a b v : Vr} {d c : Dv} {s t u : Str} {x : Xn}
abbrev EU (w : Nat) (a b : Vr) (u3 u4 u5 : Sl) : DN.Env := [.v (.d (.int w)), .v a, .v b, u3, u4, u5]
theorem wq {i : Nat} {u3 u4 u5 : Sl} : kVal (fOp gEq (fVar 0) (fC (.int i))) (EU w a b u3 u4 u5) S = .ok S (decide (w = i)) :=
  val_s (op_ok (a := .int w) (var_ok rfl) c_ok (by rw [gEq_int]; congr 1; exact decide_eq_decide.mpr (by omega)))
theorem two_sh {k : Str} (h : fa env S = .ok S (.val v)) (hv : snap S v = some d) (ht : gShowE [d] = vS t) : fLst (fCons (fC (.str k)) (fCons (fCall gShowE (fCons fa fNil)) fNil)) env S = .ok S (.new (.lst [.str k, .str t])) :=
  lst_ok (cons_d c_ok (cons_d (call_val h hv ht) nil_ok)) rfl
theorem two_shL {k : Str} {l : List Dv} (h : fa env S = .ok S (.new (.lst l))) (ht : gShowE [.lst l] = vS t) : fLst (fCons (fC (.str k)) (fCons (fCall gShowE (fCons fa fNil)) fNil)) env S = .ok S (.new (.lst [.str k, .str t])) :=
  lst_ok (cons_d c_ok (cons_d (call_okL h ht) nil_ok)) rfl
abbrev isW (i : Nat) : FT := kNot (kVal (fCallD 1 D_law_is_word (fCons (fVar i) fNil)))
theorem isW_ok {i : Nat} {r : Bool} (h0 : env[i]? = some (.v a)) (h : D_law_is_word [a] S = .ok S (.val (.d (.bl r)))) : isW i env S = .ok S (!r) := notB (val_s (callD (l := [a]) (cons_v (var_v h0) nil_ok) rfl h))
theorem due_1 (hd : snap S a = some d) (h : D_law_is_word [a] S = .ok S (.val (.d (.bl false)))) (ht : gShowE [d] = vS t) : D_law_due [.d (.int w), a, b] S = .ok S (.new (.lst [.str "word", .str t])) := by
  refine def_new ?_
  exact congrArg outS (show B_law_due (EU w a b .u .u .u) S = _ from seq_rt (if_yes (isW_ok rfl h) (ret_ok (two_sh (var_v rfl) hd ht))))
theorem disp_at {c : Nat} {i : Nat} (h : OP.okc c = true) (h0 : env[i]? = some (.v (.d (.str ⟨#[c]⟩)))) : fOp gIx (fDisp [.str "0", .str "1", .str "*"] [.str "1", .str "0", .str "*"]) (fVar i) env S = .ok S (.val (.d (.str ⟨#[fc c]⟩))) := by
  have e0 : fDisp [.str "0", .str "1", .str "*"] [.str "1", .str "0", .str "*"] env S = .ok S (.new (.dc false [.str "0", .str "1", .str "*"] [.str "1", .str "0", .str "*"])) := rfl
  have e1 : fVar i env S = .ok S (.val (.d (.str ⟨#[c]⟩))) := var_ok h0
  have g : gIx (.dic false [.str "0", .str "1", .str "*"] [.str "1", .str "0", .str "*"]) (.str ⟨#[c]⟩) = vS ⟨#[fc c]⟩ := by rcases okc_3 h with rfl | rfl | rfl <;> rfl
  generalize fDisp [.str "0", .str "1", .str "*"] [.str "1", .str "0", .str "*"] = F at e0 ⊢
  generalize fVar i = F1 at e1 ⊢
  generalize [Dv.str "0", .str "1", .str "*"] = ks at e0 g ⊢
  generalize [Dv.str "1", .str "0", .str "*"] = vs at e0 g ⊢
  simp_arith [e0, e1, g]
theorem due_2 (hs : Wd s) (ht : gShowE [.str (flp s)] = vS t) : D_law_due [.d (.int (2 : Nat)), .d (.str s), b] S = .ok S (.new (.lst [.str "told", .str t])) := by
  refine def_new ?_
  let E : DN.Env := EU 2 (.d (.str s)) b .u .u .u
  have e := fLc_mp (fi := iVal (fVar 1)) (tg := tgN 3) (ft := kYes) (fe := fOp gIx (fDisp [.str "0", .str "1", .str "*"] [.str "1", .str "0", .str "*"]) (fVar 3)) (vs := [3]) (env := E) (S := S) (fun c : Nat => .str ⟨#[c]⟩) s.cps.toList (fun _ => true) (fun c => .str ⟨#[fc c]⟩) rfl (by have := hs.le; have la : s.cps.toList.length = s.length := rfl; omega)
    (fun c hc => ⟨_, rfl, rfl, fun _ => got_of (disp_at (hs.ok c hc) rfl)⟩)
  rw [List.filter_eq_self.mpr fun _ _ => rfl, show (s.cps.toList.map fun c => Dv.str ⟨#[fc c]⟩) = (s.cps.toList.map fc).map fun c => .str ⟨#[c]⟩ by rw [List.map_map]; rfl] at e
  have e2 := join_at e (join_cs (by rw [List.length_map]; have := hs.le; have la : s.cps.toList.length = s.length := rfl; omega))
  exact congrArg outS (show B_law_due E S = _ from seq_nx (if_no (isW_ok rfl hs.lis) rfl) (seq_rt (if_yes wq (ret_ok (two_sh e2 rfl ht)))))
abbrev PD : FT := (kOr (kVal (fCall (arg2 (gIsi [])) (fCons (fVar 2) (fCons (fC (.ty "bool")) fNil)))) (kOr (kNot (kVal (fCall (arg2 (gIsi [])) (fCons (fVar 2) (fCons (fC (.ty "int")) fNil))))) (kNot (kVal (fChain gLe gLt (fC (.int 0)) (fVar 2) (fCall gLen (fCons (fVar 1) fNil)))))))
theorem orNo {t1 t2 : FT} {r : Bool} (h : t1 env S = .ok S false) (h2 : t2 env S = .ok S r) : kOr t1 t2 env S = .ok S r := by
  simp_arith [h, h2]
theorem due_3n (hs : Wd s) (hb : snap S b = some d) (hbb : (∃ l, d = .lst l) ∨ b = .d d) (hbo : ∃ r, gIsi [] d (.ty "bool") = vB r) (h : NP s d) (ht : gShowE [d] = vS t) : D_law_due [.d (.int (3 : Nat)), .d (.str s), b] S = .ok S (.new (.lst [.str "place", .str t])) := by
  refine def_new ?_
  let E : DN.Env := EU 3 (.d (.str s)) b .u .u .u
  have e : PD E S = .ok S true := by
    obtain ⟨r, hr⟩ := hbo
    cases r with
    | true => exact orYes (val_s (isi_val (var_v rfl) hb hr))
    | false =>
      refine orNo (val_s (isi_val (var_v rfl) hb hr)) ?_
      rcases h with h | ⟨t, rfl⟩ | ⟨i, rfl, h⟩
      · exact orYes (notB (b1 := false) (val_s (isi_val (var_v rfl) hb h)))
      · exact absurd (show vB true = vB false from hr) (by intro q; cases q)
      · rcases hbb with ⟨l, hl⟩ | rfl
        · cases hl
        · have hf : (decide (0 ≤ i) && decide (i < (s.length : Int))) = false := by
            by_cases z : 0 ≤ i
            · rw [decide_eq_true z, decide_eq_false (fun z2 => h ⟨z, z2⟩)]; rfl
            · rw [decide_eq_false z]; rfl
          have c := chain_ok (S := S) (i := i) (p := 1) (q := 2) (env := EU 3 (.d (.str s)) (.d (.int i)) .u .u .u) hs rfl rfl
          rw [hf] at c
          exact orNo (notB (b1 := true) (val_s (isi_val (t := true) (var_v rfl) rfl rfl))) (notB (b1 := false) (val_s c))
  exact congrArg outS (show B_law_due E S = _ from seq_nx (if_no (isW_ok rfl hs.lis) rfl) (seq_nx (if_no wq rfl) (seq_rt (if_yes wq (seq_rt (if_yes e (ret_ok (two_sh (var_v rfl) hb ht))))))))
theorem opn_rng {l : List Nat} {p : Nat} (h : p < l.length) : ((List.range l.length).map fun k => if k = p then 42 else l.getD k 0) = l.take p ++ [42] ++ l.drop (p + 1) := by
  apply List.ext_getElem?
  intro k
  by_cases hk : k < l.length
  · rw [List.getElem?_map, List.getElem?_range hk]
    by_cases h1 : k < p
    · rw [List.getElem?_append_left (by rw [List.length_append, List.length_take, List.length_cons, List.length_nil]; omega), List.getElem?_append_left (by rw [List.length_take]; omega), List.getElem?_take_of_lt h1]
      show some (if k = p then 42 else l.getD k 0) = _
      rw [if_neg (by omega), List.getD, List.getElem?_eq_getElem hk]
      rfl
    · by_cases h2 : k = p
      · subst h2
        rw [List.getElem?_append_left (by rw [List.length_append, List.length_take, List.length_cons, List.length_nil]; omega), List.getElem?_append_right (by rw [List.length_take]; omega), List.length_take, Nat.min_eq_left (by omega), Nat.sub_self]
        show some (if k = k then 42 else l.getD k 0) = _
        rw [if_pos rfl]
        rfl
      · rw [List.getElem?_append_right (by rw [List.length_append, List.length_take, List.length_cons, List.length_nil]; omega), List.getElem?_drop]
        show some (if k = p then 42 else l.getD k 0) = _
        rw [if_neg h2, List.length_append, List.length_take, List.length_cons, List.length_nil, Nat.min_eq_left (by omega), show p + 1 + (k - (p + (0 + 1))) = k by omega, List.getD, List.getElem?_eq_getElem hk]
        rfl
  · rw [List.getElem?_eq_none (by simp; omega), List.getElem?_eq_none (by simp; omega)]
theorem enum_s (l : List Nat) : enumD (l.map fun c => Dv.str ⟨#[c]⟩) = (List.range l.length).map fun k : Nat => .tup [.int k, .str ⟨#[l.getD k 0]⟩] := by
  apply List.ext_getElem?
  intro k
  by_cases hk : k < l.length
  · rw [enum_at (d := .str ⟨#[l.getD k 0]⟩) (by rw [List.getElem?_map, List.getElem?_eq_getElem hk, List.getD, List.getElem?_eq_getElem hk]; rfl)]
    simp [hk]
  · rw [List.getElem?_eq_none (by rw [enum_len, List.length_map]; omega), List.getElem?_eq_none (by simp; omega)]
theorem due_3 {p : Nat} (hs : Wd s) (hp : p < s.length) (ht : gShowE [.str (opn s p)] = vS t) : D_law_due [.d (.int (3 : Nat)), .d (.str s), .d (.int p)] S = .ok S (.new (.lst [.str "told", .str t])) := by
  refine def_new ?_
  let E : DN.Env := EU 3 (.d (.str s)) (.d (.int p)) .u .u .u
  have la : s.cps.toList.length = s.length := rfl
  have hle := hs.le
  have c := chain_ok (S := S) (i := p) (p := 1) (q := 2) (env := E) hs rfl rfl
  rw [decide_eq_true (by omega), decide_eq_true (by omega)] at c
  have e : PD E S = .ok S false := orNo (val_s (isi_val (t := false) (var_v rfl) rfl rfl)) (orNo (notB (b1 := true) (val_s (isi_val (t := true) (var_v rfl) rfl rfl))) (notB (b1 := true) (val_s c)))
  have e1 := fLc_mp (fi := iEnumD (fVar 1)) (tg := tgT (tgCons (tgN 4) (tgCons (tgN 3) tgNil))) (ft := kYes) (fe := fOp gIx (fLst (fCons (fC (.str "*")) (fCons (fVar 3) fNil))) (fCall gInt (fCons (fOp gNe (fVar 4) (fVar 2)) fNil))) (vs := [4, 3]) (env := E) (S := S)
    (fun k : Nat => Dv.tup [.int k, .str ⟨#[s.cps.toList.getD k 0]⟩]) (List.range s.cps.toList.length) (fun _ => true) (fun k => .str ⟨#[if k = p then 42 else s.cps.toList.getD k 0]⟩) (by
      show R.ok S (enumD (s.cps.toList.map fun c => Dv.str ⟨#[c]⟩), none) = _
      rw [enum_s]) (by rw [List.length_range]; omega) (fun k hk => by
      refine ⟨EU 3 (.d (.str s)) (.d (.int p)) (.v (.d (.str ⟨#[s.cps.toList.getD k 0]⟩))) (.v (.d (.int k))) .u, rfl, rfl, fun _ => ?_⟩
      let E1 : DN.Env := EU 3 (.d (.str s)) (.d (.int p)) (.v (.d (.str ⟨#[s.cps.toList.getD k 0]⟩))) (.v (.d (.int k))) .u
      have a1 : fLst (fCons (fC (.str "*")) (fCons (fVar 3) fNil)) E1 S = .ok S (.new (.lst [.str "*", .str ⟨#[s.cps.toList.getD k 0]⟩])) := lst_ok (cons_d c_ok (cons_d (var_ok rfl) nil_ok)) rfl
      have a2 : fOp gNe (fVar 4) (fVar 2) E1 S = .ok S (.val (.d (.bl (!decide (k = p))))) := op_ok (a := .int k) (b := .int p) (var_ok rfl) (var_ok rfl) (by
        rw [gNe_int]
        congr 2
        exact decide_eq_decide.mpr (by omega))
      by_cases q : k = p
      · rw [decide_eq_true q] at a2
        rw [if_pos q]
        exact got_of (op_L (m := [.str "*", .str ⟨#[s.cps.toList.getD k 0]⟩]) (b := .int 0) a1 (call_ok a2 rfl) rfl)
      · rw [decide_eq_false q] at a2
        rw [if_neg q]
        exact got_of (op_L (m := [.str "*", .str ⟨#[s.cps.toList.getD k 0]⟩]) (b := .int 1) a1 (call_ok a2 rfl) rfl))
  rw [List.filter_eq_self.mpr fun _ _ => rfl, show ((List.range s.cps.toList.length).map fun k => Dv.str ⟨#[if k = p then 42 else s.cps.toList.getD k 0]⟩) = ((List.range s.cps.toList.length).map fun k => if k = p then 42 else s.cps.toList.getD k 0).map fun c => .str ⟨#[c]⟩ by rw [List.map_map]; rfl] at e1
  have e2 := join_at e1 (join_cs (by rw [List.length_map, List.length_range]; omega))
  rw [opn_rng (by omega)] at e2
  exact congrArg outS (show B_law_due E S = _ from seq_nx (if_no (isW_ok rfl hs.lis) rfl) (seq_nx (if_no wq rfl) (seq_rt (if_yes wq (seq_nx (if_no e rfl) (ret_ok (two_sh e2 rfl ht)))))))
theorem due_w (hs : Wd s) (hw : w = 0 ∨ w = 1) (hb : snap S b = some d) (h : D_law_is_word [b] S = .ok S (.val (.d (.bl false)))) (ht : gShowE [d] = vS t) : D_law_due [.d (.int w), .d (.str s), b] S = .ok S (.new (.lst [.str "word", .str t])) := by
  refine def_new ?_
  let E : DN.Env := EU w (.d (.str s)) b .u .u .u
  have w2 : kVal (fOp gEq (fVar 0) (fC (.int (2 : Nat)))) E S = .ok S false := by rw [wq, decide_eq_false (by omega)]
  have w3 : kVal (fOp gEq (fVar 0) (fC (.int (3 : Nat)))) E S = .ok S false := by rw [wq, decide_eq_false (by omega)]
  exact congrArg outS (show B_law_due E S = _ from seq_nx (if_no (isW_ok rfl hs.lis) rfl) (seq_nx (if_no w2 rfl) (seq_nx (if_no w3 rfl) (seq_rt (if_yes (isW_ok rfl h) (ret_ok (two_sh (var_v rfl) hb ht)))))))
theorem due_u (hs : Wd s) (ht : Wd t) (hw : w = 0 ∨ w = 1) (h : s.length ≠ t.length) (hu : gShowE [.tup [.str s, .str t]] = vS u) : D_law_due [.d (.int w), .d (.str s), .d (.str t)] S = .ok S (.new (.lst [.str "unlike", .str u])) := by
  refine def_new ?_
  let E : DN.Env := EU w (.d (.str s)) (.d (.str t)) .u .u .u
  have w2 : kVal (fOp gEq (fVar 0) (fC (.int (2 : Nat)))) E S = .ok S false := by rw [wq, decide_eq_false (by omega)]
  have w3 : kVal (fOp gEq (fVar 0) (fC (.int (3 : Nat)))) E S = .ok S false := by rw [wq, decide_eq_false (by omega)]
  exact congrArg outS (show B_law_due E S = _ from seq_nx (if_no (isW_ok rfl hs.lis) rfl) (seq_nx (if_no w2 rfl) (seq_nx (if_no w3 rfl) (seq_nx (if_no (isW_ok rfl ht.lis) rfl)
    (seq_rt (if_yes (val_s (op_ok (len_t rfl hs) (len_t rfl ht) (by rw [gNe_int, decide_eq_false (by omega)]; rfl))) (ret_ok (two_sh (tup_ok (cons_d (var_ok rfl) (cons_d (var_ok rfl) nil_ok)) rfl) rfl hu))))))))
theorem in_two {c d : Nat} (hc : OP.okc c = true) (hd : OP.okc d = true) : gIn (.str ((⟨#[c]⟩ : Str) ++ ⟨#[d]⟩)) (.lst [.str "01", .str "10"]) = vB (apC c d) := by
  have k : okN 60 (.str ((⟨#[c]⟩ : Str) ++ ⟨#[d]⟩)) = true ∧ inD (.str ((⟨#[c]⟩ : Str) ++ ⟨#[d]⟩)) [.str "01", .str "10"] = apC c d := by
    rcases okc_3 hc with rfl | rfl | rfl <;> rcases okc_3 hd with rfl | rfl | rfl <;> decide +kernel
  show onlyIf (okN 60 (.str ((⟨#[c]⟩ : Str) ++ ⟨#[d]⟩)) && okNs 60 [.str "01", .str "10"]) (vB (inD (.str ((⟨#[c]⟩ : Str) ++ ⟨#[d]⟩)) [.str "01", .str "10"])) = _
  rw [k.1, k.2, show okNs 60 [Dv.str "01", .str "10"] = true from by decide +kernel]
  rfl
theorem due_f (hs : Wd s) (ht : Wd t) (hw : w = 0 ∨ w = 1) (h : s.length = t.length) (hu : gShowE [if w = 0 then .lst ((dfl s t).map fun k : Nat => .int k) else .int (dfl s t).length] = vS u) : D_law_due [.d (.int w), .d (.str s), .d (.str t)] S = .ok S (.new (.lst [.str "told", .str u])) := by
  refine def_new ?_
  have la : s.cps.toList.length = s.length := rfl
  have lb : t.cps.toList.length = t.length := rfl
  have hle := hs.le
  let E : DN.Env := EU w (.d (.str s)) (.d (.str t)) .u .u .u
  have w2 : kVal (fOp gEq (fVar 0) (fC (.int (2 : Nat)))) E S = .ok S false := by rw [wq, decide_eq_false (by omega)]
  have w3 : kVal (fOp gEq (fVar 0) (fC (.int (3 : Nat)))) E S = .ok S false := by rw [wq, decide_eq_false (by omega)]
  have e1 := fLc_rgF (fl := fCons (fCall gLen (fCons (fVar 1) fNil)) fNil) (ft := kVal (fOp gIn (fOp gAdd (fOp gIx (fVar 1) (fVar 4)) (fOp gIx (fVar 2) (fVar 4))) (fLst (fCons (fC (.str "01")) (fCons (fC (.str "10")) fNil))))) (fe := fVar 4) (vs := [4]) (env := E) (S := S) (i := 4) (n := s.cps.toList.length)
    (fun k => apC (s.cps.toList.getD k 0) (t.cps.toList.getD k 0)) (fun k => .int k) (cons_d (len_t rfl hs) nil_ok) (by omega) (fun k hk => by
      have hka : OP.okc (s.cps.toList.getD k 0) = true := hs.ok _ (by rw [List.getD, List.getElem?_eq_getElem hk]; exact List.getElem_mem _)
      have hkb : OP.okc (t.cps.toList.getD k 0) = true := ht.ok _ (by rw [List.getD, List.getElem?_eq_getElem (by omega)]; exact List.getElem_mem _)
      let E1 : DN.Env := EU w (.d (.str s)) (.d (.str t)) .u (.v (.d (.int k))) .u
      have a1 : fOp gIx (fVar 1) (fVar 4) E1 S = .ok S (.val (.d (.str ⟨#[s.cps.toList.getD k 0]⟩))) := op_ok (a := .str s) (b := .int k) (var_ok rfl) (var_ok rfl) (gIx_str hs.sz (by rw [List.getD, List.getElem?_eq_getElem hk]; rfl))
      have a2 : fOp gIx (fVar 2) (fVar 4) E1 S = .ok S (.val (.d (.str ⟨#[t.cps.toList.getD k 0]⟩))) := op_ok (a := .str t) (b := .int k) (var_ok rfl) (var_ok rfl) (gIx_str ht.sz (by rw [List.getD, List.getElem?_eq_getElem (by omega)]; rfl))
      have a3 := op_ok (g := gAdd) a1 a2 (gAdd_str (by show 1 + 1 ≤ 100000; omega))
      have a4 : fLst (fCons (fC (.str "01")) (fCons (fC (.str "10")) fNil)) E1 S = .ok S (.new (.lst [.str "01", .str "10"])) := rfl
      have g := in_two hka hkb
      refine val_s (env := E1) ?_
      generalize fOp gAdd (fOp gIx (fVar 1) (fVar 4)) (fOp gIx (fVar 2) (fVar 4)) = F at a3 ⊢
      generalize fLst (fCons (fC (.str "01")) (fCons (fC (.str "10")) fNil)) = F2 at a4 ⊢
      generalize [Dv.str "01", .str "10"] = L at a4 g
      generalize E1 = E1 at a3 a4 ⊢
      simp_arith [a3, a4, g]) (fun k hk _ => got_of (var_ok rfl))
  let E2 : DN.Env := EU w (.d (.str s)) (.d (.str t)) .u .u (.v (.d (.lst ((dfl s t).map fun k : Nat => .int k))))
  have e2 : fLst (fCons (fVar 5) (fCons (fCall gLen (fCons (fVar 5) fNil)) fNil)) E2 S = .ok S (.new (.lst [.lst ((dfl s t).map fun k : Nat => .int k), .int (dfl s t).length])) :=
    lst_ok (cons_d (var_ok rfl) (cons_d (call_ok (var_ok rfl) (by rw [gLen_lst, List.length_map]; rfl)) nil_ok)) rfl
  have e3 : fOp gIx (fLst (fCons (fVar 5) (fCons (fCall gLen (fCons (fVar 5) fNil)) fNil))) (fVar 0) E2 S = .ok S (.val (.d (if w = 0 then .lst ((dfl s t).map fun k : Nat => .int k) else .int (dfl s t).length))) := by
    rcases hw with rfl | rfl
    · exact op_L e2 (b := .int 0) (var_ok rfl) rfl
    · exact op_L e2 (b := .int 1) (var_ok rfl) rfl
  exact congrArg outS (show B_law_due E S = _ from seq_nx (if_no (isW_ok rfl hs.lis) rfl) (seq_nx (if_no w2 rfl) (seq_nx (if_no w3 rfl) (seq_nx (if_no (isW_ok rfl ht.lis) rfl)
    (seq_nx (if_no (val_s (op_ok (len_t rfl hs) (len_t rfl ht) (by rw [gNe_int, decide_eq_true (by omega)]; rfl))) rfl) (seq_nx (st_setL (env' := E2) e1 rfl) (ret_ok (two_sh e3 rfl hu))))))))
end
end Q03
set_option maxHeartbeats 1000000
namespace Q03
open DN PySem L2
section
variable {S S1 S2 T : Sto} {env : DN.Env} {fa fb fe : FE} {fl : FA} {m j n w : Nat} {a b e v x y : Vr} {d c d1 d2 : Dv} {s t u : Str} {X : Xn}
abbrev EC (w : Nat) (a b : Vr) : DN.Env := [.v (.d (.int w)), .v a, .v b, .u]
theorem cq {i : Nat} : kVal (fOp gEq (fVar 0) (fC (.int i))) (EC w a b) S = .ok S (decide (w = i)) :=
  val_s (op_ok (a := .int w) (var_ok rfl) c_ok (by rw [gEq_int]; congr 1; exact decide_eq_decide.mpr (by omega)))
abbrev HD : List Cl := [("InvalidWord", (some 3), (kRet (fLst (fCons (fC (.str "word")) (fCons (fCallX 3 D_law_very 3 (fCons (fVar 1) (fCons (fVar 2) fNil))) fNil))))), ("UnlikeLengths", (some 3), (kRet (fLst (fCons (fC (.str "unlike")) (fCons (fCall gShowE (fCons (fXv errs 3) fNil)) fNil))))), ("InvalidPlace", (some 3), (kRet (fLst (fCons (fC (.str "place")) (fCons (fCallX 3 D_law_very 3 (fCons (fVar 2) (fCons (fVar 2) fNil))) fNil))))), ("OpenpostsError", none, (kRet (fLst (fCons (fC (.str "other")) (fCons (fC (.str "")) fNil)))))]
abbrev BODY : FS := (kSeq (kIf (kVal (fOp gEq (fVar 0) (fC (.int (0 : Nat))))) (kRet (fLst (fCons (fC (.str "told")) (fCons (fCall gShowE (fCons (fCallD 2 D_differing (fCons (fVar 1) (fCons (fVar 2) fNil))) fNil)) fNil)))) kNext)
    (kSeq (kIf (kVal (fOp gEq (fVar 0) (fC (.int (1 : Nat))))) (kRet (fLst (fCons (fC (.str "told")) (fCons (fCall gShowE (fCons (fCallD 2 D_apart (fCons (fVar 1) (fCons (fVar 2) fNil))) fNil)) fNil)))) kNext)
    (kRet (fLst (fCons (fC (.str "told")) (fCons (fCall gShowE (fCons (fIf (kVal (fOp gEq (fVar 0) (fC (.int (2 : Nat))))) (fCallD 1 D_flipped (fCons (fVar 1) fNil)) (fCallD 2 D_opened (fCons (fVar 1) (fCons (fVar 2) fNil)))) fNil)) fNil))))))
theorem caught_ok {k : Str} (h : BODY (EC w a b) S = .rt S (.new (.lst [.str k, .str t]))) : D_law_caught [.d (.int w), a, b] S = .ok S (.new (.lst [.str k, .str t])) := by
  refine def_new ?_
  show outS (kTry "OpenpostsError" errs HD BODY (EC w a b) S) = _
  unfold kTry
  rw [h]
  rfl
theorem very_at {q : String} (h1 : env[3]? = some (.x q v)) (hl : fl env S = .ok S [x, y]) (h : D_law_very q [v, x, y] S = .ok S (.val (.d (.str t)))) : fCallX 3 D_law_very 3 fl env S = .ok S (.val (.d (.str t))) := by
  unfold fCallX
  rw [h1]
  show (fl env S).bind _ = _
  rw [hl]
  show (if 2 + 1 = 3 then okR (D_law_very q [v, x, y] S) else .no) = _
  rw [if_pos rfl, h]
  rfl
theorem caught_word (h : BODY (EC w a b) S = .ex (EC w a b) S (.own "InvalidWord" v)) (hv : D_law_very "InvalidWord" [v, a, b] S = .ok S (.val (.d (.str t)))) : D_law_caught [.d (.int w), a, b] S = .ok S (.new (.lst [.str "word", .str t])) := by
  refine def_new ?_
  show outS (kTry "OpenpostsError" errs HD BODY (EC w a b) S) = _
  unfold kTry
  rw [h]
  show outS (goneR 3 ((kRet (fLst (fCons (fC (.str "word")) (fCons (fCallX 3 D_law_very 3 (fCons (fVar 1) (fCons (fVar 2) fNil))) fNil)))) [.v (.d (.int w)), .v a, .v b, .x "InvalidWord" v] S)) = _
  rw [ret_ok (lst2_ok c_ok (very_at rfl (cons_v (var_v rfl) (cons_v (var_v rfl) nil_ok)) hv))]
  rfl
theorem caught_place (h : BODY (EC w a b) S = .ex (EC w a b) S (.own "InvalidPlace" v)) (hv : D_law_very "InvalidPlace" [v, b, b] S = .ok S (.val (.d (.str t)))) : D_law_caught [.d (.int w), a, b] S = .ok S (.new (.lst [.str "place", .str t])) := by
  refine def_new ?_
  show outS (kTry "OpenpostsError" errs HD BODY (EC w a b) S) = _
  unfold kTry
  rw [h]
  show outS (goneR 3 ((kRet (fLst (fCons (fC (.str "place")) (fCons (fCallX 3 D_law_very 3 (fCons (fVar 2) (fCons (fVar 2) fNil))) fNil)))) [.v (.d (.int w)), .v a, .v b, .x "InvalidPlace" v] S)) = _
  rw [ret_ok (lst2_ok c_ok (very_at rfl (cons_v (var_v rfl) (cons_v (var_v rfl) nil_ok)) hv))]
  rfl
theorem caught_unlike (h : BODY (EC w a b) S = .ex (EC w a b) S (.own "UnlikeLengths" (.d d))) (hv : gShowE [d] = vS t) : D_law_caught [.d (.int w), a, b] S = .ok S (.new (.lst [.str "unlike", .str t])) := by
  refine def_new ?_
  show outS (kTry "OpenpostsError" errs HD BODY (EC w a b) S) = _
  unfold kTry
  rw [h]
  show outS (goneR 3 ((kRet (fLst (fCons (fC (.str "unlike")) (fCons (fCall gShowE (fCons (fXv errs 3) fNil)) fNil)))) [.v (.d (.int w)), .v a, .v b, .x "UnlikeLengths" (.d d)] S)) = _
  rw [ret_ok (lst2_ok c_ok (call_ok (show fXv errs 3 _ S = .ok S (.val (.d d)) from rfl) hv))]
  rfl
theorem two_x {k : Str} (h : fe env S = .ex S X) : fLst (fCons (fC (.str k)) (fCons (fCall gShowE (fCons fe fNil)) fNil)) env S = .ex S X := by
  simp_arith [h]
theorem dfE {g : FD} {r : R Rt} (h : g [a, b] S = r) : fCallD 2 g (fCons (fVar 1) (fCons (fVar 2) fNil)) (EC w a b) S = r := callD (l := [a, b]) (cons_v (var_v rfl) (cons_v (var_v rfl) nil_ok)) rfl h
theorem b_0x (h : D_differing [a, b] S = .ex S X) : BODY (EC 0 a b) S = .ex (EC 0 a b) S X := seq_ex (if_yes cq (ret_x (two_x (dfE h))))
theorem b_1x (h : D_apart [a, b] S = .ex S X) : BODY (EC 1 a b) S = .ex (EC 1 a b) S X := seq_nx (if_no cq rfl) (seq_ex (if_yes cq (ret_x (two_x (dfE h)))))
theorem b_2x (h : D_flipped [a] S = .ex S X) : BODY (EC 2 a b) S = .ex (EC 2 a b) S X := seq_nx (if_no cq rfl) (seq_nx (if_no cq rfl) (ret_x (two_x (ifS (b := true) cq (callD (l := [a]) (cons_v (var_v rfl) nil_ok) rfl h)))))
theorem b_3x (h : D_opened [a, b] S = .ex S X) : BODY (EC 3 a b) S = .ex (EC 3 a b) S X := seq_nx (if_no cq rfl) (seq_nx (if_no cq rfl) (ret_x (two_x (ifS (b := false) cq (dfE h)))))
theorem b_2 (h : D_flipped [a] S = .ok S (.val (.d d))) (ht : gShowE [d] = vS t) : BODY (EC 2 a b) S = .rt S (.new (.lst [.str "told", .str t])) := seq_nx (if_no cq rfl) (seq_nx (if_no cq rfl) (ret_ok (two_sh (v := .d d) (ifS (b := true) cq (callD (l := [a]) (cons_v (var_v rfl) nil_ok) rfl h)) rfl ht)))
theorem b_3 (h : D_opened [a, b] S = .ok S (.val (.d d))) (ht : gShowE [d] = vS t) : BODY (EC 3 a b) S = .rt S (.new (.lst [.str "told", .str t])) := seq_nx (if_no cq rfl) (seq_nx (if_no cq rfl) (ret_ok (two_sh (v := .d d) (ifS (b := false) cq (dfE h)) rfl ht)))
theorem b_0 {l : List Dv} (h : D_differing [a, b] S = .ok S (.new (.lst l))) (ht : gShowE [.lst l] = vS t) : BODY (EC 0 a b) S = .rt S (.new (.lst [.str "told", .str t])) := seq_rt (if_yes cq (ret_ok (two_shL (dfE h) ht)))
theorem b_1 (h : D_apart [a, b] S = .ok S (.val (.d d))) (ht : gShowE [d] = vS t) : BODY (EC 1 a b) S = .rt S (.new (.lst [.str "told", .str t])) := seq_nx (if_no cq rfl) (seq_rt (if_yes cq (ret_ok (two_sh (v := .d d) (dfE h) rfl ht))))
theorem vS_inj (h : vS s = vS t) : s = t := by
  have h : some (Rt.val (Vr.d (Dv.str s))) = some (Rt.val (Vr.d (Dv.str t))) := h
  injection h with h
  injection h with h
  injection h with h
  injection h
theorem li_ne {l k : List Dv} (h : Li l) (h2 : Li k) (hn : l ≠ k) (h3 : gShowE [.lst l] = vS s) (h4 : gShowE [.lst k] = vS t) : s ≠ t := by
  have k1 : gShowE [.lst []] = vS (PyData.list []).shown := rfl
  have k2 : gShowE [.lst [.str "0"]] = vS (PyData.list [.str "0"]).shown := by
    show gShowE1 (.lst [.str "0"]) = _
    unfold gShowE1
    rw [show pd (.lst [.str "0"]) = some (.list [.str "0"]) from rfl]
    show (if (okShow (.list [.str "0"]) && (!(PyData.list [.str "0"]).hasDict || isE (.lst [.str "0"]))) = true then vS (PyData.list [.str "0"]).shown else none) = _
    rw [if_pos (by decide +kernel)]
  have ne : (PyData.list []).shown ≠ (PyData.list [.str "0"]).shown := by decide +kernel
  rcases h with rfl | rfl <;> rcases h2 with rfl | rfl
  · exact absurd rfl hn
  · rw [k2] at h3
    rw [k1] at h4
    rw [← vS_inj h3, ← vS_inj h4]
    exact ne.symm
  · rw [k1] at h3
    rw [k2] at h4
    rw [← vS_inj h3, ← vS_inj h4]
    exact ne
  · exact absurd rfl hn
/-- no two lists alike -/
def Sp (S : Sto) (a b : Vr) : Prop := ∀ n m l, a = .r n → b = .r m → S[n]? = some (.lst l) → S[m]? = some (.lst l) → n = m
theorem hm_of (he : Va T e d) (ht : gShowE [d] = vS t) (hv : Va T v d1) (hs : Sp T e v) : Hm T e t v := by
  cases hv with
  | wd s h => exact .inl ⟨_, .wd s h, rfl⟩
  | od _ h => exact .inl ⟨_, .od _ h, h.li⟩
  | ls n l h hl =>
    obtain ⟨t2, k1, k2, k3, _⟩ := li_txt hl
    have other : ∀ {d : Dv}, ShN d → gShowE [d] = vS t → t2 ≠ t := fun {d} hd ht => by
      obtain ⟨t3, q1, q2, q3⟩ := hd
      rw [q1] at ht
      rw [← vS_inj ht]
      intro z
      rw [z] at k3
      exact q3 k3
    have sn : snap T (.r n) = some (.lst l) := by show snapC T[n]? = _; rw [h]; rfl
    cases he with
    | wd s h => exact .inr (.inl ⟨l, t2, sn, k1, k2, other h.shN ht⟩)
    | od d h => exact .inr (.inl ⟨l, t2, sn, k1, k2, other h.sh ht⟩)
    | ls m k h' hl' =>
      by_cases z : k = l
      · subst z
        have : m = n := hs m n k rfl rfl h' h
        subst this
        exact .inr (.inr ⟨m, k, rfl, rfl, h, hl⟩)
      · exact .inr (.inl ⟨l, t2, sn, k1, k2, fun q => li_ne hl hl' (fun q => z q.symm) k1 ht q⟩)
theorem Sp.app (ha : Va S a d) (hb : Va S b d1) (h : Sp S a b) (c : Cell) : Sp (S ++ [c]) a b := fun n m l h1 h2 h3 h4 => by
  rw [List.getElem?_append_left (ha.lt n h1)] at h3
  rw [List.getElem?_append_left (hb.lt m h2)] at h4
  exact h n m l h1 h2 h3 h4
theorem Sp.refl : Sp S a a := fun n m l h1 h2 _ _ => by
  rw [h1] at h2
  injection h2
theorem Sp.symm (h : Sp S a b) : Sp S b a := fun n m l h1 h2 h3 h4 => (h m n l h2 h1 h4 h3).symm
theorem very {q : String} (hc : errs.contains q = true) (he : Va S e d) (hx : Va S x d1) (hy : Va S y d2) (ht : gShowE [d] = vS t) (hto : PyData.strOk t = true) (h1 : Sp S e x) (h2 : Sp S e y) : D_law_very q [e, x, y] S = .ok S (.val (.d (.str t))) :=
  very_ok hc he ht hto (hm_of (he.app _) ht (hx.app _) (h1.app he hx _)) (hm_of (he.app _) ht (hy.app _) (h2.app he hy _))
def Both (S : Sto) (w : Nat) (a b a' b' : Vr) : Prop := ∃ k t : Str, PyData.strOk k = true ∧ PyData.strOk t = true ∧ D_law_caught [.d (.int w), a, b] S = .ok S (.new (.lst [.str k, .str t])) ∧ D_law_due [.d (.int w), a', b'] S = .ok S (.new (.lst [.str k, .str t]))
theorem ok_word : PyData.strOk ("word" : Str) = true := by decide +kernel
theorem ok_told : PyData.strOk ("told" : Str) = true := by decide +kernel
theorem ok_place : PyData.strOk ("place" : Str) = true := by decide +kernel
theorem ok_unlike : PyData.strOk ("unlike" : Str) = true := by decide +kernel
theorem Va.form (h : Va S a d) : (∃ n, a = .r n ∧ ∃ l, d = .lst l) ∨ a = .d d := by
  cases h with
  | wd s h => exact .inr rfl
  | od d h => exact .inr rfl
  | ls n l h hl => exact .inl ⟨n, rfl, l, rfl⟩
/-- the told words of two like words, kinds 0 and 1 -/
theorem told_01 (hs : Wd s) (ht : Wd t) (h : s.length = t.length) (hw : w = 0 ∨ w = 1) : ∃ u : Str, PyData.strOk u = true ∧ gShowE [if w = 0 then .lst ((dfl s t).map fun k : Nat => .int k) else .int (dfl s t).length] = vS u ∧ D_law_caught [.d (.int w), .d (.str s), .d (.str t)] S = .ok S (.new (.lst [.str "told", .str u])) := by
  have hl := hs.le
  have hd := dfl_len (s := s) (t := t) hs
  rcases hw with rfl | rfl
  · obtain ⟨u, h1, h2⟩ := sh_ints (l := dfl s t) (fun k hk => by have := dfl_lt hk; omega) (by omega)
    exact ⟨u, h2, h1, caught_ok (b_0 (df_ok hs ht h) h1)⟩
  · obtain ⟨u, h1, h2, _⟩ := shN_nat (k := (dfl s t).length) (by omega)
    exact ⟨u, h2, h1, caught_ok (b_1 (ap_ok hs ht h) h1)⟩
theorem both_01 (hs : Wd s) (ht : Wd t) (h : s.length = t.length) (hw : w = 0 ∨ w = 1) : Both S w (.d (.str s)) (.d (.str t)) (.d (.str s)) (.d (.str t)) := by
  obtain ⟨u, h1, h2, h3⟩ := told_01 (S := S) hs ht h hw
  exact ⟨_, u, ok_told, h1, h3, due_f hs ht hw h h2⟩
theorem both_sw (hs : Wd s) (ht : Wd t) (h : s.length = t.length) (hw : w = 0 ∨ w = 1) : Both S w (.d (.str t)) (.d (.str s)) (.d (.str s)) (.d (.str t)) := by
  obtain ⟨u, h1, h2, h3⟩ := told_01 (S := S) ht hs h.symm hw
  rw [← dfl_sy h] at h2
  exact ⟨_, u, ok_told, h1, h3, due_f hs ht hw h h2⟩
theorem both (hw : w < 4) (ha : Va S a d1) (hb : Va S b d2) (hsp : Sp S a b) : Both S w a b a b := by
  rcases ha.isw with ⟨s, rfl, rfl, hs⟩ | ⟨n1, n2⟩
  · have w4 : (w = 0 ∨ w = 1) ∨ w = 2 ∨ w = 3 := by omega
    rcases w4 with hw | rfl | rfl
    · rcases hb.isw with ⟨t, rfl, rfl, ht⟩ | ⟨n1, n2⟩
      · by_cases hl : s.length = t.length
        · exact both_01 hs ht hl hw
        · obtain ⟨u, h1, h2⟩ := sh_two hs ht
          refine ⟨_, u, ok_unlike, h2, ?_, due_u hs ht hw hl h1⟩
          rcases hw with rfl | rfl
          · exact caught_unlike (b_0x (df_3 hs ht hl)) h1
          · exact caught_unlike (b_1x (ap_x2 (df_3 hs ht hl))) h1
      · obtain ⟨u, h1, h2⟩ := hb.sh
        refine ⟨_, u, ok_word, h2, ?_, due_w hs hw hb.snap n2 h1⟩
        have hv := very (q := "InvalidWord") rfl hb ha hb h1 h2 hsp.symm Sp.refl
        rcases hw with rfl | rfl
        · exact caught_word (b_0x (df_2 hs n1 hb.lt)) hv
        · exact caught_word (b_1x (ap_x (df_2 hs n1 hb.lt) hb.lt)) hv
    · obtain ⟨u, h1, h2, _⟩ := (flp_wd hs).shN
      exact ⟨_, u, ok_told, h2, caught_ok (b_2 (fl_ok hs) h1), due_2 hs h1⟩
    · have no : NP s d2 → (∃ r, gIsi [] d2 (.ty "bool") = vB r) → Both S 3 (.d (.str s)) b (.d (.str s)) b := fun h hbo => by
        obtain ⟨u, h1, h2⟩ := hb.sh
        refine ⟨_, u, ok_place, h2, caught_place (b_3x (op_2 hs hb.snap hb.form h hb.lt)) (very rfl hb hb hb h1 h2 Sp.refl Sp.refl), due_3n hs hb.snap ?_ hbo h h1⟩
        rcases hb.form with ⟨_, _, q⟩ | q
        · exact .inl q
        · exact .inr q
      cases hb with
      | wd t ht => exact no (.inl rfl) ⟨_, rfl⟩
      | ls n l h hl => exact no (.inl rfl) ⟨false, rfl⟩
      | od d h =>
        rcases h.pl with ⟨i, rfl⟩ | q | ⟨q, rfl⟩
        · by_cases z : 0 ≤ i ∧ i < s.length
          · obtain ⟨k, rfl⟩ : ∃ k : Nat, i = k := ⟨i.toNat, by omega⟩
            have hk : k < s.length := by omega
            obtain ⟨u, h1, h2, _⟩ := (opn_wd hs hk).shN
            exact ⟨_, u, ok_told, h2, caught_ok (b_3 (op_ok3 hs hk) h1), due_3 hs hk h1⟩
          · exact no (.inr (.inr ⟨i, rfl, z⟩)) h.bo
        · exact no (.inl q) h.bo
        · exact no (.inr (.inl ⟨q, rfl⟩)) h.bo
  · obtain ⟨u, h1, h2⟩ := ha.sh
    refine ⟨_, u, ok_word, h2, ?_, due_1 ha.snap n2 h1⟩
    have hv := very (q := "InvalidWord") rfl ha ha hb h1 h2 Sp.refl hsp
    have w4 : w = 0 ∨ w = 1 ∨ w = 2 ∨ w = 3 := by omega
    rcases w4 with rfl | rfl | rfl | rfl
    · exact caught_word (b_0x (df_1 n1 ha.lt)) hv
    · exact caught_word (b_1x (ap_x (df_1 n1 ha.lt) ha.lt)) hv
    · exact caught_word (b_2x (fl_1 n1 ha.lt)) hv
    · exact caught_word (b_3x (op_1 n1 ha.lt)) hv
theorem gNe_two {k t : Str} (h1 : PyData.strOk k = true) (h2 : PyData.strOk t = true) : gNe (.lst [.str k, .str t]) (.lst [.str k, .str t]) = vB false := by
  have e : okN 60 (.lst [.str k, .str t]) = true := by
    show ((PyData.strOk k) && ((PyData.strOk t) && true)) = true
    rw [h1, h2]; rfl
  show onlyIf (okN 60 (.lst [.str k, .str t]) && okN 60 (.lst [.str k, .str t])) (vB (!eqD (.lst [.str k, .str t]) (.lst [.str k, .str t]))) = _
  rw [e]
  show vB (!((k == k) && ((t == t) && true))) = _
  simp
/-- the question of the law -/
theorem ask_no {i p q p' q' : Nat} {a' b' : Vr} (h : Both S w a b a' b') (h0 : env[i]? = some (.v (.d (.int w)))) (h1 : env[p]? = some (.v a)) (h2 : env[q]? = some (.v b)) (h3 : env[p']? = some (.v a')) (h4 : env[q']? = some (.v b')) :
    kVal (fOp gNe (fCallD 3 D_law_caught (fCons (fVar i) (fCons (fVar p) (fCons (fVar q) fNil)))) (fCallD 3 D_law_due (fCons (fVar i) (fCons (fVar p') (fCons (fVar q') fNil))))) env S = .ok S false := by
  obtain ⟨k, t, k1, k2, k3, k4⟩ := h
  exact val_s (op_LL (callD (l := [.d (.int w), a, b]) (cons_v (var_v h0) (cons_v (var_v h1) (cons_v (var_v h2) nil_ok))) rfl k3) (callD (l := [.d (.int w), a', b']) (cons_v (var_v h0) (cons_v (var_v h3) (cons_v (var_v h4) nil_ok))) rfl k4) (gNe_two k1 k2))
end
end Q03
set_option maxHeartbeats 1000000
namespace Q03
open DN PySem L2
theorem od_non : Od .non := ⟨fun S => is_word_no (S := S) (a := .d .non) rfl rfl, fun S => law_is_word_no (S := S) (a := .d .non) rfl rfl, rfl, ⟨_, rfl⟩, .inr (.inl rfl), shN_lit (p := .none) rfl (by decide +kernel)⟩
theorem od_bl {b : Bool} : Od (.bl b) := ⟨fun S => is_word_no (S := S) (a := .d (.bl b)) rfl rfl, fun S => law_is_word_no (S := S) (a := .d (.bl b)) rfl rfl, rfl, ⟨_, rfl⟩, .inr (.inr ⟨b, rfl⟩), by
  cases b
  · exact shN_lit (p := .bool false) rfl (by decide +kernel)
  · exact shN_lit (p := .bool true) rfl (by decide +kernel)⟩
theorem od_int {i : Int} (h : ShN (.int i)) : Od (.int i) := ⟨fun S => is_word_no (S := S) (a := .d (.int i)) rfl rfl, fun S => law_is_word_no (S := S) (a := .d (.int i)) rfl rfl, rfl, ⟨_, rfl⟩, .inl ⟨i, rfl⟩, h⟩
theorem od_nat {k : Nat} (h : k < 1000) : Od (.int (k : Int)) := od_int (shN_nat h)
theorem od_pred {k : Nat} (h : k < 1000) : Od (.int ((k : Int) - 1)) := by
  cases k with
  | zero => exact od_int shN_m1
  | succ k =>
    rw [show (((k + 1 : Nat) : Int) - 1) = (k : Int) by omega]
    exact od_nat (by omega)
theorem od_str {s : Str} (h : isw s = false) (hl : s.length ≤ 100) (ha : Asc s.cps.toList) : Od (.str s) :=
  ⟨fun S => by rw [is_word_str hl, h], fun S => by rw [law_is_word_str hl (asc_ok ha), h], rfl, ⟨_, rfl⟩, .inr (.inl rfl), shN_str ha (by omega)⟩
theorem od_big : Od (.int (10 ^ 29)) := od_int (shN_lit (p := .int (10 ^ 29)) rfl (by decide +kernel))
theorem od_tup : Od (.tup [.str "0", .str "1"]) := ⟨fun S => is_word_no (S := S) (a := .d (.tup [.str "0", .str "1"])) rfl rfl, fun S => law_is_word_no (S := S) (a := .d (.tup [.str "0", .str "1"])) rfl rfl, rfl, ⟨_, rfl⟩, .inr (.inl rfl), shN_lit (p := .tuple [.str "0", .str "1"]) rfl (by decide +kernel)⟩
theorem od_dic : Od (.dic false [] []) := ⟨fun S => is_word_no (S := S) (a := .d (.dic false [] [])) rfl rfl, fun S => law_is_word_no (S := S) (a := .d (.dic false [] [])) rfl rfl, rfl, ⟨_, rfl⟩, .inr (.inl rfl), shN_lit (p := .dict []) rfl (by decide +kernel)⟩
def zs : Str := ⟨(List.replicate 61 48).toArray⟩
theorem zs_mul : gMul (.str "0") (.int 61) = vS zs := rfl
theorem od_2 : Od (.str "2") := od_str (by decide +kernel) (by decide) (asc_lit (by decide +kernel))
theorem od_0s : Od (.str "0 ") := od_str (by decide +kernel) (by decide) (asc_lit (by decide +kernel))
theorem od_zs : Od (.str zs) := od_str (by decide +kernel) (by decide) (asc_lit (by decide +kernel))
theorem wd_0 : Wd "" := ⟨by decide, fun c hc => by cases hc⟩
theorem wd_x : Wd "*" := ⟨by decide, fun c hc => by
  have : c ∈ [42] := hc
  rw [List.mem_singleton.mp this]
  decide⟩
/-- a thing of the law -/
def It (n1 n2 : Nat) (v : Vr) : Prop := (∃ s, v = .d (.str s) ∧ Wd s) ∨ (∃ d, v = .d d ∧ Od d) ∨ v = .r n1 ∨ v = .r n2
structure Rm (m q n1 n2 : Nat) (L : List Vr) (j : Nat) (S : Sto) : Prop where
  bx : ∃ c, S[m]? = some c ∧ Bx j c
  vl : S[q]? = some (.tab (.vl L))
  l1 : S[n1]? = some (.lst [.str "0"])
  l2 : S[n2]? = some (.lst [])
  nq : q ≠ m
  n1 : n1 ≠ m
  n2 : n2 ≠ m
section
variable {S S1 S2 T : Sto} {env : DN.Env} {fa fb fe : FE} {fl : FA} {m j n w q n1 n2 p i : Nat} {a b e v x y : Vr} {d c d1 d2 : Dv} {s t u : Str} {k : Cell} {L : List Vr}
theorem It.va (h : It n1 n2 v) (r : Rm m q n1 n2 L j S) : ∃ d, Va S v d := by
  rcases h with ⟨s, rfl, h⟩ | ⟨d, rfl, h⟩ | rfl | rfl
  · exact ⟨_, .wd s h⟩
  · exact ⟨_, .od d h⟩
  · exact ⟨_, .ls n1 _ r.l1 (.inl rfl)⟩
  · exact ⟨_, .ls n2 _ r.l2 (.inr rfl)⟩
theorem It.ref (h : It n1 n2 v) (hv : v = .r n) : n = n1 ∨ n = n2 := by
  rcases h with ⟨s, rfl, h⟩ | ⟨d, rfl, h⟩ | rfl | rfl
  · cases hv
  · cases hv
  · cases hv; exact .inl rfl
  · cases hv; exact .inr rfl
theorem It.sp (h : It n1 n2 a) (h2 : It n1 n2 b) (r : Rm m q n1 n2 L j S) : Sp S a b := fun n p l e1 e2 e3 e4 => by
  have hx : ∀ {l : List Dv}, S[n1]? = some (.lst l) → S[n2]? = some (.lst l) → False := fun {l} g1 g2 => by
    rw [r.l1] at g1
    rw [r.l2] at g2
    cases g1
    cases g2
  rcases h.ref e1 with rfl | rfl <;> rcases h2.ref e2 with rfl | rfl
  · rfl
  · exact (hx e3 e4).elim
  · exact (hx e4 e3).elim
  · rfl
theorem It.both (h : It n1 n2 a) (h2 : It n1 n2 b) (r : Rm m q n1 n2 L j S) (hw : w < 4) : Both S w a b a b := by
  obtain ⟨d1, v1⟩ := h.va r
  obtain ⟨d2, v2⟩ := h2.va r
  exact Q03.both hw v1 v2 (h.sp h2 r)
/-- a draw -/
theorem Rm.take (r : Rm m q n1 n2 L j S) (hj : j ≤ 1000000) (h0 : env[i]? = some (.v (.r m))) (hp : 0 < p) (hp2 : p < 1000000) : ∃ (d : Nat) (S' : Sto), d < p ∧ Rm m q n1 n2 L (j + 1) S' ∧ TK i p env S = .ok S' (.val (.d (.int d))) := by
  obtain ⟨c, h1, h2⟩ := r.bx
  have hm : m < S.length := (List.getElem?_eq_some_iff.mp h1).1
  obtain ⟨d, c', g1, g2, g3⟩ := tk_at (S := S) (env := env) (i := i) (q := p) hm h2 (by omega) h0 hp hp2
  rw [set_self h1] at g3
  exact ⟨d, S.set m c', g1, ⟨⟨c', List.getElem?_set_self hm, g2⟩, by rw [List.getElem?_set_ne (Ne.symm r.nq)]; exact r.vl, by rw [List.getElem?_set_ne (Ne.symm r.n1)]; exact r.l1, by rw [List.getElem?_set_ne (Ne.symm r.n2)]; exact r.l2, r.nq, r.n1, r.n2⟩, g3⟩
/-- an item drawn -/
theorem Rm.vx {z : Nat} (r : Rm m q n1 n2 L j S) (hj : j ≤ 1000000) (h0 : env[i]? = some (.v (.r m))) (h1 : env[z]? = some (.v (.r q))) (hL : L.length = 21) (hi : ∀ v ∈ L, It n1 n2 v) : ∃ (v : Vr) (S' : Sto), It n1 n2 v ∧ Rm m q n1 n2 L (j + 1) S' ∧ fVx z (TK i 21) env S = .ok S' (.val v) := by
  obtain ⟨d, S', g1, g2, g3⟩ := r.take (env := env) (i := i) (p := 21) hj h0 (by omega) (by omega)
  have hd : d < L.length := by omega
  exact ⟨L[d], S', hi _ (List.getElem_mem _), g2, vx_ok h1 g3 g2.vl (List.getElem?_eq_getElem hd)⟩
theorem pick_ok {l : List Vr} {z : Nat} (hl : l.length ≤ 1000) (h : fl env S = .ok S1 l) (hi : fe env S1 = .ok S2 (.val (.d (.int (z : Int))))) (hv : l[z]? = some v) : fPick fl fe env S = .ok S2 (.val v) := by
  unfold fPick
  rw [h]
  show (if l.length ≤ 100000 then (fe env S1).bindV fun S2 i => DN.pickR l S2 i else .no) = _
  rw [if_pos (by omega), hi]
  show DN.pickR l S2 (.d (.int z)) = _
  unfold DN.pickR
  have ha : atI l (z : Int) = some v := by
    have hk := (List.getElem?_eq_some_iff.mp hv).1
    unfold atI ixN
    rw [if_pos (by omega), if_pos (by omega)]
    exact hv
  simp only [ha]
abbrev EL (sc : Dv) (k m : Nat) (s t : Str) (q : Nat) (u6 u7 u8 u9 : Sl) : DN.Env := [.v (.d sc), .v (.d (.int k)), .v (.r m), .v (.d (.str s)), .v (.d (.str t)), .v (.r q), u6, u7, u8, u9]
abbrev IN4 : FS := (kFor (iRange1 (fCons (fC (.int (4 : Nat))) fNil)) (tgN 9)
      (kIf (kVal (fOp gNe (fCallD 3 D_law_caught (fCons (fVar 9) (fCons (fVar 7) (fCons (fVar 8) fNil)))) (fCallD 3 D_law_due (fCons (fVar 9) (fCons (fVar 7) (fCons (fVar 8) fNil)))))) (kRet (fC (.bl false))) kNext))
theorem in4_ok {sc : Dv} {k z : Nat} {u6 u9 : Sl} (ha : It n1 n2 a) (hb : It n1 n2 b) (r : Rm m z n1 n2 L j S) : ∃ u9', IN4 (EL sc k m s t q u6 (.v a) (.v b) u9) S = .nx (EL sc k m s t q u6 (.v a) (.v b) u9') S := by
  obtain ⟨env', S', e, ⟨u9', rfl⟩, rfl⟩ := for_rg (i := 9) (n := 4) (fl := fCons (fC (.int (4 : Nat))) fNil) (body := (kIf (kVal (fOp gNe (fCallD 3 D_law_caught (fCons (fVar 9) (fCons (fVar 7) (fCons (fVar 8) fNil)))) (fCallD 3 D_law_due (fCons (fVar 9) (fCons (fVar 7) (fCons (fVar 8) fNil)))))) (kRet (fC (.bl false))) kNext)) (env := EL sc k m s t q u6 (.v a) (.v b) u9) (S := S)
    (fun _ env T => (∃ u, env = EL sc k m s t q u6 (.v a) (.v b) u) ∧ T = S) rfl (by omega) ⟨⟨_, rfl⟩, rfl⟩ (fun w env T hw ⟨⟨u, hu⟩, hT⟩ => by
      subst hu
      subst hT
      exact ⟨EL sc k m s t q u6 (.v a) (.v b) (.v (.d (.int w))), T, if_no (ask_no (ha.both hb r hw) rfl rfl rfl rfl rfl) rfl, ⟨_, rfl⟩, rfl⟩)
  exact ⟨u9', e⟩
abbrev TURN : FS := (kSeq (kSet 7 (fPick (fCons (fVar 3) (fCons (fVar 4) (fCons (fVx 5 (TK 2 (21 : Nat))) fNil))) (TK 2 (3 : Nat))))
    (kSeq (kSet 8 (fPick (fCons (fVar 4) (fCons (fVar 3) (fCons (fVx 5 (TK 2 (21 : Nat))) (fCons (fVx 5 (TK 2 (21 : Nat))) fNil)))) (TK 2 (4 : Nat)))) IN4))
theorem turn_ok {sc : Dv} {k : Nat} {u6 u7 u8 u9 : Sl} (hs : Wd s) (ht : Wd t) (r : Rm m q n1 n2 L j S) (hj : j ≤ 100000) (hL : L.length = 21) (hi : ∀ v ∈ L, It n1 n2 v) :
    ∃ (S' : Sto) (u7' u8' u9' : Sl), TURN (EL sc k m s t q u6 u7 u8 u9) S = .nx (EL sc k m s t q u6 u7' u8' u9') S' ∧ Rm m q n1 n2 L (j + 5) S' := by
  have i1 : It n1 n2 (.d (.str s)) := .inl ⟨s, rfl, hs⟩
  have i2 : It n1 n2 (.d (.str t)) := .inl ⟨t, rfl, ht⟩
  obtain ⟨x1, T1, g1, r1, e1⟩ := r.vx (env := EL sc k m s t q u6 u7 u8 u9) (i := 2) (z := 5) (by omega) rfl rfl hL hi
  obtain ⟨d1, T2, h1, r2, e2⟩ := r1.take (env := EL sc k m s t q u6 u7 u8 u9) (i := 2) (p := 3) (by omega) rfl (by omega) (by omega)
  obtain ⟨a, ha, ga⟩ : ∃ a, It n1 n2 a ∧ ([.d (.str s), .d (.str t), x1] : List Vr)[d1]? = some a := by
    match d1, h1 with
    | 0, _ => exact ⟨_, i1, rfl⟩
    | 1, _ => exact ⟨_, i2, rfl⟩
    | 2, _ => exact ⟨_, g1, rfl⟩
  have p1 := pick_ok (env := EL sc k m s t q u6 u7 u8 u9) (fl := fCons (fVar 3) (fCons (fVar 4) (fCons (fVx 5 (TK 2 (21 : Nat))) fNil))) (fe := TK 2 (3 : Nat)) (l := [.d (.str s), .d (.str t), x1]) (by simp) (cons_v (var_v rfl) (cons_v (var_v rfl) (cons_v e1 nil_ok))) e2 ga
  obtain ⟨x2, T3, g2, r3, e3⟩ := r2.vx (env := EL sc k m s t q u6 (.v a) u8 u9) (i := 2) (z := 5) (by omega) rfl rfl hL hi
  obtain ⟨x3, T4, g3, r4, e4⟩ := r3.vx (env := EL sc k m s t q u6 (.v a) u8 u9) (i := 2) (z := 5) (by omega) rfl rfl hL hi
  obtain ⟨d2, T5, h2, r5, e5⟩ := r4.take (env := EL sc k m s t q u6 (.v a) u8 u9) (i := 2) (p := 4) (by omega) rfl (by omega) (by omega)
  obtain ⟨b, hb, gb⟩ : ∃ b, It n1 n2 b ∧ ([.d (.str t), .d (.str s), x2, x3] : List Vr)[d2]? = some b := by
    match d2, h2 with
    | 0, _ => exact ⟨_, i2, rfl⟩
    | 1, _ => exact ⟨_, i1, rfl⟩
    | 2, _ => exact ⟨_, g2, rfl⟩
    | 3, _ => exact ⟨_, g3, rfl⟩
  have p2 := pick_ok (env := EL sc k m s t q u6 (.v a) u8 u9) (fl := fCons (fVar 4) (fCons (fVar 3) (fCons (fVx 5 (TK 2 (21 : Nat))) (fCons (fVx 5 (TK 2 (21 : Nat))) fNil)))) (fe := TK 2 (4 : Nat)) (l := [.d (.str t), .d (.str s), x2, x3]) (by simp) (cons_v (var_v rfl) (cons_v (var_v rfl) (cons_v e3 (cons_v e4 nil_ok)))) e5 gb
  obtain ⟨u9', e6⟩ := in4_ok (sc := sc) (k := k) (s := s) (t := t) (q := q) (u6 := u6) (u9 := u9) ha hb r5
  exact ⟨T5, .v a, .v b, u9', seq_nx (st_set p1 rfl) (seq_nx (st_set p2 rfl) e6), r5⟩
abbrev IN2 : FS := (kSeq (kIf (kVal (fOp gNe (fCallD 3 D_law_caught (fCons (fVar 9) (fCons (fVar 3) (fCons (fVar 4) fNil)))) (fCallD 3 D_law_due (fCons (fVar 9) (fCons (fVar 3) (fCons (fVar 4) fNil)))))) (kRet (fC (.bl false))) kNext)
    (kIf (kAnd (kVal (fOp gEq (fCall gLen (fCons (fVar 3) fNil)) (fCall gLen (fCons (fVar 4) fNil)))) (kVal (fOp gNe (fCallD 3 D_law_caught (fCons (fVar 9) (fCons (fVar 4) (fCons (fVar 3) fNil)))) (fCallD 3 D_law_due (fCons (fVar 9) (fCons (fVar 3) (fCons (fVar 4) fNil))))))) (kRet (fC (.bl false))) kNext))
theorem in2_ok {sc : Dv} {k : Nat} {u6 u7 u8 : Sl} (hs : Wd s) (ht : Wd t) (r : Rm m q n1 n2 L j S) (hw : w < 2) : IN2 (EL sc k m s t q u6 u7 u8 (.v (.d (.int w)))) S = .nx (EL sc k m s t q u6 u7 u8 (.v (.d (.int w)))) S := by
  have i1 : It n1 n2 (.d (.str s)) := .inl ⟨s, rfl, hs⟩
  have i2 : It n1 n2 (.d (.str t)) := .inl ⟨t, rfl, ht⟩
  refine seq_nx (if_no (ask_no (i1.both i2 r (w := w) (by omega)) rfl rfl rfl rfl rfl) rfl) ?_
  have el : kVal (fOp gEq (fCall gLen (fCons (fVar 3) fNil)) (fCall gLen (fCons (fVar 4) fNil))) (EL sc k m s t q u6 u7 u8 (.v (.d (.int w)))) S = .ok S (decide (s.length = t.length)) :=
    val_s (op_ok (len_t rfl hs) (len_t rfl ht) (by rw [gEq_int]; congr 1; exact decide_eq_decide.mpr (by omega)))
  by_cases h : s.length = t.length
  · rw [decide_eq_true h] at el
    exact if_no (and_t el (ask_no (both_sw hs ht h (by omega)) rfl rfl rfl rfl rfl)) rfl
  · rw [decide_eq_false h] at el
    exact if_no (and_f el) rfl
end
end Q03
set_option maxHeartbeats 1000000
namespace Q03
open DN PySem L2
section
variable {S S1 S2 T : Sto} {env : DN.Env} {fa fb fe : FE} {fl : FA} {m j n w q n1 n2 p i : Nat} {a b e v x y : Vr} {d c d1 d2 : Dv} {s t u : Str} {k : Cell} {L : List Vr}
theorem gu {c k : Cell} (h : S[p]? = some k) : (S ++ [c])[p]? = some k := by
  rw [List.getElem?_append_left (List.getElem?_eq_some_iff.mp h).1]
  exact h
theorem gl {c : Cell} : (S ++ [c])[S.length]? = some c := by simp
abbrev K1 : FS := (kSetC 2 (fCallD 1 D_law_box (fCons (fCallD 2 D_law_cell_at (fCons (fVar 0) (fCons (fVar 1) fNil))) fNil)))
abbrev K2 : FS := (kAsg (tgTL (tgCons (tgN 3) (tgCons (tgN 4) tgNil))) (fCallD 1 D_law_words (fCons (fVar 2) fNil)))
abbrev K3 : FS := (kSetV 5 (fCons (fC .non) (fCons (fC (.bl true)) (fCons (fC (.bl false)) (fCons (fC (.int 0)) (fCons (fC (.int 1)) (fCons (fUn gNeg (fC (.int 1))) (fCons (fC (.str "2")) (fCons (fC (.str "0 ")) (fConsC (fLst (fCons (fC (.str "0")) fNil)) (fCons (fTup (fCons (fC (.str "0")) (fCons (fC (.str "1")) fNil))) fNil)))))))))))
abbrev K4 : FS := (kAddV 5 5 (fCons (fDNew false) (fConsC (fLst fNil) (fCons (fOp gMul (fC (.str "0")) (fC (.int 61))) (fCons (fOp gPow (fC (.int 10)) (fC (.int 29))) (fCons (fCall gLen (fCons (fVar 3) fNil)) (fCons (fOp gSub (fCall gLen (fCons (fVar 3) fNil)) (fC (.int 1))) fNil)))))))
abbrev K5 : FS := (kAddV 5 5 (fCons (fVar 3) (fCons (fVar 4) (fCons (fC (.str "")) (fCons (fC (.str "*")) (fCons (fOp gSub (TK 2 (62 : Nat)) (fC (.int 1))) fNil))))))
abbrev L1 (n : Nat) : List Vr := [.d .non, .d (.bl true), .d (.bl false), .d (.int 0), .d (.int 1), .d (.int (-1)), .d (.str "2"), .d (.str "0 "), .r n, .d (.tup [.str "0", .str "1"])]
abbrev L2' (n : Nat) (s : Str) : List Vr := [.d (.dic false [] []), .r n, .d (.str zs), .d (.int (10 ^ 29)), .d (.int s.length), .d (.int ((s.length : Int) - 1))]
abbrev L3 (s t : Str) (z : Nat) : List Vr := [.d (.str s), .d (.str t), .d (.str ""), .d (.str "*"), .d (.int ((z : Int) - 1))]
abbrev E0 (sc : Dv) (k : Nat) (u2 u3 u4 u5 u6 u7 u8 u9 : Sl) : DN.Env := [.v (.d sc), .v (.d (.int k)), u2, u3, u4, u5, u6, u7, u8, u9]
variable {ns : List Int} {k' : Nat} {u2 u3 u4 u5 u6 u7 u8 u9 : Sl} {sc : Dv}
theorem k1_ok (hn : ns.length ≤ 63) : ∃ c, Bx 0 c ∧ K1 (E0 (.scr ns) k' u2 u3 u4 u5 u6 u7 u8 u9) S = .nx (E0 (.scr ns) k' (.v (.r S.length)) u3 u4 u5 u6 u7 u8 u9) (S ++ [c]) := by
  obtain ⟨v, h1⟩ := cell_at_ok (k := k') (S := S) hn
  obtain ⟨c, h2, h3⟩ := box_ok (v := v) (S := S)
  have e1 : fCallD 2 D_law_cell_at (fCons (fVar 0) (fCons (fVar 1) fNil)) (E0 (.scr ns) k' u2 u3 u4 u5 u6 u7 u8 u9) S = .ok S (.val (.d (.int v))) := callD (l := [.d (.scr ns), .d (.int k')]) (cons_v (var_v rfl) (cons_v (var_v rfl) nil_ok)) rfl h1
  have e2 : fCallD 1 D_law_box (fCons (fCallD 2 D_law_cell_at (fCons (fVar 0) (fCons (fVar 1) fNil))) fNil) (E0 (.scr ns) k' u2 u3 u4 u5 u6 u7 u8 u9) S = .ok S (.new c) := callD (l := [.d (.int v)]) (cons_v e1 nil_ok) rfl h3
  refine ⟨c, h2, ?_⟩
  show kSetC 2 _ _ S = _
  unfold kSetC
  rw [e2]
  rfl
theorem k2_ok {c : Cell} (h : S[m]? = some c) (hB : Bx j c) (hj : j ≤ 1000000) : ∃ (s t : Str) (c' : Cell), Wd s ∧ Wd t ∧ Bx (j + 200) c' ∧ K2 (E0 sc k' (.v (.r m)) u3 u4 u5 u6 u7 u8 u9) S = .nx (E0 sc k' (.v (.r m)) (.v (.d (.str s))) (.v (.d (.str t))) u5 u6 u7 u8 u9) (S.set m c') := by
  obtain ⟨s, t, c', h1, h2, h3, h4⟩ := words_ok (S := S) (k := c) (List.getElem?_eq_some_iff.mp h).1 hB hj
  rw [set_self h] at h4
  refine ⟨s, t, c', h1, h2, h3, ?_⟩
  have e : fCallD 1 D_law_words (fCons (fVar 2) fNil) (E0 sc k' (.v (.r m)) u3 u4 u5 u6 u7 u8 u9) S = .ok (S.set m c') (.val (.d (.tup [.str s, .str t]))) := callD (l := [.r m]) (cons_v (var_v rfl) nil_ok) rfl h4
  show kAsg _ _ _ S = _
  unfold kAsg
  rw [e]
  rfl
theorem k3_ok : K3 env S = .nx (env.set 5 (.v (.r (S.length + 1)))) (S ++ [.lst [.str "0"]] ++ [.tab (.vl (L1 S.length))]) := by
  have e1 : fLst (fCons (fC (.str "0")) fNil) env S = .ok S (.new (.lst [.str "0"])) := lst_ok (cons_d c_ok nil_ok) rfl
  have e2 : fCons (fTup (fCons (fC (.str "0")) (fCons (fC (.str "1")) fNil))) fNil env (S ++ [.lst [.str "0"]]) = .ok (S ++ [.lst [.str "0"]]) [.d (.tup [.str "0", .str "1"])] := cons_d (tup_ok (cons_d c_ok (cons_d c_ok nil_ok)) rfl) nil_ok
  have e := setV_ok (i := 5) (l := L1 S.length) (cons_d (env := env) (S := S) (a := .non) c_ok (cons_d (a := .bl true) c_ok (cons_d (a := .bl false) c_ok (cons_d (a := .int 0) c_ok (cons_d (a := .int 1) c_ok (cons_d (fa := fUn gNeg (fC (.int 1))) (a := .int (-1)) rfl (cons_d (a := .str "2") c_ok (cons_d (a := .str "0 ") c_ok (consC_L e1 e2))))))))) (by simp)
  rw [List.length_append] at e
  exact e
theorem k4_ok (h5 : env[5]? = some (.v (.r q))) (h3 : env[3]? = some (.v (.d (.str s)))) (hs : Wd s) (hq : S[q]? = some (.tab (.vl L))) (hL : L.length ≤ 100) : K4 env S = .nx (env.set 5 (.v (.r (S.length + 1)))) (S ++ [.lst []] ++ [.tab (.vl (L ++ L2' S.length s))]) := by
  have el : ∀ T, fCall gLen (fCons (fVar 3) fNil) env T = .ok T (.val (.d (.int s.length))) := fun T => len_t h3 hs
  have e0 : fLst fNil env S = .ok S (.new (.lst [])) := lst_ok nil_ok rfl
  let T := S ++ [.lst []]
  have e1 : fOp gMul (fC (.str "0")) (fC (.int 61)) env T = .ok T (.val (.d (.str zs))) := op_ok (a := .str "0") (b := .int 61) c_ok c_ok zs_mul
  have e2 : fOp gPow (fC (.int 10)) (fC (.int 29)) env T = .ok T (.val (.d (.int (10 ^ 29)))) := op_ok (a := .int 10) (b := .int 29) c_ok c_ok rfl
  have e3 : fOp gSub (fCall gLen (fCons (fVar 3) fNil)) (fC (.int 1)) env T = .ok T (.val (.d (.int ((s.length : Int) - 1)))) := op_ok (a := .int s.length) (b := .int 1) (el T) c_ok (by rw [gSub_]; rfl)
  have ea : fCons (fDNew false) (fConsC (fLst fNil) (fCons (fOp gMul (fC (.str "0")) (fC (.int 61))) (fCons (fOp gPow (fC (.int 10)) (fC (.int 29))) (fCons (fCall gLen (fCons (fVar 3) fNil)) (fCons (fOp gSub (fCall gLen (fCons (fVar 3) fNil)) (fC (.int 1))) fNil))))) env S = .ok T (L2' S.length s) := by
    have k1 := consC_L e0 (cons_d e1 (cons_d e2 (cons_d (el T) (cons_d e3 nil_ok))))
    generalize fConsC (fLst fNil) _ = F at k1 ⊢
    unfold fCons
    show R.bindV (.ok S (.new (.dc false [] []))) _ = _
    rw [bindV_new (d := .dic false [] []) rfl, k1]
    rfl
  have e := addV_ok (i := 5) h5 ea (gu hq) (by simp; omega)
  rw [show T.length = S.length + 1 by simp [T]] at e
  exact e
theorem k5_ok {c : Cell} (h5 : env[5]? = some (.v (.r q))) (h3 : env[3]? = some (.v (.d (.str s)))) (h4 : env[4]? = some (.v (.d (.str t)))) (h2 : env[2]? = some (.v (.r m))) (hm : S[m]? = some c) (hB : Bx j c) (hj : j ≤ 1000000) (hqm : q ≠ m) (hq : S[q]? = some (.tab (.vl L))) (hL : L.length ≤ 100) : ∃ (z : Nat) (c' : Cell), z < 62 ∧ Bx (j + 1) c' ∧ K5 env S = .nx (env.set 5 (.v (.r S.length))) (S.set m c' ++ [.tab (.vl (L ++ L3 s t z))]) := by
  obtain ⟨z, c', g1, g2, g3⟩ := tk_at (S := S) (env := env) (i := 2) (q := 62) (List.getElem?_eq_some_iff.mp hm).1 hB (by omega) h2 (by omega) (by omega)
  rw [set_self hm] at g3
  refine ⟨z, c', g1, g2, ?_⟩
  have e3 : fOp gSub (TK 2 (62 : Nat)) (fC (.int 1)) env S = .ok (S.set m c') (.val (.d (.int ((z : Int) - 1)))) := op_S (a := .int z) (b := .int 1) g3 c_ok (by rw [gSub_]; rfl)
  have ea := cons_d (env := env) (S := S) (var_ok h3) (cons_d (var_ok h4) (cons_d (a := .str "") c_ok (cons_d (a := .str "*") c_ok (cons_d e3 nil_ok))))
  have hq' : (S.set m c')[q]? = some (.tab (.vl L)) := by rw [List.getElem?_set_ne (Ne.symm hqm)]; exact hq
  have e := addV_ok (i := 5) h5 ea hq' (by simp; omega)
  rw [show (S.set m c').length = S.length by simp] at e
  exact e
abbrev LL (n1 n2 : Nat) (s t : Str) (z : Nat) : List Vr := L1 n1 ++ L2' n2 s ++ L3 s t z
theorem ll_it {z : Nat} (hs : Wd s) (ht : Wd t) (hz : z < 62) : ∀ v ∈ LL n1 n2 s t z, It n1 n2 v := by
  have hl := hs.le
  intro v hv
  simp only [List.mem_append, List.mem_cons, List.not_mem_nil, or_false] at hv
  rcases hv with (hv | hv) | hv
  · rcases hv with rfl | rfl | rfl | rfl | rfl | rfl | rfl | rfl | rfl | rfl
    · exact .inr (.inl ⟨_, rfl, od_non⟩)
    · exact .inr (.inl ⟨_, rfl, od_bl⟩)
    · exact .inr (.inl ⟨_, rfl, od_bl⟩)
    · exact .inr (.inl ⟨_, rfl, od_nat (k := 0) (by omega)⟩)
    · exact .inr (.inl ⟨_, rfl, od_nat (k := 1) (by omega)⟩)
    · exact .inr (.inl ⟨_, rfl, od_int shN_m1⟩)
    · exact .inr (.inl ⟨_, rfl, od_2⟩)
    · exact .inr (.inl ⟨_, rfl, od_0s⟩)
    · exact .inr (.inr (.inl rfl))
    · exact .inr (.inl ⟨_, rfl, od_tup⟩)
  · rcases hv with rfl | rfl | rfl | rfl | rfl | rfl
    · exact .inr (.inl ⟨_, rfl, od_dic⟩)
    · exact .inr (.inr (.inr rfl))
    · exact .inr (.inl ⟨_, rfl, od_zs⟩)
    · exact .inr (.inl ⟨_, rfl, od_big⟩)
    · exact .inr (.inl ⟨_, rfl, od_nat (by omega)⟩)
    · exact .inr (.inl ⟨_, rfl, od_pred (by omega)⟩)
  · rcases hv with rfl | rfl | rfl | rfl | rfl
    · exact .inl ⟨_, rfl, hs⟩
    · exact .inl ⟨_, rfl, ht⟩
    · exact .inl ⟨_, rfl, wd_0⟩
    · exact .inl ⟨_, rfl, wd_x⟩
    · exact .inr (.inl ⟨_, rfl, od_pred (by omega)⟩)
abbrev LOOPS : FS := (kSeq (kFor (iRange1 (fCons (fC (.int (12 : Nat))) fNil)) (tgN 6) TURN)
    (kFor (iRange1 (fCons (fC (.int (2 : Nat))) fNil)) (tgN 6) (kFor (iRange1 (fCons (fC (.int (2 : Nat))) fNil)) (tgN 9) IN2)))
abbrev BD : FS := (kSeq K1 (kSeq K2 (kSeq K3 (kSeq K4 (kSeq K5 LOOPS)))))
theorem loops_ok (hs : Wd s) (ht : Wd t) (r : Rm m q n1 n2 L j S) (hj : j ≤ 1000) (hL : L.length = 21) (hi : ∀ v ∈ L, It n1 n2 v) :
    ∃ (S' : Sto) (u6' u7' u8' u9' : Sl), LOOPS (EL sc k' m s t q u6 u7 u8 u9) S = .nx (EL sc k' m s t q u6' u7' u8' u9') S' := by
  obtain ⟨env1, S1, e1, ⟨v6, v7, v8, v9, rfl⟩, j1, hj1, r1⟩ := for_rg (i := 6) (n := 12) (fl := fCons (fC (.int (12 : Nat))) fNil) (body := TURN) (env := EL sc k' m s t q u6 u7 u8 u9) (S := S)
    (fun z env T => (∃ u6 u7 u8 u9, env = EL sc k' m s t q u6 u7 u8 u9) ∧ ∃ j, j ≤ 1000 + 5 * z ∧ Rm m q n1 n2 L j T) rfl (by omega) ⟨⟨_, _, _, _, rfl⟩, j, by omega, r⟩ (fun z env T hz ⟨⟨v6, v7, v8, v9, he⟩, j, hj, r⟩ => by
      subst he
      obtain ⟨T', w7, w8, w9, e, r'⟩ := turn_ok (sc := sc) (k := k') (u6 := .v (.d (.int z))) (u7 := v7) (u8 := v8) (u9 := v9) hs ht r (by omega) hL hi
      exact ⟨_, T', e, ⟨_, _, _, _, rfl⟩, j + 5, by omega, r'⟩)
  obtain ⟨env2, S2, e2, ⟨x6, x7, x8, x9, rfl⟩, rfl⟩ := for_rg (i := 6) (n := 2) (fl := fCons (fC (.int (2 : Nat))) fNil) (body := (kFor (iRange1 (fCons (fC (.int (2 : Nat))) fNil)) (tgN 9) IN2)) (env := EL sc k' m s t q v6 v7 v8 v9) (S := S1)
    (fun z env T => (∃ u6 u7 u8 u9, env = EL sc k' m s t q u6 u7 u8 u9) ∧ T = S1) rfl (by omega) ⟨⟨_, _, _, _, rfl⟩, rfl⟩ (fun z env T hz ⟨⟨v6, v7, v8, v9, he⟩, hT⟩ => by
      subst he
      subst hT
      obtain ⟨env3, S3, e3, ⟨y9, rfl⟩, rfl⟩ := for_rg (i := 9) (n := 2) (fl := fCons (fC (.int (2 : Nat))) fNil) (body := IN2) (env := EL sc k' m s t q (.v (.d (.int z))) v7 v8 v9) (S := T)
        (fun w env U => (∃ u9, env = EL sc k' m s t q (.v (.d (.int z))) v7 v8 u9) ∧ U = T) rfl (by omega) ⟨⟨_, rfl⟩, rfl⟩ (fun w env U hw ⟨⟨v9, he⟩, hU⟩ => by
          subst he
          subst hU
          exact ⟨_, _, in2_ok hs ht r1 hw, ⟨_, rfl⟩, rfl⟩)
      exact ⟨_, _, e3, ⟨_, _, _, _, rfl⟩, rfl⟩)
  exact ⟨S2, x6, x7, x8, x9, seq_nx e1 e2⟩
theorem body_ok (hn : ns.length ≤ 63) : ∃ (S' : Sto) (r' : DN.Env), r'.length = 9 ∧ BD (E0 (.scr ns) k' u2 u3 u4 u5 u6 u7 u8 u9) S = .nx (.v (.d (.scr ns)) :: r') S' := by
  obtain ⟨c0, b0, e1⟩ := k1_ok (S := S) (k' := k') (u2 := u2) (u3 := u3) (u4 := u4) (u5 := u5) (u6 := u6) (u7 := u7) (u8 := u8) (u9 := u9) hn
  obtain ⟨s, t, c1, hs, ht, b1, e2⟩ := k2_ok (S := S ++ [c0]) (m := S.length) (j := 0) (sc := .scr ns) (k' := k') (u3 := u3) (u4 := u4) (u5 := u5) (u6 := u6) (u7 := u7) (u8 := u8) (u9 := u9) gl b0 (by omega)
  have hU : ∃ U : Sto, U = (S ++ [c0]).set S.length c1 ∧ U.length = S.length + 1 ∧ U[S.length]? = some c1 := ⟨_, rfl, by simp, List.getElem?_set_self (by simp)⟩
  obtain ⟨U, hU1, hU2, hU3⟩ := hU
  rw [← hU1] at e2
  have e3 := k3_ok (env := E0 (.scr ns) k' (.v (.r S.length)) (.v (.d (.str s))) (.v (.d (.str t))) u5 u6 u7 u8 u9) (S := U)
  have hV : ∃ V : Sto, V = U ++ [.lst [.str "0"]] ++ [.tab (.vl (L1 U.length))] ∧ V.length = U.length + 2 ∧ V[S.length]? = some c1 ∧ V[U.length]? = some (.lst [.str "0"]) ∧ V[U.length + 1]? = some (.tab (.vl (L1 U.length))) :=
    ⟨_, rfl, by simp, gu (gu hU3), gu gl, by
      have := gl (S := U ++ [.lst [.str "0"]]) (c := .tab (.vl (L1 U.length)))
      rw [List.length_append] at this
      exact this⟩
  obtain ⟨V, hV1, hV2, hV3, hV4, hV5⟩ := hV
  rw [← hV1] at e3
  have e4 := k4_ok (env := E0 (.scr ns) k' (.v (.r S.length)) (.v (.d (.str s))) (.v (.d (.str t))) (.v (.r (U.length + 1))) u6 u7 u8 u9) (S := V) rfl rfl hs hV5 (by simp)
  have hW : ∃ W : Sto, W = V ++ [.lst []] ++ [.tab (.vl (L1 U.length ++ L2' V.length s))] ∧ W.length = V.length + 2 ∧ W[S.length]? = some c1 ∧ W[U.length]? = some (.lst [.str "0"]) ∧ W[V.length]? = some (.lst []) ∧ W[V.length + 1]? = some (.tab (.vl (L1 U.length ++ L2' V.length s))) :=
    ⟨_, rfl, by simp, gu (gu hV3), gu (gu hV4), gu gl, by
      have := gl (S := V ++ [.lst []]) (c := .tab (.vl (L1 U.length ++ L2' V.length s)))
      rw [List.length_append] at this
      exact this⟩
  obtain ⟨W, hW1, hW2, hW3, hW4, hW5, hW6⟩ := hW
  rw [← hW1] at e4
  obtain ⟨z, c2, hz, b2, e5⟩ := k5_ok (env := E0 (.scr ns) k' (.v (.r S.length)) (.v (.d (.str s))) (.v (.d (.str t))) (.v (.r (V.length + 1))) u6 u7 u8 u9) (S := W) rfl rfl rfl rfl hW3 b1 (by omega) (by omega) hW6 (by simp)
  have hlt : S.length < W.length := by omega
  have r : Rm S.length W.length U.length V.length (LL U.length V.length s t z) (0 + 200 + 1) (W.set S.length c2 ++ [.tab (.vl (LL U.length V.length s t z))]) :=
    ⟨⟨c2, gu (List.getElem?_set_self hlt), b2⟩, by
      have := gl (S := W.set S.length c2) (c := .tab (.vl (LL U.length V.length s t z)))
      rw [List.length_set] at this
      exact this, gu (by rw [List.getElem?_set_ne (by omega)]; exact hW4), gu (by rw [List.getElem?_set_ne (by omega)]; exact hW5), by omega, by omega, by omega⟩
  obtain ⟨S', v6, v7, v8, v9, e6⟩ := loops_ok (sc := .scr ns) (k' := k') (u6 := u6) (u7 := u7) (u8 := u8) (u9 := u9) hs ht r (by omega) (by simp) (ll_it hs ht hz)
  exact ⟨S', _, by rfl, seq_nx e1 (seq_nx e2 (seq_nx e3 (seq_nx e4 (seq_nx e5 e6))))⟩
end
end Q03
namespace Q03
open DN PySem L2
theorem b_law : B_law = kSeq (kFor (iRange1 (fCons (fCall gMax (fCons (fC (.int 2)) (fCons (fCall gMin (fCons (fC (.int 8)) (fCons (fCall gLen (fCons (fVar 0) fNil)) fNil))) fNil))) fNil)) (tgN 1) BD) (kRet (fC (.bl true))) := rfl
theorem law_true (ns : List Int) (hn : ns.length ≤ 63) : ∃ S, D_law [.d (.scr ns)] [] = .ok S (.val (.d (.bl true))) := by
  have hm : ∃ m : Nat, m ≤ 8 ∧ fCons (fCall gMax (fCons (fC (.int 2)) (fCons (fCall gMin (fCons (fC (.int 8)) (fCons (fCall gLen (fCons (fVar 0) fNil)) fNil))) fNil))) fNil [.v (.d (.scr ns)), .u, .u, .u, .u, .u, .u, .u, .u, .u] [] = .ok [] [.d (.int m)] := by
    refine ⟨max 2 (min 8 ns.length), by omega, ?_⟩
    simp_arith [gLen_scr, gMin2_, gMin2, gMax2_, gMax2]
    congr 4
    split <;> split <;> omega
  obtain ⟨m, hm6, em⟩ := hm
  obtain ⟨env', S', e, r', hr', rfl⟩ := for_rg (i := 1) (n := m) (body := BD) (S := []) (fun _ env S => ∃ r', r'.length = 9 ∧ env = .v (.d (.scr ns)) :: r') em (by omega) ⟨_, rfl, rfl⟩ (fun t env S ht hI => by
    obtain ⟨r', hr', rfl⟩ := hI
    match r', hr' with
    | [v1, v2, v3, v4, v5, v6, v7, v8, v9], _ =>
      obtain ⟨S2, r2, hr2, e2⟩ := body_ok (S := S) (k' := t) (u2 := v2) (u3 := v3) (u4 := v4) (u5 := v5) (u6 := v6) (u7 := v7) (u8 := v8) (u9 := v9) hn
      exact ⟨_, S2, e2, r2, hr2, rfl⟩)
  refine ⟨[], ?_⟩
  unfold D_law defD
  show exitR 0 (outS (B_law [.v (.d (.scr ns)), .u, .u, .u, .u, .u, .u, .u, .u, .u] [])) = _
  rw [b_law, seq_nx e (ret_ok c_ok)]
  rfl
end Q03
namespace Q03
open PySem PySem.Spec PyProof.Rows L2 OP Evl DN
theorem all_mk {w : World} {K : PySem.W.Frag} {h : Heap} {mg : Str → Option Value} {fa : Addr} (X : K.In h) (G : h.Ns mainGlobals mg) (hfa : mg "law" = some (.ref fa))
    {f1 : Addr} {od1 an1 : Option Addr} {sl1 : Array (Option Value)} {oc1 kV1 dc1 pm1 cd1 ct1 : Value}
    {f2 : Addr} {od2 an2 : Option Addr} {sl2 : Array (Option Value)} {oc2 kV2 dc2 pm2 cd2 ct2 : Value}
    {f3 : Addr} {od3 an3 : Option Addr} {sl3 : Array (Option Value)} {oc3 kV3 dc3 pm3 cd3 ct3 : Value}
    {f4 : Addr} {od4 an4 : Option Addr} {sl4 : Array (Option Value)} {oc4 kV4 dc4 pm4 cd4 ct4 : Value}
    {f5 : Addr} {od5 an5 : Option Addr} {sl5 : Array (Option Value)} {oc5 kV5 dc5 pm5 cd5 ct5 : Value}
    {f6 : Addr} {od6 an6 : Option Addr} {sl6 : Array (Option Value)} {oc6 kV6 dc6 pm6 cd6 ct6 : Value}
    {f7 : Addr} {od7 an7 : Option Addr} {sl7 : Array (Option Value)} {oc7 kV7 dc7 pm7 cd7 ct7 : Value}
    {f8 : Addr} {od8 an8 : Option Addr} {sl8 : Array (Option Value)} {oc8 kV8 dc8 pm8 cd8 ct8 : Value}
    {f9 : Addr} {od9 an9 : Option Addr} {sl9 : Array (Option Value)} {oc9 kV9 dc9 pm9 cd9 ct9 : Value}
    {f10 : Addr} {od10 an10 : Option Addr} {sl10 : Array (Option Value)} {oc10 kV10 dc10 pm10 cd10 ct10 : Value}
    {f11 : Addr} {od11 an11 : Option Addr} {sl11 : Array (Option Value)} {oc11 kV11 dc11 pm11 cd11 ct11 : Value}
    {f12 : Addr} {od12 an12 : Option Addr} {sl12 : Array (Option Value)} {oc12 kV12 dc12 pm12 cd12 ct12 : Value}
    {f13 : Addr} {od13 an13 : Option Addr} {sl13 : Array (Option Value)} {oc13 kV13 dc13 pm13 cd13 ct13 : Value}
    {f14 : Addr} {od14 an14 : Option Addr} {sl14 : Array (Option Value)} {oc14 kV14 dc14 pm14 cd14 ct14 : Value}
    {f15 : Addr} {od15 an15 : Option Addr} {sl15 : Array (Option Value)} {oc15 kV15 dc15 pm15 cd15 ct15 : Value}
    {f16 : Addr} {od16 an16 : Option Addr} {sl16 : Array (Option Value)} {oc16 kV16 dc16 pm16 cd16 ct16 : Value}
    {t0 : Tok}
    {t1 : Tok}
    {t3 : Tok} {ka_FLIPPED : Addr} {ke_FLIPPED : Array DictEntry} {kn_FLIPPED : Nat} {kt_FLIPPED_0 kt_FLIPPED_1 kt_FLIPPED_2 : Tok} {D0 fI cc cda : Addr} {cl0 ccl0 ocI kVI dcI pmI ctI : Value} {cld0 cdd0 odI anI : Option Addr} {csl0 ccs0 slI : Array (Option Value)} {cvs0 : Array Value} {file0 : Str} {tf0 : Tok} {cdD0 : ClassData}
    {C_x0 N_x0 : Addr} {nm_x0 q_x0 : Str} {bs_x0 bm_x0 sub_x0 : List Value} {sn_x0 : List Str} {ab_x0 : Bool} {col_x0 : Option Bool} {dd_x0 : Option Addr} {k0_x0 k1_x0 k2_x0 k3_x0 k5_x0 : Option Value}
    {C_x1 N_x1 : Addr} {nm_x1 q_x1 : Str} {bs_x1 bm_x1 sub_x1 : List Value} {sn_x1 : List Str} {ab_x1 : Bool} {col_x1 : Option Bool} {dd_x1 : Option Addr} {k0_x1 k1_x1 k2_x1 k3_x1 k5_x1 : Option Value}
    {C_x2 N_x2 : Addr} {nm_x2 q_x2 : Str} {bs_x2 bm_x2 sub_x2 : List Value} {sn_x2 : List Str} {ab_x2 : Bool} {col_x2 : Option Bool} {dd_x2 : Option Addr} {k0_x2 k1_x2 k2_x2 k3_x2 k5_x2 : Option Value}
    (a1 : PySem.W.nsIn K mainGlobals "_law_box" = some (some (.ref f1)))
    (l1 : K.lookup f1 = some ⟨oc1, od1, .func (PySem.W.fnOf "_law_box" "_law_box" (defArgs s_law_box) (defBody s_law_box) (defScope s_law_box) .none kV1 dc1 pm1 an1 cd1 ct1), sl1⟩)
    (c1 : PySem.W.codeIn K cd1 "_law_box" = true)
    (k1 : PySem.W.keepIn K (.ref f1) = true)
    (a2 : PySem.W.nsIn K mainGlobals "_law_take" = some (some (.ref f2)))
    (l2 : K.lookup f2 = some ⟨oc2, od2, .func (PySem.W.fnOf "_law_take" "_law_take" (defArgs s_law_take) (defBody s_law_take) (defScope s_law_take) .none kV2 dc2 pm2 an2 cd2 ct2), sl2⟩)
    (c2 : PySem.W.codeIn K cd2 "_law_take" = true)
    (k2 : PySem.W.keepIn K (.ref f2) = true)
    (a3 : PySem.W.nsIn K mainGlobals "_law_words" = some (some (.ref f3)))
    (l3 : K.lookup f3 = some ⟨oc3, od3, .func (PySem.W.fnOf "_law_words" "_law_words" (defArgs s_law_words) (defBody s_law_words) (defScope s_law_words) .none kV3 dc3 pm3 an3 cd3 ct3), sl3⟩)
    (c3 : PySem.W.codeIn K cd3 "_law_words" = true)
    (k3 : PySem.W.keepIn K (.ref f3) = true)
    (a4 : PySem.W.nsIn K mainGlobals "_law_cell_at" = some (some (.ref f4)))
    (l4 : K.lookup f4 = some ⟨oc4, od4, .func (PySem.W.fnOf "_law_cell_at" "_law_cell_at" (defArgs s_law_cell_at) (defBody s_law_cell_at) (defScope s_law_cell_at) .none kV4 dc4 pm4 an4 cd4 ct4), sl4⟩)
    (c4 : PySem.W.codeIn K cd4 "_law_cell_at" = true)
    (k4 : PySem.W.keepIn K (.ref f4) = true)
    (a5 : PySem.W.nsIn K mainGlobals "_law_very" = some (some (.ref f5)))
    (l5 : K.lookup f5 = some ⟨oc5, od5, .func (PySem.W.fnOf "_law_very" "_law_very" (defArgs s_law_very) (defBody s_law_very) (defScope s_law_very) .none kV5 dc5 pm5 an5 cd5 ct5), sl5⟩)
    (c5 : PySem.W.codeIn K cd5 "_law_very" = true)
    (k5 : PySem.W.keepIn K (.ref f5) = true)
    (a6 : PySem.W.nsIn K mainGlobals "is_word" = some (some (.ref f6)))
    (l6 : K.lookup f6 = some ⟨oc6, od6, .func (PySem.W.fnOf "is_word" "is_word" (defArgs s_is_word) (defBody s_is_word) (defScope s_is_word) .none kV6 dc6 pm6 an6 cd6 ct6), sl6⟩)
    (c6 : PySem.W.codeIn K cd6 "is_word" = true)
    (k6 : PySem.W.keepIn K (.ref f6) = true)
    (a7 : PySem.W.nsIn K mainGlobals "check_word" = some (some (.ref f7)))
    (l7 : K.lookup f7 = some ⟨oc7, od7, .func (PySem.W.fnOf "check_word" "check_word" (defArgs s_check_word) (defBody s_check_word) (defScope s_check_word) .none kV7 dc7 pm7 an7 cd7 ct7), sl7⟩)
    (c7 : PySem.W.codeIn K cd7 "check_word" = true)
    (k7 : PySem.W.keepIn K (.ref f7) = true)
    (a8 : PySem.W.nsIn K mainGlobals "differing" = some (some (.ref f8)))
    (l8 : K.lookup f8 = some ⟨oc8, od8, .func (PySem.W.fnOf "differing" "differing" (defArgs s_differing) (defBody s_differing) (defScope s_differing) .none kV8 dc8 pm8 an8 cd8 ct8), sl8⟩)
    (c8 : PySem.W.codeIn K cd8 "differing" = true)
    (k8 : PySem.W.keepIn K (.ref f8) = true)
    (a9 : PySem.W.nsIn K mainGlobals "apart" = some (some (.ref f9)))
    (l9 : K.lookup f9 = some ⟨oc9, od9, .func (PySem.W.fnOf "apart" "apart" (defArgs s_apart) (defBody s_apart) (defScope s_apart) .none kV9 dc9 pm9 an9 cd9 ct9), sl9⟩)
    (c9 : PySem.W.codeIn K cd9 "apart" = true)
    (k9 : PySem.W.keepIn K (.ref f9) = true)
    (a10 : PySem.W.nsIn K mainGlobals "flipped" = some (some (.ref f10)))
    (l10 : K.lookup f10 = some ⟨oc10, od10, .func (PySem.W.fnOf "flipped" "flipped" (defArgs s_flipped) (defBody s_flipped) (defScope s_flipped) .none kV10 dc10 pm10 an10 cd10 ct10), sl10⟩)
    (c10 : PySem.W.codeIn K cd10 "flipped" = true)
    (k10 : PySem.W.keepIn K (.ref f10) = true)
    (a11 : PySem.W.nsIn K mainGlobals "is_integer" = some (some (.ref f11)))
    (l11 : K.lookup f11 = some ⟨oc11, od11, .func (PySem.W.fnOf "is_integer" "is_integer" (defArgs s_is_integer) (defBody s_is_integer) (defScope s_is_integer) .none kV11 dc11 pm11 an11 cd11 ct11), sl11⟩)
    (c11 : PySem.W.codeIn K cd11 "is_integer" = true)
    (k11 : PySem.W.keepIn K (.ref f11) = true)
    (a12 : PySem.W.nsIn K mainGlobals "opened" = some (some (.ref f12)))
    (l12 : K.lookup f12 = some ⟨oc12, od12, .func (PySem.W.fnOf "opened" "opened" (defArgs s_opened) (defBody s_opened) (defScope s_opened) .none kV12 dc12 pm12 an12 cd12 ct12), sl12⟩)
    (c12 : PySem.W.codeIn K cd12 "opened" = true)
    (k12 : PySem.W.keepIn K (.ref f12) = true)
    (a13 : PySem.W.nsIn K mainGlobals "_law_caught" = some (some (.ref f13)))
    (l13 : K.lookup f13 = some ⟨oc13, od13, .func (PySem.W.fnOf "_law_caught" "_law_caught" (defArgs s_law_caught) (defBody s_law_caught) (defScope s_law_caught) .none kV13 dc13 pm13 an13 cd13 ct13), sl13⟩)
    (c13 : PySem.W.codeIn K cd13 "_law_caught" = true)
    (k13 : PySem.W.keepIn K (.ref f13) = true)
    (a14 : PySem.W.nsIn K mainGlobals "_law_is_word" = some (some (.ref f14)))
    (l14 : K.lookup f14 = some ⟨oc14, od14, .func (PySem.W.fnOf "_law_is_word" "_law_is_word" (defArgs s_law_is_word) (defBody s_law_is_word) (defScope s_law_is_word) .none kV14 dc14 pm14 an14 cd14 ct14), sl14⟩)
    (c14 : PySem.W.codeIn K cd14 "_law_is_word" = true)
    (k14 : PySem.W.keepIn K (.ref f14) = true)
    (a15 : PySem.W.nsIn K mainGlobals "_law_due" = some (some (.ref f15)))
    (l15 : K.lookup f15 = some ⟨oc15, od15, .func (PySem.W.fnOf "_law_due" "_law_due" (defArgs s_law_due) (defBody s_law_due) (defScope s_law_due) .none kV15 dc15 pm15 an15 cd15 ct15), sl15⟩)
    (c15 : PySem.W.codeIn K cd15 "_law_due" = true)
    (k15 : PySem.W.keepIn K (.ref f15) = true)
    (a16 : PySem.W.nsIn K mainGlobals "law" = some (some (.ref f16)))
    (l16 : K.lookup f16 = some ⟨oc16, od16, .func (PySem.W.fnOf "law" "law" (defArgs s_law) (defBody s_law) (defScope s_law) .none kV16 dc16 pm16 an16 cd16 ct16), sl16⟩)
    (c16 : PySem.W.codeIn K cd16 "law" = true)
    (k16 : PySem.W.keepIn K (.ref f16) = true)
    (z0 : PySem.W.nsIn K mainGlobals "max" = some none)
    (z1 : PySem.W.nsIn K mainGlobals "range" = some none)
    (z2 : PySem.W.nsIn K mainGlobals "len" = some none)
    (z3 : PySem.W.nsIn K mainGlobals "repr" = some none)
    (z4 : PySem.W.nsIn K mainGlobals "isinstance" = some none)
    (z5 : PySem.W.nsIn K mainGlobals "list" = some none)
    (z6 : PySem.W.nsIn K mainGlobals "str" = some none)
    (z7 : PySem.W.nsIn K mainGlobals "all" = some none)
    (z8 : PySem.W.nsIn K mainGlobals "enumerate" = some none)
    (z9 : PySem.W.nsIn K mainGlobals "zip" = some none)
    (z10 : PySem.W.nsIn K mainGlobals "int" = some none)
    (z11 : PySem.W.nsIn K mainGlobals "bool" = some none)
    (z12 : PySem.W.nsIn K mainGlobals "min" = some none)
    (cst0 : PySem.W.nsIn K mainGlobals "MOST_SIGNS" = some (some (.int 60 t0)))
    (cst1 : PySem.W.nsIn K mainGlobals "SIGNS" = some (some (.str "01*" t1)))
    (cst3 : PySem.W.nsIn K mainGlobals "OPEN" = some (some (.str "*" t3)))
    (kg_FLIPPED : PySem.W.nsIn K mainGlobals "FLIPPED" = some (some (.ref ka_FLIPPED)))
    (kl_FLIPPED : K.lookup ka_FLIPPED = some ⟨.type "dict", none, .dict ke_FLIPPED kn_FLIPPED, #[]⟩)
    (kk_FLIPPED : PySem.W.KeysLit w.params ke_FLIPPED.toList)
    (kv_FLIPPED_0 : PySem.W.nsIn K ka_FLIPPED "0" = some (some (.str "1" kt_FLIPPED_0)))
    (kv_FLIPPED_1 : PySem.W.nsIn K ka_FLIPPED "1" = some (some (.str "0" kt_FLIPPED_1)))
    (kv_FLIPPED_2 : PySem.W.nsIn K ka_FLIPPED "*" = some (some (.str "*" kt_FLIPPED_2)))
    (D0a : PySem.W.nsIn K mainGlobals "OpenpostsError" = some (some (.ref D0)))
    (D0b : PySem.W.findIn K (.ref D0) "__init__" = some (some (.ref fI)))
    (D0l : K.lookup fI = some ⟨ocI, odI, .func (PySem.W.ksFn "__init__" "OpenpostsError.__init__" (defArgs s_init) (defBody s_init) (defScope s_init) .none kVI dcI pmI anI (.ref cda) ctI cc), slI⟩)
    (D0c : PySem.W.codeIn K (.ref cda) "OpenpostsError.__init__" = true)
    (D0t : PySem.W.typeIn K (.ref fI) = some (.type "function"))
    (D0e : K.lookup cc = some ⟨cl0, cld0, .cell (some (.ref D0)), csl0⟩)
    (D0f : K.lookup cda = some ⟨ccl0, cdd0, .fields cvs0, ccs0⟩)
    (D0g : cvs0[2]? = some (.str file0 tf0))
    (D0h : ((PP.main.file : Str) == file0) = true)
    (D0i : PySem.W.clsIn K D0 = some cdD0)
    (D0o : PySem.W.nsIn K cStatics "thirdparty.any" = some none)
    (D0s : PySem.W.nsIn K mainGlobals "super" = some none)
    (x0a : PySem.W.nsIn K mainGlobals "InvalidWord" = some (some (.ref C_x0)))
    (x0b : K.lookup C_x0 = some (excClassObj nm_x0 q_x0 C_x0 N_x0 bs_x0 bm_x0 true sn_x0 sub_x0 ab_x0 col_x0 dd_x0 k0_x0 k1_x0 k2_x0 k3_x0 k5_x0 "ValueError.__new__"))
    (x0c : PySem.HandSPX.refsVE bm_x0 = true)
    (x0d : PySem.W.findIn K (.ref C_x0) "__setattr__" = some (some (.builtin "object.__setattr__")))
    (x0e : PySem.W.subIn K (.ref C_x0) (.type "BaseException") = some true)
    (x0f : PySem.W.typeIn K (.ref C_x0) = some (.type "type"))
    (x0g : PySem.W.keepIn K (.ref C_x0) = true)
    (x0h : PySem.W.mroIn K C_x0 (.ref D0) = some true)
    (x0i : PySem.W.ks_superIn K C_x0 D0 "__init__" = some (some (.builtin "ValueError.__init__")))
    (x0j : PySem.W.subIn K (.ref C_x0) (.type "ValueError") = some true)
    (x0k : PySem.W.findIn K (.ref C_x0) "value" = some none)
    (x0l : PySem.W.findIn K (.ref C_x0) "__getattribute__" = some (some (.builtin "BaseException.__getattribute__")))
    (x0m : PySem.W.findIn K (.ref C_x0) "__getattr__" = some none)
    (x0n : PySem.W.hasDictIn K C_x0 = true)
    (x0o : PySem.W.findIn K (.ref C_x0) "__class__" = some (some (.builtin "object.__class__")))
    (x0p : PySem.W.specialIn K (.builtin "object.__class__") "__get__" = some (some (.builtin "getset_descriptor.__get__")))
    (x0q : PySem.W.takesIn K (.builtin "object.__class__") = some true)
    (x0r : PySem.W.mroIn K C_x0 (.type "object") = some true)
    (x0s : PySem.W.findIn K (.ref C_x0) "__init__" = some (some (.ref fI)))
    (x1a : PySem.W.nsIn K mainGlobals "UnlikeLengths" = some (some (.ref C_x1)))
    (x1b : K.lookup C_x1 = some (excClassObj nm_x1 q_x1 C_x1 N_x1 bs_x1 bm_x1 true sn_x1 sub_x1 ab_x1 col_x1 dd_x1 k0_x1 k1_x1 k2_x1 k3_x1 k5_x1 "ValueError.__new__"))
    (x1c : PySem.HandSPX.refsVE bm_x1 = true)
    (x1d : PySem.W.findIn K (.ref C_x1) "__setattr__" = some (some (.builtin "object.__setattr__")))
    (x1e : PySem.W.subIn K (.ref C_x1) (.type "BaseException") = some true)
    (x1f : PySem.W.typeIn K (.ref C_x1) = some (.type "type"))
    (x1g : PySem.W.keepIn K (.ref C_x1) = true)
    (x1h : PySem.W.mroIn K C_x1 (.ref D0) = some true)
    (x1i : PySem.W.ks_superIn K C_x1 D0 "__init__" = some (some (.builtin "ValueError.__init__")))
    (x1j : PySem.W.subIn K (.ref C_x1) (.type "ValueError") = some true)
    (x1k : PySem.W.findIn K (.ref C_x1) "value" = some none)
    (x1l : PySem.W.findIn K (.ref C_x1) "__getattribute__" = some (some (.builtin "BaseException.__getattribute__")))
    (x1m : PySem.W.findIn K (.ref C_x1) "__getattr__" = some none)
    (x1n : PySem.W.hasDictIn K C_x1 = true)
    (x1o : PySem.W.findIn K (.ref C_x1) "__class__" = some (some (.builtin "object.__class__")))
    (x1p : PySem.W.specialIn K (.builtin "object.__class__") "__get__" = some (some (.builtin "getset_descriptor.__get__")))
    (x1q : PySem.W.takesIn K (.builtin "object.__class__") = some true)
    (x1r : PySem.W.mroIn K C_x1 (.type "object") = some true)
    (x1s : PySem.W.findIn K (.ref C_x1) "__init__" = some (some (.ref fI)))
    (x2a : PySem.W.nsIn K mainGlobals "InvalidPlace" = some (some (.ref C_x2)))
    (x2b : K.lookup C_x2 = some (excClassObj nm_x2 q_x2 C_x2 N_x2 bs_x2 bm_x2 true sn_x2 sub_x2 ab_x2 col_x2 dd_x2 k0_x2 k1_x2 k2_x2 k3_x2 k5_x2 "ValueError.__new__"))
    (x2c : PySem.HandSPX.refsVE bm_x2 = true)
    (x2d : PySem.W.findIn K (.ref C_x2) "__setattr__" = some (some (.builtin "object.__setattr__")))
    (x2e : PySem.W.subIn K (.ref C_x2) (.type "BaseException") = some true)
    (x2f : PySem.W.typeIn K (.ref C_x2) = some (.type "type"))
    (x2g : PySem.W.keepIn K (.ref C_x2) = true)
    (x2h : PySem.W.mroIn K C_x2 (.ref D0) = some true)
    (x2i : PySem.W.ks_superIn K C_x2 D0 "__init__" = some (some (.builtin "ValueError.__init__")))
    (x2j : PySem.W.subIn K (.ref C_x2) (.type "ValueError") = some true)
    (x2k : PySem.W.findIn K (.ref C_x2) "value" = some none)
    (x2l : PySem.W.findIn K (.ref C_x2) "__getattribute__" = some (some (.builtin "BaseException.__getattribute__")))
    (x2m : PySem.W.findIn K (.ref C_x2) "__getattr__" = some none)
    (x2n : PySem.W.hasDictIn K C_x2 = true)
    (x2o : PySem.W.findIn K (.ref C_x2) "__class__" = some (some (.builtin "object.__class__")))
    (x2p : PySem.W.specialIn K (.builtin "object.__class__") "__get__" = some (some (.builtin "getset_descriptor.__get__")))
    (x2q : PySem.W.takesIn K (.builtin "object.__class__") = some true)
    (x2r : PySem.W.mroIn K C_x2 (.type "object") = some true)
    (x2s : PySem.W.findIn K (.ref C_x2) "__init__" = some (some (.ref fI)))
    (xm_InvalidWord_InvalidWord : PySem.W.exmOne K (.ref C_x0) (.ref C_x0) = some true)
    (xm_InvalidWord_UnlikeLengths : PySem.W.exmOne K (.ref C_x0) (.ref C_x1) = some false)
    (xm_InvalidWord_InvalidPlace : PySem.W.exmOne K (.ref C_x0) (.ref C_x2) = some false)
    (xm_InvalidWord_OpenpostsError : PySem.W.exmOne K (.ref C_x0) (.ref D0) = some true)
    (xm_UnlikeLengths_InvalidWord : PySem.W.exmOne K (.ref C_x1) (.ref C_x0) = some false)
    (xm_UnlikeLengths_UnlikeLengths : PySem.W.exmOne K (.ref C_x1) (.ref C_x1) = some true)
    (xm_UnlikeLengths_InvalidPlace : PySem.W.exmOne K (.ref C_x1) (.ref C_x2) = some false)
    (xm_UnlikeLengths_OpenpostsError : PySem.W.exmOne K (.ref C_x1) (.ref D0) = some true)
    (xm_InvalidPlace_InvalidWord : PySem.W.exmOne K (.ref C_x2) (.ref C_x0) = some false)
    (xm_InvalidPlace_UnlikeLengths : PySem.W.exmOne K (.ref C_x2) (.ref C_x1) = some false)
    (xm_InvalidPlace_InvalidPlace : PySem.W.exmOne K (.ref C_x2) (.ref C_x2) = some true)
    (xm_InvalidPlace_OpenpostsError : PySem.W.exmOne K (.ref C_x2) (.ref D0) = some true)  :
    ∃ fd : FuncData, (∀ (s : Shared) (v : Value), BindsTo s fd ⟨[v], []⟩ [("_law_script", v)]) ∧ ∀ base : Heap, K.In base → base.Ns mainGlobals mg → DN.FnG true PP w K mg base (L2N.CX PP w) 7 fa fd ["_law_script"] (DN.spLaw K) := by
  have e := hfa.symm.trans (PySem.W.mg_of X G a16)
  cases e
  have F1 := fun_mk (st := s_law_box) l1 c1 k1
  have b1 := F1.binds (ps := ["_law_number"]) fun _ _ _ _ _ _ us hl => match us, hl with | [_], _ => rfl
  have F2 := fun_mk (st := s_law_take) l2 c2 k2
  have b2 := F2.binds (ps := ["_law_box_here", "_law_many"]) fun _ _ _ _ _ _ us hl => match us, hl with | [_, _], _ => rfl
  have F3 := fun_mk (st := s_law_words) l3 c3 k3
  have b3 := F3.binds (ps := ["_law_box_here"]) fun _ _ _ _ _ _ us hl => match us, hl with | [_], _ => rfl
  have F4 := fun_mk (st := s_law_cell_at) l4 c4 k4
  have b4 := F4.binds (ps := ["_law_script", "_law_k"]) fun _ _ _ _ _ _ us hl => match us, hl with | [_, _], _ => rfl
  have F5 := fun_mk (st := s_law_very) l5 c5 k5
  have b5 := F5.binds (ps := ["_law_error", "_law_one", "_law_other"]) fun _ _ _ _ _ _ us hl => match us, hl with | [_, _, _], _ => rfl
  have F6 := fun_mk (st := s_is_word) l6 c6 k6
  have b6 := F6.binds (ps := ["value"]) fun _ _ _ _ _ _ us hl => match us, hl with | [_], _ => rfl
  have F7 := fun_mk (st := s_check_word) l7 c7 k7
  have b7 := F7.binds (ps := ["value"]) fun _ _ _ _ _ _ us hl => match us, hl with | [_], _ => rfl
  have F8 := fun_mk (st := s_differing) l8 c8 k8
  have b8 := F8.binds (ps := ["one", "other"]) fun _ _ _ _ _ _ us hl => match us, hl with | [_, _], _ => rfl
  have F9 := fun_mk (st := s_apart) l9 c9 k9
  have b9 := F9.binds (ps := ["one", "other"]) fun _ _ _ _ _ _ us hl => match us, hl with | [_, _], _ => rfl
  have F10 := fun_mk (st := s_flipped) l10 c10 k10
  have b10 := F10.binds (ps := ["word"]) fun _ _ _ _ _ _ us hl => match us, hl with | [_], _ => rfl
  have F11 := fun_mk (st := s_is_integer) l11 c11 k11
  have b11 := F11.binds (ps := ["value"]) fun _ _ _ _ _ _ us hl => match us, hl with | [_], _ => rfl
  have F12 := fun_mk (st := s_opened) l12 c12 k12
  have b12 := F12.binds (ps := ["word", "place"]) fun _ _ _ _ _ _ us hl => match us, hl with | [_, _], _ => rfl
  have F13 := fun_mk (st := s_law_caught) l13 c13 k13
  have b13 := F13.binds (ps := ["_law_kind", "_law_one", "_law_other"]) fun _ _ _ _ _ _ us hl => match us, hl with | [_, _, _], _ => rfl
  have F14 := fun_mk (st := s_law_is_word) l14 c14 k14
  have b14 := F14.binds (ps := ["_law_value"]) fun _ _ _ _ _ _ us hl => match us, hl with | [_], _ => rfl
  have F15 := fun_mk (st := s_law_due) l15 c15 k15
  have b15 := F15.binds (ps := ["_law_kind", "_law_one", "_law_other"]) fun _ _ _ _ _ _ us hl => match us, hl with | [_, _, _], _ => rfl
  have F16 := fun_mk (st := s_law) l16 c16 k16
  have b16 := F16.binds (ps := ["_law_script"]) fun _ _ _ _ _ _ us hl => match us, hl with | [_], _ => rfl
  have BI : OpenB PP K D0 cc cda := ⟨⟨_, _, _, D0e⟩, ⟨_, _, _, _, _, _, D0f, D0g, D0h⟩, ⟨_, D0i⟩, by decide +kernel, D0o⟩
  have okI : ∀ (w : World) (base : Heap) (CX : CXT), FnOk PP w K mg base CX 1 fI (PySem.W.ksFn "__init__" "OpenpostsError.__init__" (defArgs s_init) (defBody s_init) (defScope s_init) .none kVI dcI pmI anI (.ref cda) ctI cc) ["self", "value"] (spInit K D0) := fun w base CX =>
    fn_init (ar := initArg) rfl D0l D0c rfl rfl (by decide +kernel) rfl rfl rfl rfl rfl rfl rfl (fun _ => rfl) (fun _ => rfl) (fun _ => rfl) (fun _ => rfl) (fun _ => rfl) BI (PySem.W.mg_none_of X G D0s)
  have bI : Binds K (PySem.W.ksFn "__init__" "OpenpostsError.__init__" (defArgs s_init) (defBody s_init) (defScope s_init) .none kVI dcI pmI anI (.ref cda) ctI cc) ["self", "value"] [] := .all fun us hl => match us, hl with | [_, _], _ => rfl
  have T : TX w K mg := ⟨_, _, F1, b1, (PySem.W.mg_of X G a1), _, _, F2, b2, (PySem.W.mg_of X G a2), _, _, F3, b3, (PySem.W.mg_of X G a3), _, _, F4, b4, (PySem.W.mg_of X G a4), _, _, F5, b5, (PySem.W.mg_of X G a5), _, _, F6, b6, (PySem.W.mg_of X G a6), _, _, F7, b7, (PySem.W.mg_of X G a7), _, _, F8, b8, (PySem.W.mg_of X G a8), _, _, F9, b9, (PySem.W.mg_of X G a9), _, _, F10, b10, (PySem.W.mg_of X G a10), _, _, F11, b11, (PySem.W.mg_of X G a11), _, _, F12, b12, (PySem.W.mg_of X G a12), _, _, F13, b13, (PySem.W.mg_of X G a13), _, _, F14, b14, (PySem.W.mg_of X G a14), _, _, F15, b15, (PySem.W.mg_of X G a15), _, _, F16, b16, (PySem.W.mg_of X G a16), (PySem.W.mg_none_of X G z0), (PySem.W.mg_none_of X G z1), (PySem.W.mg_none_of X G z2), (PySem.W.mg_none_of X G z3), (PySem.W.mg_none_of X G z4), (PySem.W.mg_none_of X G z5), (PySem.W.mg_none_of X G z6), (PySem.W.mg_none_of X G z7), (PySem.W.mg_none_of X G z8), (PySem.W.mg_none_of X G z9), (PySem.W.mg_none_of X G z10), (PySem.W.mg_none_of X G z11), (PySem.W.mg_none_of X G z12), t0, (PySem.W.mg_of X G cst0), t1, (PySem.W.mg_of X G cst1), t3, (PySem.W.mg_of X G cst3), ka_FLIPPED, (PySem.W.mg_of X G kg_FLIPPED), (fun q hq => by simp only [List.mem_cons, List.not_mem_nil, or_false] at hq; rcases hq with rfl | rfl | rfl; exact ⟨_, _, _, kl_FLIPPED, kk_FLIPPED, kv_FLIPPED_0, _, rfl⟩; exact ⟨_, _, _, kl_FLIPPED, kk_FLIPPED, kv_FLIPPED_1, _, rfl⟩; exact ⟨_, _, _, kl_FLIPPED, kk_FLIPPED, kv_FLIPPED_2, _, rfl⟩), D0, (PySem.W.mg_of X G D0a), fI, _, bI, D0t, okI, C_x0, (PySem.W.mg_of X G x0a), ⟨⟨⟨_, _, _, _, _, _, _, _, _, _, _, _, _, _, _, x0b, x0c⟩, x0d, x0e, x0f, x0g⟩, x0h, x0i, x0j, x0k⟩, ⟨x0l, x0m, x0e, x0n, x0o, x0p, x0q, x0r⟩, x0s, C_x1, (PySem.W.mg_of X G x1a), ⟨⟨⟨_, _, _, _, _, _, _, _, _, _, _, _, _, _, _, x1b, x1c⟩, x1d, x1e, x1f, x1g⟩, x1h, x1i, x1j, x1k⟩, ⟨x1l, x1m, x1e, x1n, x1o, x1p, x1q, x1r⟩, x1s, C_x2, (PySem.W.mg_of X G x2a), ⟨⟨⟨_, _, _, _, _, _, _, _, _, _, _, _, _, _, _, x2b, x2c⟩, x2d, x2e, x2f, x2g⟩, x2h, x2i, x2j, x2k⟩, ⟨x2l, x2m, x2e, x2n, x2o, x2p, x2q, x2r⟩, x2s, xm_InvalidWord_InvalidWord, xm_InvalidWord_UnlikeLengths, xm_InvalidWord_InvalidPlace, xm_InvalidWord_OpenpostsError, xm_UnlikeLengths_InvalidWord, xm_UnlikeLengths_UnlikeLengths, xm_UnlikeLengths_InvalidPlace, xm_UnlikeLengths_OpenpostsError, xm_InvalidPlace_InvalidWord, xm_InvalidPlace_UnlikeLengths, xm_InvalidPlace_InvalidPlace, xm_InvalidPlace_OpenpostsError⟩
  exact ⟨PySem.W.fnOf "law" "law" (defArgs s_law) (defBody s_law) (defScope s_law) .none kV16 dc16 pm16 an16 cd16 ct16, fun s v => .of_eq rfl, fun base _ _ => (G_law_end T F16).imp (DN.law_sp (Z := zt T) law_true)⟩
end Q03
open PySem PySem.W PyProof.Rows
set_option maxHeartbeats 0 in
theorem PySem.Challenge.cw_openposts_k03_words_side_by_side_holds : PySem.Challenge.rw_openposts_k03_words_side_by_side.Holds := by
  w_on; o_law; k_head; (case hw => w_witness2)
  k_fill
  refine DN.walk_ofW (l := PySem.Challenge.rw_openposts_k03_words_side_by_side) (n := 63) (k := 7) (x := "_law_script") (CX := fun w => L2N.CX PySem.Challenge.pw_openposts_k03_words_side_by_side w) (sp := fun w => DN.spLaw _) rfl (by decide) rfl ⟨⟨rfl, by decide, by decide⟩, fun _ => rfl⟩ (fun w h Y => PySem.W.kIn_of Y) ?F (fun _ _ a ns hl _ hS => ⟨a, ns, rfl, hS, hl, fun _ => rfl⟩) (fun _ _ _ _ _ h => DN.cx_no h)
  case F =>
    intro w mg fa h KX G hmg
    refine' Q03.all_mk KX G hmg ?a1 ?l1 ?c1 ?k1 ?a2 ?l2 ?c2 ?k2 ?a3 ?l3 ?c3 ?k3 ?a4 ?l4 ?c4 ?k4 ?a5 ?l5 ?c5 ?k5 ?a6 ?l6 ?c6 ?k6 ?a7 ?l7 ?c7 ?k7 ?a8 ?l8 ?c8 ?k8 ?a9 ?l9 ?c9 ?k9 ?a10 ?l10 ?c10 ?k10 ?a11 ?l11 ?c11 ?k11 ?a12 ?l12 ?c12 ?k12 ?a13 ?l13 ?c13 ?k13 ?a14 ?l14 ?c14 ?k14 ?a15 ?l15 ?c15 ?k15 ?a16 ?l16 ?c16 ?k16 ?z0 ?z1 ?z2 ?z3 ?z4 ?z5 ?z6 ?z7 ?z8 ?z9 ?z10 ?z11 ?z12 ?cst0 ?cst1 ?cst3 ?kg_FLIPPED ?kl_FLIPPED ?kk_FLIPPED ?kv_FLIPPED_0 ?kv_FLIPPED_1 ?kv_FLIPPED_2 ?D0a ?D0b ?D0l ?D0c ?D0t ?D0e ?D0f ?D0g ?D0h ?D0i ?D0o ?D0s ?x0a ?x0b ?x0c ?x0d ?x0e ?x0f ?x0g ?x0h ?x0i ?x0j ?x0k ?x0l ?x0m ?x0n ?x0o ?x0p ?x0q ?x0r ?x0s ?x1a ?x1b ?x1c ?x1d ?x1e ?x1f ?x1g ?x1h ?x1i ?x1j ?x1k ?x1l ?x1m ?x1n ?x1o ?x1p ?x1q ?x1r ?x1s ?x2a ?x2b ?x2c ?x2d ?x2e ?x2f ?x2g ?x2h ?x2i ?x2j ?x2k ?x2l ?x2m ?x2n ?x2o ?x2p ?x2q ?x2r ?x2s ?xm_InvalidWord_InvalidWord ?xm_InvalidWord_UnlikeLengths ?xm_InvalidWord_InvalidPlace ?xm_InvalidWord_OpenpostsError ?xm_UnlikeLengths_InvalidWord ?xm_UnlikeLengths_UnlikeLengths ?xm_UnlikeLengths_InvalidPlace ?xm_UnlikeLengths_OpenpostsError ?xm_InvalidPlace_InvalidWord ?xm_InvalidPlace_UnlikeLengths ?xm_InvalidPlace_InvalidPlace ?xm_InvalidPlace_OpenpostsError
    (case a1 => k_is)
    (case l1 => k_is)
    (case c1 => k_is)
    (case k1 => k_is)
    (case a2 => k_is)
    (case l2 => k_is)
    (case c2 => k_is)
    (case k2 => k_is)
    (case a3 => k_is)
    (case l3 => k_is)
    (case c3 => k_is)
    (case k3 => k_is)
    (case a4 => k_is)
    (case l4 => k_is)
    (case c4 => k_is)
    (case k4 => k_is)
    (case a5 => k_is)
    (case l5 => k_is)
    (case c5 => k_is)
    (case k5 => k_is)
    (case a6 => k_is)
    (case l6 => k_is)
    (case c6 => k_is)
    (case k6 => k_is)
    (case a7 => k_is)
    (case l7 => k_is)
    (case c7 => k_is)
    (case k7 => k_is)
    (case a8 => k_is)
    (case l8 => k_is)
    (case c8 => k_is)
    (case k8 => k_is)
    (case a9 => k_is)
    (case l9 => k_is)
    (case c9 => k_is)
    (case k9 => k_is)
    (case a10 => k_is)
    (case l10 => k_is)
    (case c10 => k_is)
    (case k10 => k_is)
    (case a11 => k_is)
    (case l11 => k_is)
    (case c11 => k_is)
    (case k11 => k_is)
    (case a12 => k_is)
    (case l12 => k_is)
    (case c12 => k_is)
    (case k12 => k_is)
    (case a13 => k_is)
    (case l13 => k_is)
    (case c13 => k_is)
    (case k13 => k_is)
    (case a14 => k_is)
    (case l14 => k_is)
    (case c14 => k_is)
    (case k14 => k_is)
    (case a15 => k_is)
    (case l15 => k_is)
    (case c15 => k_is)
    (case k15 => k_is)
    (case a16 => k_is)
    (case l16 => k_is)
    (case c16 => k_is)
    (case k16 => k_is)
    (case z0 => k_is)
    (case z1 => k_is)
    (case z2 => k_is)
    (case z3 => k_is)
    (case z4 => k_is)
    (case z5 => k_is)
    (case z6 => k_is)
    (case z7 => k_is)
    (case z8 => k_is)
    (case z9 => k_is)
    (case z10 => k_is)
    (case z11 => k_is)
    (case z12 => k_is)
    (case cst0 => k_is)
    (case cst1 => k_is)
    (case cst3 => k_is)
    (case kg_FLIPPED => k_is)
    (case kl_FLIPPED => k_is)
    (case kk_FLIPPED => exact ⟨⟨_, _, rfl, rfl⟩, ⟨_, _, rfl, rfl⟩, ⟨_, _, rfl, rfl⟩, trivial⟩)
    (case kv_FLIPPED_0 => k_is)
    (case kv_FLIPPED_1 => k_is)
    (case kv_FLIPPED_2 => k_is)
    (case D0a => k_is)
    (case D0b => k_is)
    (case D0l => k_is)
    (case D0c => k_is)
    (case D0t => k_is)
    (case D0e => k_is)
    (case D0f => k_is)
    (case D0g => exact rfl)
    (case D0h => first | exact rfl | decide +kernel)
    (case D0i => k_is)
    (case D0o => k_is)
    (case D0s => k_is)
    (case x0a => k_is)
    (case x0b => k_is)
    (case x0c => decide +kernel)
    (case x0d => k_is)
    (case x0e => k_is)
    (case x0f => k_is)
    (case x0g => k_is)
    (case x0h => k_is)
    (case x0i => ks_is)
    (case x0j => k_is)
    (case x0k => k_is)
    (case x0l => k_is)
    (case x0m => k_is)
    (case x0n => k_is)
    (case x0o => k_is)
    (case x0p => k_is)
    (case x0q => k_is)
    (case x0r => k_is)
    (case x0s => k_is)
    (case x1a => k_is)
    (case x1b => k_is)
    (case x1c => decide +kernel)
    (case x1d => k_is)
    (case x1e => k_is)
    (case x1f => k_is)
    (case x1g => k_is)
    (case x1h => k_is)
    (case x1i => ks_is)
    (case x1j => k_is)
    (case x1k => k_is)
    (case x1l => k_is)
    (case x1m => k_is)
    (case x1n => k_is)
    (case x1o => k_is)
    (case x1p => k_is)
    (case x1q => k_is)
    (case x1r => k_is)
    (case x1s => k_is)
    (case x2a => k_is)
    (case x2b => k_is)
    (case x2c => decide +kernel)
    (case x2d => k_is)
    (case x2e => k_is)
    (case x2f => k_is)
    (case x2g => k_is)
    (case x2h => k_is)
    (case x2i => ks_is)
    (case x2j => k_is)
    (case x2k => k_is)
    (case x2l => k_is)
    (case x2m => k_is)
    (case x2n => k_is)
    (case x2o => k_is)
    (case x2p => k_is)
    (case x2q => k_is)
    (case x2r => k_is)
    (case x2s => k_is)
    (case xm_InvalidWord_InvalidWord => kernel_rfl)
    (case xm_InvalidWord_UnlikeLengths => kernel_rfl)
    (case xm_InvalidWord_InvalidPlace => kernel_rfl)
    (case xm_InvalidWord_OpenpostsError => kernel_rfl)
    (case xm_UnlikeLengths_InvalidWord => kernel_rfl)
    (case xm_UnlikeLengths_UnlikeLengths => kernel_rfl)
    (case xm_UnlikeLengths_InvalidPlace => kernel_rfl)
    (case xm_UnlikeLengths_OpenpostsError => kernel_rfl)
    (case xm_InvalidPlace_InvalidWord => kernel_rfl)
    (case xm_InvalidPlace_UnlikeLengths => kernel_rfl)
    (case xm_InvalidPlace_InvalidPlace => kernel_rfl)
    (case xm_InvalidPlace_OpenpostsError => kernel_rfl)
