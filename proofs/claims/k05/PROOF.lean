import PyProof.Rows.All
import Wide.All
import OpenK.AllK
import Wide.FinOn
import HandS.ForMost
import HandS.ForExc
import HandS.ExcInit
import HandS.ExcSuper
import KE.KExcSuper
import PyProof.ListStr
import PyProof.StrOps2
import HandS.Evl
import HandS.IsInst
import HandS.RaiseMore
import KE.KExcIs
import HandS.ExcIs
import HandS.Walk
import HandS.TupAny
import KE.GoesEnum
import KE.KDictZip
import HandS.Deep
import HandS.Property
import PyProof.InstNe
import PyProof.Rows.PlainNe
import HandS.ClsMeth
import PyProof.CallStr
import PyProof.Rows.Range3
import OpenK.KOps
import HandS.CallLocal
import HandS.CallSlots
import HandS.Head0
import HandS.Head1
import HandS.Head2
import HandS.HeadHook1
import HandS.HeadHook2
import HandS.HeadHook3
import HandS.HeadEnd
import HandS.StrMore
import HandS.SortInts
import HandS.Style
import HandS.WideBits
import HandS.Zip
import HandS.Conv
import HandS.Text
import KE.KIndexOf
import KE.GoesMore
import HandS.TupSets
import HandS.Strs
import HandS.DictComp
import HandS.Defaults
import HandS.Dict
import HandS.SortRule
import KE.KItemsList
import HandS.DictTup
import HandS.ExcField
import PyProof.ReprRoads
import HandS.FStr
import HandS.Star
import PySem.Challenge.RW_openposts_k05_neighbors_and_ties
set_option Elab.async false
set_option linter.all false
set_option maxRecDepth 100000
set_option maxHeartbeats 4000000
namespace OP
open PySem PySem.Spec PyProof.Rows L2
/-- what the written part says of the base class D of all errors, its __init__ at f -/
structure OpenB (P : Program) (K : PySem.W.Frag) (D cc cda : Addr) : Prop where
  cell : ∃ cl cld csl, K.lookup cc = some ⟨cl, cld, .cell (some (.ref D)), csl⟩
  code : ∃ ccl cdd vs ccs file tf, K.lookup cda = some ⟨ccl, cdd, .fields vs, ccs⟩ ∧ vs[2]? = some (.str file tf) ∧ ((P.main.file : Str) == file) = true
  cls : ∃ cdD, PySem.W.clsIn K D = some cdD
  top : (P.main.scope.names.lookup ("super" : Str)).isSome = false
  opq : PySem.W.nsIn K cStatics "thirdparty.any" = some none
/-- .. and of a class C of errors -/
structure OpenC (K : PySem.W.Frag) (D C : Addr) : Prop where
  ox : OexC K C
  sub : PySem.W.mroIn K C (.ref D) = some true
  ini : PySem.W.ks_superIn K C D "__init__" = some (some (.builtin "ValueError.__init__"))
  ve : PySem.W.subIn K (.ref C) (.type "ValueError") = some true
  nov : PySem.W.findIn K (.ref C) "value" = some none
def spInit (K : PySem.W.Frag) (D : Addr) : Sp := fun vs H Q _ => ∃ a C v, vs = [.ref a, v] ∧ OpenC K D C ∧ H a = some (exo a C none) ∧
  ∀ dx, H dx = none → dx ≠ a → Q .non (upd (upd H dx (exd dx [("value", v)])) a (exo a C (some dx)))
theorem fn_init {CX : CXT} {P : Program} {w : World} {K : PySem.W.Frag} {mg : Str → Option Value} {base : Heap} {k : Nat} {f D cc cda : Addr} {qual msg : Str} {params : Arguments} {scope : Scope} {dV kV doc pm ct oc : Value} {an od : Option Addr}
    {osl : Array (Option Value)} {j : Nat} {p0 p1 p2 p3 p4 p5 p6 p7 p8 p9 : Pos} {ar : Arg} {body : List Stmt}
    (hbd : body = [.Expr (.Call (.Attribute (.Call (.Name "super" p0) [] [] p1) "__init__" p2) [.Constant (.str msg) j p3] [] p4) p5, .Assign [.Attribute (.Name "self" p6) "value" p7] (.Name "value" p8) p9])
    (lk : K.lookup f = some ⟨oc, od, .func (PySem.W.ksFn "__init__" qual params body scope dV kV doc pm an (.ref cda) ct cc), osl⟩) (hcd : PySem.W.codeIn K (.ref cda) qual = true)
    (hpa : (params.posonlyargs ++ params.args).head? = some ar) (har : ar.arg = "self")
    (hcell : ∀ x ∈ scope.names, x.2 ≠ .cell) (hself : scope.names.lookup ("self" : Str) = some .local) (hval : scope.names.lookup ("value" : Str) = some .local)
    (hsup : scope.names.lookup ("super" : Str) = some .globalImplicit) (hcl : scope.names.lookup ("__class__" : Str) = some .free)
    (hk : scope.kind = .function) (hco : scope.isCoroutine = false) (hgen : scope.isGenerator = false)
    {pl : Sem Bool} (he : ∀ L, eval (.Call (.Attribute (.Call (.Name "super" p0) [] [] p1) "__init__" p2) [.Constant (.str msg) j p3] [] p4) (callEnv (PySem.W.ksFn "__init__" qual params body scope dV kV doc pm an (.ref cda) ct cc) L f) = (do
      let ov ← attributeBase (.Call (.Name "super" p0) [] [] p1) "__init__" (callEnv (PySem.W.ksFn "__init__" qual params body scope dV kV doc pm an (.ref cda) ct cc) L f) (eval (.Call (.Name "super" p0) [] [] p1) (callEnv (PySem.W.ksFn "__init__" qual params body scope dV kV doc pm an (.ref cda) ct cc) L f))
      standAt p2.atName
      let (g, first) ← holding [ov] (getMethod ov "__init__" pl)
      callWith p4 g first (backTo p4 (starEach [.Constant (.str msg) j p3] (callEnv (PySem.W.ksFn "__init__" qual params body scope dV kV doc pm an (.ref cda) ct cc) L f))) []))
    (hi : ∀ L, interactive (callEnv (PySem.W.ksFn "__init__" qual params body scope dV kV doc pm an (.ref cda) ct cc) L f) = false)
    (hs1 : ∀ L, swapsWith (.Call (.Attribute (.Call (.Name "super" p0) [] [] p1) "__init__" p2) [.Constant (.str msg) j p3] [] p4) none p5.line (callEnv (PySem.W.ksFn "__init__" qual params body scope dV kV doc pm an (.ref cda) ct cc) L f) = pure false)
    (hs2 : ∀ L, swapsWith (.Name "value" p8) (some (.Attribute (.Name "self" p6) "value" p7)) p9.line (callEnv (PySem.W.ksFn "__init__" qual params body scope dV kV doc pm an (.ref cda) ct cc) L f) = pure false)
    (hst : ∀ L, starEach [.Constant (.str msg) j p3] (callEnv (PySem.W.ksFn "__init__" qual params body scope dV kV doc pm an (.ref cda) ct cc) L f) = (false, eval (.Constant (.str msg) j p3) (callEnv (PySem.W.ksFn "__init__" qual params body scope dV kV doc pm an (.ref cda) ct cc) L f)) :: starEach [] (callEnv (PySem.W.ksFn "__init__" qual params body scope dV kV doc pm an (.ref cda) ct cc) L f))
    (B : OpenB P K D cc cda) (ms : mg "super" = none) :
    FnOk P w K mg base CX (k + 1) f (PySem.W.ksFn "__init__" qual params body scope dV kV doc pm an (.ref cda) ct cc) ["self", "value"] (spInit K D) := by
  refine ⟨fun vs H Q E h => ?_, fun A outer s H args us vs Q E hr e0 hb r hsp => ?_⟩
  · obtain ⟨a, C, v, rfl, _⟩ := h
    rfl
  · obtain ⟨a, C, v, rfl, T, ea, hq⟩ := hsp
    obtain ⟨u1, u2, rfl, r1, r2⟩ := vals2 r
    obtain rfl : u1 = Value.ref a := r1
    have KX : K.In s.heap := e0.mod.kin.keeps fun b o e => (e0.bs b o e).1
    have lim : s.heap.NoLimit := e0.mod.nolimit.keeps fun b o e => (e0.bs b o e).1
    obtain ⟨t1, hea⟩ := exo_at e0.hok ea
    refine ks_codeAny_call_defAt (fd := PySem.W.ksFn "__init__" qual params body scope dV kV doc pm an (.ref cda) ct cc) (body := body) (binds := [("self", .ref a), ("value", u2)]) hr.depth (KX _ _ lk) rfl lim (PySem.W.codeRec_of KX hcd) rfl hb hcell (fun x hx => ?_) (fun h0 hns hk0 => ?_) hco hgen hk
    · rcases List.mem_cons.mp hx with rfl | hx
      · exact hself
      · rcases List.mem_cons.mp hx with rfl | hx
        · exact hval
        · cases hx
    · have K0 : K.In h0 := fun b o e => hk0 _ _ (KX b o e)
      have hns' : h0.Ns s.heap.objs.size (fun x => if x = "value" then some u2 else if x = "self" then some (.ref a) else none) := by
        have hfe : (fun x => ([("self", Value.ref a), ("value", u2)] : List (Str × Value)).reverse.lookup x) = (fun x => if x = ("value" : Str) then some u2 else if x = ("self" : Str) then some (.ref a) else none) := ?_
        · rw [← hfe]
          exact hns
        funext x
        by_cases h1 : x = "value"
        · subst h1; rfl
        · by_cases h2 : x = "self"
          · subst h2; rfl
          · rw [if_neg h1, if_neg h2]
            have e1 : (x == ("value" : Str)) = false := by simpa using h1
            have e2 : (x == ("self" : Str)) = false := by simpa using h2
            simp [List.lookup, e1, e2]
      obtain ⟨nm, qn, N, bs, bm, sn, sub, ab, col, dd, k0, k1, k2, k3, k5, hC, hbm⟩ := T.ox.cls
      obtain ⟨cl, cld, csl, hcc⟩ := B.cell
      obtain ⟨ccl, cdd, cvs, ccs, file, tf, hcda, hvs, hfile⟩ := B.code
      obtain ⟨cdD, hD⟩ := B.cls
      obtain ⟨oD, hD1, hD2⟩ : ∃ oD, h0.get? D = some oD ∧ oD.data = .cls cdD := by
        unfold PySem.W.clsIn at hD
        split at hD
        · rename_i c d cd' sl ho
          cases hD
          exact ⟨_, K0 _ _ ho, rfl⟩
        · cases hD
      have a0 := hk0 _ _ hea
      have E0 : ∀ L, (callEnv (PySem.W.ksFn "__init__" qual params body scope dV kV doc pm an (.ref cda) ct cc) L f) = PySem.W.ksEnv qual scope L f (.ref cda) cc := fun L => rfl
      generalize hfd : PySem.W.ksFn "__init__" qual params body scope dV kV doc pm an (.ref cda) ct cc = fd at *
      rw [hbd]
      refine ks_wpAt_execs_cons (ks_wpAt_Expr_any (ks_wpAt_MethodCall (pl := pl) ?_ (he _)) (hi _) (hs1 _))
      have C0 : (K.In h0) := K0
      obtain ⟨mB, hmB, hmBx⟩ := e0.mod.blt
      rw [E0]
      have G0 : h0.Ns mainGlobals mg := e0.mod.glob.keeps fun b o e => hk0 _ _ (e0.bs b o e).1
      have B0 : h0.Ns builtinsNs mB := hmB.keeps fun b o e => hk0 _ _ (e0.bs b o e).1
      refine ks_wpAt_super_base (env := PySem.W.ksEnv qual scope s.heap.objs.size f (.ref cda) cc) hsup hcl rfl rfl (hk0 _ _ (KX _ _ lk)) rfl (by rw [← hfd]; exact hpa) rfl (K0 _ _ hcda) rfl hvs hfile B.top ?_
      refine PySem.W.ks_loadName_global hk hsup (PySem.Calls.loadGlobal_builtin (env := PySem.W.ksEnv qual scope s.heap.objs.size f (.ref cda) cc) G0 ms B0 ((hmBx "super" (by decide)).trans (by kernel_rfl)) ⟨rfl, ?_⟩)
      refine wpAny_loadName_free hk hcl rfl ⟨_, K0 _ _ hcc, rfl⟩ ?_
      refine wpAny_loadName_local hk (by rw [har]; exact hself) hns' (by rw [har]; rfl) ?_
      refine ks_wpAny_isType_cls hD1 hD2 ⟨rfl, ?_⟩
      have I0 : PySem.W.InstAt h0 a { cls := .ref C, data := .fields #[.ref t1, .none, .none, .none, .bool false, .none] } C none := ⟨a0, rfl, rfl, trivial⟩
      have hCl : ∃ cd, PySem.W.clsIn K C = some cd := by unfold PySem.W.clsIn; rw [hC]; exact ⟨_, rfl⟩
      obtain ⟨cdC, hcC⟩ := hCl
      refine ks_wpAny_call_super hD1 hD2 a0 rfl (fun c e => by cases e) (PySem.W.looks_mroIn K0 T.sub) (fun h1 hso hk1 => ?_)
      have K1 : K.In h1 := fun b o e => hk1 _ _ (K0 b o e)
      have a1 := hk1 _ _ a0
      have I1 : PySem.W.InstAt h1 a { cls := .ref C, data := .fields #[.ref t1, .none, .none, .none, .bool false, .none] } C none := ⟨a1, rfl, rfl, trivial⟩
      have hI : PySem.W.Looks (model P w) h1 (isInstance (.ref a) (.type "ValueError")) true := I1.type.andThen (PySem.W.looks_subIn K1 T.ve)
      have hm := T.ini
      unfold PySem.W.ks_superIn at hm
      rw [hcC] at hm
      refine PySem.W.kxs_getMethod PySem.W.kxs_ValueError hso (PySem.W.looks_opaque K1 B.opq) (l₀ := cdC.mro) (fun A Q E s k q => wpAny_bind ((PySem.W.looks_clsIn K1 hcC) A _ E s k (wpAny_pure q))) rfl K1 hm hI (PySem.W.ks_ne K1 I1 hcC) rfl ?_
      dsimp only
      rw [← E0, hst, E0]
      refine PySem.W.kxs_callWith (i := "ValueError.__init__") (x := a) rfl (PySem.Calls.evalArgs_plain ?_)
      refine PySem.Calls.spliced_cons (PySem.Calls.Constant_str (k := j) (pos := p3) (PySem.Calls.spliced_nil ⟨?_, ?_⟩))
      · exact Heap.get?_push_at rfl rfl
      have hg2 : ∀ {b : Addr} {o : Obj}, h1.get? b = some o → (h1.push (PySem.W.kxs_mw "ValueError.__init__" a)).get? b = some o := fun {b o} e => Heap.get?_push_of_some _ e
      have hw2 : (h1.push (PySem.W.kxs_mw "ValueError.__init__" a)).get? h1.objs.size = some (PySem.W.kxs_mw "ValueError.__init__" a) := Heap.get?_push_at rfl rfl
      generalize h1.push (PySem.W.kxs_mw "ValueError.__init__" a) = h2 at *
      have a2 := hg2 a1
      refine wpAny_call (codeAny_of_tree ?_)
      show wpAny _ (A.deeper _).in1 (callAny (.ref h1.objs.size) ⟨[.str msg _], []⟩) _ _ _
      simp only [callAny]
      refine wpAny_bind (wpAny_load hw2 ?_)
      simp only [PySem.W.kxs_mw, show (Value.type "method-wrapper" == Value.type "method" || Value.type "method-wrapper" == Value.type "builtin_function_or_method" || Value.type "method-wrapper" == Value.type "method-wrapper") = true by decide, if_true]
      refine PySem.W.KFB.if_so (by decide) ?_
      refine wpAny_bind (PySem.W.check_bound_init F.excBase_ValueError.toExcCallFacts (hg2 (K1 _ _ hC)) a2 rfl ?_)
      refine wpAny_bind (wpAny_pure (wpAny_pure ?_))
      refine ⟨plainId_quiet F.excBase_ValueError.init.plain _, codeAny_builtin F.excBase_ValueError.initEntry ?_⟩
      refine PySem.W.exc_init_tree (cls := .ref C) (t0 := t1) (dv := none) (c2 := .none) (c3 := .none) (b4 := .bool false) a2 (by show 1 ≤ sizeLine; decide) (fun h3 hk3 a3 htup => ?_)
      show PySem.wpAt (model P w) (A.deeper (PySem.W.ksEnv qual scope s.heap.objs.size f (Value.ref cda) cc)) _ (execs [Stmt.Assign [(Expr.Name (Str.ofString "self") p6).Attribute (Str.ofString "value") p7] (Expr.Name (Str.ofString "value") p8) p9] (PySem.W.ksEnv qual scope s.heap.objs.size f (Value.ref cda) cc)) _ _ _
      have neL : s.heap.objs.size ≠ a := Ne.symm (Nat.ne_of_lt (Heap.lt_size hea))
      have k03 : ∀ b o, b ≠ a → h0.get? b = some o → h3.get? b = some o := fun b o hb e => hk3 b o hb (hg2 (hk1 b o e))
      have n3 : h3.Ns s.heap.objs.size (fun x => if x = ("value" : Str) then some u2 else if x = ("self" : Str) then some (.ref a) else none) := by
        obtain ⟨oL, es, ep, hL, rr⟩ := hns'
        exact ⟨oL, es, ep, k03 _ _ neL hL, rr⟩
      have naC : ∀ b o, K.lookup b = some o → b ≠ a := fun b o e z => by
        have e1 := (e0.bs b o (e0.mod.kin b o e)).2
        rw [z, ea] at e1
        cases e1
      have K3 : K.In h3 := fun b o e => k03 _ _ (naC b o e) (K0 b o e)
      have hs2' := hs2 s.heap.objs.size
      rw [E0] at hs2'
      refine ks_wpAt_execs_cons (ks_wpAt_Assign_Attr (wpAt_of_wpAny (PySem.ESX.ldL n3 (by rfl) (PySem.ESX.ldL n3 (by rfl) ?_ hk hself) hk hval)) hs2')
      have hcl3 : PySem.W.clsIn K C = some { name := nm, bases := bs, mro := .ref C :: bm, ns := N, qualname := qn, hasDict := true, slotNames := sn, subclasses := sub, abstract := ab, collection := col, hasDel := false } := by unfold PySem.W.clsIn; rw [hC] <;> rfl
      refine PySem.W.set_plain (s := { heap := h3, gens := s.gens, drawn := s.drawn, toks := s.toks + 2 + 1 + 1, os := s.os }) K3 (ox := { cls := .ref C, dict := none, data := .fields #[.ref h2.objs.size, .none, .none, .none, .bool false, .none] }) (od := none) ⟨a3, rfl, rfl, trivial⟩ T.ox.sa ?_
      refine PySem.HandSPX.exc_osa K3 a3 hcl3 (show PySem.HandSPX.refsVE (.ref C :: bm) = true from hbm) rfl T.nov (fun h4 tk4 dx k4 dn dne hx4 hn4 => ?_)
      show PySem.wpAt _ _ _ (execs [] _) _ _ _
      refine wpAt_of_wpAny (wpAny_execs_nil ?_)
      show CE outer P w H s Q Value.none _
      have kk : ∀ b o, b ≠ a → s.heap.get? b = some o → h4.get? b = some o := fun b o hb e => k4 b o hb (k03 b o hb (hk0 b o e))
      have size3 : s.heap.objs.size ≤ dx := by
        have q1 : s.heap.objs.size < h3.objs.size := by
          obtain ⟨oL, _, _, hL, _⟩ := n3
          exact Heap.lt_size hL
        exact Nat.le_trans (Nat.le_of_lt q1) dn
      have hnd : H dx = none := e0.hok.fresh size3
      have nd : ∀ {b : Addr} {o : Obj}, s.heap.get? b = some o → b ≠ dx := fun {b o} q => Nat.ne_of_lt (Nat.lt_of_lt_of_le (Heap.lt_size q) size3)
      have na : ∀ {b : Addr}, H b = none → b ≠ a := fun {b} n z => by
        rw [z, ea] at n
        cases n
      have Un1 : Un (frs outer) [] H (upd (upd H dx (exd dx [("value", v)])) a (exo a C (some dx))) s.heap h4 := {
        keep := fun b o q n _ _ => kk b o (na n) q
        slot := fun b o q n _ _ => ⟨o.slots, kk b o (na n) q⟩
        free := fun b o q n _ => by rw [upd_ne (na n), upd_ne (nd q)]; exact n
        there := fun b o q _ => by
          by_cases hb : b = a
          · exact ⟨_, by rw [hb]; exact hx4⟩
          · exact ⟨o, kk b o hb q⟩
        tups := fun b xs q => by rw [upd_ne (at_ne ea q exo_tup), upd_ne (ne_of_none q hnd)]; exact q
        frzs := fun b o v q => by rw [upd_ne (at_ne ea q exo_frz), upd_ne (ne_of_none q hnd)]; exact q
        tbls := fun b ps q => ⟨#[], by rw [upd_ne (at_ne ea q exo_tbl), upd_ne (ne_of_none q hnd), q]; simp⟩ }
      refine ⟨.non, _, rfl, e0.bare, Un1, fun b o q => ?_, rfl, hq dx hnd dne⟩
      by_cases hb : b = a
      · subst hb
        rw [upd_same] at q
        cases q
        exact exo_ok hx4
      · rw [upd_ne hb] at q
        by_cases hd : b = dx
        · subst hd
          rw [upd_same] at q
          cases q
          exact exd_ok hn4 (relO_put (fs := []) r2 fun g => True.intro)
        · rw [upd_ne hd] at q
          exact (e0.hok b o q).stay (fun c v hc z => kk c v (by
              rcases hc with hc | hc
              · rw [hc]
                exact hb
              · exact at_ne ea hc exo_own) z)
            (fun c hc => by rw [upd_ne (at_ne ea hc exo_own), upd_ne (ne_of_none hc hnd)]; exact hc) (fun c xs hc => by rw [upd_ne (at_ne ea hc exo_tup), upd_ne (ne_of_none hc hnd)]; exact hc)
end OP
namespace OP
open PySem PySem.Spec PyProof.Rows L2
section
variable {X : Cx}
/-- the signs of a text as texts of one sign -/
def signsV (z : Str) : List V := z.cps.toList.map fun c => V.str ⟨#[c]⟩
theorem signsV_length (z : Str) : (signsV z).length = z.length := by
  unfold signsV
  rw [List.length_map]
  rfl
theorem call_list_text (hc : X.calm = true) : CallR X (.type "list") (fun xs H Q => ∃ z : Str, xs = [.str z] ∧ z.length ≤ sizeLine ∧ ∀ p, H p = none → Q (.ref p) (upd H p (.lst (signsV z)))) := by
  intro pins s σ H xs us Q I r h
  obtain ⟨z, rfl, hz, q⟩ := h
  obtain ⟨u, rfl, t, rfl⟩ := vals1 r
  refine call_list_str (I.ok.hd hc) z t (fun h' tk acc' c' hk hS hit => ?_) hz
  have hf : H s.heap.objs.size = none := I.hok.fresh (Nat.le_refl _)
  refine ⟨.ref s.heap.objs.size, upd H s.heap.objs.size (.lst (signsV z)), I.laid (t' := tk) hk (Nat.le_refl _) ?_, rfl, q _ hf⟩
  refine ⟨by rw [signsV_length]; exact hz, acc'.toList, c', ?_, by simpa using hS⟩
  obtain ⟨hl, hi⟩ := hit
  have key : ∀ (l : List Nat) (ys : List Value), l.length = ys.length → (∀ (i : Nat) v, ys[i]? = some v → ∃ c u, l[i]? = some c ∧ v = Value.str ⟨#[c]⟩ u) → Vals (l.map fun c => V.str ⟨#[c]⟩) ys := by
    intro l
    induction l with
    | nil =>
      intro ys e _
      cases ys with
      | nil => exact .nil
      | cons y r => cases e
    | cons c l ih =>
      intro ys e hh
      cases ys with
      | nil => cases e
      | cons y r =>
        obtain ⟨c', u, e1, e2⟩ := hh 0 y rfl
        cases e1
        exact .cons ⟨u, e2⟩ (ih r (Nat.succ.inj e) fun i v q => hh (i + 1) v q)
  refine key z.cps.toList acc'.toList (by simpa using hl.symm) fun i v hv => ?_
  obtain ⟨c, u, e1, e2⟩ := hi i v (by simpa using hv)
  exact ⟨c, u, by simpa using e1, e2⟩
/-- a text n times -/
def repS (z : Str) (n : Nat) : Str := ⟨(List.replicate n z.cps.toList).flatten.toArray⟩
theorem repS_fold (z : Str) (n : Nat) : (⟨(List.replicate n z.cps).foldl (· ++ ·) #[]⟩ : Str) = repS z n := by
  have key : ∀ (n : Nat) (a : Array Nat), (List.replicate n z.cps).foldl (· ++ ·) a = a ++ (List.replicate n z.cps.toList).flatten.toArray := by
    intro n
    induction n with
    | zero => intro a; simp
    | succ n ih =>
      intro a
      rw [List.replicate_succ, List.foldl_cons, ih, List.replicate_succ, List.flatten_cons]
      apply Array.ext'
      simp
  unfold repS
  rw [key n #[]]
  simp
theorem repS_length (z : Str) (n : Nat) : (repS z n).length = z.length * n := by
  show (List.replicate n z.cps.toList).flatten.toArray.size = z.cps.size * n
  rw [List.size_toArray, List.length_flatten, List.map_replicate, Array.length_toList]
  induction n with
  | zero => rfl
  | succ n ih =>
    rw [List.replicate_succ, List.sum_cons, ih, Nat.mul_succ, Nat.add_comm]
theorem op_mul_str : OpR X (binaryOp .Mult) (fun x y H Q => ∃ (z : Str) (n : Int), x = .str z ∧ y = .int n ∧ 0 ≤ n ∧ n ≤ 10000 ∧ z.length ≤ 1000 ∧ Q (.str (repS z n.toNat)) H) := by
  intro pins s σ H x y u v Q I rx ry h
  obtain ⟨z, n, rfl, rfl, h0, h1, hz, q⟩ := h
  obtain ⟨t, rfl⟩ := rx
  obtain ⟨t2, rfl⟩ := ry
  have hr : (decide (n < -(2 ^ 63 : Int)) || decide (n ≥ 2 ^ 63)) = false := by
    rw [decide_eq_false (by omega), decide_eq_false (by omega)]
    rfl
  refine PySem.P.mul_str hr (fun hn _ => ?_) (fun hn _ => ?_) ?_
  · have e : (1000 : Int) ≤ (2 ^ 63 - 1) / n := by
      rw [Int.le_ediv_iff_mul_le (by omega)]
      omega
    omega
  · have : z.length * n.toNat ≤ 1000 * 10000 := Nat.mul_le_mul hz (by omega)
    unfold Builtin.Str.tooLong
    have e : ¬ (z.length * n.toNat > sizeLine) := by rw [sizeLine_eq]; omega
    simpa using Nat.le_of_not_gt e
  · by_cases hn : n < 1
    · rw [if_pos hn]
      have e : n.toNat = 0 := by omega
      rw [e] at q
      exact ⟨by decide, .str _, H, I.tok _, ⟨_, rfl⟩, q⟩
    · rw [if_neg hn]
      by_cases h2 : (n == 1 || z.length == 0) = true
      · rw [if_pos h2]
        have e : repS z n.toNat = z := by
          rcases Bool.or_eq_true_iff.mp h2 with e | e
          · have : n = 1 := by simpa using e
            subst this
            show repS z 1 = z
            unfold repS
            simp
          · have e0 : z.cps = #[] := by
              have : z.length = 0 := by simpa using e
              exact Array.eq_empty_of_size_eq_zero this
            obtain ⟨cps⟩ := z
            dsimp only at e0
            subst e0
            unfold repS
            simp
        rw [e] at q
        exact ⟨.str z, H, I, ⟨_, rfl⟩, q⟩
      · rw [if_neg h2]
        refine ⟨?_, .str (repS z n.toNat), H, I.tok _, ⟨s.toks, ?_⟩, q⟩
        · have e := repS_length z n.toNat
          rw [← repS_fold] at e
          have : z.length * n.toNat ≤ 1000 * 10000 := Nat.mul_le_mul hz (by omega)
          rw [e, sizeLine_eq]
          omega
        · rw [← repS_fold]
end
end OP
namespace OP
open PySem PySem.Spec PyProof.Rows L2
/-- a value's type, errors of the package too -/
inductive TyZ (K : PySem.W.Frag) (H : Hp) : V → Value → Prop where
  | x {v : V} {t : Value} (h : TyX K H v t) : TyZ K H v t
  | exc {a C d : Addr} {fs : List (Str × V)} (T : ExcC K C) (e : H a = some (exo a C (some d))) (ed : H d = some (exd d fs)) : TyZ K H (.ref a) (.ref C)
theorem TyZ.mono {K : PySem.W.Frag} {H H' : Hp} {v : V} {t : Value} (e : Evl.Ex H H') (h : TyZ K H v t) : TyZ K H' v t := by
  cases h with
  | exc T h1 h2 => exact .exc T (e _ _ h1) (e _ _ h2)
  | x h =>
    refine .x ?_
    cases h with
    | byt b => exact .byt b
    | set h => exact .set (e _ _ h)
    | kList h c => exact .kList h c
    | kTuple h c => exact .kTuple h c
    | kDict h c => exact .kDict h c
    | fTuple h => exact .fTuple (e _ _ h)
    | fDict h => exact .fDict (e _ _ h)
    | base h =>
      refine .base ?_
      cases h with
      | non => exact .non
      | bl b => exact .bl b
      | int b => exact .int b
      | str b => exact .str b
      | flt b => exact .flt b
      | lst h => exact .lst (e _ _ h)
      | frz h => exact .frz (e _ _ h)
      | tup h => exact .tup (e _ _ h)
      | dK h => exact .dK (e _ _ h)
      | dT h => exact .dT (e _ _ h)
      | ins h a b c d f => exact .ins (e _ _ h) a b c d f
def rIsZ (K : PySem.W.Frag) : List V → Hp → VK → Prop := fun xs H Q => ∃ (x c : V) (t u : Value) (b : Bool), xs = [x, c] ∧ ClsV c u ∧ TyZ K H x t ∧ PySem.W.kitOne K t u = some b ∧ Q (.bl b) H
theorem call_isZ {X : Cx} : CallR X (.builtin "isinstance") (rIsZ X.K) := by
  intro pins s σ H xs us Q I r h
  obtain ⟨x, c, t, u, b, rfl, k, ty, e, q⟩ := h
  cases ty with
  | x ty => exact call_isi pins s σ H _ us Q I r ⟨x, c, t, u, b, rfl, k, ty, e, q⟩
  | @exc a C d fs T ea ed =>
    obtain ⟨u1, u2, rfl, r1, r2⟩ := vals2 r
    obtain rfl : u1 = Value.ref a := r1
    obtain rfl := k.eq r2
    obtain ⟨t1, hx⟩ := exo_at I.hok ea
    obtain ⟨mA, ⟨od, es, ep, hd, _⟩, _⟩ := exd_at I.hok ed
    have hcl : (PySem.W.clsIn X.K C).isSome = true := by
      obtain ⟨cd, hc, _⟩ := PySem.W.any_some T.hd
      rw [hc]
      rfl
    have J : PySem.W.InstAt s.heap a { cls := .ref C, dict := some d, data := .fields #[.ref t1, .none, .none, .none, .bool false, .none] } C (some od) := ⟨hx, rfl, rfl, hd⟩
    exact PySem.W.kia_one (PySem.W.kitx_exc hcl T.hg T.hk T.hs T.ha T.hn T.ht T.hm) I.kIn J e (fun z => nomatch z) fun tk => ⟨.bl b, H, I.tok tk, rfl, q⟩
end OP
namespace OP
open PySem PySem.Spec PyProof.Rows L2
def Box (n : Nat) (o : HO) : Prop := ∃ x y c : Int, o = .lst [.int x, .int y, .int c] ∧ 0 ≤ x ∧ 0 ≤ y ∧ y < 2147483648 ∧ 0 ≤ c ∧ c ≤ n
def BoxAt (H : Hp) (b : Addr) (n : Nat) : Prop := ∃ o, H b = some o ∧ Box n o
/-- all but b stands as it stood -/
def Eb (b : Addr) (H H' : Hp) : Prop := ∀ a o, a ≠ b → H a = some o → H' a = some o
theorem Eb.refl (b : Addr) (H : Hp) : Eb b H H := fun _ _ _ h => h
theorem Eb.trans {b : Addr} {H H1 H2 : Hp} (x : Eb b H H1) (y : Eb b H1 H2) : Eb b H H2 := fun a o n h => y a o n (x a o n h)
theorem Eb.of {b : Addr} {H H' : Hp} (x : Evl.Ex H H') : Eb b H H' := fun a o _ h => x a o h
theorem BoxAt.mono {H : Hp} {b : Addr} {n m : Nat} (h : BoxAt H b n) (l : n ≤ m) : BoxAt H b m := by
  obtain ⟨o, e, x, y, c, h1, h2, h3, h4, h5, h6⟩ := h
  exact ⟨o, e, x, y, c, h1, h2, h3, h4, h5, by omega⟩
theorem BoxAt.ex {H H' : Hp} {b : Addr} {n : Nat} (h : BoxAt H b n) (e : Evl.Ex H H') : BoxAt H' b n := by
  obtain ⟨o, q, r⟩ := h
  exact ⟨o, e _ _ q, r⟩
end OP
namespace OP
open PySem PySem.Spec PyProof.Rows L2 Evl
end OP
namespace OP
open PySem PySem.Spec PyProof.Rows L2 Evl
section
variable {X : Cx} (K : PySem.W.Frag)
variable {tg o e : Expr} {es : List Expr} {to tl : TE} {t : TA} {name : Str} {apos cpos pos : Pos} {T id : String} {r : V → List V → Hp → VK → Prop}
theorem pi_listK (hl : PE X e tl) (h : X.K = K := by rfl) : PI X tg e (iList K tl) := h ▸ pi_list hl
theorem pi_tupK (hl : PE X e tl) (h : X.K = K := by rfl) : PI X tg e (iTup K tl) := h ▸ pi_tup hl
theorem pe_bmK (pa : PlainAttrs T) (slot : Slot T name id) (hty : typeOf (.builtin id) = pure (.type "method_descriptor")) (hm : MtR X id r) (ho : PE X o to) (ha : PA X (e :: es) t)
    (hbase : attributeBase o name X.env (eval o X.env) = eval o X.env := by rfl)
    (hfew : ((backTo cpos (starEach (e :: es) X.env)).all (fun x => !x.1) && (backToKw cpos (keywordEach [] X.env)).all (fun x => x.1.isSome)
      && decide ((e :: es).length + ([] : List Keyword).length + (if ([] : List Keyword).isEmpty then 0 else 1) < 30)) = true := by rfl)
    (hline : (apos.endLine == cpos.line) = true := by rfl) (hs : starEach (e :: es) X.env = (false, eval e X.env) :: starEach es X.env := by rfl) (hplain : (backTo cpos (starEach es X.env)).any (·.1) = false := by rfl) (hK : X.K = K := by rfl) :
    PE X (.Call (.Attribute o name apos) (e :: es) [] cpos) (tBM K T r to t) := hK ▸ pe_bm pa slot hty hm ho ha hbase hfew hline hs hplain
theorem pe_fldK {f : Str} (he : PE X e tl) (hb : attributeBase e f X.env (eval e X.env) = eval e X.env) (hK : X.K = K := by rfl) : PE X (.Attribute e f pos) (tFld K tl f) := hK ▸ pe_fld he hb
end
end OP
namespace OP
open PySem PySem.Spec PyProof.Rows L2
/-- a zip over two iterators, whatever it knows of the tuple that it gave out -/
abbrev IsZipR (h : Heap) (z TI TO : Addr) (f0 : Value) (f1 : Bool) : Prop :=
  h.get? z = some { cls := .type "zip", dict := none, data := .fields #[f0, .bool f1, .bool false, .ref TI, .ref TO], slots := #[] }
def RawOr (f0 : Value) : Prop := f0 = .none ∨ ∃ T : Nat, f0 = rawInt T
section
variable {prog : Program} {w : World} {A : Around} {E : Value → Shared → Prop} {s : Shared}
variable {z TI TO i1 i2 : Addr} {fp1 fp2 : List Addr} {n i : Nat} {P1 P2 : Nat → Value → Prop} {St1 St2 : Nat → Heap → Prop} {a1 a2 f0 : Value} {f1 : Bool}
/-- what the zip's own cells say ahead of turn i -/
structure ZipSt (z TI TO i1 i2 : Addr) (St1 St2 : Nat → Heap → Prop) (i : Nat) (h : Heap) : Prop where
  zip : ∃ f0 f1, IsZipR h z TI TO f0 f1 ∧ RawOr f0
  ti : IsTupOf2 h TI (.ref i1) (.ref i2)
  to_ : ∃ a b, IsTupOf2 h TO a b
  s1 : St1 i h
  s2 : St2 i h
theorem ZipSt.frame {h h' : Heap} (D1 : Draws prog w A i1 fp1 n P1 St1) (D2 : Draws prog w A i2 fp2 n P2 St2) (Z : ZipSt z TI TO i1 i2 St1 St2 i h) (k : ∀ b ∈ z :: TI :: TO :: (fp1 ++ fp2), ∀ o, h.get? b = some o → h'.get? b = some o) : ZipSt z TI TO i1 i2 St1 St2 i h' := by
  obtain ⟨⟨f0, f1, hz, hf⟩, hTI, ⟨a1, a2, hTO⟩, st1, st2⟩ := Z
  exact ⟨⟨f0, f1, k z (by simp) _ hz, hf⟩, k TI (by simp) _ hTI, ⟨a1, a2, k TO (by simp) _ hTO⟩, D1.frame _ _ _ st1 fun b hb o e => k b (by simp [hb]) o e, D2.frame _ _ _ st2 fun b hb o e => k b (by simp [hb]) o e⟩
end
end OP
namespace OP
open PySem PySem.Spec PyProof.Rows L2
end OP
namespace OP
open PySem PySem.Spec PyProof.Rows L2 Evl
structure Pr where
  on : Hp → V → Prop
  up : ∀ {H H' : Hp} {v : V}, Ex H H' → on H v → on H' v
def Al (H : Hp) : List Pr → List V → Prop
  | [], [] => True
  | p :: ps, x :: xs => p.on H x ∧ Al H ps xs
  | _, _ => False
theorem Al.up {H H' : Hp} (e : Ex H H') : ∀ {ps : List Pr} {xs : List V}, Al H ps xs → Al H' ps xs
  | [], [], _ => trivial
  | [], _ :: _, h => h.elim
  | _ :: _, [], h => h.elim
  | p :: _, _ :: _, h => ⟨p.up e h.1, Al.up e h.2⟩
theorem Al.len {H : Hp} : ∀ {ps : List Pr} {xs : List V}, Al H ps xs → xs.length = ps.length
  | [], [], _ => rfl
  | [], _ :: _, h => h.elim
  | _ :: _, [], h => h.elim
  | _ :: _, _ :: _, h => by rw [List.length_cons, List.length_cons, Al.len h.2]
theorem Al.get {H : Hp} : ∀ {ps : List Pr} {xs : List V} {i : Nat} {x : V}, Al H ps xs → xs[i]? = some x → ∃ p, ps[i]? = some p ∧ p.on H x
  | [], [], _, _, _, e => by simp at e
  | [], _ :: _, _, _, h, _ => h.elim
  | _ :: _, [], _, _, h, _ => h.elim
  | p :: _, y :: _, 0, x, h, e => by
    simp at e
    subst e
    exact ⟨p, rfl, h.1⟩
  | p :: ps, y :: ys, i + 1, x, h, e => by
    obtain ⟨q, h1, h2⟩ := Al.get (i := i) (x := x) h.2 (by simpa using e)
    exact ⟨q, by simpa using h1, h2⟩
theorem Al.got {H : Hp} : ∀ {ps : List Pr} {xs : List V} {i : Nat} {p : Pr}, Al H ps xs → ps[i]? = some p → ∃ x, xs[i]? = some x ∧ p.on H x
  | [], [], _, _, _, e => by simp at e
  | [], _ :: _, _, _, h, _ => h.elim
  | _ :: _, [], _, _, h, _ => h.elim
  | p :: _, y :: _, 0, x, h, e => by
    simp at e
    subst e
    exact ⟨y, rfl, h.1⟩
  | p :: ps, y :: ys, i + 1, x, h, e => by
    obtain ⟨q, h1, h2⟩ := Al.got (i := i) (p := x) h.2 (by simpa using e)
    exact ⟨q, by simpa using h1, h2⟩
theorem Al.app {H : Hp} : ∀ {ps qs : List Pr} {xs ys : List V}, Al H ps xs → Al H qs ys → Al H (ps ++ qs) (xs ++ ys)
  | [], _, [], _, _, h => h
  | [], _, _ :: _, _, h, _ => h.elim
  | _ :: _, _, [], _, h, _ => h.elim
  | _ :: _, _, _ :: _, _, h, g => ⟨h.1, Al.app h.2 g⟩
def pV (v : V) : Pr := ⟨fun _ x => x = v, fun _ h => h⟩
/-- (the part K is named so that it is found) -/
def lstAt (K : PySem.W.Frag) (H : Hp) (a : Addr) (xs : List V) : Prop := H a = some (.lst xs)
def pLst (K : PySem.W.Frag) (ps : List Pr) : Pr := ⟨fun H v => ∃ a xs, v = .ref a ∧ lstAt K H a xs ∧ Al H ps xs, fun e h => by
  obtain ⟨a, xs, h1, h2, h3⟩ := h
  exact ⟨a, xs, h1, e _ _ h2, h3.up e⟩⟩
def pTup (K : PySem.W.Frag) (ps : List Pr) : Pr := ⟨fun H v => ∃ a xs, v = .ref a ∧ SqT K H a xs ∧ Al H ps xs, fun e h => by
  obtain ⟨a, xs, h1, h2, h3⟩ := h
  exact ⟨a, xs, h1, ex_t e h2, h3.up e⟩⟩
structure Tu (α : Type) where
  l : List α
  deriving DecidableEq
class Enc (K : PySem.W.Frag) (α : Type) where
  rp : α → Pr
  enc : α → PyData
  toD : ∀ {H : Hp} {v : V} {a : α}, (rp a).on H v → Dp K H v (enc a)
  lay : α → Prop
  dep : Nat
  dle : ∀ a : α, (enc a).depth ≤ dep
  can : ∀ a : α, lay a → (enc a).canLay0 = true
  inj : ∀ a b : α, PyData.eqv (enc a) (enc b) = true ↔ a = b
variable {K : PySem.W.Frag}
instance : Enc K Int := ⟨fun i => pV (.int i), .int, fun h => by cases h; exact .int _, fun _ => True, 0, fun _ => Nat.le_refl _, fun _ _ => rfl, fun a b => by simp [PyData.eqv]⟩
instance : Enc K Nat := ⟨fun i => pV (.int i), fun i => .int i, fun h => by cases h; exact .int _, fun _ => True, 0, fun _ => Nat.le_refl _, fun _ _ => rfl, fun a b => by simp [PyData.eqv]; omega⟩
instance : Enc K Bool := ⟨fun i => pV (.bl i), .bool, fun h => by cases h; exact .bl _, fun _ => True, 0, fun _ => Nat.le_refl _, fun _ _ => rfl, fun a b => by cases a <;> cases b <;> simp [PyData.eqv]⟩
instance : Enc K Str := ⟨fun i => pV (.str i), .str, fun h => by cases h; exact .str _, fun s => PyData.strOk s = true, 0, fun _ => Nat.le_refl _, fun _ h => h, fun a b => by simp [PyData.eqv]⟩
instance : Enc K Unit := ⟨fun _ => pV .non, fun _ => .none, fun h => by cases h; exact .non, fun _ => True, 0, fun _ => Nat.le_refl _, fun _ _ => rfl, fun a b => by simp [PyData.eqv]⟩
section
variable {α β γ : Type}
theorem al_toD [E : Enc K α] {H : Hp} : ∀ {l : List α} {xs : List V}, Al H (l.map E.rp) xs → DpAll K H xs (l.map E.enc)
  | [], [], _ => .nil
  | [], _ :: _, h => h.elim
  | _ :: _, [], h => h.elim
  | a :: l, x :: xs, h => .cons (E.toD h.1) (al_toD h.2)
theorem dle_all [E : Enc K α] : ∀ l : List α, PyData.depthAll (l.map E.enc) ≤ E.dep
  | [] => Nat.zero_le _
  | a :: l => by
    show max (PyData.depth (E.enc a)) (PyData.depthAll (l.map E.enc)) ≤ _
    have h1 := E.dle a
    have h2 := dle_all (E := E) l
    omega
theorem can_all [E : Enc K α] : ∀ l : List α, (∀ a ∈ l, E.lay a) → PyData.canLayAll0 (l.map E.enc) = true
  | [], _ => rfl
  | a :: l, h => by
    show (PyData.canLay0 (E.enc a) && PyData.canLayAll0 (l.map E.enc)) = true
    rw [E.can a (h a (List.mem_cons_self ..)), can_all l fun x hx => h x (List.mem_cons_of_mem _ hx)]
    rfl
theorem inj_all [E : Enc K α] : ∀ l m : List α, PyData.eqvAll (l.map E.enc) (m.map E.enc) = true ↔ l = m
  | [], [] => ⟨fun _ => rfl, fun _ => rfl⟩
  | [], _ :: _ => ⟨(fun h => nomatch h), (fun h => nomatch h)⟩
  | _ :: _, [] => ⟨(fun h => nomatch h), (fun h => nomatch h)⟩
  | a :: l, b :: m => by
    show (PyData.eqv (E.enc a) (E.enc b) && PyData.eqvAll (l.map E.enc) (m.map E.enc)) = true ↔ _
    rw [Bool.and_eq_true, E.inj, inj_all l m, List.cons.injEq]
instance [E : Enc K α] : Enc K (List α) := ⟨fun l => pLst K (l.map E.rp), fun l => .list (l.map E.enc), fun h => by
    obtain ⟨a, xs, rfl, h1, h2⟩ := h
    exact .lst (sq_of h1) (al_toD h2), fun l => ∀ a ∈ l, E.lay a, E.dep + 1, fun l => by
    show PyData.depthAll (l.map E.enc) + 1 ≤ _
    have := dle_all (E := E) l
    omega, fun l h => can_all l h, fun l m => inj_all l m⟩
instance [E : Enc K α] : Enc K (Tu α) := ⟨fun l => pTup K (l.l.map E.rp), fun l => .tuple (l.l.map E.enc), fun h => by
    obtain ⟨a, xs, rfl, h1, h2⟩ := h
    exact .tup h1 (al_toD h2), fun l => ∀ a ∈ l.l, E.lay a, E.dep + 1, fun l => by
    show PyData.depthAll (l.l.map E.enc) + 1 ≤ _
    have := dle_all (E := E) l.l
    omega, fun l h => can_all l.l h, fun l m => by
    obtain ⟨l⟩ := l
    obtain ⟨m⟩ := m
    rw [Tu.mk.injEq]
    exact inj_all l m⟩
instance [E : Enc K α] [F : Enc K β] : Enc K (α × β) := ⟨fun x => pTup K [E.rp x.1, F.rp x.2], fun x => .tuple [E.enc x.1, F.enc x.2], fun h => by
    obtain ⟨a, xs, rfl, h1, h2⟩ := h
    match xs, h2 with
    | [_, _], h2 => exact .tup h1 (.cons (E.toD h2.1) (.cons (F.toD h2.2.1) .nil)), fun x => E.lay x.1 ∧ F.lay x.2, max E.dep F.dep + 1, fun x => by
    show max (PyData.depth (E.enc x.1)) (max (PyData.depth (F.enc x.2)) 0) + 1 ≤ _
    have h1 := E.dle x.1
    have h2 := F.dle x.2
    omega, fun x h => by
    show (PyData.canLay0 (E.enc x.1) && (PyData.canLay0 (F.enc x.2) && true)) = true
    rw [E.can _ h.1, F.can _ h.2]
    rfl, fun x y => by
    show (PyData.eqv (E.enc x.1) (E.enc y.1) && (PyData.eqv (F.enc x.2) (F.enc y.2) && true)) = true ↔ _
    rw [Bool.and_true, Bool.and_eq_true, E.inj, F.inj]
    exact ⟨fun h => Prod.ext h.1 h.2, fun h => by rw [h]; exact ⟨rfl, rfl⟩⟩⟩
end
structure Fr (G H G2 H2 : Hp) : Prop where
  g : Ex G G2
  h : Ex H H2
  k : Ex G2 H2
  n : ∀ a, G a = none → H a ≠ none → G2 a = none
theorem Fr.refl {G H : Hp} (e : Ex G H) : Fr G H G H := ⟨Ex.refl G, Ex.refl H, e, fun _ h _ => h⟩
theorem ne_up {H H' : Hp} {a : Addr} (e : Ex H H') (h : H a ≠ none) : H' a ≠ none := by
  cases q : H a with
  | none => exact absurd q h
  | some o => rw [e a o q]; exact fun h => nomatch h
theorem Fr.trans {G H G2 H2 G3 H3 : Hp} (a : Fr G H G2 H2) (b : Fr G2 H2 G3 H3) : Fr G H G3 H3 :=
  ⟨a.g.trans b.g, a.h.trans b.h, b.k, fun x h1 h2 => b.n x (a.n x h1 h2) (ne_up a.h h2)⟩
theorem Fr.same {G H H2 : Hp} (e : Ex G H) (e2 : Ex H H2) : Fr G H G H2 := ⟨Ex.refl G, e2, e.trans e2, fun _ h _ => h⟩
theorem ex_upd {G H : Hp} (e : Ex G H) {p : Addr} {o : HO} : Ex (upd G p o) (upd H p o) := fun a u h => by
  by_cases q : a = p
  · subst q
    rw [upd_same] at h ⊢
    exact h
  · rw [upd_ne q] at h ⊢
    exact e a u h
theorem Fr.new {G H : Hp} (e : Ex G H) {p : Addr} {o : HO} (hp : H p = none) : Fr G H (upd G p o) (upd H p o) :=
  ⟨Ex.new (fresh_back e hp), Ex.new hp, ex_upd e, fun a h1 h2 => by
    have : a ≠ p := fun q => by subst q; exact h2 hp
    rw [upd_ne this]
    exact h1⟩
/-- what H holds at p becomes known -/
theorem Fr.freeze {G H : Hp} {p : Addr} {o : HO} (e : Ex G H) (hG : G p = none) (h : H p = some o) : Ex G (upd G p o) ∧ Ex (upd G p o) H := ⟨Ex.new hG, fun a u q => by
  by_cases c : a = p
  · subst c
    rw [upd_same] at q
    cases q
    exact h
  · rw [upd_ne c] at q
    exact e a u q⟩
/-- a reading from less known, beside more known -/
def beside (G' G2 : Hp) : Hp := fun a => match G' a with | some o => some o | none => G2 a
theorem Fr.beside {G G' H G2 H2 : Hp} (f : Fr G H G2 H2) (e : Ex G G') (e1 : Ex G' H) : Fr G' H (beside G' G2) H2 ∧ Ex G2 (beside G' G2) := by
  refine ⟨⟨fun a o h => by simp only [OP.beside, h], f.h, fun a o h => ?_, fun a h1 h2 => ?_⟩, fun a o h => ?_⟩
  · simp only [OP.beside] at h
    cases q : G' a with
    | some u =>
      rw [q] at h
      cases h
      exact f.h a _ (e1 a _ q)
    | none =>
      rw [q] at h
      exact f.k a o h
  · simp only [OP.beside, h1]
    exact f.n a (fresh_back e h1) h2
  · simp only [OP.beside]
    cases q : G' a with
    | some u =>
      have h1 := f.h a _ (e1 a _ q)
      have h2 := f.k a o h
      rw [h1] at h2
      exact h2
    | none => exact h
def EvP (te : TE) (σ : L2.St) (G : Hp) (p : Pr) : Prop := ∀ H1, Ex G H1 → ∀ Q : VK, (∀ v H2 G2, Fr G H1 G2 H2 → p.on G2 v → Q v H2) → te σ H1 Q
def EvPs (ta : TA) (σ : L2.St) (G : Hp) (ps : List Pr) : Prop := ∀ H1, Ex G H1 → ∀ Q : List V → Hp → Prop, (∀ vs H2 G2, Fr G H1 G2 H2 → Al G2 ps vs → Q vs H2) → ta σ H1 Q
section
variable {σ : L2.St} {G G' H H' : Hp} {ta tb te tx ts : TE} {t u : TT} {x y z v : V} {p q : Pr} {ps qs : List Pr}
theorem EvP.mono (e : Ex G G') (h : EvP te σ G p) : EvP te σ G' p := fun H1 a Q k => h H1 (e.trans a) Q fun v H2 G2 f hv =>
  k v H2 _ (f.beside e a).1 (p.up (f.beside e a).2 hv)
theorem EvPs.mono {ta : TA} (e : Ex G G') (h : EvPs ta σ G ps) : EvPs ta σ G' ps := fun H1 a Q k => h H1 (e.trans a) Q fun v H2 G2 f hv =>
  k v H2 _ (f.beside e a).1 (hv.up (f.beside e a).2)
theorem EvP.is (h : EvP te σ G p) (e : p = q) : EvP te σ G q := e ▸ h
theorem EvP.imp (h : EvP te σ G p) (e : ∀ G v, p.on G v → q.on G v) : EvP te σ G q := fun H1 a Q k => h H1 a Q fun v H2 G2 f hv => k v H2 G2 f (e G2 v hv)
section
variable {α : Type} [E : Enc K α] [DecidableEq α] {a b : α}
theorem any_eqv (l : List α) (a : α) : ((l.map E.enc).any fun z => PyData.eqv z (E.enc a)) = decide (a ∈ l) := by
  rw [Bool.eq_iff_iff, List.any_eq_true, decide_eq_true_eq]
  refine ⟨fun h => ?_, fun h => ⟨E.enc a, List.mem_map.mpr ⟨a, h, rfl⟩, (E.inj a a).mpr rfl⟩⟩
  obtain ⟨z, hz, he⟩ := h
  obtain ⟨b, hb, rfl⟩ := List.mem_map.mp hz
  rw [← (E.inj b a).mp he]
  exact hb
end
end
end OP
namespace OP
open PySem PySem.Spec PyProof.Rows L2 Evl
variable {K : PySem.W.Frag}
section
variable {σ : L2.St} {G G' H H' : Hp} {ta tb te tx ts tl : TE} {t u : TT} {x y z v : V} {p q : Pr} {ps qs : List Pr} {j : Nat} {vs : List Nat}
/-- the list that grows: not known, made of what is known -/
def Cp (G H : Hp) (D : Addr) (ps : List Pr) (H' : Hp) : Prop := ∃ G' xs, Fr G H G' H' ∧ H D = none ∧ G' D = none ∧ H' D = some (.lst xs) ∧ Al G' ps xs
theorem Cp.ini {D : Addr} (e : Ex G H) (hD : H D = none) : Cp G H D [] (upd H D (.lst [])) := ⟨G, [], Fr.same e (Ex.new hD), hD, fresh_back e hD, upd_same, trivial⟩
/-- a turn that adds p -/
theorem Cp.turn {D : Addr} {σ2 : L2.St} (h : Cp G H D ps H') (hz : ps.length < 100000) (hp : ∀ G', Ex G G' → EvP te σ2 G' p) : te σ2 H' fun y H4 => ∃ acc, H4 D = some (.lst acc) ∧ acc.length < sizeLine ∧ Cp G H D (ps ++ [p]) (upd H4 D (.lst (acc ++ [y]))) := by
  obtain ⟨G', xs, f, h1, h2, h3, h4⟩ := h
  refine hp G' f.g H' f.k _ fun y H4 G4 f4 hy => ⟨xs, f4.h D _ h3, sz_lt (by rw [h4.len]; exact hz), G4, xs ++ [y], ?_, h1, f4.n D h2 (by rw [h3]; exact fun c => nomatch c), upd_same, (h4.up f4.g).app ⟨hy, trivial⟩⟩
  have g := f.trans f4
  refine ⟨g.g, Ex.mut g.h h1, fun a o ha => ?_, g.n⟩
  have : a ≠ D := fun c => by
    subst c
    rw [f4.n a h2 (by rw [h3]; exact fun c => nomatch c)] at ha
    cases ha
  rw [upd_ne this]
  exact g.k a o ha
theorem Cp.more {D : Addr} {H4 : Hp} {G4 : Hp} (h : Cp G H D ps H') (f : ∀ G', Ex G G' → Ex G' H' → G' D = none → ∃ G4, Fr G' H' G4 H4) : Cp G H D ps H4 := by
  obtain ⟨G', xs, f1, h1, h2, h3, h4⟩ := h
  obtain ⟨G4, f4⟩ := f G' f1.g f1.k h2
  exact ⟨G4, xs, f1.trans f4, h1, f4.n D h2 (by rw [h3]; exact fun c => nomatch c), f4.h D _ h3, h4.up f4.g⟩
/-- a turn with a test -/
theorem Cp.step {D : Addr} {σ2 : L2.St} {b : Bool} (h : Cp G H D ps H') (hz : ps.length < 100000) (ht : ∀ G', Ex G G' → EvT t σ2 G' b) (hp : b = true → ∀ G', Ex G G' → EvP te σ2 G' p) :
    t σ2 H' fun b H3 => if b = true then te σ2 H3 fun y H4 => ∃ acc, H4 D = some (.lst acc) ∧ acc.length < sizeLine ∧ Cp G H D (if b then ps ++ [p] else ps) (upd H4 D (.lst (acc ++ [y]))) else Cp G H D (if b then ps ++ [p] else ps) H3 := by
  have h0 := h
  obtain ⟨G', xs, f, h1, h2, h3, h4⟩ := h
  refine ht G' f.g H' f.k _ fun H3 e3 => ?_
  have h5 : Cp G H D ps H3 := h0.more (G4 := G') fun G1 _ e1 _ => ⟨G1, Fr.same e1 e3⟩
  cases b with
  | true => exact h5.turn hz fun G1 e1 => hp rfl G1 e1
  | false => exact h5
theorem Cp.done {D : Addr} (h : Cp G H D ps H') {Q : VK} (k : ∀ p xs H2 G2, Fr G H G2 H2 → H p = none → G2 p = none → H2 p = some (.lst xs) → Al G2 ps xs → Q (.ref p) H2) : Q (.ref D) H' := by
  obtain ⟨G', xs, f, h1, h2, h3, h4⟩ := h
  exact k D xs H' G' f h1 h2 h3 h4
theorem Al.nil : ∀ {xs : List V}, Al G [] xs → xs = []
  | [], _ => rfl
  | _ :: _, h => h.elim
theorem Al.uncons : ∀ {xs : List V}, Al G (p :: ps) xs → ∃ x r, xs = x :: r ∧ p.on G x ∧ Al G ps r
  | [], h => h.elim
  | x :: r, h => ⟨x, r, rfl, h.1, h.2⟩
theorem Al.one {xs : List V} (h : Al G [p] xs) : ∃ x, xs = [x] ∧ p.on G x := by
  obtain ⟨x, r, rfl, h1, h2⟩ := h.uncons
  obtain rfl := Al.nil h2
  exact ⟨x, rfl, h1⟩
theorem Al.two {xs : List V} (h : Al G [p, q] xs) : ∃ x y, xs = [x, y] ∧ p.on G x ∧ q.on G y := by
  obtain ⟨x, r, rfl, h1, h2⟩ := h.uncons
  obtain ⟨y, rfl, h3⟩ := h2.one
  exact ⟨x, y, rfl, h1, h3⟩
end
end OP
namespace OP
open PySem PySem.Spec PyProof.Rows L2 Evl
variable {K : PySem.W.Frag}
section
variable {σ : L2.St} {G G' H H' : Hp} {ta tb te tx ts tl : TE} {t u : TT} {x y z v : V} {p q : Pr} {ps qs : List Pr} {i j : Nat} {vs : List Nat} {D : Ends} {tu tz : TS} {E : XK}
/-- a list of our own, made since (G, H), that may still grow -/
structure Cq (G H : Hp) (a : Addr) (ps : List Pr) (G' H' : Hp) : Prop where
  f : Fr G H G' H'
  new : H a = none
  out : G' a = none
  at_ : ∃ xs, H' a = some (.lst xs) ∧ Al G' ps xs
theorem Cq.of {a : Addr} {xs : List V} (f : Fr G H G' H') (h1 : H a = none) (h2 : G' a = none) (h3 : H' a = some (.lst xs)) (h4 : Al G' ps xs) : Cq G H a ps G' H' := ⟨f, h1, h2, xs, h3, h4⟩
theorem Cq.go {a : Addr} {G2 H2 : Hp} (c : Cq G H a ps G' H') (f : Fr G' H' G2 H2) : Cq G H a ps G2 H2 := by
  obtain ⟨f1, h1, h2, xs, h3, h4⟩ := c
  exact ⟨f1.trans f, h1, f.n a h2 (by rw [h3]; exact fun c => nomatch c), xs, f.h a _ h3, h4.up f.g⟩
theorem Cq.k {a : Addr} (c : Cq G H a ps G' H') : Ex G' H' := c.f.k
/-- known from now on -/
theorem Cq.known {a : Addr} (c : Cq G H a ps G' H') : ∃ G2, Fr G H G2 H' ∧ Ex G' G2 ∧ (pLst K ps).on G2 (.ref a) := by
  obtain ⟨f1, h1, h2, xs, h3, h4⟩ := c
  obtain ⟨e1, e2⟩ := Fr.freeze f1.k h2 h3
  refine ⟨upd G' a (.lst xs), ⟨f1.g.trans e1, f1.h, e2, fun b hb1 hb2 => ?_⟩, e1, a, xs, rfl, upd_same, h4.up e1⟩
  have : b ≠ a := fun c => by subst c; exact hb2 h1
  rw [upd_ne this]
  exact f1.n b hb1 hb2
end
end OP
namespace OP
open PySem PySem.Spec PyProof.Rows L2 Evl
theorem ns_at {K : PySem.W.Frag} {h : Heap} {N : Addr} {mg : Str → Option Value} {n : Str} {v : Value} (X : K.In h) (G : h.Ns N mg) (e : PySem.W.nsIn K N n = some (some v)) : mg n = some v := by
  obtain ⟨o, es, ep, ho, hd, _, hf⟩ := G
  unfold PySem.W.nsIn at e
  split at e
  · rename_i c d es' n' sl q
    have := X _ _ q
    rw [this] at ho
    cases ho
    cases hd
    split at e
    · rename_i e' he
      cases e
      rw [← hf]
      unfold nsFind findBy
      rw [← Array.find?_toList, he]
      rfl
    · split at e <;> cases e
  · cases e
/-- instances of the class at C: what isinstance asks -/
structure InsT (K : PySem.W.Frag) (C : Addr) : Prop where
  ha : PySem.W.findIn K (.ref C) "__class__" = some (some (.builtin "object.__class__"))
  hn : PySem.W.specialIn K (.builtin "object.__class__") "__get__" = some (some (.builtin "getset_descriptor.__get__"))
  htk : PySem.W.takesIn K (.builtin "object.__class__") = some true
  hm : PySem.W.mroIn K C (.type "object") = some true
/-- the class at C has __eq__ at f, no __ne__, and object alone above it -/
structure OwnE (K : PySem.W.Frag) (C f : Addr) : Prop where
  cls : ∃ (nm q : Str) (N : Addr) (bs : List Value) (hdct : Bool) (sn : List Str) (sub : List Value) (ab : Bool) (col : Option Bool) (dd : Option Addr) (k0 k1 k2 k3 k5 : Option Value) (newId : String),
    K.lookup C = some (excClassObj nm q C N bs [.type "object"] hdct sn sub ab col dd k0 k1 k2 k3 k5 newId) ∧ PySem.W.nsOkIn K N = true ∧ PySem.W.nsIn K N "__eq__" = some (some (.ref f)) ∧ PySem.W.nsIn K N "__ne__" = some none
  fo : ∃ of, K.lookup f = some of ∧ of.cls = .type "function"
  at_ : PySem.W.findIn K (.ref C) "__eq__" = some (some (.ref f))
  fn : PySem.W.isFn K (.ref f) = true
section
variable {X : Cx} {CX : CXT} {n : Nat} {C f : Addr} {fd : FuncData} {ps : List Str} {sp : Sp} {E : XK}
def rOwnE (C : Addr) (sp : Sp) (E : XK) (neg : Bool) : R2 := fun x y H Q => ∃ a dx fs b dy gs, x = .ref a ∧ y = .ref b ∧ H a = some (.ins C dx fs) ∧ H b = some (.ins C dy gs) ∧
  sp [x, y] H (fun v H' => ∃ c, v = .bl c ∧ Q (.bl (if neg then !c else c)) H') E
/-- x in (..), x not in (..), data of any depth -/
def rInT (K : PySem.W.Frag) : R2 := fun x y H Q => ∃ d ds, Dp K H x d ∧ Dp K H y (.tuple ds) ∧ SeqAt.shaped d = true ∧ SeqAt.shaped (.tuple ds) = true ∧ Q (.bl (ds.any fun z => PyData.eqv z d)) H
def rNotInT (K : PySem.W.Frag) : R2 := fun x y H Q => ∃ d ds, Dp K H x d ∧ Dp K H y (.tuple ds) ∧ SeqAt.shaped d = true ∧ SeqAt.shaped (.tuple ds) = true ∧ Q (.bl (!ds.any fun z => PyData.eqv z d)) H
theorem op_inT (hu : X.A.units + 65 < cLine) : OpR X (compareOp .In) (rInT X.K) := by
  intro pins s σ H x y v u Q I rx ry h
  obtain ⟨d, ds, hd, he, sd, se, q⟩ := h
  obtain ⟨as, r1⟩ := Dp.reads I d x v hd rx
  obtain ⟨bs, r2⟩ := Dp.reads I (.tuple ds) y u he ry
  exact SeqAt.in_tuple_reads r2 r1 (SeqAt.canLay_of_shaped se) (SeqAt.canLay_of_shaped sd) (room_in_shaped sd hu) ⟨.bl _, H, I, rfl, q⟩
theorem op_notInT (hu : X.A.units + 65 < cLine) : OpR X (compareOp .NotIn) (rNotInT X.K) := by
  intro pins s σ H x y v u Q I rx ry h
  obtain ⟨d, ds, hd, he, sd, se, q⟩ := h
  obtain ⟨as, r1⟩ := Dp.reads I d x v hd rx
  obtain ⟨bs, r2⟩ := Dp.reads I (.tuple ds) y u he ry
  exact SeqAt.notIn_tuple_reads r2 r1 (SeqAt.canLay_of_shaped se) (SeqAt.canLay_of_shaped sd) (room_in_shaped sd hu) ⟨.bl _, H, I, rfl, q⟩
variable {K : PySem.W.Frag}
end
section
variable {K : PySem.W.Frag} {σ : L2.St} {G G' H H' : Hp} {ta tb te tx ts tl : TE} {t u : TT} {x y z v : V} {p q : Pr} {ps qs : List Pr} {i j : Nat} {vs : List Nat} {D : Ends} {tu tz : TS} {E : XK}
theorem TyX.up {v : V} {t : Value} (e : Ex G G') (h : TyX K G v t) : TyX K G' v t := by
  have h1 := TyZ.mono e (.x h)
  cases h1 with
  | x h => exact h
  | exc T e1 e2 =>
    cases h with
    | base b => cases b with
      | ins e3 => 
        have := e _ _ e3
        rw [e1] at this
        cases this
end
end OP
namespace OP
open PySem PySem.Spec PyProof.Rows L2 Evl
end OP
namespace OP
open PySem PySem.Spec PyProof.Rows L2 Evl
theorem pi_alt {X : Cx} {tg e : Expr} {t u : TI} (h1 : PI X tg e t) (h2 : PI X tg e u) : PI X tg e (fun σ H Q => t σ H Q ∨ u σ H Q) := ⟨fun pins s σ H Q I h => h.elim (h1.run pins s σ H Q I) (h2.run pins s σ H Q I)⟩
end OP
namespace OP
open PySem PySem.Spec PyProof.Rows L2 Evl
/-- all is known as G, the box stands at b with k draws left -/
structure Wb (b : Addr) (G H : Hp) (k : Nat) : Prop where
  e : Ex G H
  o : G b = none
  bx : ∃ n, BoxAt H b n ∧ n + k ≤ 1000000000
structure Fb (b : Addr) (G H G2 H2 : Hp) : Prop where
  g : Ex G G2
  h : Eb b H H2
  k : Ex G2 H2
  n : ∀ a, G a = none → H a ≠ none → G2 a = none
theorem ne_upb {b : Addr} {H H' : Hp} {a : Addr} (e : Eb b H H') (hb : H' b ≠ none) (h : H a ≠ none) : H' a ≠ none := by
  by_cases c : a = b
  · rw [c]
    exact hb
  · cases q : H a with
    | none => exact absurd q h
    | some o => rw [e a o c q]; exact fun h => nomatch h
theorem BoxAt.ne {H : Hp} {b : Addr} {n : Nat} (h : BoxAt H b n) : H b ≠ none := by
  obtain ⟨o, h, _⟩ := h
  rw [h]
  exact fun c => nomatch c
theorem Wb.ne {b : Addr} {G H : Hp} {k : Nat} (w : Wb b G H k) : H b ≠ none := by
  obtain ⟨n, h, _⟩ := w.bx
  exact h.ne
theorem Fb.trans {b : Addr} {G H G2 H2 G3 H3 : Hp} (a : Fb b G H G2 H2) (c : Fb b G2 H2 G3 H3) (hb : H2 b ≠ none) : Fb b G H G3 H3 :=
  ⟨a.g.trans c.g, a.h.trans c.h, c.k, fun x h1 h2 => c.n x (a.n x h1 h2) (ne_upb a.h hb h2)⟩
theorem Wb.go {b : Addr} {G H G2 H2 : Hp} {k : Nat} (w : Wb b G H k) (f : Fr G H G2 H2) : Wb b G2 H2 k := by
  obtain ⟨n, h, hk⟩ := w.bx
  exact ⟨f.k, f.n b w.o h.ne, n, h.ex f.h, hk⟩
section
variable {K : PySem.W.Frag} {σ : L2.St} {G G' H H' : Hp} {ta tb te tx ts tl : TE} {t u : TT} {x y z v : V} {p q : Pr} {ps qs : List Pr} {i j k : Nat} {vs : List Nat} {D : Ends} {tu tz : TS} {E : XK} {b : Addr}
/-- one by one -/
def F2 {α β : Type} (R : α → β → Prop) (l : List α) (ys : List β) : Prop := ys.length = l.length ∧ ∀ (i : Nat) (a : α) (y : β), l[i]? = some a → ys[i]? = some y → R a y
theorem F2.mem {α β : Type} {R : α → β → Prop} {l : List α} {ys : List β} (h : F2 R l ys) {y : β} (hy : y ∈ ys) : ∃ a ∈ l, R a y := by
  obtain ⟨i, hi⟩ := List.mem_iff_getElem?.mp hy
  have hl := (List.getElem?_eq_some_iff.mp hi).1
  have h2 : i < l.length := by rw [← h.1]; exact hl
  exact ⟨l[i], List.getElem_mem _, h.2 i _ y (List.getElem?_eq_getElem h2) hi⟩
end
end OP
namespace OP
open PySem PySem.Spec PyProof.Rows L2 Evl
section
variable {X : Cx} {CX : CXT} {n : Nat} {C f : Addr} {fd : FuncData} {ps : List Str} {sp : Sp} {E : XK}
/-- a method that the language calls by itself: its def at f -/
structure OwnM (K : PySem.W.Frag) (C : Addr) (m : Str) (f : Addr) : Prop where
  at_ : PySem.W.findIn K (.ref C) m = some (some (.ref f))
  fn : PySem.W.isFn K (.ref f) = true
  fi : PySem.W.fnIn K f = true
/-- len(o) by an own __len__ -/
def rLenO (C : Addr) (sp : Sp) (E : XK) : List V → Hp → VK → Prop := fun xs H Q => ∃ a dx fs, xs = [.ref a] ∧ H a = some (.ins C dx fs) ∧ sp xs H (fun v H' => ∃ i : Int, v = .int i ∧ 0 ≤ i ∧ i < 2 ^ 63 ∧ Q (.int i) H') E
/-- == of an instance and a value of another type -/
def rOwnX (K : PySem.W.Frag) (C : Addr) (sp : Sp) (E : XK) : R2 := fun x y H Q => ∃ a dx fs t, x = .ref a ∧ H a = some (.ins C dx fs) ∧ TyX K H y t ∧ PySem.W.notFirst K C t = true ∧
  sp [x, y] H (fun v H' => ∃ c, v = .bl c ∧ Q (.bl c) H') E
variable {K : PySem.W.Frag}
end
end OP
namespace OP
open PySem PySem.Spec PyProof.Rows L2 Evl
end OP
namespace OP
open PySem PySem.Spec PyProof.Rows L2 Evl
end OP
namespace DN
open PySem PySem.Spec PyProof.Rows L2 OP
/-- room, and, if b, no repr is under way -/
structure RoomG (b : Bool) (k : Nat) (A : Around) : Prop extends Room k A where
  gd : b = true → A.guards = some []
section
variable {b : Bool} {j k : Nat} {A : Around}
theorem RoomG.mono (r : RoomG b k A) (h : j ≤ k) : RoomG b j A := ⟨r.toRoom.mono h, r.gd⟩
theorem RoomG.deeper (r : RoomG b (k + 1) A) (env : PySem.Env) : RoomG b k (A.deeper env) := ⟨r.toRoom.deeper env, r.gd⟩
theorem RoomG.in1 (r : RoomG b (k + 1) A) : RoomG b k A.in1 := ⟨r.toRoom.in1, r.gd⟩
theorem RoomG.make (r : RoomG b (k + 1) A) (C : Addr) (us : List Value) (kw : List (Str × Value)) : RoomG b k (A.under (.builtin "type.__call__" ⟨.ref C :: us, kw⟩)) :=
  ⟨r.toRoom.make C us kw, by
    have e : (A.under (.builtin "type.__call__" ⟨.ref C :: us, kw⟩)).guards = A.guards := by
      first
      | rfl
      | (cases q : A.guards <;> simp [Around.under, Code.guards, Code.isGuard, guardIds, pushGuards, q])
    rw [e]
    exact r.gd⟩
end
/-- what a def promises where no repr is under way -/
structure FnG (b : Bool) (P : Program) (w : World) (K : PySem.W.Frag) (mg : Str → Option Value) (base : Heap) (CX : CXT) (k : Nat) (f : Addr) (fd : FuncData) (ps : List Str) (sp : Sp) : Prop where
  len : ∀ vs H Q E, sp vs H Q E → vs.length = ps.length
  run : ∀ (A : Around) (outer : List PySem.Env) (s : Shared) (H : Hp) (args : Args) (us : List Value) (vs : List V) (Q : VK) (E : XK), RoomG b k A → Env0 P w K mg base A outer s H → BindsTo s fd args (ps.zip us) → Vals vs us → sp vs H Q E →
    codeAny (model P w) A (.call (.ref f) args) (CR CX outer P w H s Q E) s
section
variable {b : Bool} {P : Program} {w : World} {K : PySem.W.Frag} {mg : Str → Option Value} {base : Heap} {CX : CXT} {j k : Nat} {f : Addr} {fd : FuncData} {ps : List Str} {sp sp' : Sp}
theorem FnG.mono (F : FnG b P w K mg base CX j f fd ps sp) (h : j ≤ k) : FnG b P w K mg base CX k f fd ps sp := ⟨F.len, fun A o s H args us vs Q E r => F.run A o s H args us vs Q E (r.mono h)⟩
theorem FnG.imp (F : FnG b P w K mg base CX k f fd ps sp) (h : ∀ vs H Q E, sp' vs H Q E → sp vs H Q E) : FnG b P w K mg base CX k f fd ps sp' :=
  ⟨fun vs H Q E q => F.len vs H Q E (h _ _ _ _ q), fun A o s H args us vs Q E r e b v q => F.run A o s H args us vs Q E r e b v (h _ _ _ _ q)⟩
theorem _root_.L2.FnOk.g (F : FnOk P w K mg base CX k f fd ps sp) : FnG b P w K mg base CX k f fd ps sp := ⟨F.len, fun A o s H args us vs Q E r => F.run A o s H args us vs Q E r.toRoom⟩
theorem FnG.ok (F : FnG false P w K mg base CX k f fd ps sp) : FnOk P w K mg base CX k f fd ps sp := ⟨F.len, fun A o s H args us vs Q E r => F.run A o s H args us vs Q E ⟨r, fun h => nomatch h⟩⟩
/-- a def by its body -/
theorem fn_ofG {name qual : Str} {params : Arguments} {body : List Stmt} {scope : Scope} {dV kV doc pm cdv ct oc : Value} {an od : Option Addr} {osl : Array (Option Value)} {N : List Str}
    (lk : K.lookup f = some ⟨oc, od, .func (PySem.W.fnOf name qual params body scope dV kV doc pm an cdv ct), osl⟩) (hcd : PySem.W.codeIn K cdv qual = true) (S : FnScope N ps scope) (len : ∀ vs H Q E, sp vs H Q E → vs.length = ps.length)
    (hbody : ∀ (A : Around) (outer : List PySem.Env) (s : Shared) (H : Hp) (vs : List V) (Q : VK) (E : XK), RoomG b k (A.deeper (envOfC qual scope s.heap.objs.size f cdv)) → sp vs H Q E →
      ∃ t, PSs (cxOf CX P w K mg base N qual scope f cdv A outer s H E) body t ∧ t { nx := fun _ H' => Q .non H', rt := Q } (L2.start N vs) H) :
    FnG b P w K mg base CX (k + 1) f (PySem.W.fnOf name qual params body scope dV kV doc pm an cdv ct) ps sp := by
  constructor
  · exact len
  intro A outer s H args us vs Q E hr env0 hb rv hsp
  have n1 := len _ _ _ _ hsp
  have keep : ∀ b o, base.get? b = some o → s.heap.get? b = some o := fun b o e => (env0.bs b o e).1
  have kx : K.In s.heap := env0.mod.kin.keeps keep
  have nl : s.heap.NoLimit := env0.mod.nolimit.keeps keep
  have kinds : ∀ y ∈ ps.zip us, scope.names.lookup y.1 = some .local ∨ (scope.names.lookup y.1 = some .cell ∧ ((cellsFrom (s.heap.objs.size + 1) scope.names []).lookup y.1).isSome = true) := by
    intro ⟨n, v⟩ hy
    cases S.par n (List.of_mem_zip hy).1 with
    | inl q => exact .inl q
    | inr q => exact .inr ⟨q, PySem.W.cellsFrom_some _ _ _ (.inl q)⟩
  have hcr := PySem.W.codeRec_of kx hcd
  refine codeAny_call_function hr.toRoom.depth (kx _ _ lk) rfl S.co S.gen rfl hcr (hb _ _ _ _ (wpAny_newFunctionEnv_cells S.kind kinds ?_))
  intro env he s1 x
  subst he
  constructor
  · exact nl.keeps x.toInCall.keep
  apply codeAny_func
  obtain ⟨t, ht, hq⟩ := hbody A outer s H vs Q E (hr.deeper _) hsp
  have inv : Inv (cxOf CX P w K mg base N qual scope f cdv A outer s H E) [] (L2.start N vs) H s1 := inv_start S hr.toRoom.hd env0 n1 rv x
  have done : ∀ {σ2 : L2.St} {H2 : Hp} {v : V} {u : Value} {s2 : Shared}, Inv (cxOf CX P w K mg base N qual scope f cdv A outer s H E) [] σ2 H2 s2 → RelV v u → Q v H2 → CE outer P w H s Q u s2 := by
    intro σ2 H2 v u s2 J r1 q1
    exact ⟨v, H2, J.os, J.bare, J.base, J.hok, r1, q1⟩
  apply wpAny_mono (ht.run [] s1 (L2.start N vs) H _ inv hq)
  · intro fl s2 hs
    cases fl with
    | next =>
      obtain ⟨_, _, J, q1⟩ := hs
      exact done (v := V.non) (u := Value.none) J rfl q1
    | ret u =>
      obtain ⟨_, _, _, J, r1, q1⟩ := hs
      exact done J r1 q1
    | brk => obtain ⟨_, _, _, q1⟩ := hs; exact q1.elim
    | cont => obtain ⟨_, _, _, q1⟩ := hs; exact q1.elim
  · exact fun _ _ h => h
end
section
variable {b : Bool} {X : Cx} {CX : CXT} {k n : Nat} {f C : Addr} {fd : FuncData} {ps : List Str} {sp : Sp} {dvs : List V} {ds : List Value} {E : XK} {pins : List (Addr × Obj)} {σ : L2.St} {H : Hp} {s : Shared} {Q : VK} {us : List Value} {vs : List V} {A' : Around}
/-- the callee runs, under A' -/
theorem code_at (F : FnG b X.prog X.w X.K X.mg X.base CX k f fd ps sp) (hr : RoomG b k A') (e0 : Env0 X.prog X.w X.K X.mg X.base A' X.stack s H) (hb : Binds X.K fd ps ds) (hd : Vals dvs ds) (hx : PassesAt CX X σ E) (I : Inv X pins σ H s) (r : Vals vs us) (h : sp (vs ++ dvs) H Q E) :
    codeAny (model X.prog X.w) A' (.call (.ref f) ⟨us, []⟩) (fun r s' => match r with
      | .ok (.ret u) => EP X pins σ Q u s'
      | .ok _ => False
      | .error e => X.xe e s') s := by
  have rr : Vals (vs ++ dvs) (us ++ ds) := r.append hd
  have n1 : (us ++ ds).length = ps.length := (rr.length).symm.trans (F.len _ _ _ _ h)
  apply codeAny_mono (F.run A' X.stack s H ⟨us, []⟩ (us ++ ds) (vs ++ dvs) Q E hr e0 (hb s us I.kIn n1) rr h)
  intro r s2 hq
  cases r with
  | error e => exact hx pins H s e s2 I hq
  | ok fl =>
    cases fl with
    | ret u => exact I.after hq
    | next => exact hq.elim
    | brk => exact hq.elim
    | cont => exact hq.elim
theorem run_at (F : FnG b X.prog X.w X.K X.mg X.base CX k f fd ps sp) (hr : RoomG b k A') (e0 : Env0 X.prog X.w X.K X.mg X.base A' X.stack s H) (hb : Binds X.K fd ps ds) (hd : Vals dvs ds) (hx : PassesAt CX X σ E) (I : Inv X pins σ H s) (r : Vals vs us) (h : sp (vs ++ dvs) H Q E) :
    wpAny (model X.prog X.w) A' (call (.ref f) us) (EP X pins σ Q) X.xe s := by
  apply wpAny_call
  apply codeAny_mono (code_at F hr e0 hb hd hx I r h)
  intro r s2 hq
  cases r with
  | error e => exact hq
  | ok fl => cases fl <;> exact hq
theorem passesAt {X : Cx} {CX : CXT} {E : XK} (h : Passes CX X E) (σ : L2.St) : PassesAt CX X σ E := fun pins H s e s' I c => h pins σ H s e s' I c
theorem run_fnG (F : FnG b X.prog X.w X.K X.mg X.base CX k f fd ps sp) (hr : RoomG b k X.A) (hb : Binds X.K fd ps ds) (hd : Vals dvs ds) (hx : PassesAt CX X σ E) (I : Inv X pins σ H s) (r : Vals vs us) (h : sp (vs ++ dvs) H Q E) :
    wpAny (model X.prog X.w) X.A (call (.ref f) us) (EP X pins σ Q) X.xe s := run_at F hr I.env0 hb hd hx I r h
theorem run_in1G (F : FnG b X.prog X.w X.K X.mg X.base CX n f fd ps sp) (hr : RoomG b (n + 1) X.A) (hb : Binds X.K fd ps []) (hx : Passes CX X E) (I : Inv X pins σ H s) (r : Vals vs us) (h : sp vs H Q E) : wpAny (model X.prog X.w) X.A.in1 (call (.ref f) us) (EP X pins σ Q) X.xe s :=
  run_at (dvs := []) F hr.in1 I.env0.in1 hb .nil (passesAt hx σ) I r (by rw [List.append_nil]; exact h)
/-- f(..) -/
theorem pe_callG {x : Str} {p pos : Pos} {e : Expr} {es : List Expr} {t : TA} {E : L2.St → XK} (F : FnG b X.prog X.w X.K X.mg X.base CX k f fd ps sp) (hr : RoomG b k X.A) (hg : Gl X x) (hm : X.mg x = some (.ref f)) (hk : PySem.W.keepIn X.K (.ref f) = true) (hb : Binds X.K fd ps ds) (hd : Vals dvs ds) (hx : ∀ σ, PassesAt CX X σ (E σ))
    (ha : PA X (e :: es) t) (hdb : (x == ("__debug__" : Str)) = false := by decide) (he : starEach (e :: es) X.env = (false, eval e X.env) :: starEach es X.env := by rfl) (hpl : (backTo pos (starEach es X.env)).any (·.1) = false := by rfl) :
    PE X (.Call (.Name x p) (e :: es) [] pos) (tCallSD sp dvs E t) := by
  constructor
  intro pins s σ H Q I h
  apply wpAny_Call_Name_kw (ld_glob I hg hm _ hdb)
  apply PySem.W.callWith_K (h₀ := X.base) I.ok.mod.kin hk _ he hpl
  exact thn (ha.run pos pins s σ H _ I h) fun us s1 ⟨vs, H1, I1, r, q⟩ => ⟨I1.kIn, run_fnG F hr hb hd (hx σ) I1 r q⟩
/-- len(o) by an own __len__ -/
theorem call_lenG (O : OwnM X.K C "__len__" f) (F : FnG b X.prog X.w X.K X.mg X.base CX n f fd ps sp) (hr : RoomG b (n + 1) X.A) (hb : Binds X.K fd ps []) (hx : Passes CX X E) : CallR X (.builtin "len") (rLenO C sp E) := by
  intro pins s σ H xs us Q I r h
  obtain ⟨a, dx, fs, rfl, hi, q⟩ := h
  obtain ⟨u, rfl, ru⟩ := vals1 r
  cases ru
  obtain ⟨mA, J, _⟩ := ins_get I.hok hi
  obtain ⟨od, J, _⟩ := J.look
  obtain ⟨m, hF⟩ := I.fr
  refine PySem.W.len_K hF I.ok.mod.kin J O.at_ O.fn (wpAny_mono (run_in1G (vs := [.ref a]) F hr hb hx I (.cons rfl .nil) q) (fun v s' z => ?_) fun _ _ z => z)
  obtain ⟨w, H', I', rw', i, rfl, h0, h1, hq⟩ := z
  obtain ⟨t, rfl⟩ := rw'
  exact ⟨⟨h0, h1⟩, .int i, H', I'.tok _, ⟨_, rfl⟩, hq⟩
theorem op_ownEqG (O : OwnE X.K C f) (F : FnG b X.prog X.w X.K X.mg X.base CX n f fd ps sp) (hr : RoomG b n X.A) (hb : Binds X.K fd ps []) (hx : Passes CX X E) : OpR X (compareOp .Eq) (rOwnX X.K C sp E) := by
  intro pins s σ H x y v u Q I rx ry h
  obtain ⟨a, dx, fs, t, rfl, ha, hy, hn, q⟩ := h
  cases rx
  obtain ⟨mA, J, _⟩ := ins_get I.hok ha
  obtain ⟨od, J, _⟩ := J.look
  obtain ⟨P, Z, p, _⟩ := kit_of I ry hy
  obtain ⟨m, hF⟩ := I.fr
  unfold compareOp
  refine PySem.W.cmp_K (op := .Eq) (tb := t) hr.toRoom.units0 hF I.ok.mod.kin J (Z.ty _ _ I.kIn p) hn O.at_ O.fn ?_
  refine wpAny_mono (run_fnG (us := [.ref a, u]) (vs := [.ref a, y]) (dvs := []) F hr hb .nil (passesAt hx σ) I (.cons rfl (.cons ry .nil)) q) (fun w s' z => ?_) fun _ _ x => x
  obtain ⟨z', H', I', rz, c, rfl, qz⟩ := z
  cases rz
  exact ⟨.bl c, H', I', rfl, qz⟩
/-- o != e by an own __eq__ -/
theorem op_ownNeG (O : OwnE X.K C f) (F : FnG b X.prog X.w X.K X.mg X.base CX n f fd ps sp) (hr : RoomG b (n + 1) X.A) (hb : Binds X.K fd ps []) (hx : Passes CX X E) : OpR X (compareOp .NotEq) (rOwnE C sp E true) := by
  intro pins s σ H x y v u Q I rx ry h
  obtain ⟨a, dx, fs, b, dy, gs, rfl, rfl, ha, hbb, q⟩ := h
  cases rx
  cases ry
  obtain ⟨mA, J, _⟩ := ins_get I.hok ha
  obtain ⟨mB, J', _⟩ := ins_get I.hok hbb
  obtain ⟨od, J, _⟩ := J.look
  obtain ⟨od', J', _⟩ := J'.look
  obtain ⟨⟨nm, q', N, bs, hdct, sn, sub, ab, col, dd, k0, k1, k2, k3, k5, newId, hC, hN, he, hne⟩, ⟨of, hfo, hfc⟩, _, _⟩ := O
  have KI := I.kIn
  have Y : s.heap.OwnEqNoNe a C f "object" [.type "object"] := by
    refine ⟨_, of, nm, q', N, bs, hdct, sn, sub, ab, col, dd, k0, k1, k2, k3, k5, newId, s.heap.nsMap N, _, J.at_, J.cls, KI _ _ hC, .of_isNs (PySem.W.isNs_of_in KI hN), ns_at KI (.of_isNs (PySem.W.isNs_of_in KI hN)) he, KI _ _ hfo, hfc, PySem.F.mro_object, PySem.F.cmp_object.eq.lookup, PySem.W.nsMap_none_of_in KI hN hne⟩
  have q0 := run_at (X := X) (A' := X.A.in1) (dvs := []) (us := [.ref a, .ref b]) (vs := [.ref a, .ref b]) F hr.in1 I.env0.in1 hb .nil (passesAt hx σ) I (.cons rfl (.cons rfl .nil)) q
  obtain ⟨hh, g, d, t, os⟩ := s
  refine compareOp_ne_ownEq PySem.F.cmp_object Y J'.at_ J'.cls (by have := hr.toRoom.units; omega) ?_
  refine wpAny_mono q0 (fun w s' z => ?_) fun _ _ y => y
  obtain ⟨v, H', I', rz, c, rfl, qz⟩ := z
  cases rz
  exact ⟨c, rfl, .bl (!c), H', I', rfl, qz⟩
end
section
variable {P : Program} {w : World} {K : PySem.W.Frag} {mg mb : Str → Option Value} {CX : CXT} {k : Nat} {fa a : Addr} {fd : FuncData} {x : Str} {sp : Sp} {s₁ : Shared} {vs : List Value} {ns : List Int}
abbrev LawEnd (s₁ : Shared) (r : Result) (s' : Shared) : Prop := r = .ok (.ret (.bool true)) ∧ OldK s₁.heap s'.heap ∧ s'.os = s₁.os ∧ AllBare s'.gens
theorem lawG_core (KX : K.In s₁.heap) (hns : s₁.heap.Ns mainGlobals mg) (hb : s₁.heap.Ns builtinsNs mb) (hbb : ∀ x : Str, x ≠ "__name__" → mb x = bootBuiltins x) (hlim : s₁.heap.NoLimit) (hg : s₁.gens = #[])
    (ha : s₁.heap.get? a = some { cls := .type "list", data := .seq vs.toArray }) (hr : RoomG true k callerA)
    (F : ∀ base : Heap, K.In base → base.Ns mainGlobals mg → (∀ (a : Addr) (m : Str → Option Value), s₁.heap.Ns a m → base.Ns a m) → FnG true P w K mg base CX k fa fd [x] sp) (hbind : ∀ (s : Shared) (u : Value), BindsTo s fd ⟨[u], []⟩ [(x, u)])
    (hCX : ∀ H e s', CX [] H s₁ (fun _ _ _ => False) e s' → False) (H : Hp) (only : Only H) (hsp : sp [.ref a] H (fun v _ => v = .bl true) fun _ _ _ => False) (hok : HOk P w H s₁.heap) (hA : ∀ b, H b ≠ none → b = a) (hK : H a ≠ none → K.lookup a = none) :
    codeAny (model P w) callerA (.call (.ref fa) ⟨[.ref a], []⟩) (LawEnd s₁) s₁ := by
  have is_a : ∀ {b : Addr} {u : HO}, H b = some u → b = a := fun {b u} q => hA b (by rw [q]; exact fun z => nomatch z)
  have none_at : ∀ {b : Addr} {o : Obj} {es : Array DictEntry} {ep : Nat}, s₁.heap.get? b = some o → o.data = .dict es ep → H b = none := by
    intro b o es ep e d
    cases q : H b with
    | none => rfl
    | some u =>
      have e1 := is_a q
      rw [e1, ha] at e
      rw [← Option.some.inj e] at d
      cases d
  have ns_hid : ∀ {b : Addr} {m : Str → Option Value}, s₁.heap.Ns b m → (hidT s₁.heap H).Ns b m := by
    intro b m z
    obtain ⟨o, es, ep, e, d, rest⟩ := z
    exact ⟨o, es, ep, hidT_get e (none_at e d), d, rest⟩
  have k_hid : K.In (hidT s₁.heap H) := by
    intro b o e
    apply hidT_get (KX b o e)
    cases q : H b with
    | none => rfl
    | some u =>
      have e1 := is_a q
      rw [e1] at e q
      rw [hK (by rw [q]; exact fun z => nomatch z)] at e
      cases e
  have lim : (hidT s₁.heap H).NoLimit := by
    obtain ⟨mc, z1, z2⟩ := hlim
    exact ⟨mc, ns_hid z1, z2⟩
  have start : Env0 P w K mg (hidT s₁.heap H) callerA [] s₁ H := {
    frames := rfl
    mod := ⟨k_hid, ns_hid hns, ⟨mb, ns_hid hb, hbb⟩, lim⟩
    bs := fun b o e => of_hidT e
    bsz := Nat.le_of_eq (hidT_size _ _)
    funs := trivial
    frf := fun b z => absurd (show b ∈ ([] : List Addr) from z) (by simp)
    hok := hok
    bare := .of_eq hg }
  apply codeAny_mono ((F _ k_hid (ns_hid hns) fun a m z => ns_hid z).run callerA [] s₁ H ⟨[.ref a], []⟩ [.ref a] [.ref a] _ _ hr start (hbind s₁ (.ref a)) (.cons rfl .nil) hsp)
  intro r s2 h
  cases r with
  | error e => exact (hCX H e s2 h).elim
  | ok fl =>
    cases fl with
    | next => exact h.elim
    | brk => exact h.elim
    | cont => exact h.elim
    | ret u =>
      obtain ⟨v, H2, os, bare, un, hok2, rv, q⟩ := h
      obtain rfl : v = .bl true := q
      obtain rfl : u = Value.bool true := rv
      refine ⟨rfl, OldK.of_keep ?_, os, bare⟩
      intro b o e
      cases q : H b with
      | none => exact un.keep b o e q (fun z => absurd (show b ∈ ([] : List Addr) from z) (by simp)) (by simp)
      | some u =>
        cases only b with
        | inl z => rw [q] at z; cases z
        | inr z =>
          obtain ⟨ob, xs, z⟩ := z
          obtain ⟨e1, _⟩ := hok b _ z
          obtain ⟨e2, _⟩ := hok2 b _ (un.frzs b ob _ z)
          have e3 := e1.symm.trans e
          rw [← Option.some.inj e3]
          exact e2
theorem lawG_call (KX : K.In s₁.heap) (hns : s₁.heap.Ns mainGlobals mg) (hb : s₁.heap.Ns builtinsNs mb) (hbb : ∀ x : Str, x ≠ "__name__" → mb x = bootBuiltins x) (hlim : s₁.heap.NoLimit) (hg : s₁.gens = #[])
    (ha : s₁.heap.get? a = some { cls := .type "list", data := .seq vs.toArray }) (hi : IntsAre vs ns) (hl : ns.length ≤ sizeLine) (hr : RoomG true k callerA)
    (F : ∀ base : Heap, K.In base → base.Ns mainGlobals mg → (∀ (a : Addr) (m : Str → Option Value), s₁.heap.Ns a m → base.Ns a m) → FnG true P w K mg base CX k fa fd [x] sp) (hbind : ∀ (s : Shared) (u : Value), BindsTo s fd ⟨[u], []⟩ [(x, u)])
    (hsp : ∀ H : Hp, Only H → SqL K H a (ns.map V.int) → sp [.ref a] H (fun v _ => v = .bl true) fun _ _ _ => False) (hCX : ∀ H e s', CX [] H s₁ (fun _ _ _ => False) e s' → False) :
    codeAny (model P w) callerA (.call (.ref fa) ⟨[.ref a], []⟩) (LawEnd s₁) s₁ := by
  have rv := vals_ints hi
  have core := lawG_core KX hns hb hbb hlim hg ha hr F hbind hCX
  cases hk : K.lookup a with
  | some o =>
    have e := KX a o hk
    rw [ha] at e
    have eo := Option.some.inj e
    rw [← eo] at hk
    have on0 : Only fun _ => none := fun _ => .inl rfl
    have sq : SqL K (fun _ => none) a (ns.map V.int) := .inr ⟨_, vs.toArray, _, hk, rfl, rfl, rfl, by rw [List.size_toArray, hi.length]; exact hl, by simpa using rv⟩
    exact core _ on0 (hsp _ on0 sq) (fun b u z => nomatch (show (none : Option HO) = some u from z)) (fun b z => absurd rfl z) fun z => absurd rfl z
  | none =>
    let H1 : Hp := fun b => if b = a then some (.frz { cls := .type "list", data := .seq vs.toArray } (.lst (ns.map V.int))) else none
    have at_a : H1 a = some (.frz { cls := .type "list", data := .seq vs.toArray } (.lst (ns.map V.int))) := if_pos rfl
    have at_o : ∀ b, b ≠ a → H1 b = none := fun b h => if_neg h
    have on1 : Only H1 := fun b => by
      by_cases h : b = a
      · exact .inr ⟨_, _, by rw [h]; exact at_a⟩
      · exact .inl (at_o b h)
    have ok1 : HOk P w H1 s₁.heap := fun b u z => by
      by_cases h : b = a
      · rw [h, at_a] at z
        rw [h, ← Option.some.inj z]
        exact ⟨ha, by rw [List.length_map]; exact hl, vs, _, rv, ha⟩
      · rw [at_o b h] at z
        cases z
    exact core H1 on1 (hsp H1 on1 (.inl (.inr ⟨{ cls := .type "list", data := .seq vs.toArray }, at_a⟩))) ok1 (fun b z => Classical.byContradiction fun h => z (at_o b h)) fun _ => hk
end
theorem walk_ofG {l : PySem.W.OpenLaw} {n k : Nat} {q : Program} {loose : List Str} {XP : (Str → Option Value) → Heap → Prop} {YP : World → Heap → Prop} {d : DefRec} {CX : World → CXT} {x : Str} (hn : l.most = some n) (hn2 : n ≤ sizeLine) (hdf : d.params.defaults = []) (hr : RoomG true k callerA)
    (F : ∀ (w : World) (mg : Str → Option Value) (fa : Addr) (h : Heap), YP w h → h.Ns mainGlobals mg → mg d.name = some (.ref fa) → ∃ (K : PySem.W.Frag) (fd : FuncData) (sp : Sp), K.In h ∧ (∀ (s : Shared) (u : Value), BindsTo s fd ⟨[u], []⟩ [(x, u)]) ∧
      (∀ (H : Hp) (a : Addr) (ns : List Int), ns.length ≤ n → Only H → SqL K H a (ns.map V.int) → sp [.ref a] H (fun v _ => v = .bl true) fun _ _ _ => False) ∧ ∀ base : Heap, K.In base → base.Ns mainGlobals mg → FnG true l.prog w K mg base (CX w) k fa fd [x] sp)
    (hCX : ∀ (w : World) (H : Hp) (s : Shared) (e : Value) (s' : Shared), CX w [] H s (fun _ _ _ => False) e s' → False) : PySem.W.WalkO q loose XP YP l.row.toRowW d [] (fun f vs => PySem.call f vs) := by
  refine Att.attach_call hn hdf fun w s₀ s₁ mg mb fa o pm cd doc a vs ns G Y _ _ _ hmg hobj hints hlen hgens => ?_
  obtain ⟨K, fd, sp, KX, hb, hsp, hF⟩ := F w mg fa _ Y G.T.g hmg
  exact lawG_call KX G.T.g G.T.b G.T.builtins G.T.nolimit hgens hobj hints (Nat.le_trans hlen hn2) hr (fun base h1 h2 _ => hF base h1 h2) hb (fun H hO hS => hsp H a ns hlen hO hS) fun H e s' => hCX w H s₁ e s'
end DN
namespace DN
open PySem PySem.Spec PyProof.Rows L2
abbrev FnV : Type := Option (Str × Str × Arguments × FuncBody × Scope × Addr × List Str × Addr)
/-- a def: where it is found, what it is; clo: it has the cell of its class -/
structure FnX where
  at_ : PySem.W.Frag → Addr
  name : Str
  qual : Str
  params : Arguments
  body : List Stmt
  scope : Scope
  clo : List Str := []
def fnV (K : PySem.W.Frag) (a : Addr) : FnV := match K.lookup a with
  | some ⟨_, _, .func fd, _⟩ => some (fd.name, fd.qualname, fd.params, fd.body, fd.scope, fd.globals, fd.closure.map (·.1), fd.builtins)
  | _ => none
abbrev FnIs (K : PySem.W.Frag) (a : Addr) (name qual : Str) (params : Arguments) (body : List Stmt) (scope : Scope) (clo : List Str) : Prop := fnV K a = some (name, qual, params, .stmts body, scope, mainGlobals, clo, builtinsNs)
def FnX.val (d : FnX) : FnV := some (d.name, d.qual, d.params, .stmts d.body, d.scope, mainGlobals, d.clo, builtinsNs)
/-- what stands at a is a function whose parts satisfy p -/
def fnB (K : PySem.W.Frag) (a : Addr) (p : Value → FuncData → Bool) : Bool := match K.lookup a with
  | some ⟨c, _, .func fd, _⟩ => p c fd
  | _ => false
theorem fnB_ok {K : PySem.W.Frag} {a : Addr} {p : Value → FuncData → Bool} (h : fnB K a p = true) : ∃ c od fd sl, K.lookup a = some ⟨c, od, .func fd, sl⟩ ∧ p c fd = true := by
  unfold fnB at h
  cases q : K.lookup a with
  | none => rw [q] at h; cases h
  | some o =>
    obtain ⟨c, od, dt, sl⟩ := o
    rw [q] at h
    cases dt with
    | func fd => exact ⟨c, od, fd, sl, rfl, h⟩
    | _ => cases h
theorem fnX_ok {K : PySem.W.Frag} {a : Addr} {name qual : Str} {params : Arguments} {body : List Stmt} {scope : Scope} {clo : List Str} {p : Value → FuncData → Bool} (e : fnV K a = some (name, qual, params, .stmts body, scope, mainGlobals, clo, builtinsNs)) (h : fnB K a p = true) :
    ∃ (oc : Value) (od : Option Addr) (sl : Array (Option Value)) (cl : List (Str × Addr)) (dV kV dc pm : Value) (an : Option Addr) (cd ct : Value), cl.map (·.1) = clo ∧ K.lookup a = some ⟨oc, od, .func (PySem.W.fnX name qual params body scope cl dV kV dc pm an cd ct), sl⟩ ∧
      p oc (PySem.W.fnX name qual params body scope cl dV kV dc pm an cd ct) = true := by
  obtain ⟨c, od, fd, sl, q, hp⟩ := fnB_ok h
  unfold fnV at e
  rw [q] at e
  obtain ⟨n1, n2, n3, n4, n5, n6, n7, n8, n9, n10, n11, n12, n13, n14, n15⟩ := fd
  have e2 : (some (n1, n2, n3, n4, n5, n6, n7.map (·.1), n15) : FnV) = some (name, qual, params, .stmts body, scope, mainGlobals, clo, builtinsNs) := e
  simp only [Option.some.injEq, Prod.mk.injEq] at e2
  obtain ⟨h1, h2, h3, h4, h5, h6, h7, h8⟩ := e2
  subst h1 h2 h3 h4 h5 h6 h8
  exact ⟨c, od, sl, n7, n8, n9, n10, n11, n12, n13, n14, h7, q, hp⟩
/-- a def without defaults -/
def fn0B (K : PySem.W.Frag) (q : Str) (c : Value) (fd : FuncData) : Bool := PySem.W.codeIn K fd.code q && (decide (fd.defaults = .none) && decide (c = .type "function"))
theorem fn0_ok {K : PySem.W.Frag} {a : Addr} {name qual : Str} {params : Arguments} {body : List Stmt} {scope : Scope} (e : fnV K a = some (name, qual, params, .stmts body, scope, mainGlobals, [], builtinsNs)) (h : fnB K a (fn0B K qual) = true) :
    ∃ (oc : Value) (od : Option Addr) (sl : Array (Option Value)) (kV dc pm : Value) (an : Option Addr) (cd ct : Value), K.lookup a = some ⟨oc, od, .func (PySem.W.fnOf name qual params body scope .none kV dc pm an cd ct), sl⟩ ∧
      PySem.W.codeIn K cd qual = true ∧ oc = .type "function" := by
  obtain ⟨oc, od, sl, cl, dV, kV, dc, pm, an, cd, ct, hc, hl, hp⟩ := fnX_ok e h
  obtain rfl : cl = [] := List.map_eq_nil_iff.mp hc
  obtain ⟨h1, h2⟩ := He.ba hp
  obtain ⟨h2, h3⟩ := He.ba h2
  obtain rfl : dV = .none := of_decide_eq_true h2
  exact ⟨oc, od, sl, kV, dc, pm, an, cd, ct, hl, h1, of_decide_eq_true h3⟩
/-- one default, an int -/
def seq1B (K : PySem.W.Frag) (v : Value) (p : Value → Bool) : Bool := match v with
  | .ref T => (match K.lookup T with
    | some ⟨_, _, .seq its _, _⟩ => (match its.toList with
      | [x] => p x
      | _ => false)
    | _ => false)
  | _ => false
theorem seq1_ok {K : PySem.W.Frag} {v : Value} {p : Value → Bool} (h : seq1B K v p = true) : ∃ T c d x n sl, v = .ref T ∧ K.lookup T = some ⟨c, d, .seq #[x] n, sl⟩ ∧ p x = true := by
  cases v with
  | ref T =>
    unfold seq1B at h
    cases q : K.lookup T with
    | none => simp only [q] at h; cases h
    | some o =>
      obtain ⟨c, d, dt, sl⟩ := o
      simp only [q] at h
      cases dt with
      | seq its n =>
        obtain ⟨l⟩ := its
        simp only at h
        match l, h with
        | [x], h => exact ⟨T, c, d, x, n, sl, rfl, q, h⟩
        | [], h => cases h
        | _ :: _ :: _, h => cases h
      | _ => cases h
  | _ => cases h
def hd_isInt (i : Int) (v : Value) : Bool := match v with
  | .int j _ => decide (j = i)
  | _ => false
theorem hd_isInt_ok {i : Int} {v : Value} (h : hd_isInt i v = true) : ∃ t, v = .int i t := by
  cases v with
  | int j t => exact ⟨t, by rw [of_decide_eq_true h]⟩
  | _ => cases h
def hd_isTup0 (K : PySem.W.Frag) (v : Value) : Bool := match v with
  | .ref e => (match K.lookup e with
    | some ⟨.type c, d, .seq its _, _⟩ => decide (c = "tuple") && (its.toList.isEmpty && d.isNone)
    | _ => false)
  | _ => false
theorem hd_isTup0_ok {K : PySem.W.Frag} {v : Value} (h : hd_isTup0 K v = true) : ∃ e n sl, v = .ref e ∧ K.lookup e = some ⟨.type "tuple", none, .seq #[] n, sl⟩ := by
  cases v with
  | ref e =>
    unfold hd_isTup0 at h
    cases q : K.lookup e with
    | none => simp only [q] at h; cases h
    | some o =>
      obtain ⟨c, d, dt, sl⟩ := o
      simp only [q] at h
      cases c with
      | type c =>
        cases dt with
        | seq its n =>
          obtain ⟨h1, h2⟩ := He.ba (show (decide (c = "tuple") && (its.toList.isEmpty && d.isNone)) = true from h)
          obtain ⟨h4, h3⟩ := He.ba h2
          obtain rfl : d = none := Option.isNone_iff_eq_none.mp h3
          obtain ⟨l⟩ := its
          obtain rfl : l = [] := List.isEmpty_iff.mp h4
          obtain rfl : c = "tuple" := of_decide_eq_true h1
          exact ⟨e, n, sl, rfl, q⟩
        | _ => cases h
      | _ => cases dt <;> cases h
  | _ => cases h
def fnTB (K : PySem.W.Frag) (q : Str) (c : Value) (fd : FuncData) : Bool := PySem.W.codeIn K fd.code q && seq1B K fd.defaults (hd_isTup0 K)
theorem fnT_ok {K : PySem.W.Frag} {a : Addr} {name qual : Str} {params : Arguments} {body : List Stmt} {scope : Scope} (e : fnV K a = some (name, qual, params, .stmts body, scope, mainGlobals, [], builtinsNs)) (h : fnB K a (fnTB K qual) = true) :
    ∃ (oc : Value) (od : Option Addr) (sl : Array (Option Value)) (kV dc pm : Value) (an : Option Addr) (cd ct : Value) (dT de : Addr) (dc1 : Value) (dd1 : Option Addr) (dn1 dn2 : Nat) (ds1 ds2 : Array (Option Value)),
      K.lookup a = some ⟨oc, od, .func (PySem.W.fnOf name qual params body scope (.ref dT) kV dc pm an cd ct), sl⟩ ∧ PySem.W.codeIn K cd qual = true ∧ K.lookup dT = some ⟨dc1, dd1, .seq #[.ref de] dn1, ds1⟩ ∧ K.lookup de = some ⟨.type "tuple", none, .seq #[] dn2, ds2⟩ := by
  obtain ⟨oc, od, sl, cl, dV, kV, dc, pm, an, cd, ct, hc, hl, hp⟩ := fnX_ok e h
  obtain rfl : cl = [] := List.map_eq_nil_iff.mp hc
  obtain ⟨h1, h2⟩ := He.ba hp
  obtain ⟨T, c, d, x, n, s2, rfl, h3, h4⟩ := seq1_ok h2
  obtain ⟨de, n2, sl2, rfl, h5⟩ := hd_isTup0_ok h4
  exact ⟨oc, od, sl, kV, dc, pm, an, cd, ct, T, de, c, d, n, n2, s2, sl2, hl, h1, h3, h5⟩
/-- a class: its namespace, what is above it, its __new__, whether its instances have a dict -/
def clsHd (K : PySem.W.Frag) (C : Addr) : Option (Addr × List Value × String × Bool) := match K.lookup C with
  | some ⟨.type t, _, .cls cd, sl⟩ => (match cd.mro, sl.toList with
    | .ref C' :: bm, [_, _, _, _, some (.builtin n), _] => (match decide (t = "type") && (decide (C' = C) && !cd.hasDel) with
      | true => some (cd.ns, bm, n, cd.hasDict)
      | false => none)
    | _, _ => none)
  | _ => none
theorem clsHd_ok {K : PySem.W.Frag} {C N : Addr} {bm : List Value} {n : String} {hd : Bool} (h : clsHd K C = some (N, bm, n, hd)) :
    ∃ nm q bs sn sub ab col dd k0 k1 k2 k3 k5, K.lookup C = some (excClassObj nm q C N bs bm hd sn sub ab col dd k0 k1 k2 k3 k5 n) := by
  unfold clsHd at h
  cases q : K.lookup C with
  | none => simp only [q] at h; cases h
  | some o =>
    obtain ⟨c, d, dt, sl⟩ := o
    simp only [q] at h
    cases c with
    | type t =>
      cases dt with
      | cls cd =>
        obtain ⟨nm, bs, mro, ns, qn, hdct, sn, sub, ab, col, del⟩ := cd
        obtain ⟨l⟩ := sl
        simp only at h
        match mro, l, h with
        | .ref C' :: bm', [k0, k1, k2, k3, some (.builtin n'), k5], h =>
          have h' : (match decide (t = "type") && (decide (C' = C) && !del) with
            | true => some (ns, bm', n', hdct)
            | false => none) = some (N, bm, n, hd) := h
          cases z : decide (t = "type") && (decide (C' = C) && !del) with
          | false => rw [z] at h'; cases h'
          | true =>
            rw [z] at h'
            cases h'
            obtain ⟨z1, z2⟩ := He.ba z
            obtain ⟨z2, z3⟩ := He.ba z2
            obtain rfl := of_decide_eq_true z1
            obtain rfl := of_decide_eq_true z2
            cases del with
            | true => cases z3
            | false => exact ⟨nm, qn, bs, sn, sub, ab, col, d, k0, k1, k2, k3, k5, rfl⟩
      | _ => cases h
    | _ => cases dt <;> cases h
/-- the class at C has __eq__ at f -/
def ownEqB (K : PySem.W.Frag) (C f : Addr) : Bool := match clsHd K C with
  | some (N, bm, _, _) => decide (bm = [.type "object"]) && (PySem.W.nsOkIn K N && (He.eqO (PySem.W.nsIn K N "__eq__") (some (some (.ref f))) && He.eqO (PySem.W.nsIn K N "__ne__") (some none)))
  | none => false
theorem ownEqB_ok {K : PySem.W.Frag} {C f : Addr} (h : ownEqB K C f = true) : ∃ (nm q : Str) (N : Addr) (bs : List Value) (hdct : Bool) (sn : List Str) (sub : List Value) (ab : Bool) (col : Option Bool) (dd : Option Addr) (k0 k1 k2 k3 k5 : Option Value) (newId : String),
    K.lookup C = some (excClassObj nm q C N bs [.type "object"] hdct sn sub ab col dd k0 k1 k2 k3 k5 newId) ∧ PySem.W.nsOkIn K N = true ∧ PySem.W.nsIn K N "__eq__" = some (some (.ref f)) ∧ PySem.W.nsIn K N "__ne__" = some none := by
  unfold ownEqB at h
  cases q : clsHd K C with
  | none => rw [q] at h; cases h
  | some r =>
    obtain ⟨N, bm, n, hd⟩ := r
    rw [q] at h
    obtain ⟨h1, h2⟩ := He.ba h
    obtain ⟨h2, h3⟩ := He.ba h2
    obtain ⟨h3, h4⟩ := He.ba h3
    obtain ⟨nm, qn, bs, sn, sub, ab, col, dd, k0, k1, k2, k3, k5, hl⟩ := clsHd_ok q
    obtain rfl : bm = [.type "object"] := of_decide_eq_true h1
    exact ⟨nm, qn, N, bs, hd, sn, sub, ab, col, dd, k0, k1, k2, k3, k5, n, hl, h2, He.eqO_ok h3, He.eqO_ok h4⟩
def conB (K : PySem.W.Frag) (a : Addr) (x : Str) (p : Value → Bool) : Bool := match PySem.W.nsIn K a x with
  | some (some v) => p v
  | _ => false
theorem conI_ok {K : PySem.W.Frag} {a : Addr} {x : Str} {i : Int} (h : conB K a x (hd_isInt i) = true) : ∃ t, PySem.W.nsIn K a x = some (some (.int i t)) := by
  unfold conB at h
  cases e : PySem.W.nsIn K a x with
  | none => rw [e] at h; cases h
  | some o =>
    rw [e] at h
    cases o with
    | none => cases h
    | some v => obtain ⟨t, rfl⟩ := hd_isInt_ok h; exact ⟨t, rfl⟩
abbrev AlZ : Type := (Bool × List FnV) × List (Option (List (Option (Str × Int))))
def obsZ (exs : PySem.W.Frag → List Bool) (fns : List FnX) (ts : List He.Tab) (K : PySem.W.Frag) : AlZ := (((exs K).all id, fns.map fun d => fnV K (d.at_ K)), ts.map fun t => He.dicW K (t.1 K))
def valZ (fns : List FnX) (ts : List He.Tab) (w : World) : AlZ := ((true, fns.map FnX.val), ts.map fun t => some (He.keysIn w.params t.2))
def SaysZ (exs : PySem.W.Frag → List Bool) (fns : List FnX) (ts : List He.Tab) (w : World) (K : PySem.W.Frag) : Prop := obsZ exs fns ts K = valZ fns ts w
def hd_refA (v : Value) : Addr := match v with
  | .ref a => a
  | _ => 0
def hd_isKey (x : Str) (e : DictEntry) : Bool := match e.key with
  | .str n _ => n == x
  | _ => false
def hd_gA (g : Addr → Option Obj) (x : Str) : Addr := match g mainGlobals with
  | some ⟨_, _, .dict es _, _⟩ => (match es.toList.find? (hd_isKey x) with
    | some e => hd_refA e.val
    | none => 0)
  | _ => 0
def hd_nsA (g : Addr → Option Obj) (C : Addr) : Addr := match g C with
  | some ⟨_, _, .cls cd, _⟩ => cd.ns
  | _ => 0
def hd_seqA (g : Addr → Option Obj) (T : Addr) : List Addr := T :: match g T with
  | some ⟨_, _, .seq its _, _⟩ => its.toList.flatMap He.refV
  | _ => []
/-- a function, its code, its defaults, its cells -/
def hd_fnA (g : Addr → Option Obj) (f : Addr) : List Addr := f :: match g f with
  | some ⟨_, _, .func fd, _⟩ => He.refV fd.code ++ ((He.refV fd.defaults).flatMap (hd_seqA g) ++ fd.closure.map (·.2))
  | _ => []
def hd_fnA2 (g : Addr → Option Obj) (f : Addr) : List Addr := match g f with
  | some ⟨_, _, .fields vs, _⟩ => f :: (vs.toList.flatMap He.refV).flatMap (hd_fnA g)
  | _ => hd_fnA g f
def hd_valsA (g : Addr → Option Obj) (N : Addr) : List Addr := match g N with
  | some ⟨_, _, .dict es _, _⟩ => es.toList.flatMap fun e => He.refV e.val
  | _ => []
/-- the globals, the classes cs, the methods of the classes ms, the functions fs, the things ks -/
def asZ (cs ms fs ks : List Str) (g : Addr → Option Obj) : List Addr :=
  mainGlobals :: cStatics :: sysModules :: ((cs.flatMap fun c => [hd_gA g c, hd_nsA g (hd_gA g c)]) ++ ((fs.flatMap fun x => hd_fnA g (hd_gA g x)) ++ ((ms.flatMap fun c => (hd_valsA g (hd_nsA g (hd_gA g c))).flatMap (hd_fnA2 g)) ++ ks.map (hd_gA g))))
def obsZG (A : (Addr → Option Obj) → List Addr) (exs : PySem.W.Frag → List Bool) (fns : List FnX) (ts : List He.Tab) (g : Addr → Option Obj) : AlZ := obsZ exs fns ts (He.frG g (A g))
def hookZ (A : (Addr → Option Obj) → List Addr) (exs : PySem.W.Frag → List Bool) (fns : List FnX) (ts : List He.Tab) : PySem.W.Hook where
  α := AlZ
  obs := fun s => obsZG A exs fns ts s.heap.get?
  val := fun w => valZ fns ts w
  says := fun w h => ∃ K : PySem.W.Frag, K.In h ∧ SaysZ exs fns ts w K
  of := fun _ _ e => ⟨_, He.frG_in, e⟩
  keeps := fun _ _ _ ⟨K, hK, c⟩ k => ⟨K, PySem.W.Frag.In.keeps hK k, c⟩
theorem obsZG_eq {A : (Addr → Option Obj) → List Addr} {exs : PySem.W.Frag → List Bool} {fns : List FnX} {ts : List He.Tab} {g : Addr → Option Obj} {s : Shared} (h : ∀ a, g a = s.heap.get? a) : obsZG A exs fns ts g = (hookZ A exs fns ts).obs s := by
  have e : g = s.heap.get? := funext h
  rw [e] <;> rfl
section
variable {exs : PySem.W.Frag → List Bool} {fns : List FnX} {ts : List He.Tab} {w : World} {K : PySem.W.Frag}
theorem SaysZ.all (c : SaysZ exs fns ts w K) : (exs K).all id = true := congrArg (fun z : AlZ => z.1.1) c
theorem SaysZ.b (c : SaysZ exs fns ts w K) (i : Nat) {b : Bool} (h : (exs K)[i]? = some b) : b = true := List.all_eq_true.mp c.all b (List.mem_of_getElem? h)
theorem SaysZ.fn (c : SaysZ exs fns ts w K) (i : Nat) {d : FnX} (h : fns[i]? = some d) : fnV K (d.at_ K) = d.val := by
  have e : fns.map (fun d => fnV K (d.at_ K)) = fns.map FnX.val := congrArg (fun z : AlZ => z.1.2) c
  have e2 : (fns.map fun d => fnV K (d.at_ K))[i]? = (fns.map FnX.val)[i]? := by rw [e]
  rw [List.getElem?_map, List.getElem?_map, h] at e2
  exact Option.some.inj e2
theorem SaysZ.tab (c : SaysZ exs fns ts w K) (i : Nat) {t : He.Tab} (h : ts[i]? = some t) : ∃ es n, K.lookup (t.1 K) = some ⟨.type "dict", none, .dict es n, #[]⟩ ∧ PySem.W.KeysLit w.params es.toList := by
  have e : ts.map (fun t => He.dicW K (t.1 K)) = ts.map fun t => some (He.keysIn w.params t.2) := congrArg (fun z : AlZ => z.2) c
  have e2 : (ts.map fun t => He.dicW K (t.1 K))[i]? = (ts.map fun t => some (He.keysIn w.params t.2))[i]? := by rw [e]
  rw [List.getElem?_map, List.getElem?_map, h] at e2
  obtain ⟨es, n, k1, k2, k3⟩ := He.dicW_ok (Option.some.inj e2)
  exact ⟨es, n, k1, k2⟩
end
def excB (K : PySem.W.Frag) (C : Addr) : Bool := match clsHd K C with
  | some (_, bm, n, hd) => decide (n = "ValueError.__new__") && (hd && PySem.HandSPX.refsVE bm)
  | none => false
theorem excB_ok {K : PySem.W.Frag} {C : Addr} (h : excB K C = true) : ∃ (nm q : Str) (N : Addr) (bs bm : List Value) (sn : List Str) (sub : List Value) (ab : Bool) (col : Option Bool) (dd : Option Addr) (k0 k1 k2 k3 k5 : Option Value),
    K.lookup C = some (excClassObj nm q C N bs bm true sn sub ab col dd k0 k1 k2 k3 k5 "ValueError.__new__") ∧ PySem.HandSPX.refsVE bm = true := by
  unfold excB at h
  cases q : clsHd K C with
  | none => rw [q] at h; cases h
  | some r =>
    obtain ⟨N, bm, n, hd⟩ := r
    rw [q] at h
    obtain ⟨h1, h2⟩ := He.ba h
    obtain ⟨h2, h3⟩ := He.ba h2
    obtain rfl : hd = true := h2
    obtain rfl := of_decide_eq_true h1
    obtain ⟨nm, qn, bs, sn, sub, ab, col, dd, k0, k1, k2, k3, k5, hl⟩ := clsHd_ok q
    exact ⟨nm, qn, N, bs, bm, sn, sub, ab, col, dd, k0, k1, k2, k3, k5, hl, h3⟩
def cellB (K : PySem.W.Frag) (D0 : Addr) (cl : List (Str × Addr)) : Bool := match cl with
  | [(_, cc)] => (match K.lookup cc with
    | some ⟨_, _, .cell (some (.ref d)), _⟩ => decide (d = D0)
    | _ => false)
  | _ => false
def fileB (P : Program) (K : PySem.W.Frag) (v : Value) : Bool := match v with
  | .ref c => (match K.lookup c with
    | some ⟨_, _, .fields vs, _⟩ => (match (vs[2]? : Option Value) with
      | some (Value.str f _) => (P.main.file : Str) == f
      | _ => false)
    | _ => false)
  | _ => false
def initB (P : Program) (K : PySem.W.Frag) (D0 : Addr) (_ : Value) (fd : FuncData) : Bool :=
  PySem.W.codeIn K fd.code "OpenpostsError.__init__" && (decide (fd.defaults = .none) && (cellB K D0 fd.closure && fileB P K fd.code))
theorem cellB_ok {K : PySem.W.Frag} {D0 : Addr} {cl : List (Str × Addr)} (h : cellB K D0 cl = true) : ∃ n cc c d sl, cl = [(n, cc)] ∧ K.lookup cc = some ⟨c, d, .cell (some (.ref D0)), sl⟩ := by
  cases cl with
  | nil => cases h
  | cons p r =>
    obtain ⟨n, cc⟩ := p
    cases r with
    | cons _ _ => cases h
    | nil =>
      unfold cellB at h
      cases q : K.lookup cc with
      | none => simp only [q] at h; cases h
      | some o =>
        obtain ⟨c, d, dt, sl⟩ := o
        simp only [q] at h
        cases dt with
        | cell v =>
          cases v with
          | none => cases h
          | some v =>
            cases v with
            | ref x =>
              have e : x = D0 := of_decide_eq_true h
              exact ⟨n, cc, c, d, sl, rfl, by rw [q, e]⟩
            | _ => cases h
        | _ => cases h
theorem fileB_ok {P : Program} {K : PySem.W.Frag} {v : Value} (h : fileB P K v = true) : ∃ c c1 d1 vs sl f t, v = .ref c ∧ K.lookup c = some ⟨c1, d1, .fields vs, sl⟩ ∧ vs[2]? = some (.str f t) ∧ ((P.main.file : Str) == f) = true := by
  cases v with
  | ref c =>
    unfold fileB at h
    cases q : K.lookup c with
    | none => simp only [q] at h; cases h
    | some o =>
      obtain ⟨c1, d, dt, sl⟩ := o
      simp only [q] at h
      cases dt with
      | fields vs =>
        simp only at h
        cases q2 : (vs[2]? : Option Value) with
        | none => rw [q2] at h; cases h
        | some x =>
          rw [q2] at h
          cases x with
          | str f t => exact ⟨c, c1, d, vs, sl, f, t, rfl, q, q2, h⟩
          | _ => cases h
      | _ => cases h
  | _ => cases h
theorem init_ok {P : Program} {K : PySem.W.Frag} {a D0 : Addr} {params : Arguments} {body : List Stmt} {scope : Scope} (e : fnV K a = (some (("__init__" : Str), ("OpenpostsError.__init__" : Str), params, FuncBody.stmts body, scope, mainGlobals, [("__class__" : Str)], builtinsNs) : FnV)) (h : fnB K a (initB P K D0) = true) :
    ∃ (cc cda : Addr) (ocI : Value) (odI : Option Addr) (slI : Array (Option Value)) (kVI dcI pmI : Value) (anI : Option Addr) (ctI cl0 : Value) (cld0 : Option Addr) (csl0 : Array (Option Value)) (ccl0 : Value) (cdd0 : Option Addr) (cvs0 : Array Value) (ccs0 : Array (Option Value)) (file0 : Str) (tf0 : Tok),
      K.lookup a = some ⟨ocI, odI, .func (PySem.W.ksFn "__init__" "OpenpostsError.__init__" params body scope .none kVI dcI pmI anI (.ref cda) ctI cc), slI⟩ ∧ PySem.W.codeIn K (.ref cda) "OpenpostsError.__init__" = true ∧
      K.lookup cc = some ⟨cl0, cld0, .cell (some (.ref D0)), csl0⟩ ∧ K.lookup cda = some ⟨ccl0, cdd0, .fields cvs0, ccs0⟩ ∧ cvs0[2]? = some (.str file0 tf0) ∧ ((P.main.file : Str) == file0) = true := by
  obtain ⟨oc, od, sl, cl, dV, kV, dc, pm, an, cd, ct, hc, hl, hp⟩ := fnX_ok e h
  obtain ⟨h1, h2⟩ := He.ba hp
  obtain ⟨h2, h3⟩ := He.ba h2
  obtain ⟨h3, h4⟩ := He.ba h3
  obtain rfl : dV = .none := of_decide_eq_true h2
  obtain ⟨n, cc, c, d, s2, rfl, k1⟩ := cellB_ok h3
  obtain ⟨cda, c1, d1, vs, s3, f, t, rfl, k2, k3, k4⟩ := fileB_ok h4
  have hn : [n] = [("__class__" : Str)] := hc
  cases hn
  exact ⟨cc, cda, oc, od, sl, kV, dc, pm, an, ct, c, d, s2, c1, d1, vs, s3, f, t, hl, h1, k1, k2, k3, k4⟩
theorem an2 {p : Prop} [Decidable p] {b : Bool} (h : (decide p && b) = true) : p ∧ b = true := by
  obtain ⟨h1, h2⟩ := He.ba h
  exact ⟨of_decide_eq_true h1, h2⟩
end DN
namespace DN
open PySem PySem.Spec PyProof.Rows L2 Evl
/-- a value that does not change: a tree -/
inductive Dv where
  | non | bl (b : Bool) | int (i : Int) | str (s : Str) | ty (n : String) | cls (c : String)
  | lst (l : List Dv) | tup (l : List Dv) | obj (c : String) (l : List Dv) | dic (t : Bool) (ks vs : List Dv) | scr (l : List Int) | ktp (l : List Dv)
instance : Inhabited Dv := ⟨.non⟩
/-- what a name may hold: a value, a cell -/
inductive Vr where
  | d (v : Dv) | r (n : Nat)
/-- a list whose items may change: rows that stand in the cells ahead of it, or values and other cells -/
inductive Tb where
  | rows (l : List (List Dv)) | vl (l : List Vr)
/-- a thing that may change; it is made of values that do not -/
inductive Cell where
  | lst (l : List Dv) | ob (c : String) (l : List Dv) | dc (t : Bool) (ks vs : List Dv) | dead | tab (t : Tb)
abbrev Sto := List Cell
/-- what is fixed: the written part, the classes' addresses, their fields -/
structure Zt where
  K : PySem.W.Frag
  cm : String → Addr
/-- the fields of the package's classes, in the order in which they are set -/
def flds (c : String) : List Str :=
  if c = "Web" then ["houses", "ties", "known", "beside"]
  else if c = "Addresses" then ["kept"]
  else if c = "Tree" then ["spans", "web", "root", "parents", "lists", "ranks"]
  else if c = "LongWeb" then ["web", "spans", "rows"]
  else if c = "LongTree" then ["long", "row", "parents", "houses", "lists"]
  else if c = "Stand" then ["own_names", "ties"]
  else if c = "Post" then ["past"]
  else []
def key? : Dv → Option Key
  | .int i => some (.inl i)
  | .str s => some (.inr s)
  | _ => none
def tkey? : Dv → Option (List Key)
  | .tup l => l.mapM key?
  | _ => none
def DicAt (t : Bool) (o : Option HO) (ks : List Dv) (ws : List V) : Prop := match t with
  | false => ∃ kk : List Key, ks.map key? = kk.map some ∧ o = some (.dK (kk.zip ws))
  | true => ∃ kk : List (List Key), ks.map tkey? = kk.map some ∧ o = some (.dT (kk.zip ws))
/-- a tuple whose object is known: of the base, or laid so that it is -/
def KT (K : PySem.W.Frag) (G : Hp) (a : Addr) (xs : List V) : Prop :=
  (SqT K (fun _ => none) a xs ∧ ∃ o, K.lookup a = some o ∧ o.cls = .type "tuple" ∧ o.dict = none) ∨ ∃ o : Obj, o.cls = .type "tuple" ∧ o.dict = none ∧ G a = some (.frz o (.tup xs))
mutual
/-- v stands for d, by the known part G -/
def On (Z : Zt) (G : Hp) : Dv → V → Prop
  | .non, v => v = .non
  | .bl b, v => v = .bl b
  | .int i, v => v = .int i
  | .str s, v => v = .str s
  | .ty s, v => v = .ty s
  | .cls c, v => v = .ref (Z.cm c)
  | .scr l, v => ∃ a, v = .ref a ∧ SqL Z.K G a (l.map V.int)
  | .ktp l, v => ∃ a xs, v = .ref a ∧ KT Z.K G a xs ∧ OnL Z G l xs
  | .lst l, v => ∃ a xs, v = .ref a ∧ G a = some (.lst xs) ∧ OnL Z G l xs
  | .tup l, v => ∃ a xs, v = .ref a ∧ G a = some (.tup xs) ∧ OnL Z G l xs
  | .obj c l, v => ∃ a dx xs, v = .ref a ∧ G a = some (.ins (Z.cm c) dx ((flds c).zip xs)) ∧ l.length ≤ (flds c).length ∧ OnL Z G l xs
  | .dic t ks vs, v => ∃ a ws, v = .ref a ∧ DicAt t (G a) ks ws ∧ ks.length = ws.length ∧ OnL Z G vs ws
def OnL (Z : Zt) (G : Hp) : List Dv → List V → Prop
  | [], xs => xs = []
  | d :: l, xs => ∃ y ys, xs = y :: ys ∧ On Z G d y ∧ OnL Z G l ys
end
theorem KT.up {K : PySem.W.Frag} {G H : Hp} (e : Ex G H) {a : Addr} {xs : List V} (h : KT K G a xs) : KT K H a xs := by
  rcases h with h | ⟨o, h1, h2, h3⟩
  · exact .inl h
  · exact .inr ⟨o, h1, h2, e _ _ h3⟩
theorem KT.sq {K : PySem.W.Frag} {G H : Hp} (e : Ex G H) {a : Addr} {xs : List V} (h : KT K G a xs) : SqT K H a xs := by
  rcases h with ⟨(h | ⟨o, h⟩) | h, _⟩ | ⟨o, _, _, h⟩
  · cases h
  · cases h
  · exact .inr h
  · exact .inl (.inr ⟨o, e _ _ h⟩)
theorem DicAt.up {G H : Hp} (e : Ex G H) {t : Bool} {a : Addr} {ks : List Dv} {ws : List V} (h : DicAt t (G a) ks ws) : DicAt t (H a) ks ws := by
  cases t with
  | false => obtain ⟨kk, h1, h2⟩ := h; exact ⟨kk, h1, e _ _ h2⟩
  | true => obtain ⟨kk, h1, h2⟩ := h; exact ⟨kk, h1, e _ _ h2⟩
def Px (α β : List Addr) : Prop := ∃ γ, β = α ++ γ
theorem Px.refl (α : List Addr) : Px α α := ⟨[], by simp⟩
theorem Px.trans {α β γ : List Addr} (a : Px α β) (b : Px β γ) : Px α γ := by
  obtain ⟨x, rfl⟩ := a
  obtain ⟨y, rfl⟩ := b
  exact ⟨x ++ y, by rw [List.append_assoc]⟩
theorem Px.get {α β : List Addr} (a : Px α β) {n : Nat} {x : Addr} (h : α[n]? = some x) : β[n]? = some x := by
  obtain ⟨y, rfl⟩ := a
  rw [List.getElem?_append_left (List.getElem?_eq_some_iff.mp h).1]
  exact h
theorem Px.mem {α β : List Addr} (a : Px α β) {x : Addr} (h : x ∈ α) : x ∈ β := by
  obtain ⟨y, rfl⟩ := a
  exact List.mem_append_left _ h
section
variable {Z : Zt} {G G' H H' : Hp} {α β : List Addr}
mutual
theorem On.up (e : Ex G G') : ∀ {d : Dv} {v : V}, On Z G d v → On Z G' d v
  | .non, _, h => by unfold On at h ⊢; exact h
  | .bl _, _, h => by unfold On at h ⊢; exact h
  | .int _, _, h => by unfold On at h ⊢; exact h
  | .str _, _, h => by unfold On at h ⊢; exact h
  | .ty _, _, h => by unfold On at h ⊢; exact h
  | .cls _, _, h => by unfold On at h ⊢; exact h
  | .scr l, v, h => by
    unfold On at h ⊢
    obtain ⟨a, h1, h2⟩ := h
    exact ⟨a, h1, ex_l e h2⟩
  | .lst l, v, h => by
    unfold On at h ⊢
    obtain ⟨a, xs, h1, h2, h3⟩ := h
    exact ⟨a, xs, h1, e _ _ h2, OnL.up e h3⟩
  | .ktp l, v, h => by
    unfold On at h ⊢
    obtain ⟨a, xs, h1, h2, h3⟩ := h
    exact ⟨a, xs, h1, h2.up e, OnL.up e h3⟩
  | .tup l, v, h => by
    unfold On at h ⊢
    obtain ⟨a, xs, h1, h2, h3⟩ := h
    exact ⟨a, xs, h1, e _ _ h2, OnL.up e h3⟩
  | .obj c l, v, h => by
    unfold On at h ⊢
    obtain ⟨a, dx, xs, h1, h2, h4, h3⟩ := h
    exact ⟨a, dx, xs, h1, e _ _ h2, h4, OnL.up e h3⟩
  | .dic t ks l, v, h => by
    unfold On at h ⊢
    obtain ⟨a, xs, h1, h2, h4, h3⟩ := h
    exact ⟨a, xs, h1, h2.up e, h4, OnL.up e h3⟩
theorem OnL.up (e : Ex G G') : ∀ {l : List Dv} {xs : List V}, OnL Z G l xs → OnL Z G' l xs
  | [], _, h => by unfold OnL at h ⊢; exact h
  | d :: l, xs, h => by
    unfold OnL at h ⊢
    obtain ⟨y, ys, h1, h2, h3⟩ := h
    exact ⟨y, ys, h1, On.up e h2, OnL.up e h3⟩
end
theorem OnL.nil {xs : List V} : OnL Z G [] xs ↔ xs = [] := by unfold OnL; exact Iff.rfl
theorem OnL.cons {d : Dv} {l : List Dv} {xs : List V} : OnL Z G (d :: l) xs ↔ ∃ y ys, xs = y :: ys ∧ On Z G d y ∧ OnL Z G l ys := by
  constructor
  · intro h; unfold OnL at h; exact h
  · intro h; unfold OnL; exact h
theorem OnL.cons' {d : Dv} {l : List Dv} {y : V} {ys : List V} (h : On Z G d y) (t : OnL Z G l ys) : OnL Z G (d :: l) (y :: ys) := OnL.cons.mpr ⟨y, ys, rfl, h, t⟩
theorem OnL.nil' : OnL Z G [] [] := OnL.nil.mpr rfl
theorem OnL.one {d : Dv} {xs : List V} (h : OnL Z G [d] xs) : ∃ y, xs = [y] ∧ On Z G d y := by
  obtain ⟨y, ys, rfl, h2, h3⟩ := OnL.cons.mp h
  rw [OnL.nil.mp h3]
  exact ⟨y, rfl, h2⟩
theorem OnL.two {d e : Dv} {xs : List V} (h : OnL Z G [d, e] xs) : ∃ y z, xs = [y, z] ∧ On Z G d y ∧ On Z G e z := by
  obtain ⟨y, ys, rfl, h2, h3⟩ := OnL.cons.mp h
  obtain ⟨z, rfl, h4⟩ := h3.one
  exact ⟨y, z, rfl, h2, h4⟩
theorem OnL.len : ∀ {l : List Dv} {xs : List V}, OnL Z G l xs → xs.length = l.length
  | [], _, h => by rw [OnL.nil.mp h]; rfl
  | d :: l, xs, h => by
    obtain ⟨y, ys, rfl, _, h3⟩ := OnL.cons.mp h
    rw [List.length_cons, List.length_cons, OnL.len h3]
theorem OnL.app : ∀ {l m : List Dv} {xs ys : List V}, OnL Z G l xs → OnL Z G m ys → OnL Z G (l ++ m) (xs ++ ys)
  | [], _, _, _, h, g => by rw [OnL.nil.mp h]; exact g
  | d :: l, m, xs, ys, h, g => by
    obtain ⟨y, zs, rfl, h2, h3⟩ := OnL.cons.mp h
    exact OnL.cons' h2 (OnL.app h3 g)
theorem OnL.get : ∀ {l : List Dv} {xs : List V} {i : Nat} {d : Dv}, OnL Z G l xs → l[i]? = some d → ∃ x, xs[i]? = some x ∧ On Z G d x
  | [], _, _, _, _, e => by simp at e
  | c :: l, xs, 0, d, h, e => by
    obtain ⟨y, ys, rfl, h2, h3⟩ := OnL.cons.mp h
    simp at e
    subst e
    exact ⟨y, rfl, h2⟩
  | c :: l, xs, i + 1, d, h, e => by
    obtain ⟨y, ys, rfl, h2, h3⟩ := OnL.cons.mp h
    obtain ⟨x, h4, h5⟩ := OnL.get (i := i) h3 (by simpa using e)
    exact ⟨x, by simpa using h4, h5⟩
theorem OnL.got : ∀ {l : List Dv} {xs : List V} {i : Nat} {x : V}, OnL Z G l xs → xs[i]? = some x → ∃ d, l[i]? = some d ∧ On Z G d x
  | [], xs, i, x, h, e => by rw [OnL.nil.mp h] at e; simp at e
  | c :: l, xs, 0, d, h, e => by
    obtain ⟨y, ys, rfl, h2, h3⟩ := OnL.cons.mp h
    simp at e
    subst e
    exact ⟨c, rfl, h2⟩
  | c :: l, xs, i + 1, d, h, e => by
    obtain ⟨y, ys, rfl, h2, h3⟩ := OnL.cons.mp h
    obtain ⟨x, h4, h5⟩ := OnL.got (i := i) h3 (by simpa using e)
    exact ⟨x, by simpa using h4, h5⟩
theorem OnL.set : ∀ {l : List Dv} {xs : List V} {i : Nat} {d : Dv} {x : V}, OnL Z G l xs → On Z G d x → OnL Z G (l.set i d) (xs.set i x)
  | [], xs, i, d, x, h, e => by rw [OnL.nil.mp h]; exact OnL.nil'
  | c :: l, xs, 0, d, x, h, e => by
    obtain ⟨y, ys, rfl, h2, h3⟩ := OnL.cons.mp h
    exact OnL.cons' e h3
  | c :: l, xs, i + 1, d, x, h, e => by
    obtain ⟨y, ys, rfl, h2, h3⟩ := OnL.cons.mp h
    exact OnL.cons' h2 (OnL.set h3 e)
theorem OnL.take : ∀ {l : List Dv} {xs : List V} (n : Nat), OnL Z G l xs → OnL Z G (l.take n) (xs.take n)
  | _, _, 0, _ => by rw [List.take_zero, List.take_zero]; exact OnL.nil'
  | [], _, n + 1, h => by rw [OnL.nil.mp h]; exact OnL.nil'
  | d :: l, _, n + 1, h => by
    obtain ⟨y, ys, rfl, h2, h3⟩ := OnL.cons.mp h
    exact OnL.cons' h2 (OnL.take n h3)
theorem OnL.drop : ∀ {l : List Dv} {xs : List V} (n : Nat), OnL Z G l xs → OnL Z G (l.drop n) (xs.drop n)
  | _, _, 0, h => h
  | [], _, n + 1, h => by rw [OnL.nil.mp h]; exact OnL.nil'
  | d :: l, _, n + 1, h => by
    obtain ⟨y, ys, rfl, h2, h3⟩ := OnL.cons.mp h
    exact OnL.drop n h3
theorem OnL.rev {l : List Dv} {xs : List V} (h : OnL Z G l xs) : OnL Z G l.reverse xs.reverse := by
  induction l generalizing xs with
  | nil => rw [OnL.nil.mp h]; exact OnL.nil'
  | cons d l ih =>
    obtain ⟨y, ys, rfl, h2, h3⟩ := OnL.cons.mp h
    rw [List.reverse_cons, List.reverse_cons]
    exact (ih h3).app (OnL.cons' h2 OnL.nil')
/-- what v is at its top, in the heap as it stands; its parts are known -/
def OnH (Z : Zt) (G H : Hp) : Dv → V → Prop
  | .non, v => v = .non
  | .bl b, v => v = .bl b
  | .int i, v => v = .int i
  | .str s, v => v = .str s
  | .ty s, v => v = .ty s
  | .cls c, v => v = .ref (Z.cm c)
  | .scr l, v => ∃ a, v = .ref a ∧ SqL Z.K G a (l.map V.int)
  | .lst l, v => ∃ a xs, v = .ref a ∧ H a = some (.lst xs) ∧ OnL Z G l xs
  | .ktp l, v => ∃ a xs, v = .ref a ∧ KT Z.K G a xs ∧ OnL Z G l xs
  | .tup l, v => ∃ a xs, v = .ref a ∧ G a = some (.tup xs) ∧ OnL Z G l xs
  | .obj c l, v => ∃ a dx xs, v = .ref a ∧ H a = some (.ins (Z.cm c) dx ((flds c).zip xs)) ∧ l.length ≤ (flds c).length ∧ OnL Z G l xs
  | .dic t ks vs, v => ∃ a ws, v = .ref a ∧ DicAt t (H a) ks ws ∧ ks.length = ws.length ∧ OnL Z G vs ws
theorem On.h (e : Ex G H) {d : Dv} {v : V} (h : On Z G d v) : OnH Z G H d v := by
  cases d with
  | scr l => unfold On at h; exact h
  | lst l => unfold On at h; obtain ⟨a, xs, h1, h2, h3⟩ := h; exact ⟨a, xs, h1, e _ _ h2, h3⟩
  | ktp l => unfold On at h; exact h
  | tup l => unfold On at h; exact h
  | obj c l => unfold On at h; obtain ⟨a, dx, xs, h1, h2, h4, h3⟩ := h; exact ⟨a, dx, xs, h1, e _ _ h2, h4, h3⟩
  | dic t ks l => unfold On at h; obtain ⟨a, xs, h1, h2, h4, h3⟩ := h; exact ⟨a, xs, h1, h2.up e, h4, h3⟩
  | _ => unfold On at h; exact h
theorem OnH.on (e : Ex G H) {d : Dv} {v : V} (h : OnH Z G H d v) : On Z H d v := by
  cases d with
  | lst l => obtain ⟨a, xs, h1, h2, h3⟩ := h; unfold On; exact ⟨a, xs, h1, h2, h3.up e⟩
  | scr l => obtain ⟨a, h1, h2⟩ := h; unfold On; exact ⟨a, h1, ex_l e h2⟩
  | ktp l => obtain ⟨a, xs, h1, h2, h3⟩ := h; unfold On; exact ⟨a, xs, h1, h2.up e, h3.up e⟩
  | tup l => obtain ⟨a, xs, h1, h2, h3⟩ := h; unfold On; exact ⟨a, xs, h1, e _ _ h2, h3.up e⟩
  | obj c l => obtain ⟨a, dx, xs, h1, h2, h4, h3⟩ := h; unfold On; exact ⟨a, dx, xs, h1, h2, h4, h3.up e⟩
  | dic t ks l => obtain ⟨a, xs, h1, h2, h4, h3⟩ := h; unfold On; exact ⟨a, xs, h1, h2, h4, h3.up e⟩
  | _ => unfold On; exact h
def CellAt (Z : Zt) (G : Hp) : Cell → Option HO → Prop
  | .lst l, o => ∃ xs, o = some (.lst xs) ∧ OnL Z G l xs
  | .ob c l, o => ∃ dx xs, o = some (.ins (Z.cm c) dx ((flds c).zip xs)) ∧ l.length ≤ (flds c).length ∧ OnL Z G l xs
  | .dc t ks vs, o => ∃ ws, DicAt t o ks ws ∧ ks.length = ws.length ∧ OnL Z G vs ws
  | .dead, o => o ≠ none
  | .tab _, _ => False
theorem CellAt.up {c : Cell} {o : Option HO} (e : Ex G G') (h : CellAt Z G c o) : CellAt Z G' c o := by
  cases c with
  | lst l => obtain ⟨xs, h1, h2⟩ := h; exact ⟨xs, h1, h2.up e⟩
  | ob c l => obtain ⟨dx, xs, h1, h3, h2⟩ := h; exact ⟨dx, xs, h1, h3, h2.up e⟩
  | dc t ks vs => obtain ⟨xs, h1, h3, h2⟩ := h; exact ⟨xs, h1, h3, h2.up e⟩
  | dead => exact h
  | tab rows => exact h.elim
theorem DicAt.ne {t : Bool} {o : Option HO} {ks : List Dv} {ws : List V} (h : DicAt t o ks ws) : o ≠ none := by
  cases t with
  | false => obtain ⟨kk, h1, h2⟩ := h; rw [h2]; exact fun h => nomatch h
  | true => obtain ⟨kk, h1, h2⟩ := h; rw [h2]; exact fun h => nomatch h
theorem CellAt.ne {c : Cell} {o : Option HO} (h : CellAt Z G c o) : o ≠ none := by
  cases c with
  | lst l => obtain ⟨xs, h1, h2⟩ := h; rw [h1]; exact fun h => nomatch h
  | ob c l => obtain ⟨dx, xs, h1, h3, h2⟩ := h; rw [h1]; exact fun h => nomatch h
  | dc t ks vs => obtain ⟨xs, h1, h3, h2⟩ := h; exact h1.ne
  | dead => exact h
  | tab rows => exact h.elim
def OnR (Z : Zt) (G : Hp) (α : List Addr) : Vr → V → Prop
  | .d d, v => On Z G d v
  | .r n, v => ∃ a, v = .ref a ∧ α[n]? = some a
theorem OnR.up {r : Vr} {v : V} (e : Ex G G') (p : Px α β) (h : OnR Z G α r v) : OnR Z G' β r v := by
  cases r with
  | d d => exact On.up e h
  | r n => obtain ⟨a, h1, h2⟩ := h; exact ⟨a, h1, p.get h2⟩
def OnA (Z : Zt) (G : Hp) (α : List Addr) : List Vr → List V → Prop
  | [], xs => xs = []
  | d :: l, xs => ∃ y ys, xs = y :: ys ∧ OnR Z G α d y ∧ OnA Z G α l ys
theorem OnA.up (e : Ex G G') (p : Px α β) : ∀ {l : List Vr} {xs : List V}, OnA Z G α l xs → OnA Z G' β l xs
  | [], _, h => h
  | d :: l, xs, h => by
    obtain ⟨y, ys, h1, h2, h3⟩ := h
    exact ⟨y, ys, h1, h2.up e p, OnA.up e p h3⟩
theorem OnA.len : ∀ {l : List Vr} {xs : List V}, OnA Z G α l xs → xs.length = l.length
  | [], _, h => by rw [show _ = [] from h]; rfl
  | d :: l, xs, h => by
    obtain ⟨y, ys, rfl, _, h3⟩ := h
    rw [List.length_cons, List.length_cons, OnA.len h3]
/-- a list of lists, all of which may change: the rows stand in the cells ahead of it, which are dead for themselves -/
def TabIn (Z : Zt) (G : Hp) (H : Hp) (α : List Addr) (S : Sto) (n : Nat) (a : Addr) (rows : List (List Dv)) : Prop :=
  rows.length ≤ n ∧ ∃ xs, H a = some (.lst xs) ∧ xs.length = rows.length ∧ ∀ i row, rows[i]? = some row → ∃ b ys, α[n - rows.length + i]? = some b ∧ S[n - rows.length + i]? = some .dead ∧ xs[i]? = some (.ref b) ∧ G b = none ∧ H b = some (.lst ys) ∧ OnL Z G row ys
/-- the cells that the items name are such, wherever α is kept -/
theorem OnA.mv (e : Ex G G') : ∀ {l : List Vr} {xs : List V}, (∀ (m : Nat), Vr.r m ∈ l → ∀ b : Addr, α[m]? = some b → β[m]? = some b) → OnA Z G α l xs → OnA Z G' β l xs
  | [], _, _, h => h
  | d :: l, xs, k, h => by
    obtain ⟨y, ys, h1, h2, h3⟩ := h
    refine ⟨y, ys, h1, ?_, OnA.mv e (fun m hm => k m (List.mem_cons_of_mem _ hm)) h3⟩
    cases d with
    | d d => exact On.up e h2
    | r n => obtain ⟨c, q1, q2⟩ := h2; exact ⟨c, q1, k n List.mem_cons_self c q2⟩
/-- a list of values and of cells that stand ahead of it -/
def VlIn (Z : Zt) (G : Hp) (H : Hp) (α : List Addr) (n : Nat) (a : Addr) (l : List Vr) : Prop :=
  (∀ m, Vr.r m ∈ l → m < n) ∧ ∃ xs, H a = some (.lst xs) ∧ OnA Z G α l xs
/-- what a cell says of the heap -/
def CellIn (Z : Zt) (G : Hp) (H : Hp) (α : List Addr) (S : Sto) (n : Nat) (a : Addr) : Cell → Prop
  | .tab (.rows rows) => TabIn Z G H α S n a rows
  | .tab (.vl l) => VlIn Z G H α n a l
  | c => CellAt Z G c (H a)
theorem CellIn.of {n : Nat} {a : Addr} {c : Cell} {S : Sto} (h : CellAt Z G c (H a)) : CellIn Z G H α S n a c := by
  cases c <;> first | exact h | exact h.elim
theorem CellIn.at {n : Nat} {a : Addr} {c : Cell} {S : Sto} (h : CellIn Z G H α S n a c) (ht : ∀ r, c ≠ .tab r) : CellAt Z G c (H a) := by
  cases c with
  | tab rows => exact absurd rfl (ht rows)
  | lst l => exact h
  | ob c l => exact h
  | dc t k l => exact h
  | dead => exact h
theorem CellIn.ne {n : Nat} {a : Addr} {c : Cell} {S : Sto} (h : CellIn Z G H α S n a c) : H a ≠ none := by
  cases c with
  | tab t =>
    cases t with
    | rows rows => obtain ⟨_, xs, h1, _⟩ := h; rw [h1]; exact fun h => nomatch h
    | vl l => obtain ⟨_, xs, h1, _⟩ := h; rw [h1]; exact fun h => nomatch h
  | lst l => exact CellAt.ne (show CellAt Z G (.lst l) (H a) from h)
  | ob c l => exact CellAt.ne (show CellAt Z G (.ob c l) (H a) from h)
  | dc t k l => exact CellAt.ne (show CellAt Z G (.dc t k l) (H a) from h)
  | dead => exact CellAt.ne (show CellAt Z G .dead (H a) from h)
/-- all that a cell speaks of stays -/
theorem CellIn.move {n : Nat} {a : Addr} {c : Cell} {S S' : Sto} {G' H' : Hp} {β : List Addr} (h : CellIn Z G H α S n a c) (eG : Ex G G') (ha : H' a = H a) (hα : ∀ (m : Nat) (b : Addr), m < n → α[m]? = some b → β[m]? = some b)
    (hr : ∀ (m : Nat) (b : Addr), m < n → α[m]? = some b → S[m]? = some .dead → G b = none → β[m]? = some b ∧ S'[m]? = some .dead ∧ G' b = none ∧ ∀ o, H b = some o → H' b = some o) : CellIn Z G' H' β S' n a c := by
  cases c with
  | tab t =>
    cases t with
    | rows rows =>
      obtain ⟨h1, xs, h2, h3, h4⟩ := h
      refine ⟨h1, xs, by rw [ha]; exact h2, h3, fun i row hi => ?_⟩
      obtain ⟨b, ys, q1, q2, q3, q4, q5, q6⟩ := h4 i row hi
      have hl := (List.getElem?_eq_some_iff.mp hi).1
      obtain ⟨r1, r2, r3, r4⟩ := hr _ b (by omega) q1 q2 q4
      exact ⟨b, ys, r1, r2, q3, r3, r4 _ q5, q6.up eG⟩
    | vl l =>
      obtain ⟨h1, xs, h2, h3⟩ := h
      exact ⟨h1, xs, by rw [ha]; exact h2, h3.mv eG fun m hm b hb => hα m b (h1 m hm) hb⟩
  | lst l => show CellAt Z G' (.lst l) (H' a); rw [ha]; exact CellAt.up eG (show CellAt Z G (.lst l) (H a) from h)
  | ob c l => show CellAt Z G' (.ob c l) (H' a); rw [ha]; exact CellAt.up eG (show CellAt Z G (.ob c l) (H a) from h)
  | dc t k l => show CellAt Z G' (.dc t k l) (H' a); rw [ha]; exact CellAt.up eG (show CellAt Z G (.dc t k l) (H a) from h)
  | dead => show CellAt Z G' .dead (H' a); rw [ha]; exact CellAt.up eG (show CellAt Z G .dead (H a) from h)
/-- the cells S stand at α, beside what is known -/
structure Hd (Z : Zt) (G : Hp) (α : List Addr) (S : Sto) (H : Hp) : Prop where
  ex : Ex G H
  len : α.length = S.length
  nd : α.Nodup
  at_ : ∀ (n : Nat) (a : Addr) (c : Cell), α[n]? = some a → S[n]? = some c → (c ≠ .dead → G a = none) ∧ CellIn Z G H α S n a c
structure Fr (G : Hp) (α : List Addr) (H : Hp) (G2 : Hp) (α2 : List Addr) (H2 : Hp) : Prop where
  g : Ex G G2
  a : Px α α2
  h : ∀ b o, H b = some o → b ∉ α → H2 b = some o
  n : ∀ b o, G b = none → H b = some o → (∀ xs, o ≠ HO.tup xs) → b ∉ α → G2 b = none
  m : ∀ b, b ∈ α2 → b ∈ α ∨ H b = none
  s : ∀ b, H b ≠ none → H2 b ≠ none
theorem Fr.refl (G : Hp) (α : List Addr) (H : Hp) : Fr G α H G α H := ⟨Ex.refl G, Px.refl α, fun _ _ h _ => h, fun _ _ h _ _ _ => h, fun _ h => .inl h, fun _ h => h⟩
theorem Fr.trans {G H G2 H2 G3 H3 : Hp} {α α2 α3 : List Addr} (x : Fr G α H G2 α2 H2) (y : Fr G2 α2 H2 G3 α3 H3) : Fr G α H G3 α3 H3 := by
  have k : ∀ b, H b ≠ none → b ∉ α → b ∉ α2 := fun b h1 h2 h3 => by
    rcases x.m b h3 with h | h
    · exact h2 h
    · exact h1 h
  refine ⟨x.g.trans y.g, x.a.trans y.a, fun b o h1 h2 => y.h b o (x.h b o h1 h2) (k b (by rw [h1]; exact fun h => nomatch h) h2), fun b o h1 h2 ht h3 => y.n b o (x.n b o h1 h2 ht h3) (x.h b o h2 h3) ht (k b (by rw [h2]; exact fun h => nomatch h) h3), fun b hb => ?_, fun b h => y.s b (x.s b h)⟩
  rcases y.m b hb with h | h
  · exact x.m b h
  · right
    cases q : H b with
    | none => rfl
    | some o => exact absurd h (x.s b (by rw [q]; exact fun h => nomatch h))
theorem Ex.ne {G H : Hp} (e : Ex G H) {a : Addr} (h : G a ≠ none) : H a ≠ none := by
  cases q : G a with
  | none => exact absurd q h
  | some o => rw [e a o q]; exact fun h => nomatch h
variable {S : Sto} {G2 H2 : Hp} {α2 : List Addr}
theorem Fr.back {a : Addr} (f : Fr G α H G2 α2 H2) (h : H2 a = none) : H a = none := by
  cases q : H a with
  | none => rfl
  | some o => exact absurd h (f.s a (by rw [q]; exact fun h => nomatch h))
theorem Hd.live (h : Hd Z G α S H) {a : Addr} (ha : a ∈ α) : H a ≠ none := by
  obtain ⟨n, hn, rfl⟩ := List.mem_iff_getElem.mp ha
  have h1 : α[n]? = some α[n] := List.getElem?_eq_getElem hn
  have h2 : n < S.length := by rw [← h.len]; exact hn
  exact (h.at_ n _ _ h1 (List.getElem?_eq_getElem h2)).2.ne
theorem Hd.cell (h : Hd Z G α S H) {n : Nat} {c : Cell} (hc : S[n]? = some c) : ∃ a, α[n]? = some a ∧ (c ≠ .dead → G a = none) ∧ CellIn Z G H α S n a c := by
  have h1 := (List.getElem?_eq_some_iff.mp hc).1
  have h2 : n < α.length := by rw [h.len]; exact h1
  exact ⟨α[n], List.getElem?_eq_getElem h2, h.at_ n _ c (List.getElem?_eq_getElem h2) hc⟩
theorem Hd.cell2 (h : Hd Z G α S H) {n : Nat} {a : Addr} (ha : α[n]? = some a) : ∃ c, S[n]? = some c ∧ (c ≠ .dead → G a = none) ∧ CellIn Z G H α S n a c := by
  have h1 := (List.getElem?_eq_some_iff.mp ha).1
  have h2 : n < S.length := by rw [← h.len]; exact h1
  exact ⟨S[n], List.getElem?_eq_getElem h2, h.at_ n a _ ha (List.getElem?_eq_getElem h2)⟩
/-- the heap grows beside -/
theorem Hd.grow {H2 : Hp} (h : Hd Z G α S H) (e : Ex H H2) : Hd Z G α S H2 := ⟨h.ex.trans e, h.len, h.nd, fun n a c h1 h2 => by
  obtain ⟨h3, h4⟩ := h.at_ n a c h1 h2
  refine ⟨h3, h4.move (Ex.refl G) ?_ (fun _ _ _ q => q) fun m b _ q1 q2 q3 => ⟨q1, q2, q3, fun o ho => e b o ho⟩⟩
  cases q : H a with
  | none => exact absurd q h4.ne
  | some o => exact e a o q⟩
theorem Fr.grow {H2 : Hp} (h : Hd Z G α S H) (e : Ex H H2) : Fr G α H G α H2 := ⟨Ex.refl G, Px.refl α, fun b o h1 _ => e b o h1, fun _ _ h _ _ _ => h, fun _ h => .inl h, fun b h => Ex.ne e h⟩
/-- a new thing is known -/
theorem Hd.know {p : Addr} {o : HO} (h : Hd Z G α S H) (hp : H p = none) : Hd Z (upd G p o) α S (upd H p o) ∧ Fr G α H (upd G p o) α (upd H p o) := by
  have hG : G p = none := fresh_back h.ex hp
  have hpa : ∀ a ∈ α, a ≠ p := fun a ha c => h.live ha (c ▸ hp)
  refine ⟨⟨OP.ex_upd h.ex, h.len, h.nd, fun n a c h1 h2 => ?_⟩, ⟨Ex.new hG, Px.refl α, fun b o' h1 _ => Ex.new hp b o' h1, fun b o' h1 h2 _ _ => ?_, fun _ h => .inl h, fun b h => Ex.ne (Ex.new hp) h⟩⟩
  · obtain ⟨h3, h4⟩ := h.at_ n a c h1 h2
    have ne := hpa a (List.mem_of_getElem? h1)
    refine ⟨fun hc => by rw [upd_ne ne]; exact h3 hc, h4.move (Ex.new hG) (upd_ne ne) (fun _ _ _ q => q) fun m b _ q1 q2 q3 => ?_⟩
    have nb := hpa b (List.mem_of_getElem? q1)
    exact ⟨q1, q2, by rw [upd_ne nb]; exact q3, fun o' ho => by rw [upd_ne nb]; exact ho⟩
  · have : b ≠ p := fun c => by subst c; rw [hp] at h2; cases h2
    rw [upd_ne this]
    exact h1
/-- what stands unknown at p, beside the cells, becomes known -/
theorem Hd.freeze {p : Addr} {o : HO} (h : Hd Z G α S H) (hG : G p = none) (ho : H p = some o) (hn : p ∉ α) : Hd Z (upd G p o) α S H := by
  obtain ⟨e1, e2⟩ := OP.Fr.freeze h.ex hG ho
  refine ⟨e2, h.len, h.nd, fun n a c h1 h2 => ?_⟩
  obtain ⟨h3, h4⟩ := h.at_ n a c h1 h2
  have ne : a ≠ p := fun c => hn (c ▸ List.mem_of_getElem? h1)
  refine ⟨fun hc => by rw [upd_ne ne]; exact h3 hc, h4.move e1 rfl (fun _ _ _ q => q) fun m b _ q1 q2 q3 => ?_⟩
  have nb : b ≠ p := fun c => hn (c ▸ List.mem_of_getElem? q1)
  exact ⟨q1, q2, by rw [upd_ne nb]; exact q3, fun o' ho => ho⟩
/-- it becomes a cell -/
theorem Hd.push {p : Addr} {c : Cell} (h : Hd Z G α S H) (hG : G p = none) (hn : p ∉ α) (hc : CellAt Z G c (H p)) : Hd Z G (α ++ [p]) (S ++ [c]) H := by
  refine ⟨h.ex, by rw [List.length_append, List.length_append, h.len]; rfl, ?_, fun n a d h1 h2 => ?_⟩
  · rw [List.nodup_append]
    exact ⟨h.nd, by simp, fun a ha b hb => by rw [List.mem_singleton.mp hb]; exact fun c => hn (c ▸ ha)⟩
  · by_cases hl : n < α.length
    · rw [List.getElem?_append_left hl] at h1
      rw [List.getElem?_append_left (by rw [← h.len]; exact hl)] at h2
      obtain ⟨h3, h4⟩ := h.at_ n a d h1 h2
      refine ⟨h3, h4.move (Ex.refl G) rfl (fun m b hm q => by rw [List.getElem?_append_left (by omega)]; exact q) fun m b hm q1 q2 q3 => ⟨?_, ?_, q3, fun o ho => ho⟩⟩
      · rw [List.getElem?_append_left (by omega)]; exact q1
      · rw [List.getElem?_append_left (by rw [← h.len]; omega)]; exact q2
    · rw [List.getElem?_append_right (by omega)] at h1
      rw [List.getElem?_append_right (by rw [← h.len]; omega)] at h2
      have hn0 : n - α.length = 0 := by
        cases q : n - α.length with
        | zero => rfl
        | succ m => rw [q] at h1; simp at h1
      rw [← h.len] at h2
      rw [hn0] at h1 h2
      simp at h1 h2
      subst h1 h2
      exact ⟨fun _ => hG, CellIn.of hc⟩
theorem Fr.push {p : Addr} (f : Fr G α H G2 α2 H2) (hp : H p = none) : Fr G α H G2 (α2 ++ [p]) H2 :=
  ⟨f.g, f.a.trans ⟨[p], rfl⟩, f.h, f.n, fun b hb => by
    rcases List.mem_append.mp hb with h | h
    · exact f.m b h
    · rw [List.mem_singleton.mp h]; exact .inr hp, f.s⟩
/-- a cell is changed -/
theorem Hd.put {n : Nat} {a : Addr} {c c2 : Cell} {o : HO} (h : Hd Z G α S H) (ha : α[n]? = some a) (hs : S[n]? = some c) (hc : c ≠ .dead) (h2 : CellAt Z G c2 (some o)) : Hd Z G α (S.set n c2) (upd H a o) ∧ Fr G α H G α (upd H a o) := by
  obtain ⟨h3, h4⟩ := h.at_ n a c ha hs
  have hG := h3 hc
  have hm := List.mem_of_getElem? ha
  refine ⟨⟨fun b u hb => ?_, by rw [List.length_set]; exact h.len, h.nd, fun m b d h5 h6 => ?_⟩, ⟨Ex.refl G, Px.refl α, fun b u h5 h6 => ?_, fun _ _ h _ _ _ => h, fun _ h => .inl h, fun b hb => ?_⟩⟩
  · have : b ≠ a := fun c => by subst c; rw [hG] at hb; cases hb
    rw [upd_ne this]
    exact h.ex b u hb
  · by_cases q : b = a
    · subst q
      have e : m = n := (List.getElem?_inj (List.getElem?_eq_some_iff.mp h5).1 h.nd).mp (h5.trans ha.symm)
      subst e
      rw [List.getElem?_set_self (List.getElem?_eq_some_iff.mp hs).1] at h6
      cases h6
      exact ⟨fun _ => hG, CellIn.of (by rw [upd_same]; exact h2)⟩
    · have e : n ≠ m := fun c => by subst c; rw [ha] at h5; exact q (Option.some.inj h5).symm
      rw [List.getElem?_set_ne e] at h6
      obtain ⟨h7, h8⟩ := h.at_ m b d h5 h6
      refine ⟨h7, h8.move (Ex.refl G) (upd_ne q) (fun _ _ _ q => q) fun k x _ q1 q2 q3 => ?_⟩
      have nk : n ≠ k := fun z => by subst z; rw [hs] at q2; exact hc (Option.some.inj q2)
      have nx : x ≠ a := fun z => by
        subst z
        exact nk ((List.getElem?_inj (List.getElem?_eq_some_iff.mp ha).1 h.nd).mp (ha.trans q1.symm))
      exact ⟨q1, by rw [List.getElem?_set_ne nk]; exact q2, q3, fun o' ho => by rw [upd_ne nx]; exact ho⟩
  · have : b ≠ a := fun c => h6 (c ▸ hm)
    rw [upd_ne this]
    exact h5
  · by_cases q : b = a
    · subst q; rw [upd_same]; exact fun h => nomatch h
    · rw [upd_ne q]; exact hb
/-- the cells behind k are forgotten -/
theorem Hd.cut (h : Hd Z G α S H) (k : Nat) : Hd Z G (α.take k) (S.take k) H := by
  refine ⟨h.ex, by rw [List.length_take, List.length_take, h.len], h.nd.sublist (List.take_sublist _ _), fun n a c h1 h2 => ?_⟩
  have hk : n < k := by
    have := (List.getElem?_eq_some_iff.mp h1).1
    rw [List.length_take] at this
    omega
  rw [List.getElem?_take_of_lt hk] at h1 h2
  obtain ⟨h3, h4⟩ := h.at_ n a c h1 h2
  refine ⟨h3, h4.move (Ex.refl G) rfl (fun m b hm q => by rw [List.getElem?_take_of_lt (by omega)]; exact q) fun m b hm q1 q2 q3 => ⟨?_, ?_, q3, fun o ho => ho⟩⟩
  · rw [List.getElem?_take_of_lt (by omega)]; exact q1
  · rw [List.getElem?_take_of_lt (by omega)]; exact q2
theorem Fr.cut (f : Fr G α H G2 α2 H2) : Fr G α H G2 α H2 := ⟨f.g, Px.refl α, f.h, f.n, fun b hb => .inl hb, f.s⟩
theorem Px.cut {α α2 : List Addr} (p : Px α α2) : α2.take α.length = α := by
  obtain ⟨γ, rfl⟩ := p
  rw [List.take_left']
  rfl
/-- what a name's thing is just now -/
def snap (S : Sto) : Vr → Option Dv
  | .d d => some d
  | .r n => match S[n]? with
    | some (.lst l) => some (.lst l)
    | some (.ob c l) => some (.obj c l)
    | some (.dc t ks vs) => some (.dic t ks vs)
    | _ => none
theorem snap_on {r : Vr} {v : V} {d : Dv} (h : Hd Z G α S H) (hr : OnR Z G α r v) (e : snap S r = some d) : OnH Z G H d v := by
  cases r with
  | d x => cases e; exact On.h h.ex hr
  | r n =>
    obtain ⟨a, rfl, ha⟩ := hr
    obtain ⟨c, h1, h2, h3⟩ := h.cell2 ha
    unfold snap at e
    simp only [h1] at e
    cases c with
    | lst l => cases e; obtain ⟨xs, h4, h5⟩ := h3; exact ⟨a, xs, rfl, h4, h5⟩
    | ob c l => cases e; obtain ⟨dx, xs, h4, h6, h5⟩ := h3; exact ⟨a, dx, xs, rfl, h4, h6, h5⟩
    | dc t ks vs => cases e; obtain ⟨ws, h4, h6, h5⟩ := h3; exact ⟨a, ws, rfl, h4, h6, h5⟩
    | dead => cases e
    | tab rows => cases e
end
end DN
namespace DN
open PySem PySem.Spec PyProof.Rows L2 Evl
/-- .. and what is caught: the exception's object, its class, its dict -/
structure Zx extends Zt where
  xc : Option (Addr × Value × Option Addr) := none
instance : Coe Zx Zt := ⟨Zx.toZt⟩
inductive Xn where
  | own (c : String) (v : Vr) | blt (n : String)
inductive Rt where
  | val (v : Vr) | new (c : Cell)
inductive R (β : Type) where
  | ok (S : Sto) (b : β) | ex (S : Sto) (x : Xn) | no
def frzC : Cell → Option Dv
  | .lst l => some (.lst l)
  | .ob c l => some (.obj c l)
  | .dc t ks vs => some (.dic t ks vs)
  | .dead => none
  | .tab _ => none
def R.bind {β γ : Type} (r : R β) (f : Sto → β → R γ) : R γ := match r with
  | .ok S b => f S b
  | .ex S x => .ex S x
  | .no => .no
/-- a value is wanted: a new thing is known from now on -/
def R.bindV {γ : Type} (r : R Rt) (f : Sto → Vr → R γ) : R γ := match r with
  | .ok S (.val v) => f S v
  | .ok S (.new (.lst l)) => f S (.d (.lst l))
  | .ok S (.new (.ob c l)) => f S (.d (.obj c l))
  | .ok S (.new (.dc t ks vs)) => f S (.d (.dic t ks vs))
  | .ok _ (.new .dead) => .no
  | .ok _ (.new (.tab _)) => .no
  | .ex S x => .ex S x
  | .no => .no
def R.of {β : Type} (S : Sto) : Option β → R β
  | some r => .ok S r
  | none => .no
inductive Sl where
  | u | v (r : Vr) | x (c : String) (r : Vr)
abbrev Env := List Sl
abbrev FE := Env → Sto → R Rt
abbrev FT := Env → Sto → R Bool
abbrev FA := Env → Sto → R (List Vr)
structure OnE (Z : Zx) (G : Hp) (α : List Addr) (env : Env) (σ : L2.St) : Prop where
  len : env.length = σ.length
  at_ : ∀ (i : Nat) (d : Vr), env[i]? = some (.v d) → ∃ v, σ[i]? = some (some v) ∧ OnR Z G α d v
  xs : ∀ (i : Nat) (c : String) (r : Vr), env[i]? = some (.x c r) → ∃ a dd w, Z.xc = some (a, .ref (Z.cm c), some dd) ∧ σ[i]? = some (some (.ref a)) ∧ G dd = some (.xd [(("value" : Str), w)]) ∧ OnR Z G α r w
def OnX (Z : Zx) (G : Hp) (α : List Addr) : Xn → Value → Option Addr → Prop
  | .own c v, cls, d => cls = .ref (Z.cm c) ∧ ∃ dd w, d = some dd ∧ G dd = some (.xd [(("value" : Str), w)]) ∧ OnR Z G α v w
  | .blt n, cls, d => cls = .type n ∧ d = none
section
variable {Z : Zx} {G G2 H H2 : Hp} {α α2 : List Addr} {S : Sto}
theorem OnE.up {G' : Hp} {β : List Addr} {env : Env} {σ : L2.St} (e : Ex G G') (p : Px α β) (h : OnE Z G α env σ) : OnE Z G' β env σ := ⟨h.len, fun i d hd => by
  obtain ⟨v, h1, h2⟩ := h.at_ i d hd
  exact ⟨v, h1, h2.up e p⟩, fun i c r hd => by
  obtain ⟨a, dd, w, h1, h2, h3, h4⟩ := h.xs i c r hd
  exact ⟨a, dd, w, h1, h2, e _ _ h3, h4.up e p⟩⟩
theorem OnE.set {env : Env} {σ : L2.St} {d : Vr} {v : V} (i : Nat) (h : OnE Z G α env σ) (hv : OnR Z G α d v) : OnE Z G α (env.set i (.v d)) (σ.set i (some v)) := by
  refine ⟨by rw [List.length_set, List.length_set]; exact h.len, fun j e he => ?_, fun j c r he => ?_⟩
  · by_cases q : i = j
    · subst q
      by_cases hl : i < env.length
      · rw [List.getElem?_set_self hl] at he
        cases he
        exact ⟨v, List.getElem?_set_self (by rw [← h.len]; exact hl), hv⟩
      · rw [List.getElem?_eq_none (by rw [List.length_set]; omega)] at he
        cases he
    · rw [List.getElem?_set_ne q] at he ⊢
      exact h.at_ j e he
  · by_cases q : i = j
    · subst q
      by_cases hl : i < env.length
      · rw [List.getElem?_set_self hl] at he
        cases he
      · rw [List.getElem?_eq_none (by rw [List.length_set]; omega)] at he
        cases he
    · rw [List.getElem?_set_ne q] at he ⊢
      exact h.xs j c r he
/-- a slot of which nothing is known any more -/
theorem OnE.forget {env : Env} {σ : L2.St} {o : Option V} (i : Nat) (h : OnE Z G α env σ) : OnE Z G α (env.set i .u) (σ.set i o) := by
  refine ⟨by rw [List.length_set, List.length_set]; exact h.len, fun j e he => ?_, fun j c r he => ?_⟩
  · by_cases q : i = j
    · subst q
      by_cases hl : i < env.length
      · rw [List.getElem?_set_self hl] at he
        cases he
      · rw [List.getElem?_eq_none (by rw [List.length_set]; omega)] at he
        cases he
    · rw [List.getElem?_set_ne q] at he ⊢
      exact h.at_ j e he
  · by_cases q : i = j
    · subst q
      by_cases hl : i < env.length
      · rw [List.getElem?_set_self hl] at he
        cases he
      · rw [List.getElem?_eq_none (by rw [List.length_set]; omega)] at he
        cases he
    · rw [List.getElem?_set_ne q] at he ⊢
      exact h.xs j c r he
def Xp (Z : Zx) (S : Sto) (x : Xn) (G : Hp) (α : List Addr) (H : Hp) (E : XK) : Prop :=
  ∀ cls d H2 G2 α2, Fr G α H G2 α2 H2 → Hd Z G2 α2 S H2 → OnX Z G2 α2 x cls d → E cls d H2
/-- a wish: of the result b, the heap ahead, what is known, the cells and the heap behind -/
structure Pst (β : Type) where
  p : β → Hp → Hp → List Addr → Hp → Prop
  mono : ∀ {b : β} {H H' G2 : Hp} {α2 : List Addr} {H2 : Hp}, (∀ a, H' a = none → H a = none) → p b H G2 α2 H2 → p b H' G2 α2 H2
def Wk {β : Type} (Z : Zx) (r : R β) (G : Hp) (α : List Addr) (H : Hp) (P : Pst β) (E : XK) : Prop := match r with
  | .ok S b => ∀ H2 G2 α2, Fr G α H G2 α2 H2 → Hd Z G2 α2 S H2 → P.p b H G2 α2 H2
  | .ex S x => Xp Z S x G α H E
  | .no => False
/-- p is a new thing c, not known yet -/
structure Nw (Z : Zx) (H G2 : Hp) (α2 : List Addr) (H2 : Hp) (c : Cell) (p : Addr) : Prop where
  h : H p = none
  g : G2 p = none
  a : p ∉ α2
  c : CellAt Z G2 c (H2 p)
def pRt (Z : Zx) (Q : VK) : Pst Rt := ⟨fun b H G2 α2 H2 => match b with
  | .val v => ∀ w, OnR Z G2 α2 v w → Q w H2
  | .new c => ∀ p, Nw Z H G2 α2 H2 c p → Q (.ref p) H2, fun {b H H' G2 α2 H2} h q => by
  cases b with
  | val v => exact q
  | new c => exact fun p n => q p ⟨h p n.h, n.g, n.a, n.c⟩⟩
def pB (Q : Bool → Hp → Prop) : Pst Bool := ⟨fun b _ _ _ H2 => Q b H2, fun _ q => q⟩
def pA (Z : Zx) (Q : List V → Hp → Prop) : Pst (List Vr) := ⟨fun l _ G2 α2 H2 => ∀ vs, OnA Z G2 α2 l vs → Q vs H2, fun _ q => q⟩
variable {E : XK}
theorem Xp.later {x : Xn} (h : Xp Z S x G α H E) (f : Fr G α H G2 α2 H2) : Xp Z S x G2 α2 H2 E := fun cls d H3 G3 α3 f3 => h cls d H3 G3 α3 (f.trans f3)
theorem Wk.later {β : Type} {r : R β} {P : Pst β} (h : Wk Z r G α H P E) (f : Fr G α H G2 α2 H2) : Wk Z r G2 α2 H2 P E := by
  match r, h with
  | .ok S b, h => exact fun H3 G3 α3 f3 hd => P.mono (fun a ha => f.back ha) (h H3 G3 α3 (f.trans f3) hd)
  | .ex S x, h => exact Xp.later h f
theorem Wk.here {β : Type} {b : β} {P : Pst β} (h : Wk Z (.ok S b) G α H P E) (hd : Hd Z G α S H) : P.p b H G α H := h H G α (Fr.refl G α H) hd
theorem Wk.any {β : Type} {r : Option β} {P : Pst β} {E' : XK} (w : Wk Z (R.of S r) G α H P E) : Wk Z (R.of S r) G α H P E' := by
  cases r with
  | some b => exact w
  | none => exact w
/-- a new cell, known from now on -/
theorem On.frz {c : Cell} {p : Addr} {o : HO} {d : Dv} (ho : CellAt Z G c (some o)) (hd : frzC c = some d) (hp : G p = none) : On Z (upd G p o) d (.ref p) := by
  have ex : Ex G (upd G p o) := Ex.new hp
  cases c with
  | lst l =>
    obtain ⟨xs, h1, h2⟩ := ho
    cases h1
    cases hd
    unfold On
    exact ⟨p, xs, rfl, upd_same, h2.up ex⟩
  | ob c l =>
    obtain ⟨dx, xs, h1, h3, h2⟩ := ho
    cases h1
    cases hd
    unfold On
    exact ⟨p, dx, xs, rfl, upd_same, h3, h2.up ex⟩
  | dc t ks vs =>
    obtain ⟨ws, h1, h3, h2⟩ := ho
    cases hd
    unfold On
    exact ⟨p, ws, rfl, by rw [upd_same]; exact h1, h3, h2.up ex⟩
  | dead => cases hd
  | tab rows => cases hd
theorem Fr.freeze {p : Addr} {o : HO} (f : Fr G α H G2 α2 H2) (hp : H p = none) (hG : G2 p = none) : Fr G α H (upd G2 p o) α2 H2 :=
  ⟨f.g.trans (Ex.new hG), f.a, f.h, fun b o' h1 h2 ht h3 => by
    have : b ≠ p := fun c => by subst c; rw [hp] at h2; cases h2
    rw [upd_ne this]
    exact f.n b o' h1 h2 ht h3, f.m, f.s⟩
theorem bindV_new {γ : Type} {S : Sto} {c : Cell} {d : Dv} {f : Sto → Vr → R γ} (h : frzC c = some d) : R.bindV (.ok S (.new c)) f = f S (.d d) := by
  cases c <;> cases h <;> rfl
theorem bindV_dead {γ : Type} {S : Sto} {c : Cell} {f : Sto → Vr → R γ} (h : frzC c = none) : R.bindV (.ok S (.new c)) f = .no := by
  cases c <;> first | rfl | cases h
/-- r gives d -/
inductive Got : R Rt → Sto → Vr → Prop where
  | val (S : Sto) (v : Vr) : Got (.ok S (.val v)) S v
  | new (S : Sto) (c : Cell) (d : Dv) (h : frzC c = some d) : Got (.ok S (.new c)) S (.d d)
theorem Got.bind {γ : Type} {r : R Rt} {S : Sto} {d : Vr} {f : Sto → Vr → R γ} (h : Got r S d) : r.bindV f = f S d := by
  cases h with
  | val => rfl
  | new S c d h => exact bindV_new h
/-- the value, run behind the state that the rest is told from -/
theorem Wk.bind0 {γ : Type} {r : R Rt} {f : Sto → Vr → R γ} {P : Pst γ} {Q' : VK} {G' H' : Hp} {α' : List Addr} (f0 : Fr G α H G' α' H') (w : Wk Z (r.bindV f) G α H P E)
    (k : ∀ S2 d v H2 G2 α2, Got r S2 d → Fr G' α' H' G2 α2 H2 → Hd Z G2 α2 S2 H2 → OnR Z G2 α2 d v → Wk Z (f S2 d) G α H P E → Q' v H2) : Wk Z r G' α' H' (pRt Z Q') E := by
  match r, w with
  | .ok S (.val v), w => exact fun H2 G2 α2 f2 hd2 x ox => k S v x H2 G2 α2 (.val S v) f2 hd2 ox w
  | .ok S (.new c), w =>
    intro H2 G2 α2 f2 hd2 p n
    cases e : frzC c with
    | none => rw [bindV_dead e] at w; exact w.elim
    | some d =>
      rw [bindV_new e] at w
      cases q : H2 p with
      | none => exact absurd q n.c.ne
      | some o =>
        have hc := n.c
        rw [q] at hc
        exact k S (.d d) _ H2 _ α2 (.new S c d e) (f2.freeze (o := o) n.h n.g) (hd2.freeze n.g q n.a) (On.frz hc e n.g) w
  | .ex S x, w => exact Xp.later w f0
/-- the first part of a row of parts: its value, then the rest -/
theorem Wk.bindV {γ : Type} {r : R Rt} {f : Sto → Vr → R γ} {P : Pst γ} {Q' : VK} (w : Wk Z (r.bindV f) G α H P E)
    (k : ∀ S2 d v H2 G2 α2, Fr G α H G2 α2 H2 → Hd Z G2 α2 S2 H2 → OnR Z G2 α2 d v → Wk Z (f S2 d) G2 α2 H2 P E → Q' v H2) : Wk Z r G α H (pRt Z Q') E := by
  match r, w with
  | .ok S (.val v), w => exact fun H2 G2 α2 f2 hd2 x ox => k S v x H2 G2 α2 f2 hd2 ox (w.later f2)
  | .ok S (.new c), w =>
    intro H2 G2 α2 f2 hd2 p n
    cases e : frzC c with
    | none => rw [bindV_dead e] at w; exact w.elim
    | some d =>
      rw [bindV_new e] at w
      cases q : H2 p with
      | none => exact absurd q n.c.ne
      | some o =>
        have hc := n.c
        rw [q] at hc
        have f3 := f2.freeze (o := o) n.h n.g
        exact k S (.d d) _ H2 _ α2 f3 (hd2.freeze n.g q n.a) (On.frz hc e n.g) (w.later f3)
  | .ex S x, w => exact w
theorem Wk.bind {β γ : Type} {r : R β} {f : Sto → β → R γ} {P : Pst γ} {P' : Pst β} (w : Wk Z (r.bind f) G α H P E)
    (k : ∀ S2 b H2 G2 α2, Fr G α H G2 α2 H2 → Hd Z G2 α2 S2 H2 → Wk Z (f S2 b) G2 α2 H2 P E → P'.p b H G2 α2 H2) : Wk Z r G α H P' E := by
  match r, w with
  | .ok S b, w => exact fun H2 G2 α2 f2 hd2 => k S b H2 G2 α2 f2 hd2 (w.later f2)
  | .ex S x, w => exact w
end
def SE (Z : Zx) (Ew : L2.St → XK) (te : TE) (f : FE) : Prop :=
  ∀ env σ G α S H Q, Hd Z G α S H → OnE Z G α env σ → Wk Z (f env S) G α H (pRt Z Q) (Ew σ) → te σ H Q
def ST (Z : Zx) (Ew : L2.St → XK) (tt : TT) (f : FT) : Prop :=
  ∀ env σ G α S H Q, Hd Z G α S H → OnE Z G α env σ → Wk Z (f env S) G α H (pB Q) (Ew σ) → tt σ H Q
def SA (Z : Zx) (Ew : L2.St → XK) (ta : TA) (f : FA) : Prop :=
  ∀ env σ G α S H Q, Hd Z G α S H → OnE Z G α env σ → Wk Z (f env S) G α H (pA Z Q) (Ew σ) → ta σ H Q
structure PF (Z : Zx) (Ew : L2.St → XK) (X : Cx) (e : Expr) (f : FE) : Prop where
  ex : ∃ te, PE X e te ∧ SE Z Ew te f
structure PTF (Z : Zx) (Ew : L2.St → XK) (X : Cx) (e : Expr) (f : FT) : Prop where
  ex : ∃ te, PT X e te ∧ ST Z Ew te f
structure PWF (Z : Zx) (Ew : L2.St → XK) (X : Cx) (e : Expr) (f : FT) : Prop where
  ex : ∃ te, PW X e te ∧ ST Z Ew te f
structure PAF (Z : Zx) (Ew : L2.St → XK) (X : Cx) (es : List Expr) (f : FA) : Prop where
  ex : ∃ te, PA X es te ∧ SA Z Ew te f
def fVar (i : Nat) : FE := fun env S => match env[i]? with
  | some (.v d) => .ok S (.val d)
  | _ => .no
def fC (d : Dv) : FE := fun _ S => .ok S (.val (.d d))
def g2 (S : Sto) (a b : Vr) (g : Dv → Dv → Option Rt) : R Rt := match snap S a, snap S b with
  | some x, some y => R.of S (g x y)
  | _, _ => .no
def fOp (g : Dv → Dv → Option Rt) (fa fb : FE) : FE := fun env S => (fa env S).bindV fun S1 a => (fb env S1).bindV fun S2 b => g2 S2 a b g
def g1 (S : Sto) (a : Vr) (g : Dv → Option Rt) : R Rt := match snap S a with
  | some x => R.of S (g x)
  | none => .no
def fUn (g : Dv → Option Rt) (fa : FE) : FE := fun env S => (fa env S).bindV fun S1 a => g1 S1 a g
def fNil : FA := fun _ S => .ok S []
def fCons (fa : FE) (fr : FA) : FA := fun env S => (fa env S).bindV fun S1 a => (fr env S1).bind fun S2 l => .ok S2 (a :: l)
def allD : List Vr → Option (List Dv)
  | [] => some []
  | .d x :: l => match allD l with
    | some r => some (x :: r)
    | none => none
  | .r _ :: _ => none
def gTupD (l : List Vr) : Option Rt := match allD l with
  | some r => if r.length ≤ 100000 then some (.val (.d (.tup r))) else none
  | none => none
def gLstD (l : List Vr) : Option Rt := match allD l with
  | some r => if r.length ≤ 100000 then some (.new (.lst r)) else none
  | none => none
def fTup (fa : FA) : FE := fun env S => (fa env S).bind fun S1 l => R.of S1 (gTupD l)
def fLst (fa : FA) : FE := fun env S => (fa env S).bind fun S1 l => R.of S1 (gLstD l)
def onB {β : Type} (S : Sto) (a : Vr) (f : Bool → R β) : R β := match a with
  | .d (.bl b) => f b
  | _ => .no
def fAnd (fa fb : FE) : FE := fun env S => (fa env S).bindV fun S1 a => onB S1 a fun b => if b then fb env S1 else .ok S1 (.val (.d (.bl false)))
def fOr (fa fb : FE) : FE := fun env S => (fa env S).bindV fun S1 a => onB S1 a fun b => if b then .ok S1 (.val (.d (.bl true))) else fb env S1
def fNot (fa : FE) : FE := fun env S => (fa env S).bindV fun S1 a => onB S1 a fun b => .ok S1 (.val (.d (.bl (!b))))
def fIf (ft : FT) (fa fb : FE) : FE := fun env S => (ft env S).bind fun S1 b => if b then fa env S1 else fb env S1
/-- tests -/
def kVal (fa : FE) : FT := fun env S => (fa env S).bindV fun S1 a => onB S1 a fun b => .ok S1 b
def kAnd (ta tb : FT) : FT := fun env S => (ta env S).bind fun S1 b => if b then tb env S1 else .ok S1 false
def kOr (ta tb : FT) : FT := fun env S => (ta env S).bind fun S1 b => if b then .ok S1 true else tb env S1
def kNot (ta : FT) : FT := fun env S => (ta env S).bind fun S1 b => .ok S1 (!b)
section
variable {Z : Zx} {Ew : L2.St → XK} {ta tb te : TE} {fa fb : FE} {G H : Hp} {α : List Addr} {S : Sto} {env : Env} {σ : L2.St}
theorem SE.bind {γ : Type} {f : Sto → Vr → R γ} {P : Pst γ} {Q' : VK} (h : SE Z Ew ta fa) (hd : Hd Z G α S H) (oe : OnE Z G α env σ) (w : Wk Z ((fa env S).bindV f) G α H P (Ew σ))
    (k : ∀ S2 d v H2 G2 α2, Fr G α H G2 α2 H2 → Hd Z G2 α2 S2 H2 → OnE Z G2 α2 env σ → OnR Z G2 α2 d v → Wk Z (f S2 d) G2 α2 H2 P (Ew σ) → Q' v H2) : ta σ H Q' :=
  h env σ G α S H Q' hd oe (w.bindV fun S2 d v H2 G2 α2 f2 hd2 ov w2 => k S2 d v H2 G2 α2 f2 hd2 (oe.up f2.g f2.a) ov w2)
theorem SE.bind0 {γ : Type} {f : Sto → Vr → R γ} {P : Pst γ} {Q' : VK} {G' H' : Hp} {α' : List Addr} (h : SE Z Ew ta fa) (f0 : Fr G α H G' α' H') (hd : Hd Z G' α' S H') (oe : OnE Z G' α' env σ) (w : Wk Z ((fa env S).bindV f) G α H P (Ew σ))
    (k : ∀ S2 d v H2 G2 α2, Got (fa env S) S2 d → Fr G' α' H' G2 α2 H2 → Hd Z G2 α2 S2 H2 → OnE Z G2 α2 env σ → OnR Z G2 α2 d v → Wk Z (f S2 d) G α H P (Ew σ) → Q' v H2) : ta σ H' Q' :=
  h env σ G' α' S H' Q' hd oe (w.bind0 f0 fun S2 d v H2 G2 α2 g f2 hd2 ov w2 => k S2 d v H2 G2 α2 g f2 hd2 (oe.up f2.g f2.a) ov w2)
theorem ST.bind0 {tt : TT} {ft : FT} {γ : Type} {f : Sto → Bool → R γ} {P : Pst γ} {Q' : Bool → Hp → Prop} {G' H' : Hp} {α' : List Addr} (h : ST Z Ew tt ft) (f0 : Fr G α H G' α' H') (hd : Hd Z G' α' S H') (oe : OnE Z G' α' env σ) (w : Wk Z ((ft env S).bind f) G α H P (Ew σ))
    (k : ∀ S2 b H2 G2 α2, Fr G' α' H' G2 α2 H2 → Hd Z G2 α2 S2 H2 → OnE Z G2 α2 env σ → Wk Z (f S2 b) G α H P (Ew σ) → Q' b H2) : tt σ H' Q' := by
  refine h env σ G' α' S H' Q' hd oe ?_
  cases e : ft env S with
  | ok S2 b => rw [e] at w; exact fun H2 G2 α2 f2 hd2 => k S2 b H2 G2 α2 f2 hd2 (oe.up f2.g f2.a) w
  | ex S2 x => rw [e] at w; exact Xp.later w f0
  | no => rw [e] at w; exact w.elim
theorem SA.bind {ta : TA} {fa : FA} {γ : Type} {f : Sto → List Vr → R γ} {P : Pst γ} {Q' : List V → Hp → Prop} (h : SA Z Ew ta fa) (hd : Hd Z G α S H) (oe : OnE Z G α env σ) (w : Wk Z ((fa env S).bind f) G α H P (Ew σ))
    (k : ∀ S2 l vs H2 G2 α2, Fr G α H G2 α2 H2 → Hd Z G2 α2 S2 H2 → OnE Z G2 α2 env σ → OnA Z G2 α2 l vs → Wk Z (f S2 l) G2 α2 H2 P (Ew σ) → Q' vs H2) : ta σ H Q' :=
  h env σ G α S H Q' hd oe (w.bind (P' := pA Z Q') fun S2 l H2 G2 α2 f2 hd2 w2 vs ov => k S2 l vs H2 G2 α2 f2 hd2 (oe.up f2.g f2.a) ov w2)
theorem ST.bind {tt : TT} {ft : FT} {γ : Type} {f : Sto → Bool → R γ} {P : Pst γ} {Q' : Bool → Hp → Prop} (h : ST Z Ew tt ft) (hd : Hd Z G α S H) (oe : OnE Z G α env σ) (w : Wk Z ((ft env S).bind f) G α H P (Ew σ))
    (k : ∀ S2 b H2 G2 α2, Fr G α H G2 α2 H2 → Hd Z G2 α2 S2 H2 → OnE Z G2 α2 env σ → Wk Z (f S2 b) G2 α2 H2 P (Ew σ) → Q' b H2) : tt σ H Q' :=
  h env σ G α S H Q' hd oe (w.bind (P' := pB Q') fun S2 b H2 G2 α2 f2 hd2 w2 => k S2 b H2 G2 α2 f2 hd2 (oe.up f2.g f2.a) w2)
theorem Wk.dat {v : Vr} {w : V} {Q : VK} {E : XK} (h : Wk Z (.ok S (.val v)) G α H (pRt Z Q) E) (hd : Hd Z G α S H) (o : OnR Z G α v w) : Q w H := h.here hd w o
theorem Wk.bool {b : Bool} {Q : Bool → Hp → Prop} {E : XK} (h : Wk Z (.ok S b) G α H (pB Q) E) (hd : Hd Z G α S H) : Q b H := h.here hd
theorem on_non : On Z G .non .non := by unfold On; rfl
theorem on_bl {b : Bool} : On Z G (.bl b) (.bl b) := by unfold On; rfl
theorem on_int {b : Int} : On Z G (.int b) (.int b) := by unfold On; rfl
theorem on_str {b : Str} : On Z G (.str b) (.str b) := by unfold On; rfl
theorem on_cls {c : String} : On Z G (.cls c) (.ref (Z.cm c)) := by unfold On; rfl
theorem on_ty {a : String} : On Z G (.ty a) (.ty a) := by unfold On; rfl
theorem or_bl (Z : Zx) (G : Hp) (α : List Addr) (b : Bool) : OnR Z G α (.d (.bl b)) (.bl b) := on_bl (Z := Z) (G := G)
theorem or_int (Z : Zx) (G : Hp) (α : List Addr) (b : Int) : OnR Z G α (.d (.int b)) (.int b) := on_int (Z := Z) (G := G)
theorem or_str (Z : Zx) (G : Hp) (α : List Addr) (b : Str) : OnR Z G α (.d (.str b)) (.str b) := on_str (Z := Z) (G := G)
theorem or_non (Z : Zx) (G : Hp) (α : List Addr) : OnR Z G α (.d .non) .non := on_non (Z := Z) (G := G)
theorem se_var {i : Nat} : SE Z Ew (tVar i) (fVar i) := fun env σ G α S H Q hd oe w => by
  unfold fVar at w
  cases e : env[i]? with
  | none => rw [e] at w; exact w.elim
  | some s =>
    rw [e] at w
    cases s with
    | u => exact w.elim
    | x => exact w.elim
    | v d =>
      obtain ⟨v, h1, h2⟩ := oe.at_ i d e
      exact ⟨v, h1, w.dat hd h2⟩
theorem se_c {d : Dv} {v : V} (h : ∀ G, On Z G d v) : SE Z Ew (tC v) (fC d) := fun env σ G α S H Q hd oe w => w.dat hd (h G)
/-- an operation on two values as they stand -/
def rD (Z : Zx) (g : Dv → Dv → Option Rt) : R2 := fun x y H Q => ∃ G α S a b, Hd Z G α S H ∧ OnH Z G H a x ∧ OnH Z G H b y ∧ Wk Z (R.of S (g a b)) G α H (pRt Z Q) E0
theorem g2_ok {G2 H2 : Hp} {α2 : List Addr} {S2 : Sto} {a b : Vr} {x y : V} {g : Dv → Dv → Option Rt} {Q : VK} {E : XK} (hd : Hd Z G2 α2 S2 H2) (ox : OnR Z G2 α2 a x) (oy : OnR Z G2 α2 b y) (w : Wk Z (g2 S2 a b g) G2 α2 H2 (pRt Z Q) E) : rD Z g x y H2 Q := by
  unfold g2 at w
  cases e1 : snap S2 a with
  | none => rw [e1] at w; exact w.elim
  | some u =>
    cases e2 : snap S2 b with
    | none => rw [e1, e2] at w; exact w.elim
    | some v =>
      rw [e1, e2] at w
      exact ⟨G2, α2, S2, u, v, hd, snap_on hd ox e1, snap_on hd oy e2, w.any⟩
theorem se_op {g : Dv → Dv → Option Rt} (ha : SE Z Ew ta fa) (hb : SE Z Ew tb fb) : SE Z Ew (tOp (rD Z g) ta tb) (fOp g fa fb) := fun env σ G α S H Q hd oe w =>
  ha.bind hd oe w fun S2 a x H2 G2 α2 f2 hd2 oe2 ox w2 => hb.bind hd2 oe2 w2 fun S3 b y H3 G3 α3 f3 hd3 oe3 oy w3 => g2_ok hd3 (ox.up f3.g f3.a) oy w3
def rU (Z : Zx) (g : Dv → Option Rt) : V → Hp → VK → Prop := fun x H Q => ∃ G α S a, Hd Z G α S H ∧ OnH Z G H a x ∧ Wk Z (R.of S (g a)) G α H (pRt Z Q) E0
theorem g1_ok {G2 H2 : Hp} {α2 : List Addr} {S2 : Sto} {a : Vr} {x : V} {g : Dv → Option Rt} {Q : VK} {E : XK} (hd : Hd Z G2 α2 S2 H2) (ox : OnR Z G2 α2 a x) (w : Wk Z (g1 S2 a g) G2 α2 H2 (pRt Z Q) E) : rU Z g x H2 Q := by
  unfold g1 at w
  cases e1 : snap S2 a with
  | none => rw [e1] at w; exact w.elim
  | some u =>
    rw [e1] at w
    exact ⟨G2, α2, S2, u, hd, snap_on hd ox e1, w.any⟩
theorem se_un {g : Dv → Option Rt} (ha : SE Z Ew ta fa) : SE Z Ew (tUn (rU Z g) ta) (fUn g fa) := fun env σ G α S H Q hd oe w =>
  ha.bind hd oe w fun S2 a x H2 G2 α2 f2 hd2 oe2 ox w2 => g1_ok hd2 ox w2
theorem sa_nil : SA Z Ew tNil fNil := fun env σ G α S H Q hd oe w => w.here hd [] rfl
theorem sa_cons {tr : TA} {fr : FA} (ha : SE Z Ew ta fa) (hr : SA Z Ew tr fr) : SA Z Ew (tCons ta tr) (fCons fa fr) := fun env σ G α S H Q hd oe w =>
  ha.bind hd oe w fun S2 a x H2 G2 α2 f2 hd2 oe2 ox w2 => hr.bind hd2 oe2 w2 fun S3 l vs H3 G3 α3 f3 hd3 oe3 ol w3 => w3.here hd3 _ ⟨_, _, rfl, ox.up f3.g f3.a, ol⟩
theorem sz_of {n : Nat} (h : n ≤ 100000) : n ≤ sizeLine := Nat.le_trans h (by decide)
theorem allD_on : ∀ {l : List Vr} {r : List Dv} {vs : List V}, allD l = some r → OnA Z G α l vs → OnL Z G r vs
  | [], r, vs, e, h => by
    cases e
    exact OnL.nil.mpr h
  | .d x :: l, r, vs, e, h => by
    obtain ⟨y, ys, rfl, h2, h3⟩ := h
    unfold allD at e
    cases q : allD l with
    | none => rw [q] at e; cases e
    | some m =>
      rw [q] at e
      cases e
      exact OnL.cons' h2 (allD_on q h3)
  | .r _ :: l, r, vs, e, h => by cases e
theorem se_tup {ta : TA} {fa : FA} (ha : SA Z Ew ta fa) : SE Z Ew (tTup ta) (fTup fa) := fun env σ G α S H Q hd oe w =>
  ha.bind hd oe w fun S2 l vs H2 G2 α2 f2 hd2 oe2 ol w2 => by
    unfold gTupD at w2
    cases e : allD l with
    | none => rw [e] at w2; exact w2.elim
    | some r =>
      rw [e] at w2
      have or := allD_on e ol
      by_cases hl : r.length ≤ 100000
      · simp only [if_pos hl] at w2
        refine ⟨sz_of (by rw [or.len]; exact hl), fun p hp => ?_⟩
        obtain ⟨h3, f3⟩ := hd2.know (o := .tup vs) hp
        exact w2 _ _ _ f3 h3 _ (by show On _ _ _ _; unfold On; exact ⟨p, vs, rfl, upd_same, or.up f3.g⟩)
      · simp only [if_neg hl] at w2
        exact w2.elim
/-- a new object that nobody knows -/
theorem Wk.fresh {S : Sto} {c : Cell} {p : Addr} {o : HO} {Q : VK} {E : XK} (w : Wk Z (.ok S (.new c)) G α H (pRt Z Q) E) (hd : Hd Z G α S H) (hp : H p = none) (hc : CellAt Z G c (some o)) : Q (.ref p) (upd H p o) := by
  have e := Ex.new (o := o) hp
  exact w _ G α (Fr.grow hd e) (hd.grow e) p ⟨hp, fresh_back hd.ex hp, fun h => hd.live h hp, by rw [upd_same]; exact hc⟩
theorem se_lst {ta : TA} {fa : FA} (ha : SA Z Ew ta fa) : SE Z Ew (tLst ta) (fLst fa) := fun env σ G α S H Q hd oe w =>
  ha.bind hd oe w fun S2 l vs H2 G2 α2 f2 hd2 oe2 ol w2 => by
    unfold gLstD at w2
    cases e : allD l with
    | none => rw [e] at w2; exact w2.elim
    | some r =>
      rw [e] at w2
      have or := allD_on e ol
      by_cases hl : r.length ≤ 100000
      · simp only [if_pos hl] at w2
        exact ⟨sz_of (by rw [or.len]; exact hl), fun p hp => w2.fresh hd2 hp ⟨vs, rfl, or⟩⟩
      · simp only [if_neg hl] at w2
        exact w2.elim
theorem onB_ok {β : Type} {a : Vr} {f : Bool → R β} {P : Pst β} {E : XK} {x : V} (w : Wk Z (onB S a f) G α H P E) (ox : OnR Z G α a x) : ∃ b, x = .bl b ∧ Wk Z (f b) G α H P E := by
  match a, w, ox with
  | .d (.bl b), w, ox =>
    have e : On Z G (.bl b) x := ox
    unfold On at e
    exact ⟨b, e, w⟩
theorem se_and (ha : SE Z Ew ta fa) (hb : SE Z Ew tb fb) : SE Z Ew (tAndV ta tb) (fAnd fa fb) := fun env σ G α S H Q hd oe w =>
  ha.bind hd oe w fun S2 a x H2 G2 α2 f2 hd2 oe2 ox w2 => by
    obtain ⟨b, e, w3⟩ := onB_ok w2 ox
    refine ⟨b, e, ?_⟩
    cases b with
    | true => rw [if_pos rfl]; exact hb env σ G2 α2 S2 H2 Q hd2 oe2 w3
    | false => rw [if_neg Bool.false_ne_true]; exact Wk.dat w3 hd2 (or_bl Z G2 α2 _)
theorem se_not (ha : SE Z Ew ta fa) : SE Z Ew (tNotV ta) (fNot fa) := fun env σ G α S H Q hd oe w =>
  ha.bind hd oe w fun S2 a x H2 G2 α2 f2 hd2 oe2 ox w2 => by
    obtain ⟨b, e, w3⟩ := onB_ok w2 ox
    exact ⟨b, e, Wk.dat w3 hd2 (or_bl Z G2 α2 _)⟩
theorem se_if {tt : TT} {ft : FT} (ht : ST Z Ew tt ft) (ha : SE Z Ew ta fa) (hb : SE Z Ew tb fb) : SE Z Ew (tIf tt ta tb) (fIf ft fa fb) := fun env σ G α S H Q hd oe w =>
  ht.bind hd oe w fun S2 b H2 G2 α2 f2 hd2 oe2 w2 => by
    cases b with
    | true => rw [if_pos rfl]; exact ha env σ G2 α2 S2 H2 Q hd2 oe2 w2
    | false => rw [if_neg Bool.false_ne_true]; exact hb env σ G2 α2 S2 H2 Q hd2 oe2 w2
theorem st_val (ha : SE Z Ew ta fa) : ST Z Ew (tB ta) (kVal fa) := fun env σ G α S H Q hd oe w =>
  ha.bind hd oe w fun S2 a x H2 G2 α2 f2 hd2 oe2 ox w2 => by
    obtain ⟨b, e, w3⟩ := onB_ok w2 ox
    exact ⟨b, e, w3.bool hd2⟩
theorem st_and {tt tu : TT} {ft fu : FT} (ha : ST Z Ew tt ft) (hb : ST Z Ew tu fu) : ST Z Ew (tAnd tt tu) (kAnd ft fu) := fun env σ G α S H Q hd oe w =>
  ha.bind hd oe w fun S2 b H2 G2 α2 f2 hd2 oe2 w2 => by
    cases b with
    | true => rw [if_pos rfl]; exact hb env σ G2 α2 S2 H2 Q hd2 oe2 w2
    | false => rw [if_neg Bool.false_ne_true]; exact Wk.bool w2 hd2
theorem st_or {tt tu : TT} {ft fu : FT} (ha : ST Z Ew tt ft) (hb : ST Z Ew tu fu) : ST Z Ew (tOr tt tu) (kOr ft fu) := fun env σ G α S H Q hd oe w =>
  ha.bind hd oe w fun S2 b H2 G2 α2 f2 hd2 oe2 w2 => by
    cases b with
    | true => rw [if_pos rfl]; exact Wk.bool w2 hd2
    | false => rw [if_neg Bool.false_ne_true]; exact hb env σ G2 α2 S2 H2 Q hd2 oe2 w2
theorem st_not {tt : TT} {ft : FT} (ha : ST Z Ew tt ft) : ST Z Ew (tNot tt) (kNot ft) := fun env σ G α S H Q hd oe w =>
  ha.bind hd oe w fun S2 b H2 G2 α2 f2 hd2 oe2 w2 => Wk.bool w2 hd2
end
section
variable {Z : Zx} {Ew : L2.St → XK} {X : Cx} {a b c : Expr} {fa fb fc : FE} {pos : Pos}
theorem pf_var (i : Nat) {x : Str} (hN : X.N[i]? = some x := by rfl) (hv : Vis X.env.scope x := by first | exact Or.inl rfl | exact Or.inr (Or.inl rfl) | exact Or.inr (Or.inr rfl)) (hd : (x == ("__debug__" : Str)) = false := by decide)
    (hcd : (x == ("__classdict__" : Str)) = false := by decide) : PF Z Ew X (.Name x pos) (fVar i) := ⟨_, pe_var hN hv hd hcd, se_var⟩
theorem pf_int {i : Int} {j pos} : PF Z Ew X (.Constant (.int i) j pos) (fC (.int i)) := ⟨_, pe_int, se_c fun G => on_int (Z := Z) (G := G)⟩
theorem pf_bl {i : Bool} {j pos} : PF Z Ew X (.Constant (.bool i) j pos) (fC (.bl i)) := ⟨_, pe_bl, se_c fun G => on_bl (Z := Z) (G := G)⟩
theorem pf_str {i : Str} {j pos} : PF Z Ew X (.Constant (.str i) j pos) (fC (.str i)) := ⟨_, pe_str, se_c fun G => on_str (Z := Z) (G := G)⟩
theorem pf_non {j pos} : PF Z Ew X (.Constant .none j pos) (fC .non) := ⟨_, pe_non, se_c fun G => on_non (Z := Z) (G := G)⟩
theorem pf_glob {x : Str} {u : Value} {d : Dv} {v : V} (hg : Gl X x) (hm : X.mg x = some u) (r : RelV v u) (h : ∀ G, On Z G d v) (hd : (x == ("__debug__" : Str)) = false := by decide) : PF Z Ew X (.Name x pos) (fC d) := ⟨_, pe_glob hg hm r hd, se_c h⟩
theorem pf_bltn {x : Str} {v : V} {u : Value} {d : Dv} (hg : Gl X x) (hm : X.mg x = none) (hv : bootBuiltins x = some u) (r : RelV v u) (h : ∀ G, On Z G d v) (hn : x ≠ "__name__" := by decide) (hd : (x == ("__debug__" : Str)) = false := by decide) : PF Z Ew X (.Name x pos) (fC d) :=
  ⟨_, pe_bltn hg hm hv r hn hd, se_c h⟩
theorem pf_op {op : Operator} {g : Dv → Dv → Option Rt} (h : OpR X (binaryOp op) (rD Z g)) (ha : PF Z Ew X a fa) (hb : PF Z Ew X b fb) : PF Z Ew X (.BinOp a op b pos) (fOp g fa fb) := by
  obtain ⟨ta, h1, h2⟩ := ha.ex
  obtain ⟨tb, h3, h4⟩ := hb.ex
  exact ⟨_, pe_op h h1 h3, se_op h2 h4⟩
theorem pf_cmp {op : CmpOp} {g : Dv → Dv → Option Rt} (h : OpR X (compareOp op) (rD Z g)) (ha : PF Z Ew X a fa) (hb : PF Z Ew X b fb) (hm : behindInMarks op b = false) : PF Z Ew X (.Compare a [op] [b] pos) (fOp g fa fb) := by
  obtain ⟨ta, h1, h2⟩ := ha.ex
  obtain ⟨tb, h3, h4⟩ := hb.ex
  exact ⟨_, pe_cmpR h h1 h3 hm, se_op h2 h4⟩
theorem ptf_cmp {op : CmpOp} {g : Dv → Dv → Option Rt} (h : OpR X (compareOp op) (rD Z g)) (ha : PF Z Ew X a fa) (hb : PF Z Ew X b fb) (hm : behindInMarks op b = false) : PTF Z Ew X (.Compare a [op] [b] pos) (kVal (fOp g fa fb)) := by
  obtain ⟨ta, h1, h2⟩ := ha.ex
  obtain ⟨tb, h3, h4⟩ := hb.ex
  exact ⟨_, pt_cmpR h h1 h3 hm, st_val (se_op h2 h4)⟩
theorem pf_and {rest : List Expr} (ha : PF Z Ew X a fa) (hb : PF Z Ew X (.BoolOp .And (b :: rest) pos) fb) : PF Z Ew X (.BoolOp .And (a :: b :: rest) pos) (fAnd fa fb) := by
  obtain ⟨ta, h1, h2⟩ := ha.ex
  obtain ⟨tb, h3, h4⟩ := hb.ex
  exact ⟨_, pe_and h1 h3, se_and h2 h4⟩
theorem pf_one {op} (ha : PF Z Ew X a fa) : PF Z Ew X (.BoolOp op [a] pos) fa := by
  obtain ⟨ta, h1, h2⟩ := ha.ex
  exact ⟨_, pe_one h1, h2⟩
theorem pf_not (ha : PF Z Ew X a fa) : PF Z Ew X (.UnaryOp .Not a pos) (fNot fa) := by
  obtain ⟨ta, h1, h2⟩ := ha.ex
  exact ⟨_, pe_not h1, se_not h2⟩
theorem pf_un {op : UnaryOp} {g : Dv → Option Rt} (h : UnR X (unaryOp op) (rU Z g)) (ha : PF Z Ew X a fa) : PF Z Ew X (.UnaryOp op a pos) (fUn g fa) := by
  obtain ⟨ta, h1, h2⟩ := ha.ex
  exact ⟨_, pe_un h h1, se_un h2⟩
theorem pf_if {ft : FT} (hc : PTF Z Ew X c ft) (ha : PF Z Ew X a fa) (hb : PF Z Ew X b fb) : PF Z Ew X (.IfExp c a b pos) (fIf ft fa fb) := by
  obtain ⟨tt, h5, h6⟩ := hc.ex
  obtain ⟨ta, h1, h2⟩ := ha.ex
  obtain ⟨tb, h3, h4⟩ := hb.ex
  exact ⟨_, pe_ifExp h5 h1 h3, se_if h6 h2 h4⟩
theorem paf_nil : PAF Z Ew X [] fNil := ⟨_, pa_nil, sa_nil⟩
theorem paf_cons {es : List Expr} {fr : FA} (ha : PF Z Ew X a fa) (hr : PAF Z Ew X es fr) (he : starEach (a :: es) X.env = (false, eval a X.env) :: starEach es X.env := by rfl) : PAF Z Ew X (a :: es) (fCons fa fr) := by
  obtain ⟨ta, h1, h2⟩ := ha.ex
  obtain ⟨tb, h3, h4⟩ := hr.ex
  exact ⟨_, pa_cons h1 h3 he, sa_cons h2 h4⟩
theorem pf_tup {es : List Expr} {fr : FA} {k} (h : PAF Z Ew X es fr) : PF Z Ew X (.Tuple es k pos) (fTup fr) := by
  obtain ⟨ta, h1, h2⟩ := h.ex
  exact ⟨_, pe_tup h1, se_tup h2⟩
theorem pf_lst {es : List Expr} {fr : FA} (h : PAF Z Ew X es fr) : PF Z Ew X (.List es pos) (fLst fr) := by
  obtain ⟨ta, h1, h2⟩ := h.ex
  exact ⟨_, pe_lst h1, se_lst h2⟩
theorem ptf_val {e : Expr} {f : FE} (h : PF Z Ew X e f) (he : ∀ whole, isTrue e X.env whole = (do let v ← whole; standAt e.pos; holding [v] (truthy v)) := by intro _; rfl) : PTF Z Ew X e (kVal f) := by
  obtain ⟨ta, h1, h2⟩ := h.ex
  exact ⟨_, pt_val h1 he, st_val h2⟩
theorem pwf_one {op} {ft : FT} (h : PTF Z Ew X a ft) (ho : op = .And ∨ op = .Or := by first | exact .inl rfl | exact .inr rfl) : PWF Z Ew X (.BoolOp op [a] pos) ft := by
  obtain ⟨ta, h1, h2⟩ := h.ex
  rcases ho with rfl | rfl
  · exact ⟨_, pw_and1 h1, h2⟩
  · exact ⟨_, pw_or1 h1, h2⟩
theorem pwf_and {rest : List Expr} {ft fu : FT} (h : PTF Z Ew X a ft) (hb : PWF Z Ew X (.BoolOp .And (b :: rest) pos) fu) : PWF Z Ew X (.BoolOp .And (a :: b :: rest) pos) (kAnd ft fu) := by
  obtain ⟨ta, h1, h2⟩ := h.ex
  obtain ⟨tb, h3, h4⟩ := hb.ex
  exact ⟨_, pw_and h1 h3, st_and h2 h4⟩
theorem pwf_or {rest : List Expr} {ft fu : FT} (h : PTF Z Ew X a ft) (hb : PWF Z Ew X (.BoolOp .Or (b :: rest) pos) fu) : PWF Z Ew X (.BoolOp .Or (a :: b :: rest) pos) (kOr ft fu) := by
  obtain ⟨ta, h1, h2⟩ := h.ex
  obtain ⟨tb, h3, h4⟩ := hb.ex
  exact ⟨_, pw_or h1 h3, st_or h2 h4⟩
theorem ptf_w {ft : FT} (h : PWF Z Ew X a ft) : PTF Z Ew X a ft := by
  obtain ⟨ta, h1, h2⟩ := h.ex
  exact ⟨_, h1.pt, h2⟩
theorem ptf_not {ft : FT} (h : PTF Z Ew X a ft) : PTF Z Ew X (.UnaryOp .Not a pos) (kNot ft) := by
  obtain ⟨ta, h1, h2⟩ := h.ex
  exact ⟨_, pt_not h1, st_not h2⟩
end
end DN
namespace DN
open PySem PySem.Spec PyProof.Rows L2 Evl
def vI (i : Int) : Option Rt := some (.val (.d (.int i)))
def vB (b : Bool) : Option Rt := some (.val (.d (.bl b)))
def vS (s : Str) : Option Rt := some (.val (.d (.str s)))
def vT (l : List Dv) : Option Rt := some (.val (.d (.tup l)))
def nL (l : List Dv) : Option Rt := some (.new (.lst l))
def onlyIf (b : Bool) (r : Option Rt) : Option Rt := if b then r else none
def gAdd : Dv → Dv → Option Rt
  | .int i, .int j => vI (i + j)
  | .str a, .str b => onlyIf (decide (a.length + b.length ≤ 100000)) (vS (a ++ b))
  | .lst a, .lst b => onlyIf (decide (a.length + b.length ≤ 100000)) (nL (a ++ b))
  | .tup a, .tup b => onlyIf (decide (a.length + b.length ≤ 100000)) (vT (a ++ b))
  | _, _ => none
def gSub : Dv → Dv → Option Rt
  | .int i, .int j => vI (i - j)
  | _, _ => none
def small64 (i : Int) : Bool := decide (-(2 ^ 64) < i) && decide (i < 2 ^ 64)
def gMul : Dv → Dv → Option Rt
  | .int i, .int j => onlyIf (small64 i || small64 j) (vI (i * j))
  | .str a, .int n => onlyIf (decide (0 ≤ n) && decide (n ≤ 10000) && decide (a.length ≤ 1000)) (vS (OP.repS a n.toNat))
  | .lst a, .int n => onlyIf (decide (-100000 ≤ n) && decide (n ≤ 100000) && decide (a.length * n.toNat ≤ 100000)) (nL (List.replicate n.toNat a).flatten)
  | _, _ => none
def gDiv : Dv → Dv → Option Rt
  | .int i, .int j => onlyIf (decide (j ≠ 0) && decide (j.natAbs < 1073741824)) (vI (i.fdiv j))
  | _, _ => none
def gMod : Dv → Dv → Option Rt
  | .int i, .int j => onlyIf (decide (j ≠ 0)) (vI (i.fmod j))
  | _, _ => none
def gPow : Dv → Dv → Option Rt
  | .int i, .int j => onlyIf (decide (0 ≤ j) && decide (j ≤ 1000000) && decide (i.natAbs < 2 ^ 64)) (vI (i ^ j.toNat))
  | _, _ => none
def gNeg : Dv → Option Rt
  | .int i => vI (-i)
  | _ => none
def gLt : Dv → Dv → Option Rt
  | .int i, .int j => vB (decide (i < j))
  | .str a, .str b => vB (decide (a.cps.toList < b.cps.toList))
  | _, _ => none
def gLe : Dv → Dv → Option Rt
  | .int i, .int j => vB (decide (i ≤ j))
  | _, _ => none
def gGt : Dv → Dv → Option Rt
  | .int i, .int j => vB (decide (j < i))
  | _, _ => none
mutual
def okN : Nat → Dv → Bool
  | _, .non => true
  | _, .bl _ => true
  | _, .int _ => true
  | _, .str s => PyData.strOk s
  | n + 1, .lst l => okNs n l
  | n + 1, .tup l => okNs n l
  | _, _ => false
def okNs : Nat → List Dv → Bool
  | _, [] => true
  | n, d :: l => okN n d && okNs n l
end
mutual
def eqD : Dv → Dv → Bool
  | .non, .non => true
  | .bl a, .bl b => a == b
  | .bl a, .int j => (if a then 1 else 0) == j
  | .int i, .bl b => i == (if b then 1 else 0)
  | .int i, .int j => i == j
  | .str a, .str b => a == b
  | .lst a, .lst b => eqDs a b
  | .tup a, .tup b => eqDs a b
  | _, _ => false
def eqDs : List Dv → List Dv → Bool
  | [], [] => true
  | a :: l, b :: m => eqD a b && eqDs l m
  | _, _ => false
end
def gEq (a b : Dv) : Option Rt := onlyIf (okN 60 a && okN 60 b) (vB (eqD a b))
def gNe (a b : Dv) : Option Rt := onlyIf (okN 60 a && okN 60 b) (vB (!eqD a b))
def inD (a : Dv) (l : List Dv) : Bool := l.any fun y => eqD y a
def inS (a z : Str) : Bool := match a.cps.toList with
  | [c] => decide (c ∈ z.cps.toList)
  | _ => !(Builtin.Str.occurrences z a 0 z.length 1).isEmpty
def gIn : Dv → Dv → Option Rt
  | .str a, .str z => vB (inS a z)
  | a, .lst l => onlyIf (okN 60 a && okNs 60 l) (vB (inD a l))
  | a, .tup l => onlyIf (okN 60 a && okNs 60 l) (vB (inD a l))
  | a, .ktp l => onlyIf (okN 60 a && okNs 60 l) (vB (inD a l))
  | _, _ => none
def gNotIn : Dv → Dv → Option Rt
  | .str a, .str z => vB (!inS a z)
  | a, .lst l => onlyIf (okN 60 a && okNs 60 l) (vB (!inD a l))
  | a, .tup l => onlyIf (okN 60 a && okNs 60 l) (vB (!inD a l))
  | a, .ktp l => onlyIf (okN 60 a && okNs 60 l) (vB (!inD a l))
  | _, _ => none
section
variable {Z : Zx} {X : Cx} {G H : Hp} {α : List Addr} {S : Sto} {Q : VK} {E : XK}
theorem onlyIf_ok {b : Bool} {r : Option Rt} {P : Pst Rt} (w : Wk Z (R.of S (onlyIf b r)) G α H P E) : b = true ∧ Wk Z (R.of S r) G α H P E := by
  cases b with
  | true => exact ⟨rfl, w⟩
  | false => exact w.elim
theorem wI {i : Int} (w : Wk Z (R.of S (vI i)) G α H (pRt Z Q) E) (hd : Hd Z G α S H) : Q (.int i) H := Wk.dat (v := .d (.int i)) w hd (or_int Z G α i)
theorem wB {i : Bool} (w : Wk Z (R.of S (vB i)) G α H (pRt Z Q) E) (hd : Hd Z G α S H) : Q (.bl i) H := Wk.dat (v := .d (.bl i)) w hd (or_bl Z G α i)
theorem wS {i : Str} (w : Wk Z (R.of S (vS i)) G α H (pRt Z Q) E) (hd : Hd Z G α S H) : Q (.str i) H := Wk.dat (v := .d (.str i)) w hd (or_str Z G α i)
/-- a new list, of what is known -/
theorem wL {l : List Dv} {xs : List V} (w : Wk Z (R.of S (nL l)) G α H (pRt Z Q) E) (hd : Hd Z G α S H) (o : OnL Z G l xs) {p : Addr} (hp : H p = none) : Q (.ref p) (upd H p (.lst xs)) := Wk.fresh w hd hp ⟨xs, rfl, o⟩
/-- a new tuple -/
theorem wT {l : List Dv} {xs : List V} (w : Wk Z (R.of S (vT l)) G α H (pRt Z Q) E) (hd : Hd Z G α S H) (o : OnL Z G l xs) {p : Addr} (hp : H p = none) : Q (.ref p) (upd H p (.tup xs)) := by
  obtain ⟨h3, f3⟩ := hd.know (o := .tup xs) hp
  exact w _ _ _ f3 h3 _ (by show On _ _ _ _; unfold On; exact ⟨p, xs, rfl, upd_same, o.up f3.g⟩)
/-- a tuple that stands already -/
theorem wkT {l : List Dv} {xs : List V} {a : Addr} (w : Wk Z (R.of S (vT l)) G α H (pRt Z Q) E) (hd : Hd Z G α S H) (h : G a = some (.tup xs)) (o : OnL Z G l xs) : Q (.ref a) H :=
  Wk.dat (v := .d (.tup l)) w hd (by show On _ _ _ _; unfold On; exact ⟨a, xs, rfl, h, o⟩)
theorem onl_rep {l : List Dv} {xs : List V} (h : OnL Z G l xs) : ∀ n : Nat, OnL Z G (List.replicate n l).flatten (List.replicate n xs).flatten
  | 0 => OnL.nil'
  | n + 1 => by
    rw [List.replicate_succ, List.replicate_succ, List.flatten_cons, List.flatten_cons]
    exact h.app (onl_rep h n)
theorem and3 {a b c : Bool} (h : (a && b && c) = true) : a = true ∧ b = true ∧ c = true := by
  cases a <;> cases b <;> cases c <;> simp_all
theorem od_add (hK : X.K = Z.K) : OpR X (binaryOp .Add) (rD Z gAdd) := by
  intro pins s σ H x y v u Q I rx ry h
  obtain ⟨G, α, S, a, b, hd, ha, hb, w⟩ := h
  cases a with
  | int i =>
    cases b with
    | int j => cases ha; cases hb; exact op_add pins s σ H _ _ v u Q I rx ry ⟨i, j, rfl, rfl, wI w hd⟩
    | _ => exact w.elim
  | str i =>
    cases b with
    | str j =>
      cases ha; cases hb
      obtain ⟨h1, w⟩ := onlyIf_ok w
      exact op_add_str pins s σ H _ _ v u Q I rx ry ⟨i, j, rfl, rfl, sz_of (of_decide_eq_true h1), wS w hd⟩
    | _ => exact w.elim
  | lst i =>
    cases b with
    | lst j =>
      obtain ⟨a, xs, rfl, h1, h2⟩ := ha
      obtain ⟨b, ys, rfl, h3, h4⟩ := hb
      obtain ⟨h5, w⟩ := onlyIf_ok w
      exact op_cat pins s σ H _ _ v u Q I rx ry ⟨a, b, xs, ys, rfl, rfl, h1, h3, by rw [h2.len, h4.len]; exact sz_of (of_decide_eq_true h5), fun p hp => wL w hd (h2.app h4) hp⟩
    | _ => exact w.elim
  | tup i =>
    cases b with
    | tup j =>
      obtain ⟨a, xs, rfl, h1, h2⟩ := ha
      obtain ⟨b, ys, rfl, h3, h4⟩ := hb
      obtain ⟨h5, w⟩ := onlyIf_ok w
      refine op_catA pins s σ H _ _ v u Q I rx ry ⟨a, b, xs, ys, rfl, rfl, SqT.of (hd.ex _ _ h1), SqT.of (hd.ex _ _ h3), by rw [h2.len, h4.len]; exact sz_of (of_decide_eq_true h5), fun e => ?_, fun _ e => ?_, fun _ _ p hp => wT w hd (h2.app h4) hp⟩
      · have e2 := h2.len
        rw [e] at e2
        have e3 : i = [] := List.length_eq_zero_iff.mp e2.symm
        subst e3
        exact wkT w hd h3 h4
      · have e2 := h4.len
        rw [e] at e2
        have e3 : j = [] := List.length_eq_zero_iff.mp e2.symm
        subst e3
        rw [List.append_nil] at w
        exact wkT w hd h1 h2
    | _ => exact w.elim
  | _ => cases b <;> exact w.elim
/-- two ints -/
theorem od_ii {f : Value → Value → Sem Value} {g : Dv → Dv → Option Rt} {C : Int → Int → Prop} {k : Int → Int → Int} (h : OpR X f (rI C fun i j => .int (k i j)))
    (hg : ∀ (a b : Dv) {G α S H} {Q : VK} {E : XK}, Wk Z (R.of S (g a b)) G α H (pRt Z Q) E → ∃ i j, a = .int i ∧ b = .int j ∧ C i j ∧ Wk Z (R.of S (vI (k i j))) G α H (pRt Z Q) E) : OpR X f (rD Z g) := by
  intro pins s σ H x y v u Q I rx ry h'
  obtain ⟨G, α, S, a, b, hd, ha, hb, w⟩ := h'
  obtain ⟨i, j, rfl, rfl, hc, w⟩ := hg a b w
  cases ha; cases hb
  exact h pins s σ H _ _ v u Q I rx ry ⟨i, j, rfl, rfl, hc, wI w hd⟩
theorem rI_of0 {f : Value → Value → Sem Value} {g : Int → Int → V} (h : OpR X f (rI0 g)) : OpR X f (rI (fun _ _ => True) g) := fun pins s σ H x y v u Q I rx ry q => by
  obtain ⟨i, j, h1, h2, _, h3⟩ := q
  exact h pins s σ H x y v u Q I rx ry ⟨i, j, h1, h2, h3⟩
theorem od_sub : OpR X (binaryOp .Sub) (rD Z gSub) := od_ii (rI_of0 op_sub) fun a b {G α S H Q E} w => by
  cases a <;> first | (exact w.elim) | skip
  cases b <;> first | (exact w.elim) | exact ⟨_, _, rfl, rfl, trivial, w⟩
theorem od_div : OpR X (binaryOp .FloorDiv) (rD Z gDiv) := od_ii op_fdivN fun a b {G α S H Q E} w => by
  cases a <;> first | (exact w.elim) | skip
  cases b <;> first | (exact w.elim) | skip
  obtain ⟨h1, w⟩ := onlyIf_ok w
  rw [Bool.and_eq_true] at h1
  exact ⟨_, _, rfl, rfl, ⟨of_decide_eq_true h1.1, of_decide_eq_true h1.2⟩, w⟩
theorem od_mod : OpR X (binaryOp .Mod) (rD Z gMod) := od_ii op_modN fun a b {G α S H Q E} w => by
  cases a <;> first | (exact w.elim) | skip
  cases b <;> first | (exact w.elim) | skip
  obtain ⟨h1, w⟩ := onlyIf_ok w
  exact ⟨_, _, rfl, rfl, of_decide_eq_true h1, w⟩
theorem od_pow : OpR X (binaryOp .Pow) (rD Z gPow) := od_ii op_pow fun a b {G α S H Q E} w => by
  cases a <;> first | (exact w.elim) | skip
  cases b <;> first | (exact w.elim) | skip
  obtain ⟨h1, w⟩ := onlyIf_ok w
  obtain ⟨h1, h2, h3⟩ := and3 h1
  exact ⟨_, _, rfl, rfl, ⟨of_decide_eq_true h1, of_decide_eq_true h2, of_decide_eq_true h3⟩, w⟩
theorem small64_ok {i : Int} (h : small64 i = true) : -(2 ^ 64) < i ∧ i < 2 ^ 64 := by
  unfold small64 at h
  rw [Bool.and_eq_true] at h
  exact ⟨of_decide_eq_true h.1, of_decide_eq_true h.2⟩
theorem od_mul : OpR X (binaryOp .Mult) (rD Z gMul) := by
  intro pins s σ H x y v u Q I rx ry h
  obtain ⟨G, α, S, a, b, hd, ha, hb, w⟩ := h
  cases a with
  | int i =>
    cases b with
    | int j =>
      cases ha; cases hb
      obtain ⟨h1, w⟩ := onlyIf_ok w
      rw [Bool.or_eq_true] at h1
      exact op_mul pins s σ H _ _ v u Q I rx ry ⟨i, j, rfl, rfl, h1.imp small64_ok small64_ok, wI w hd⟩
    | _ => exact w.elim
  | str i =>
    cases b with
    | int j =>
      cases ha; cases hb
      obtain ⟨h1, w⟩ := onlyIf_ok w
      obtain ⟨h1, h2, h3⟩ := and3 h1
      exact OP.op_mul_str pins s σ H _ _ v u Q I rx ry ⟨i, j, rfl, rfl, of_decide_eq_true h1, of_decide_eq_true h2, of_decide_eq_true h3, wS w hd⟩
    | _ => exact w.elim
  | lst i =>
    cases b with
    | int j =>
      obtain ⟨a, xs, rfl, h1, h2⟩ := ha
      cases hb
      obtain ⟨h5, w⟩ := onlyIf_ok w
      obtain ⟨h5, h6, h7⟩ := and3 h5
      have h5 := of_decide_eq_true h5
      have h6 := of_decide_eq_true h6
      exact op_rep pins s σ H _ _ v u Q I rx ry ⟨a, j, xs, rfl, rfl, h1, by omega, by omega, by rw [h2.len]; exact sz_of (of_decide_eq_true h7), fun p hp => wL w hd (onl_rep h2 _) hp⟩
    | _ => exact w.elim
  | _ => cases b <;> exact w.elim
theorem ud_neg : UnR X (unaryOp .USub) (rU Z gNeg) := by
  intro pins s σ H x v Q I rx h
  obtain ⟨G, α, S, a, hd, ha, w⟩ := h
  cases a with
  | int i => cases ha; exact un_neg pins s σ H _ v Q I rx ⟨i, rfl, wI w hd⟩
  | _ => exact w.elim
/-- comparisons of two ints -/
theorem od_ib {f : Value → Value → Sem Value} {g : Dv → Dv → Option Rt} {k : Int → Int → Bool} (h : OpR X f (rI0 fun i j => .bl (k i j)))
    (hg : ∀ (a b : Dv) {G α S H} {Q : VK} {E : XK}, Wk Z (R.of S (g a b)) G α H (pRt Z Q) E → ∃ i j, a = .int i ∧ b = .int j ∧ Wk Z (R.of S (vB (k i j))) G α H (pRt Z Q) E) : OpR X f (rD Z g) := by
  intro pins s σ H x y v u Q I rx ry h'
  obtain ⟨G, α, S, a, b, hd, ha, hb, w⟩ := h'
  obtain ⟨i, j, e1, e2, w2⟩ := hg a b w
  subst e1; subst e2
  cases ha; cases hb
  exact h pins s σ H _ _ v u Q I rx ry ⟨i, j, rfl, rfl, wB w2 hd⟩
theorem od_le : OpR X (compareOp .LtE) (rD Z gLe) := od_ib op_le fun a b {G α S H Q E} w => by
  cases a <;> first | (exact w.elim) | skip
  cases b <;> first | (exact w.elim) | exact ⟨_, _, rfl, rfl, w⟩
theorem od_gt : OpR X (compareOp .Gt) (rD Z gGt) := od_ib op_gt fun a b {G α S H Q E} w => by
  cases a <;> first | (exact w.elim) | skip
  cases b <;> first | (exact w.elim) | exact ⟨_, _, rfl, rfl, w⟩
theorem od_lt : OpR X (compareOp .Lt) (rD Z gLt) := by
  intro pins s σ H x y v u Q I rx ry h
  obtain ⟨G, α, S, a, b, hd, ha, hb, w⟩ := h
  cases a with
  | int i =>
    cases b with
    | int j => cases ha; cases hb; exact op_lt pins s σ H _ _ v u Q I rx ry ⟨i, j, rfl, rfl, wB w hd⟩
    | _ => exact w.elim
  | str i =>
    cases b with
    | str j => cases ha; cases hb; exact op_lt_str pins s σ H _ _ v u Q I rx ry ⟨i, j, rfl, rfl, wB w hd⟩
    | _ => exact w.elim
  | _ => cases b <;> exact w.elim
end
mutual
def toP : Dv → PyData
  | .non => .none
  | .bl b => .bool b
  | .int i => .int i
  | .str s => .str s
  | .lst l => .list (toPs l)
  | .tup l => .tuple (toPs l)
  | _ => .none
def toPs : List Dv → List PyData
  | [] => []
  | d :: l => toP d :: toPs l
end
section
variable {Z : Zx} {X : Cx} {G H : Hp} {α : List Addr} {S : Sto} {Q : VK} {E : XK}
mutual
theorem on_dp {n : Nat} : ∀ {d : Dv} {v : V}, okN n d = true → On Z G d v → Dp Z.K G v (toP d)
  | .non, _, _, h => by unfold On at h; subst h; unfold toP; exact .non
  | .bl _, _, _, h => by unfold On at h; subst h; unfold toP; exact .bl _
  | .int _, _, _, h => by unfold On at h; subst h; unfold toP; exact .int _
  | .str _, _, _, h => by unfold On at h; subst h; unfold toP; exact .str _
  | .lst l, v, k, h => by
    cases n with
    | zero => simp [okN] at k
    | succ n =>
      unfold On at h
      obtain ⟨a, xs, rfl, h1, h2⟩ := h
      unfold toP
      exact .lst (SqL.of h1) (onl_dp (n := n) (by simpa [okN] using k) h2)
  | .tup l, v, k, h => by
    cases n with
    | zero => simp [okN] at k
    | succ n =>
      unfold On at h
      obtain ⟨a, xs, rfl, h1, h2⟩ := h
      unfold toP
      exact .tup (SqT.of h1) (onl_dp (n := n) (by simpa [okN] using k) h2)
  | .ty _, _, k, _ => by simp [okN] at k
  | .cls _, _, k, _ => by simp [okN] at k
  | .scr _, _, k, _ => by simp [okN] at k
  | .ktp _, _, k, _ => by simp [okN] at k
  | .obj _ _, _, k, _ => by simp [okN] at k
  | .dic _ _ _, _, k, _ => by simp [okN] at k
theorem onl_dp {n : Nat} : ∀ {l : List Dv} {xs : List V}, okNs n l = true → OnL Z G l xs → DpAll Z.K G xs (toPs l)
  | [], xs, _, h => by rw [OnL.nil.mp h]; unfold toPs; exact .nil
  | d :: l, xs, k, h => by
    obtain ⟨y, ys, rfl, h2, h3⟩ := OnL.cons.mp h
    have k' : okN n d = true ∧ okNs n l = true := by simpa [okNs] using k
    unfold toPs
    exact .cons (on_dp k'.1 h2) (onl_dp k'.2 h3)
end
mutual
theorem ok_lay : ∀ {n : Nat} {d : Dv}, okN n d = true → (toP d).canLay0 = true ∧ (toP d).depth ≤ n
  | _, .non, _ => by simp [toP, PyData.canLay0, PyData.depth]
  | _, .bl _, _ => by simp [toP, PyData.canLay0, PyData.depth]
  | _, .int _, _ => by simp [toP, PyData.canLay0, PyData.depth]
  | _, .str s, k => by simp only [okN] at k; simp [toP, PyData.canLay0, PyData.depth, k]
  | 0, .lst l, k => by simp [okN] at k
  | n + 1, .lst l, k => by
    have h := ok_lays (n := n) (l := l) (by simpa [okN] using k)
    simp only [toP, PyData.canLay0, PyData.depth]
    exact ⟨h.1, by omega⟩
  | 0, .tup l, k => by simp [okN] at k
  | n + 1, .tup l, k => by
    have h := ok_lays (n := n) (l := l) (by simpa [okN] using k)
    simp only [toP, PyData.canLay0, PyData.depth]
    exact ⟨h.1, by omega⟩
  | _, .ty _, k => by simp [okN] at k
  | _, .cls _, k => by simp [okN] at k
  | _, .scr _, k => by simp [okN] at k
  | _, .ktp _, k => by simp [okN] at k
  | _, .obj _ _, k => by simp [okN] at k
  | _, .dic _ _ _, k => by simp [okN] at k
theorem ok_lays : ∀ {n : Nat} {l : List Dv}, okNs n l = true → PyData.canLayAll0 (toPs l) = true ∧ PyData.depthAll (toPs l) ≤ n
  | _, [], _ => by simp [toPs, PyData.canLayAll0, PyData.depthAll]
  | n, d :: l, k => by
    have k' : okN n d = true ∧ okNs n l = true := by simpa [okNs] using k
    have h1 := ok_lay k'.1
    have h2 := ok_lays k'.2
    simp only [toPs, PyData.canLayAll0, PyData.depthAll, h1.1, h2.1]
    exact ⟨rfl, by omega⟩
end
mutual
theorem eq_eqv : ∀ {n m : Nat} {a b : Dv}, okN n a = true → okN m b = true → PyData.eqv (toP a) (toP b) = eqD a b
  | n, m, a, b, ha, hb => by
    cases a <;> cases b <;> first
      | (simp [okN] at ha; done)
      | (simp [okN] at hb; done)
      | (simp [toP, PyData.eqv, eqD]; done)
      | skip
    · rename_i l k
      cases n with
      | zero => simp [okN] at ha
      | succ n =>
        cases m with
        | zero => simp [okN] at hb
        | succ m =>
          simp only [toP, PyData.eqv, eqD]
          exact eqs_eqv (by simpa [okN] using ha) (by simpa [okN] using hb)
    · rename_i l k
      cases n with
      | zero => simp [okN] at ha
      | succ n =>
        cases m with
        | zero => simp [okN] at hb
        | succ m =>
          simp only [toP, PyData.eqv, eqD]
          exact eqs_eqv (by simpa [okN] using ha) (by simpa [okN] using hb)
theorem eqs_eqv : ∀ {n m : Nat} {a b : List Dv}, okNs n a = true → okNs m b = true → PyData.eqvAll (toPs a) (toPs b) = eqDs a b
  | _, _, [], [], _, _ => by simp [toPs, PyData.eqvAll, eqDs]
  | _, _, [], _ :: _, _, _ => by simp [toPs, PyData.eqvAll, eqDs]
  | _, _, _ :: _, [], _, _ => by simp [toPs, PyData.eqvAll, eqDs]
  | n, m, a :: l, b :: k, ha, hb => by
    have ha' : okN n a = true ∧ okNs n l = true := by simpa [okNs] using ha
    have hb' : okN m b = true ∧ okNs m k = true := by simpa [okNs] using hb
    simp only [toPs, PyData.eqvAll, eqDs]
    rw [eq_eqv ha'.1 hb'.1, eqs_eqv ha'.2 hb'.2]
end
theorem ok_shaped {a : Dv} (h : okN 60 a = true) : SeqAt.shaped (toP a) = true := by
  obtain ⟨h1, h2⟩ := ok_lay h
  show ((toP a).canLay0 && decide ((toP a).depth ≤ 64)) = true
  rw [h1, decide_eq_true (by omega)]
  rfl
theorem oks_shaped {l : List Dv} (h : okNs 60 l = true) : SeqAt.shaped (.list (toPs l)) = true ∧ SeqAt.shaped (.tuple (toPs l)) = true := by
  obtain ⟨h1, h2⟩ := ok_lays h
  have e1 : (PyData.list (toPs l)).canLay0 = true := by simp only [PyData.canLay0]; exact h1
  have e2 : (PyData.tuple (toPs l)).canLay0 = true := by simp only [PyData.canLay0]; exact h1
  have d1 : (PyData.list (toPs l)).depth ≤ 64 := by simp only [PyData.depth]; omega
  have d2 : (PyData.tuple (toPs l)).depth ≤ 64 := by simp only [PyData.depth]; omega
  constructor
  · show ((PyData.list (toPs l)).canLay0 && decide ((PyData.list (toPs l)).depth ≤ 64)) = true
    rw [e1, decide_eq_true d1]; rfl
  · show ((PyData.tuple (toPs l)).canLay0 && decide ((PyData.tuple (toPs l)).depth ≤ 64)) = true
    rw [e2, decide_eq_true d2]; rfl
theorem and2 {a b : Bool} (h : (a && b) = true) : a = true ∧ b = true := by
  cases a <;> cases b <;> simp_all
theorem od_eq (hu : X.A.units + 64 < cLine) (hK : X.K = Z.K) : OpR X (compareOp .Eq) (rD Z gEq) := by
  intro pins s σ H x y v u Q I rx ry h
  obtain ⟨G, α, S, a, b, hd, ha, hb, w⟩ := h
  obtain ⟨h1, w⟩ := onlyIf_ok w
  obtain ⟨h1, h2⟩ := and2 h1
  refine op_eqD hu pins s σ H _ _ v u Q I rx ry ⟨toP a, toP b, hK ▸ on_dp h1 (ha.on hd.ex), hK ▸ on_dp h2 (hb.on hd.ex), ok_shaped h1, ok_shaped h2, ?_⟩
  rw [eq_eqv h1 h2]
  exact wB w hd
theorem od_ne (hu : X.A.units + 64 < cLine) (hK : X.K = Z.K) : OpR X (compareOp .NotEq) (rD Z gNe) := by
  intro pins s σ H x y v u Q I rx ry h
  obtain ⟨G, α, S, a, b, hd, ha, hb, w⟩ := h
  obtain ⟨h1, w⟩ := onlyIf_ok w
  obtain ⟨h1, h2⟩ := and2 h1
  refine op_neD hu pins s σ H _ _ v u Q I rx ry ⟨toP a, toP b, hK ▸ on_dp h1 (ha.on hd.ex), hK ▸ on_dp h2 (hb.on hd.ex), ok_shaped h1, ok_shaped h2, ?_⟩
  rw [eq_eqv h1 h2]
  exact wB w hd
theorem any_eqv {a : Dv} (ha : okN 60 a = true) : ∀ {l : List Dv}, okNs 60 l = true → ((toPs l).any fun z => PyData.eqv z (toP a)) = inD a l
  | [], _ => rfl
  | d :: l, h => by
    have h' : okN 60 d = true ∧ okNs 60 l = true := by simpa [okNs] using h
    simp only [toPs, inD, List.any_cons]
    rw [eq_eqv h'.1 ha, any_eqv ha h'.2]
    rfl
theorem sg_of {a : Str} {c : Nat} (h : a.cps.toList = [c]) : a = ⟨#[c]⟩ := by
  obtain ⟨⟨l⟩⟩ := a
  simp at h
  subst h
  rfl
theorem in_cases {a b : Dv} {neg : Bool} {g : Dv → Dv → Option Rt} (hg : g = if neg then gNotIn else gIn) (w : Wk Z (R.of S (g a b)) G α H (pRt Z Q) E) :
    (∃ s z, a = .str s ∧ b = .str z ∧ Wk Z (R.of S (vB (if neg then !inS s z else inS s z))) G α H (pRt Z Q) E) ∨
    (∃ l, (b = .lst l ∨ b = .tup l ∨ b = .ktp l) ∧ okN 60 a = true ∧ okNs 60 l = true ∧ Wk Z (R.of S (vB (if neg then !inD a l else inD a l))) G α H (pRt Z Q) E) := by
  subst hg
  cases b with
  | lst l =>
    have w' : Wk Z (R.of S (onlyIf (okN 60 a && okNs 60 l) (vB (if neg then !inD a l else inD a l)))) G α H (pRt Z Q) E := by cases neg <;> cases a <;> exact w
    obtain ⟨h1, w'⟩ := onlyIf_ok w'
    obtain ⟨h1, h2⟩ := and2 h1
    exact .inr ⟨l, .inl rfl, h1, h2, w'⟩
  | tup l =>
    have w' : Wk Z (R.of S (onlyIf (okN 60 a && okNs 60 l) (vB (if neg then !inD a l else inD a l)))) G α H (pRt Z Q) E := by cases neg <;> cases a <;> exact w
    obtain ⟨h1, w'⟩ := onlyIf_ok w'
    obtain ⟨h1, h2⟩ := and2 h1
    exact .inr ⟨l, .inr (.inl rfl), h1, h2, w'⟩
  | ktp l =>
    have w' : Wk Z (R.of S (onlyIf (okN 60 a && okNs 60 l) (vB (if neg then !inD a l else inD a l)))) G α H (pRt Z Q) E := by cases neg <;> cases a <;> exact w
    obtain ⟨h1, w'⟩ := onlyIf_ok w'
    obtain ⟨h1, h2⟩ := and2 h1
    exact .inr ⟨l, .inr (.inr rfl), h1, h2, w'⟩
  | str z =>
    cases a with
    | str s => exact .inl ⟨s, z, rfl, rfl, by cases neg <;> exact w⟩
    | _ => cases neg <;> exact w.elim
  | _ => cases neg <;> cases a <;> exact w.elim
theorem od_in (hu : X.A.units + 65 < cLine) (hK : X.K = Z.K) : OpR X (compareOp .In) (rD Z gIn) := by
  intro pins s σ H x y v u Q I rx ry h
  obtain ⟨G, α, S, a, b, hd, ha, hb, w⟩ := h
  rcases in_cases (neg := false) rfl w with ⟨t, z, rfl, rfl, w2⟩ | ⟨l, e, h1, h2, w2⟩
  · cases ha; cases hb
    unfold inS at w2
    cases e : t.cps.toList with
    | nil => simp only [e] at w2; exact op_in_str pins s σ H _ _ v u Q I rx ry ⟨t, z, rfl, rfl, wB w2 hd⟩
    | cons c r =>
      cases r with
      | nil => simp only [e] at w2; exact op_in_sign pins s σ H _ _ v u Q I rx ry ⟨c, z, by rw [sg_of e], rfl, wB w2 hd⟩
      | cons d r => simp only [e] at w2; exact op_in_str pins s σ H _ _ v u Q I rx ry ⟨t, z, rfl, rfl, wB w2 hd⟩
  · rcases e with rfl | rfl | rfl
    · obtain ⟨b, ys, rfl, h3, h4⟩ := hb
      exact op_inD hu pins s σ H _ _ v u Q I rx ry ⟨toP a, toPs l, hK ▸ on_dp h1 (ha.on hd.ex), hK ▸ .lst (SqL.of h3) (onl_dp h2 (h4.up hd.ex)), ok_shaped h1, (oks_shaped h2).1, by rw [any_eqv h1 h2]; exact wB w2 hd⟩
    · obtain ⟨b, ys, rfl, h3, h4⟩ := hb
      exact OP.op_inT hu pins s σ H _ _ v u Q I rx ry ⟨toP a, toPs l, hK ▸ on_dp h1 (ha.on hd.ex), hK ▸ .tup (SqT.of (hd.ex _ _ h3)) (onl_dp h2 (h4.up hd.ex)), ok_shaped h1, (oks_shaped h2).2, by rw [any_eqv h1 h2]; exact wB w2 hd⟩
    · obtain ⟨b, ys, rfl, h3, h4⟩ := hb
      exact OP.op_inT hu pins s σ H _ _ v u Q I rx ry ⟨toP a, toPs l, hK ▸ on_dp h1 (ha.on hd.ex), hK ▸ .tup (h3.sq hd.ex) (onl_dp h2 (h4.up hd.ex)), ok_shaped h1, (oks_shaped h2).2, by rw [any_eqv h1 h2]; exact wB w2 hd⟩
theorem od_notin (hu : X.A.units + 65 < cLine) (hK : X.K = Z.K) : OpR X (compareOp .NotIn) (rD Z gNotIn) := by
  intro pins s σ H x y v u Q I rx ry h
  obtain ⟨G, α, S, a, b, hd, ha, hb, w⟩ := h
  rcases in_cases (neg := true) rfl w with ⟨t, z, rfl, rfl, w2⟩ | ⟨l, e, h1, h2, w2⟩
  · cases ha; cases hb
    unfold inS at w2
    cases e : t.cps.toList with
    | nil => simp only [e] at w2; exact op_notin_str pins s σ H _ _ v u Q I rx ry ⟨t, z, rfl, rfl, wB w2 hd⟩
    | cons c r =>
      cases r with
      | nil => simp only [e] at w2; exact op_notIn_sign pins s σ H _ _ v u Q I rx ry ⟨c, z, by rw [sg_of e], rfl, wB w2 hd⟩
      | cons d r => simp only [e] at w2; exact op_notin_str pins s σ H _ _ v u Q I rx ry ⟨t, z, rfl, rfl, wB w2 hd⟩
  · rcases e with rfl | rfl | rfl
    · obtain ⟨b, ys, rfl, h3, h4⟩ := hb
      exact op_notInD hu pins s σ H _ _ v u Q I rx ry ⟨toP a, toPs l, hK ▸ on_dp h1 (ha.on hd.ex), hK ▸ .lst (SqL.of h3) (onl_dp h2 (h4.up hd.ex)), ok_shaped h1, (oks_shaped h2).1, by rw [any_eqv h1 h2]; exact wB w2 hd⟩
    · obtain ⟨b, ys, rfl, h3, h4⟩ := hb
      exact OP.op_notInT hu pins s σ H _ _ v u Q I rx ry ⟨toP a, toPs l, hK ▸ on_dp h1 (ha.on hd.ex), hK ▸ .tup (SqT.of (hd.ex _ _ h3)) (onl_dp h2 (h4.up hd.ex)), ok_shaped h1, (oks_shaped h2).2, by rw [any_eqv h1 h2]; exact wB w2 hd⟩
    · obtain ⟨b, ys, rfl, h3, h4⟩ := hb
      exact OP.op_notInT hu pins s σ H _ _ v u Q I rx ry ⟨toP a, toPs l, hK ▸ on_dp h1 (ha.on hd.ex), hK ▸ .tup (h3.sq hd.ex) (onl_dp h2 (h4.up hd.ex)), ok_shaped h1, (oks_shaped h2).2, by rw [any_eqv h1 h2]; exact wB w2 hd⟩
/-- a op1 b op2 c -/
def fChain (g g' : Dv → Dv → Option Rt) (fa fb fc : FE) : FE := fun env S => (fa env S).bindV fun S1 a => (fb env S1).bindV fun S2 b => (g2 S2 a b g).bindV fun S3 k => onB S3 k fun t =>
  if t then (fc env S3).bindV fun S4 c => g2 S4 b c g' else .ok S3 (.val (.d (.bl false)))
variable {Ew : L2.St → XK} {ta tb tc : TE} {fa fb fc : FE}
theorem rD_bind {γ : Type} {g : Dv → Dv → Option Rt} {a b : Vr} {x y : V} {f : Sto → Vr → R γ} {P : Pst γ} {Q' : VK} (hd : Hd Z G α S H) (ox : OnR Z G α a x) (oy : OnR Z G α b y) (w : Wk Z ((g2 S a b g).bindV f) G α H P E)
    (k : ∀ S2 d v H2 G2 α2, Fr G α H G2 α2 H2 → Hd Z G2 α2 S2 H2 → OnR Z G2 α2 d v → Wk Z (f S2 d) G2 α2 H2 P E → Q' v H2) : rD Z g x y H Q' := g2_ok hd ox oy (w.bindV k)
theorem se_chain {g g' : Dv → Dv → Option Rt} (ha : SE Z Ew ta fa) (hb : SE Z Ew tb fb) (hc : SE Z Ew tc fc) : SE Z Ew (tChain (rD Z g) (rD Z g') ta tb tc) (fChain g g' fa fb fc) := fun env σ G α S H Q hd oe w =>
  ha.bind hd oe w fun S2 a x H2 G2 α2 f2 hd2 oe2 ox w2 => hb.bind hd2 oe2 w2 fun S3 b y H3 G3 α3 f3 hd3 oe3 oy w3 =>
    rD_bind hd3 (ox.up f3.g f3.a) oy w3 fun S4 d v H4 G4 α4 f4 hd4 ov w4 => by
      obtain ⟨t, e, w5⟩ := onB_ok w4 ov
      refine ⟨t, e, ?_⟩
      cases t with
      | true => rw [if_pos rfl]; exact hc.bind hd4 (oe3.up f4.g f4.a) w5 fun S5 c z H5 G5 α5 f5 hd5 oe5 oz w6 => g2_ok hd5 ((oy.up f4.g f4.a).up f5.g f5.a) oz w6
      | false => rw [if_neg Bool.false_ne_true]; exact Wk.dat w5 hd4 (or_bl Z G4 α4 false)
variable {a b c : Expr} {pos : Pos}
theorem pf_chain {op op' : CmpOp} {g g' : Dv → Dv → Option Rt} (h : OpR X (compareOp op) (rD Z g)) (h' : OpR X (compareOp op') (rD Z g')) (ha : PF Z Ew X a fa) (hb : PF Z Ew X b fb) (hc : PF Z Ew X c fc)
    (hm : lastMarks [op, op'] [b, c] = false := by with_unfolding_all rfl) : PF Z Ew X (.Compare a [op, op'] [b, c] pos) (fChain g g' fa fb fc) := by
  obtain ⟨ta, h1, h2⟩ := ha.ex
  obtain ⟨tb, h3, h4⟩ := hb.ex
  obtain ⟨tc, h5, h6⟩ := hc.ex
  exact ⟨_, pe_chain h h' h1 h3 h5 hm, se_chain h2 h4 h6⟩
theorem ptf_chain {op op' : CmpOp} {g g' : Dv → Dv → Option Rt} (h : OpR X (compareOp op) (rD Z g)) (h' : OpR X (compareOp op') (rD Z g')) (ha : PF Z Ew X a fa) (hb : PF Z Ew X b fb) (hc : PF Z Ew X c fc)
    (hm : lastMarks [op, op'] [b, c] = false := by with_unfolding_all rfl) : PTF Z Ew X (.Compare a [op, op'] [b, c] pos) (kVal (fChain g g' fa fb fc)) := by
  obtain ⟨ta, h1, h2⟩ := ha.ex
  obtain ⟨tb, h3, h4⟩ := hb.ex
  obtain ⟨tc, h5, h6⟩ := hc.ex
  exact ⟨_, pt_chain h h' h1 h3 h5 hm, st_val (se_chain h2 h4 h6)⟩
end
end DN
namespace DN
open PySem PySem.Spec PyProof.Rows L2 Evl
def vD (d : Dv) : Option Rt := some (.val (.d d))
def kHit (t : Bool) (a k : Dv) : Bool := match t with
  | false => decide (key? a = key? k)
  | true => decide (tkey? a = tkey? k)
def dLookG (g : Dv → Bool) : List Dv → List Dv → Option Dv
  | a :: ks, v :: vs => if g a then some v else dLookG g ks vs
  | _, _ => none
def dLook (t : Bool) (k : Dv) (ks vs : List Dv) : Option Dv := dLookG (fun a => kHit t a k) ks vs
def isKey (t : Bool) (k : Dv) : Bool := match t with
  | false => (key? k).isSome
  | true => (tkey? k).isSome
def gIx : Dv → Dv → Option Rt
  | .lst l, .int i => match atI l i with
    | some d => vD d
    | none => none
  | .tup l, .int i => match atI l i with
    | some d => vD d
    | none => none
  | .ktp l, .int i => match atI l i with
    | some d => vD d
    | none => none
  | .scr l, .int i => match atI l i with
    | some d => vI d
    | none => none
  | .str s, .int i => if s.length ≤ 100000 then (match atI s.cps.toList i with
    | some c => vS ⟨#[c]⟩
    | none => none) else none
  | .dic t ks vs, k => onlyIf (isKey t k) (match dLook t k ks vs with
    | some d => vD d
    | none => none)
  | _, _ => none
section
variable {Z : Zx} {X : Cx} {G H : Hp} {α : List Addr} {S : Sto} {Q : VK} {E : XK}
theorem wD {d : Dv} {v : V} (w : Wk Z (R.of S (vD d)) G α H (pRt Z Q) E) (hd : Hd Z G α S H) (o : On Z G d v) : Q v H := Wk.dat (v := .d d) w hd o
theorem onl_at {l : List Dv} {xs : List V} {i : Int} {d : Dv} (h : OnL Z G l xs) (e : atI l i = some d) : ∃ v, atI xs i = some v ∧ On Z G d v := by
  unfold atI at e ⊢
  rw [h.len]
  cases q : ixN l.length i with
  | none => rw [q] at e; cases e
  | some j => rw [q] at e; exact h.get e
theorem key_on {k : Dv} {x : V} {κ : Key} (h : OnH Z G H k x) (e : key? k = some κ) : x = kV κ := by
  cases k with
  | int i => cases e; cases h; rfl
  | str i => cases e; cases h; rfl
  | _ => cases e
theorem keys_on : ∀ {l : List Dv} {xs : List V} {kk : List Key}, OnL Z G l xs → l.mapM key? = some kk → xs = kk.map kV
  | [], xs, kk, h, e => by
    simp at e
    subst e
    rw [OnL.nil.mp h]
    rfl
  | d :: l, xs, kk, h, e => by
    obtain ⟨y, ys, rfl, h2, h3⟩ := OnL.cons.mp h
    rw [List.mapM_cons] at e
    cases q : key? d with
    | none => rw [q] at e; cases e
    | some a =>
      rw [q] at e
      cases q2 : l.mapM key? with
      | none => rw [q2] at e; cases e
      | some b =>
        rw [q2] at e
        cases e
        rw [keys_on h3 q2]
        have : y = kV a := key_on (H := G) (On.h (Ex.refl G) h2) q
        rw [this]
        rfl
theorem look_on {κ : Type} [DecidableEq κ] {f : Dv → Option κ} {k' : κ} {g : Dv → Bool} (hg : ∀ a b, f a = some b → g a = decide (b = k')) :
    ∀ {ks vs : List Dv} {kk : List κ} {ws : List V}, ks.map f = kk.map some → OnL Z G vs ws → ks.length = ws.length →
    (∀ d, dLookG g ks vs = some d → ∃ v, valV (kk.zip ws) k' = some v ∧ On Z G d v) ∧ (dLookG g ks vs = none → valV (kk.zip ws) k' = none)
  | [], vs, kk, ws, h1, h2, h3 => by
    have : ws = [] := List.length_eq_zero_iff.mp h3.symm
    subst this
    have e : kk = [] := by cases kk with
      | nil => rfl
      | cons a b => simp at h1
    subst e
    refine ⟨fun d h => ?_, fun _ => rfl⟩
    unfold dLookG at h
    cases h
  | a :: ks, vs, kk, ws, h1, h2, h3 => by
    cases kk with
    | nil => simp at h1
    | cons b kk =>
      simp only [List.map_cons, List.cons.injEq] at h1
      cases ws with
      | nil => simp at h3
      | cons w ws =>
        cases vs with
        | nil => have := OnL.nil.mp h2; cases this
        | cons v vs =>
          obtain ⟨y, ys, e, h4, h5⟩ := OnL.cons.mp h2
          cases e
          have ih := look_on hg (ks := ks) h1.2 h5 (by simpa using h3)
          have hb := hg a b h1.1
          show (∀ d, (if g a then some v else dLookG g ks vs) = some d → _) ∧ ((if g a then some v else dLookG g ks vs) = none → _)
          rw [hb, List.zip_cons_cons]
          by_cases q : b = k'
          · rw [decide_eq_true q, if_pos rfl]
            refine ⟨fun d e => ?_, fun e => ?_⟩
            · cases e
              exact ⟨w, valV_pos q, h4⟩
            · cases e
          · rw [decide_eq_false q, if_neg Bool.false_ne_true]
            rw [show valV ((b, w) :: kk.zip ws) k' = valV (kk.zip ws) k' from valV_neg q]
            exact ih
/-- what a dict tells of a key -/
theorem dic_get {t : Bool} {ks vs : List Dv} {k : Dv} {x y : V} (eG : Ex G H) (hx : OnH Z G H (.dic t ks vs) x) (hy : OnH Z G H k y) (hk : isKey t k = true) :
    ∃ a, x = .ref a ∧ (∀ d, dLook t k ks vs = some d → ∃ v, DGet H a y (some v) ∧ On Z G d v) ∧ (dLook t k ks vs = none → DGet H a y none) := by
  obtain ⟨a, ws, rfl, h1, h2, h3⟩ := hx
  refine ⟨a, rfl, ?_⟩
  cases t with
  | false =>
    obtain ⟨kk, e1, e2⟩ := h1
    cases q : key? k with
    | none => simp [isKey, q] at hk
    | some κ =>
      have ey := key_on hy q
      subst ey
      obtain ⟨p1, p2⟩ := look_on (f := key?) (k' := κ) (g := fun a => kHit false a k) (fun a b e => by
        show decide (key? a = key? k) = decide (b = κ)
        rw [e, q, decide_eq_decide, Option.some.injEq]) e1 h3 h2
      refine ⟨fun d e => ?_, fun e => ?_⟩
      · obtain ⟨v, e3, o⟩ := p1 d e
        exact ⟨v, e3 ▸ DGet.k e2, o⟩
      · exact p2 e ▸ DGet.k e2
  | true =>
    obtain ⟨kk, e1, e2⟩ := h1
    cases k with
    | tup l =>
      cases q : l.mapM key? with
      | none => simp [isKey, tkey?, q] at hk
      | some κ =>
        obtain ⟨b, xs, rfl, h4, h5⟩ := hy
        have ex := keys_on h5 q
        subst ex
        obtain ⟨p1, p2⟩ := look_on (f := tkey?) (k' := κ) (g := fun a => kHit true a (.tup l)) (fun a b e => by
          show decide (tkey? a = tkey? (.tup l)) = decide (b = κ)
          rw [e, show tkey? (.tup l) = some κ from q, decide_eq_decide, Option.some.injEq]) e1 h3 h2
        refine ⟨fun d e => ?_, fun e => ?_⟩
        · obtain ⟨v, e3, o⟩ := p1 d e
          exact ⟨v, e3 ▸ DGet.t e2 (eG _ _ h4), o⟩
        · exact p2 e ▸ DGet.t e2 (eG _ _ h4)
    | _ => simp [isKey, tkey?] at hk
theorem ix_dict (hu : X.A.units + 1 < cLine) : IxR X (fun x y H Q => ∃ a v, x = .ref a ∧ DGet H a y (some v) ∧ Q v H) := by
  intro value slice pins s σ H x y v u Q I rx ry h hs
  obtain ⟨a, r, rfl, g, q⟩ := h
  cases rx
  exact tail_any (dict_typeIs I g) PySem.F.slot_dict_getitem.lookup (d_getItem hu I g ry fun w' s3 I3 rw' => ⟨r, H, I3, rw', q⟩) hs
theorem ix_d (hu : X.A.units + 1 < cLine) (hK : X.K = Z.K) : IxR X (rD Z gIx) := by
  intro value slice pins s σ H x y v u Q I rx ry h hs
  obtain ⟨G, α, S, a, b, hd, ha, hb, w⟩ := h
  cases a with
  | lst l =>
    cases b with
    | int i =>
      cases hb
      obtain ⟨p, xs, rfl, h1, h2⟩ := ha
      have w' : Wk Z (R.of S (match atI l i with | some d => vD d | none => none)) G α H (pRt Z Q) E0 := w
      cases e : atI l i with
      | none => simp only [e] at w'; exact w'.elim
      | some d =>
        simp only [e] at w'
        obtain ⟨r, e2, o⟩ := onl_at h2 e
        exact ix_list value slice pins s σ H _ _ v u Q I rx ry ⟨p, xs, i, r, rfl, rfl, hK ▸ SqL.of h1, e2, wD w' hd o⟩ hs
    | _ => exact w.elim
  | tup l =>
    cases b with
    | int i =>
      cases hb
      obtain ⟨p, xs, rfl, h1, h2⟩ := ha
      have w' : Wk Z (R.of S (match atI l i with | some d => vD d | none => none)) G α H (pRt Z Q) E0 := w
      cases e : atI l i with
      | none => simp only [e] at w'; exact w'.elim
      | some d =>
        simp only [e] at w'
        obtain ⟨r, e2, o⟩ := onl_at h2 e
        exact ix_tup value slice pins s σ H _ _ v u Q I rx ry ⟨p, xs, i, r, rfl, rfl, hK ▸ SqT.of (hd.ex _ _ h1), e2, wD w' hd o⟩ hs
    | _ => exact w.elim
  | ktp l =>
    cases b with
    | int i =>
      cases hb
      obtain ⟨p, xs, rfl, h1, h2⟩ := ha
      have w' : Wk Z (R.of S (match atI l i with | some d => vD d | none => none)) G α H (pRt Z Q) E0 := w
      cases e : atI l i with
      | none => simp only [e] at w'; exact w'.elim
      | some d =>
        simp only [e] at w'
        obtain ⟨r, e2, o⟩ := onl_at h2 e
        exact ix_tup value slice pins s σ H _ _ v u Q I rx ry ⟨p, xs, i, r, rfl, rfl, hK ▸ h1.sq hd.ex, e2, wD w' hd o⟩ hs
    | _ => exact w.elim
  | scr l =>
    cases b with
    | int i =>
      cases hb
      obtain ⟨p, rfl, h1⟩ := ha
      have w' : Wk Z (R.of S (match atI l i with | some d => vI d | none => none)) G α H (pRt Z Q) E0 := w
      cases e : atI l i with
      | none => simp only [e] at w'; exact w'.elim
      | some d =>
        simp only [e] at w'
        refine ix_list value slice pins s σ H _ _ v u Q I rx ry ⟨p, l.map V.int, i, .int d, rfl, rfl, hK ▸ ex_l hd.ex h1, ?_, wI w' hd⟩ hs
        unfold atI at e ⊢
        rw [List.length_map]
        cases q : ixN l.length i with
        | none => rw [q] at e; cases e
        | some j =>
          rw [q] at e
          show (l.map V.int)[j]? = _
          rw [List.getElem?_map, show l[j]? = some d from e]
          rfl
    | _ => exact w.elim
  | str t =>
    cases b with
    | int i =>
      cases hb; cases ha
      have w' : Wk Z (R.of S (if t.length ≤ 100000 then (match atI t.cps.toList i with | some c => vS ⟨#[c]⟩ | none => none) else none)) G α H (pRt Z Q) E0 := w
      by_cases hl : t.length ≤ 100000
      · rw [if_pos hl] at w'
        cases e : atI t.cps.toList i with
        | none => simp only [e] at w'; exact w'.elim
        | some c =>
          simp only [e] at w'
          exact ix_str value slice pins s σ H _ _ v u Q I rx ry ⟨t, i, c, rfl, rfl, sz_of hl, e, wS w' hd⟩ hs
      · rw [if_neg hl] at w'
        exact w'.elim
    | _ => exact w.elim
  | dic t ks vs =>
    have w' : Wk Z (R.of S (onlyIf (isKey t b) (match dLook t b ks vs with | some d => vD d | none => none))) G α H (pRt Z Q) E0 := by cases b <;> exact w
    obtain ⟨hk, w'⟩ := onlyIf_ok w'
    obtain ⟨p, rfl, p1, p2⟩ := dic_get hd.ex ha hb hk
    cases e : dLook t b ks vs with
    | none => simp only [e] at w'; exact w'.elim
    | some d =>
      simp only [e] at w'
      obtain ⟨r, g, o⟩ := p1 d e
      exact ix_dict hu value slice pins s σ H _ _ v u Q I rx ry ⟨p, r, rfl, g, wD w' hd o⟩ hs
  | _ => cases b <;> exact w.elim
variable {Ew : L2.St → XK} {a b c : Expr} {fa fb fc : FE} {pos : Pos}
theorem pf_ix {g : Dv → Dv → Option Rt} (h : IxR X (rD Z g)) (ha : PF Z Ew X a fa) (hb : PF Z Ew X b fb) (hs : PlainIx b := by exact fun _ _ => rfl) : PF Z Ew X (.Subscript a b pos) (fOp g fa fb) := by
  obtain ⟨ta, h1, h2⟩ := ha.ex
  obtain ⟨tb, h3, h4⟩ := hb.ex
  exact ⟨_, pe_ix h h1 h3 hs, se_op h2 h4⟩
abbrev FO := Env → Sto → R (Option Int)
def fNoPart : FO := fun _ S => .ok S none
def fPart (fa : FE) : FO := fun env S => (fa env S).bindV fun S1 a => match a with
  | .d (.int i) => .ok S1 (some i)
  | _ => .no
def pO (Q : Option Int → Hp → Prop) : Pst (Option Int) := ⟨fun b _ _ _ H2 => Q b H2, fun _ q => q⟩
def SO (Z : Zx) (Ew : L2.St → XK) (t : TO) (f : FO) : Prop := ∀ env σ G α S H Q, Hd Z G α S H → OnE Z G α env σ → Wk Z (f env S) G α H (pO Q) (Ew σ) → t σ H Q
structure POF (Z : Zx) (Ew : L2.St → XK) (X : Cx) (e : Option Expr) (f : FO) : Prop where
  ex : ∃ te, PO X e te ∧ SO Z Ew te f
theorem pof_none : POF Z Ew X none fNoPart := ⟨_, po_none, fun env σ G α S H Q hd oe w => w.here hd⟩
theorem pof_some (h : PF Z Ew X a fa) : POF Z Ew X (some a) (fPart fa) := by
  obtain ⟨ta, h1, h2⟩ := h.ex
  refine ⟨_, po_some h1, fun env σ G α S H Q hd oe w => h2.bind hd oe w fun S2 d x H2 G2 α2 f2 hd2 oe2 ox w2 => ?_⟩
  match d, w2, ox with
  | .d (.int i), w2, ox =>
    have e : On Z G2 (.int i) x := ox
    unfold On at e
    exact ⟨i, e, w2.here hd2⟩
def cutL {β : Type} (l : List β) (lo hi : Option Int) : List β := (l.drop (HT.sIx l.length 0 lo)).take (HT.sIx l.length l.length hi - HT.sIx l.length 0 lo)
def gSl (lo hi : Option Int) : Dv → Option Rt
  | .lst l => nL (cutL l lo hi)
  | .tup l => vT (cutL l lo hi)
  | .str s => if s.length ≤ 100000 then vS (cutS s lo hi) else none
  | _ => none
def fSl (fa : FE) (lo hi : FO) : FE := fun env S => (fa env S).bindV fun S1 a => (lo env S1).bind fun S2 l => (hi env S2).bind fun S3 h => g1 S3 a (gSl l h)
theorem onl_cut {l : List Dv} {xs : List V} (h : OnL Z G l xs) (lo hi : Option Int) : OnL Z G (cutL l lo hi) (cutV xs lo hi) := by
  unfold cutL cutV
  rw [h.len]
  exact (h.drop _).take _
theorem cut_all {l : List Dv} {lo hi : Option Int} (h : HT.sIx l.length 0 lo = 0 ∧ HT.sIx l.length l.length hi = l.length) : cutL l lo hi = l := by
  unfold cutL
  rw [h.1, h.2, List.drop_zero, Nat.sub_zero, List.take_length]
def rSl (Z : Zx) : V → Option Int → Option Int → Hp → VK → Prop := fun x lo hi H Q => rU Z (gSl lo hi) x H Q
theorem sl_d (hK : X.K = Z.K) : L2.SlR X (rSl Z) := by
  intro pins s σ H x v vl vu lo hi sl Q I rx hs pl pu h
  obtain ⟨G, α, S, a, hd, ha, w⟩ := h
  cases a with
  | lst l =>
    obtain ⟨p, xs, rfl, h1, h2⟩ := ha
    exact sl_list pins s σ H _ v vl vu lo hi sl Q I rx hs pl pu ⟨p, xs, rfl, hK ▸ SqL.of h1, fun q hq => wL w hd (onl_cut h2 lo hi) hq⟩
  | tup l =>
    obtain ⟨p, xs, rfl, h1, h2⟩ := ha
    refine sl_tupA pins s σ H _ v vl vu lo hi sl Q I rx hs pl pu ⟨p, xs, rfl, SqT.of (hd.ex _ _ h1), fun e => ?_, fun _ q hq => wT w hd (onl_cut h2 lo hi) hq⟩
    rw [h2.len] at e
    have w' : Wk Z (R.of S (vT (cutL l lo hi))) G α H (pRt Z Q) E0 := w
    rw [cut_all e] at w'
    exact wkT w' hd h1 h2
  | str t =>
    cases ha
    have w' : Wk Z (R.of S (if t.length ≤ 100000 then vS (cutS t lo hi) else none)) G α H (pRt Z Q) E0 := w
    by_cases hl : t.length ≤ 100000
    · rw [if_pos hl] at w'
      exact sl_str pins s σ H _ v vl vu lo hi sl Q I rx hs pl pu ⟨t, rfl, sz_of hl, wS w' hd⟩
    · rw [if_neg hl] at w'
      exact w'.elim
  | _ => exact w.elim
theorem pf_slice {lo hi : Option Expr} {fl fh : FO} {p2 : Pos} (hK : X.K = Z.K) (ha : PF Z Ew X a fa) (hl : POF Z Ew X lo fl) (hh : POF Z Ew X hi fh) : PF Z Ew X (.Subscript a (.Slice lo hi none p2) pos) (fSl fa fl fh) := by
  obtain ⟨ta, h1, h2⟩ := ha.ex
  obtain ⟨tl, h3, h4⟩ := hl.ex
  obtain ⟨th, h5, h6⟩ := hh.ex
  refine ⟨_, pe_slice (sl_d hK) h1 h3 h5, fun env σ G α S H Q hd oe w => h2.bind hd oe w fun S2 d x H2 G2 α2 f2 hd2 oe2 ox w2 => ?_⟩
  refine h4 env σ G2 α2 S2 H2 _ hd2 oe2 (w2.bind (P' := pO _) fun S3 l H3 G3 α3 f3 hd3 w3 => ?_)
  refine h6 env σ G3 α3 S3 H3 _ hd3 (oe2.up f3.g f3.a) (w3.bind (P' := pO _) fun S4 u H4 G4 α4 f4 hd4 w4 => ?_)
  exact g1_ok hd4 ((ox.up f3.g f3.a).up f4.g f4.a) w4
end
end DN
namespace DN
open PySem PySem.Spec PyProof.Rows L2 Evl
def OnHA (Z : Zx) (G H : Hp) : List Dv → List V → Prop
  | [], xs => xs = []
  | d :: l, xs => ∃ y ys, xs = y :: ys ∧ OnH Z G H d y ∧ OnHA Z G H l ys
def snaps (S : Sto) : List Vr → Option (List Dv)
  | [] => some []
  | r :: l => match snap S r, snaps S l with
    | some d, some m => some (d :: m)
    | _, _ => none
section
variable {Z : Zx} {X : Cx} {G H : Hp} {α : List Addr} {S : Sto} {Q : VK} {E : XK}
theorem snaps_on : ∀ {l : List Vr} {vs : List V} {ds : List Dv}, Hd Z G α S H → OnA Z G α l vs → snaps S l = some ds → OnHA Z G H ds vs
  | [], vs, ds, hd, h, e => by cases e; exact h
  | r :: l, vs, ds, hd, h, e => by
    obtain ⟨y, ys, rfl, h2, h3⟩ := h
    unfold snaps at e
    cases e1 : snap S r with
    | none => rw [e1] at e; cases e
    | some d =>
      cases e2 : snaps S l with
      | none => rw [e1, e2] at e; cases e
      | some m =>
        rw [e1, e2] at e
        cases e
        exact ⟨y, ys, rfl, snap_on hd h2 e1, snaps_on hd h3 e2⟩
theorem OnHA.one {d : Dv} {xs : List V} (h : OnHA Z G H [d] xs) : ∃ y, xs = [y] ∧ OnH Z G H d y := by
  obtain ⟨y, ys, rfl, h2, h3⟩ := h
  cases (show ys = [] from h3)
  exact ⟨y, rfl, h2⟩
theorem OnHA.two {d e : Dv} {xs : List V} (h : OnHA Z G H [d, e] xs) : ∃ y z, xs = [y, z] ∧ OnH Z G H d y ∧ OnH Z G H e z := by
  obtain ⟨y, ys, rfl, h2, h3⟩ := h
  obtain ⟨z, rfl, h4⟩ := h3.one
  exact ⟨y, z, rfl, h2, h4⟩
def gA (S : Sto) (l : List Vr) (g : List Dv → Option Rt) : R Rt := match snaps S l with
  | some ds => R.of S (g ds)
  | none => .no
def fCall (g : List Dv → Option Rt) (fa : FA) : FE := fun env S => (fa env S).bind fun S1 l => gA S1 l g
def rA (Z : Zx) (g : List Dv → Option Rt) : List V → Hp → VK → Prop := fun xs H Q => ∃ G α S l, Hd Z G α S H ∧ OnHA Z G H l xs ∧ Wk Z (R.of S (g l)) G α H (pRt Z Q) E0
theorem gA_ok {l : List Vr} {vs : List V} {g : List Dv → Option Rt} (hd : Hd Z G α S H) (ol : OnA Z G α l vs) (w : Wk Z (gA S l g) G α H (pRt Z Q) E) : rA Z g vs H Q := by
  unfold gA at w
  cases e : snaps S l with
  | none => rw [e] at w; exact w.elim
  | some ds => rw [e] at w; exact ⟨G, α, S, ds, hd, snaps_on hd ol e, w.any⟩
variable {Ew : L2.St → XK} {ta : TA} {fa : FA}
theorem se_call {g : List Dv → Option Rt} (ha : SA Z Ew ta fa) : SE Z Ew (tCB (rA Z g) ta) (fCall g fa) := fun env σ G α S H Q hd oe w =>
  ha.bind hd oe w fun S2 l vs H2 G2 α2 f2 hd2 oe2 ol w2 => gA_ok hd2 ol w2
variable {x : Str} {p pos : Pos} {e : Expr} {es : List Expr}
theorem pf_callB {id : String} {g : List Dv → Option Rt} (hc : CallR X (.builtin id) (rA Z g)) (hg : Gl X x) (hm : X.mg x = none) (hv : bootBuiltins x = some (.builtin id)) (ha : PAF Z Ew X (e :: es) fa) (hn : x ≠ "__name__" := by decide) (hdb : (x == ("__debug__" : Str)) = false := by decide)
    (he : starEach (e :: es) X.env = (false, eval e X.env) :: starEach es X.env := by rfl) (hpl : (backTo pos (starEach es X.env)).any (·.1) = false := by rfl) : PF Z Ew X (.Call (.Name x p) (e :: es) [] pos) (fCall g fa) := by
  obtain ⟨ta, h1, h2⟩ := ha.ex
  exact ⟨_, pe_callB hc hg hm hv h1 hn hdb he hpl, se_call h2⟩
theorem pf_callT {T : String} {g : List Dv → Option Rt} (hc : CallR X (.type T) (rA Z g)) (hg : Gl X x) (hm : X.mg x = none) (hv : bootBuiltins x = some (.type T)) (ha : PAF Z Ew X (e :: es) fa) (hn : x ≠ "__name__" := by decide) (hdb : (x == ("__debug__" : Str)) = false := by decide)
    (he : starEach (e :: es) X.env = (false, eval e X.env) :: starEach es X.env := by rfl) (hpl : (backTo pos (starEach es X.env)).any (·.1) = false := by rfl) : PF Z Ew X (.Call (.Name x p) (e :: es) [] pos) (fCall g fa) := by
  obtain ⟨ta, h1, h2⟩ := ha.ex
  exact ⟨_, pe_callTy hc hg hm hv h1 hn hdb he hpl, se_call h2⟩
end
def arg1 (f : Dv → Option Rt) : List Dv → Option Rt
  | [x] => f x
  | _ => none
def arg12 (f : Dv → Option Rt) (g : Dv → Dv → Option Rt) : List Dv → Option Rt
  | [x] => f x
  | [x, y] => g x y
  | _ => none
theorem arg1_ok {Z : Zx} {G H : Hp} {α : List Addr} {S : Sto} {P : Pst Rt} {E : XK} {f : Dv → Option Rt} {l : List Dv} {xs : List V} (h : OnHA Z G H l xs) (w : Wk Z (R.of S (arg1 f l)) G α H P E) : ∃ x y, xs = [y] ∧ OnH Z G H x y ∧ Wk Z (R.of S (f x)) G α H P E := by
  cases l with
  | nil => exact w.elim
  | cons a r =>
    cases r with
    | nil =>
      obtain ⟨y, e, o⟩ := h.one
      exact ⟨a, y, e, o, w⟩
    | cons b r => exact w.elim
theorem arg12_ok {Z : Zx} {G H : Hp} {α : List Addr} {S : Sto} {P : Pst Rt} {E : XK} {f : Dv → Option Rt} {g : Dv → Dv → Option Rt} {l : List Dv} {xs : List V} (h : OnHA Z G H l xs) (w : Wk Z (R.of S (arg12 f g l)) G α H P E) :
    (∃ x y, xs = [y] ∧ OnH Z G H x y ∧ Wk Z (R.of S (f x)) G α H P E) ∨ ∃ x x2 y y2, xs = [y, y2] ∧ OnH Z G H x y ∧ OnH Z G H x2 y2 ∧ Wk Z (R.of S (g x x2)) G α H P E := by
  cases l with
  | nil => exact w.elim
  | cons a r =>
    cases r with
    | nil =>
      obtain ⟨y, e, o⟩ := h.one
      exact .inl ⟨a, y, e, o, w⟩
    | cons b r =>
      cases r with
      | nil =>
        obtain ⟨y, z, e, o, o2⟩ := h.two
        exact .inr ⟨a, b, y, z, e, o, o2, w⟩
      | cons c r => exact w.elim
def gLen1 : Dv → Option Rt
  | .lst l => vI l.length
  | .tup l => vI l.length
  | .ktp l => vI l.length
  | .scr l => vI l.length
  | .str s => if s.length ≤ 100000 then vI s.length else none
  | .dic false ks _ => vI ks.length
  | _ => none
def gLen : List Dv → Option Rt := arg1 gLen1
def ints? : List Dv → Option (List Int)
  | [] => some []
  | .int i :: l => match ints? l with
    | some m => some (i :: m)
    | none => none
  | _ => none
def bools? : List Dv → Option (List Bool)
  | [] => some []
  | .bl i :: l => match bools? l with
    | some m => some (i :: m)
    | none => none
  | _ => none
def maxI : List Int → Option Int
  | [] => none
  | i :: l => match maxI l with
    | some m => some (if m ≤ i then i else m)
    | none => some i
def minI : List Int → Option Int
  | [] => none
  | i :: l => match minI l with
    | some m => some (if i ≤ m then i else m)
    | none => some i
def onI (o : Option (List Int)) (f : List Int → Option Rt) : Option Rt := match o with
  | some l => f l
  | none => none
def gMax1 : Dv → Option Rt
  | .lst l => onI (ints? l) fun ns => match maxI ns with
    | some m => vI m
    | none => none
  | _ => none
def gMax2 : Dv → Dv → Option Rt
  | .int i, .int j => vI (if j > i then j else i)
  | _, _ => none
def gMax : List Dv → Option Rt := arg12 gMax1 gMax2
def gMin1 : Dv → Option Rt
  | .lst l => onI (ints? l) fun ns => match minI ns with
    | some m => vI m
    | none => none
  | _ => none
def gMin2 : Dv → Dv → Option Rt
  | .int i, .int j => vI (if j < i then j else i)
  | _, _ => none
def gMin : List Dv → Option Rt := arg12 gMin1 gMin2
def gInt1 : Dv → Option Rt
  | .int i => vI i
  | .bl b => vI (if b then 1 else 0)
  | .str s => if s.length ≤ 640 then (match PySem.intText? s with
    | some n => vI n
    | none => none) else none
  | _ => none
def gInt : List Dv → Option Rt := arg1 gInt1
def gAll1 : Dv → Option Rt
  | .lst l => match bools? l with
    | some bs => vB (bs.all id)
    | none => none
  | _ => none
def gAll : List Dv → Option Rt := arg1 gAll1
def gList1 : Dv → Option Rt
  | .lst l => nL l
  | .tup l => nL l
  | .ktp l => nL l
  | .str s => if s.length ≤ 100000 then nL (s.cps.toList.map fun c => .str ⟨#[c]⟩) else none
  | _ => none
def gList : List Dv → Option Rt := arg1 gList1
def gTuple1 : Dv → Option Rt
  | .lst l => vT l
  | .tup l => vT l
  | _ => none
def gTuple : List Dv → Option Rt := arg1 gTuple1
def insI (i : Int) : List Int → List Int
  | [] => [i]
  | j :: l => if i ≤ j then i :: j :: l else j :: insI i l
def sortI : List Int → List Int
  | [] => []
  | i :: l => insI i (sortI l)
def gSorted1 : Dv → Option Rt
  | .lst l => onI (ints? l) fun ns => nL ((sortI ns).map .int)
  | _ => none
def gSorted : List Dv → Option Rt := arg1 gSorted1
def gStr1 : Dv → Option Rt
  | .int i => if i.natAbs.log2 < 1920 then vS (toString i) else none
  | .str s => vS s
  | _ => none
def gStr : List Dv → Option Rt := arg1 gStr1
section
variable {Z : Zx} {X : Cx} {G H : Hp} {α : List Addr} {S : Sto} {Q : VK} {E : XK}
theorem ints_on : ∀ {l : List Dv} {ns : List Int} {xs : List V}, ints? l = some ns → OnL Z G l xs → xs = ns.map V.int
  | [], ns, xs, e, h => by cases e; rw [OnL.nil.mp h]; rfl
  | .int i :: l, ns, xs, e, h => by
    obtain ⟨y, ys, rfl, h2, h3⟩ := OnL.cons.mp h
    unfold ints? at e
    cases q : ints? l with
    | none => rw [q] at e; cases e
    | some m =>
      rw [q] at e
      cases e
      unfold On at h2
      rw [h2, ints_on q h3]
      rfl
theorem bools_on : ∀ {l : List Dv} {ns : List Bool} {xs : List V}, bools? l = some ns → OnL Z G l xs → xs = ns.map V.bl
  | [], ns, xs, e, h => by cases e; rw [OnL.nil.mp h]; rfl
  | .bl i :: l, ns, xs, e, h => by
    obtain ⟨y, ys, rfl, h2, h3⟩ := OnL.cons.mp h
    unfold bools? at e
    cases q : bools? l with
    | none => rw [q] at e; cases e
    | some m =>
      rw [q] at e
      cases e
      unfold On at h2
      rw [h2, bools_on q h3]
      rfl
theorem on_ints : ∀ (ns : List Int), OnL Z G (ns.map .int) (ns.map V.int)
  | [] => OnL.nil'
  | i :: l => OnL.cons' on_int (on_ints l)
theorem maxI_ok : ∀ {l : List Int} {m : Int}, maxI l = some m → m ∈ l ∧ ∀ y ∈ l, y ≤ m
  | [], m, e => by cases e
  | i :: l, m, e => by
    unfold maxI at e
    cases q : maxI l with
    | none =>
      rw [q] at e
      cases e
      have : l = [] := by
        cases l with
        | nil => rfl
        | cons a b => unfold maxI at q; cases r : maxI b <;> simp [r] at q
      subst this
      exact ⟨by simp, fun y hy => by simp at hy; omega⟩
    | some k =>
      rw [q] at e
      obtain ⟨h1, h2⟩ := maxI_ok q
      cases e
      by_cases c : k ≤ i
      · rw [if_pos c]
        exact ⟨by simp, fun y hy => by
          rcases List.mem_cons.mp hy with rfl | hy
          · omega
          · have := h2 y hy; omega⟩
      · rw [if_neg c]
        exact ⟨List.mem_cons_of_mem _ h1, fun y hy => by
          rcases List.mem_cons.mp hy with rfl | hy
          · omega
          · exact h2 y hy⟩
theorem minI_ok : ∀ {l : List Int} {m : Int}, minI l = some m → m ∈ l ∧ ∀ y ∈ l, m ≤ y
  | [], m, e => by cases e
  | i :: l, m, e => by
    unfold minI at e
    cases q : minI l with
    | none =>
      rw [q] at e
      cases e
      have : l = [] := by
        cases l with
        | nil => rfl
        | cons a b => unfold minI at q; cases r : minI b <;> simp [r] at q
      subst this
      exact ⟨by simp, fun y hy => by simp at hy; omega⟩
    | some k =>
      rw [q] at e
      obtain ⟨h1, h2⟩ := minI_ok q
      cases e
      by_cases c : i ≤ k
      · rw [if_pos c]
        exact ⟨by simp, fun y hy => by
          rcases List.mem_cons.mp hy with rfl | hy
          · omega
          · have := h2 y hy; omega⟩
      · rw [if_neg c]
        exact ⟨List.mem_cons_of_mem _ h1, fun y hy => by
          rcases List.mem_cons.mp hy with rfl | hy
          · omega
          · exact h2 y hy⟩
theorem insI_perm (i : Int) : ∀ l : List Int, (insI i l).Perm (i :: l)
  | [] => .refl _
  | j :: l => by
    unfold insI
    split
    · exact .refl _
    · exact ((insI_perm i l).cons j).trans (.swap i j l)
theorem sortI_perm : ∀ l : List Int, (sortI l).Perm l
  | [] => .refl _
  | i :: l => (insI_perm i _).trans ((sortI_perm l).cons i)
theorem insI_pw {i : Int} : ∀ {l : List Int}, l.Pairwise (· ≤ ·) → (insI i l).Pairwise (· ≤ ·)
  | [], _ => by unfold insI; exact List.pairwise_singleton _ _
  | j :: l, h => by
    unfold insI
    rw [List.pairwise_cons] at h
    split
    · rename_i c
      rw [List.pairwise_cons]
      exact ⟨fun y hy => by
        rcases List.mem_cons.mp hy with rfl | hy
        · exact c
        · have := h.1 y hy; omega, List.pairwise_cons.mpr h⟩
    · rename_i c
      rw [List.pairwise_cons]
      exact ⟨fun y hy => by
        rcases List.mem_cons.mp ((insI_perm i l).mem_iff.mp hy) with rfl | hy
        · omega
        · exact h.1 y hy, insI_pw h.2⟩
theorem sortI_pw : ∀ l : List Int, (sortI l).Pairwise (· ≤ ·)
  | [] => .nil
  | i :: l => insI_pw (sortI_pw l)
theorem pw_perm_eq : ∀ {a b : List Int}, a.Perm b → a.Pairwise (· ≤ ·) → b.Pairwise (· ≤ ·) → a = b := fun {a b} p h1 h2 => p.eq_of_pairwise (fun x y _ _ h3 h4 => Int.le_antisymm h3 h4) h1 h2
theorem cd_len (hK : X.K = Z.K) : CallR X (.builtin "len") (rA Z gLen) := by
  intro pins s σ H xs us Q I r h
  obtain ⟨G, α, S, l, hd, hl, w⟩ := h
  obtain ⟨x, y, rfl, hx, w⟩ := arg1_ok hl w
  cases x with
  | lst l =>
    obtain ⟨a, xs, rfl, h1, h2⟩ := hx
    have w' := wI w hd
    rw [← h2.len] at w'
    exact call_len_seq pins s σ H _ us Q I r ⟨a, xs, rfl, .inl (SqL.of h1), w'⟩
  | tup l =>
    obtain ⟨a, xs, rfl, h1, h2⟩ := hx
    have w' := wI w hd
    rw [← h2.len] at w'
    exact call_len_seq pins s σ H _ us Q I r ⟨a, xs, rfl, .inr (SqT.of (hd.ex _ _ h1)), w'⟩
  | ktp l =>
    obtain ⟨a, xs, rfl, h1, h2⟩ := hx
    have w' := wI w hd
    rw [← h2.len] at w'
    exact call_len_seq pins s σ H _ us Q I r ⟨a, xs, rfl, .inr (hK ▸ h1.sq hd.ex), w'⟩
  | scr l =>
    obtain ⟨a, rfl, h1⟩ := hx
    have w' := wI w hd
    rw [← List.length_map (f := V.int)] at w'
    exact call_len_seq pins s σ H _ us Q I r ⟨a, _, rfl, .inl (hK ▸ ex_l hd.ex h1), w'⟩
  | str t =>
    cases hx
    have w' : Wk Z (R.of S (if t.length ≤ 100000 then vI t.length else none)) G α H (pRt Z Q) E0 := w
    by_cases c : t.length ≤ 100000
    · rw [if_pos c] at w'
      exact call_len_str pins s σ H _ us Q I r ⟨t, rfl, sz_of c, wI w' hd⟩
    · rw [if_neg c] at w'
      exact w'.elim
  | dic t ks vs =>
    cases t with
    | true => exact w.elim
    | false =>
    obtain ⟨a, ws, rfl, ⟨kk, e1, e2⟩, h2, h3⟩ := hx
    have w' := wI w hd
    have e3 : kk.length = ks.length := by have := congrArg List.length e1; rw [List.length_map, List.length_map] at this; exact this.symm
    refine call_lenD pins s σ H _ us Q I r ⟨a, kk.zip ws, rfl, e2, ?_⟩
    rw [List.length_zip, e3, ← h2, Nat.min_self]
    exact w'
  | _ => exact w.elim
theorem cd_max (hc : X.calm = true) (hK : X.K = Z.K) : CallR X (.builtin "max") (rA Z gMax) := by
  intro pins s σ H xs us Q I r h
  obtain ⟨G, α, S, l, hd, hl, w⟩ := h
  rcases arg12_ok hl w with ⟨x, y, rfl, hx, w⟩ | ⟨x, x2, y, y2, rfl, hx, hx2, w⟩
  · cases x with
    | lst l =>
      obtain ⟨a, xs, rfl, h1, h2⟩ := hx
      have w' : Wk Z (R.of S (onI (ints? l) fun ns => match maxI ns with | some m => vI m | none => none)) G α H (pRt Z Q) E0 := w
      cases q : ints? l with
      | none => rw [q] at w'; exact w'.elim
      | some ns =>
        rw [q] at w'
        have w' : Wk Z (R.of S (match maxI ns with | some m => vI m | none => none)) G α H (pRt Z Q) E0 := w'
        cases q2 : maxI ns with
        | none => simp only [q2] at w'; exact w'.elim
        | some m =>
          simp only [q2] at w'
          obtain ⟨m1, m2⟩ := maxI_ok q2
          have ex := ints_on q h2
          subst ex
          refine cr_max hc pins s σ H _ us Q I r ⟨a, ns, rfl, SqL.of h1, List.length_pos_of_mem m1, fun k k1 k2 => ?_⟩
          have e : k = m := Int.le_antisymm (m2 k k1) (k2 m m1)
          subst e
          exact wI w' hd
    | _ => exact w.elim
  · cases x with
    | int i =>
      cases x2 with
      | int j => cases hx; cases hx2; exact call_max2 hc pins s σ H _ us Q I r ⟨i, j, rfl, wI w hd⟩
      | _ => exact w.elim
    | _ => cases x2 <;> exact w.elim
theorem cd_min (hc : X.calm = true) (hK : X.K = Z.K) : CallR X (.builtin "min") (rA Z gMin) := by
  intro pins s σ H xs us Q I r h
  obtain ⟨G, α, S, l, hd, hl, w⟩ := h
  rcases arg12_ok hl w with ⟨x, y, rfl, hx, w⟩ | ⟨x, x2, y, y2, rfl, hx, hx2, w⟩
  · cases x with
    | lst l =>
      obtain ⟨a, xs, rfl, h1, h2⟩ := hx
      have w' : Wk Z (R.of S (onI (ints? l) fun ns => match minI ns with | some m => vI m | none => none)) G α H (pRt Z Q) E0 := w
      cases q : ints? l with
      | none => rw [q] at w'; exact w'.elim
      | some ns =>
        rw [q] at w'
        have w' : Wk Z (R.of S (match minI ns with | some m => vI m | none => none)) G α H (pRt Z Q) E0 := w'
        cases q2 : minI ns with
        | none => simp only [q2] at w'; exact w'.elim
        | some m =>
          simp only [q2] at w'
          obtain ⟨m1, m2⟩ := minI_ok q2
          have ex := ints_on q h2
          subst ex
          refine cr_min hc pins s σ H _ us Q I r ⟨a, ns, rfl, SqL.of h1, List.length_pos_of_mem m1, fun k k1 k2 => ?_⟩
          have e : k = m := Int.le_antisymm (k2 m m1) (m2 k k1)
          subst e
          exact wI w' hd
    | _ => exact w.elim
  · cases x with
    | int i =>
      cases x2 with
      | int j => cases hx; cases hx2; exact call_min2 hc pins s σ H _ us Q I r ⟨i, j, rfl, wI w hd⟩
      | _ => exact w.elim
    | _ => cases x2 <;> exact w.elim
theorem cd_sorted : CallR X (.builtin "sorted") (rA Z gSorted) := by
  intro pins s σ H xs us Q I r h
  obtain ⟨G, α, S, l, hd, hl, w⟩ := h
  obtain ⟨x, y, rfl, hx, w⟩ := arg1_ok hl w
  cases x with
  | lst l =>
    obtain ⟨a, xs, rfl, h1, h2⟩ := hx
    have w' : Wk Z (R.of S (onI (ints? l) fun ns => nL ((sortI ns).map .int))) G α H (pRt Z Q) E0 := w
    cases q : ints? l with
    | none => rw [q] at w'; exact w'.elim
    | some ns =>
      rw [q] at w'
      have ex := ints_on q h2
      subst ex
      refine cr_sortedI pins s σ H _ us Q I r ⟨a, ns, rfl, SqL.of h1, fun ns' p hp hs hn => ?_⟩
      have e : ns' = sortI ns := pw_perm_eq (hp.trans (sortI_perm ns).symm) hs (sortI_pw ns)
      subst e
      exact wL w' hd (on_ints _) hn
  | _ => exact w.elim
theorem cd_int : CallR X (.type "int") (rA Z gInt) := by
  intro pins s σ H xs us Q I r h
  obtain ⟨G, α, S, l, hd, hl, w⟩ := h
  obtain ⟨x, y, rfl, hx, w⟩ := arg1_ok hl w
  cases x with
  | int i =>
    cases hx
    exact call_int1 pins s σ H _ us Q I r (.inl ⟨i, rfl, wI w hd⟩)
  | bl i =>
    cases hx
    exact call_int1 pins s σ H _ us Q I r (.inr ⟨i, rfl, wI w hd⟩)
  | str t =>
    cases hx
    have w' : Wk Z (R.of S (if t.length ≤ 640 then (match PySem.intText? t with | some n => vI n | none => none) else none)) G α H (pRt Z Q) E0 := w
    by_cases c : t.length ≤ 640
    · rw [if_pos c] at w'
      cases q : PySem.intText? t with
      | none => simp only [q] at w'; exact w'.elim
      | some n => simp only [q] at w'; exact call_int_str pins s σ H _ us Q I r ⟨t, n, rfl, q, c, wI w' hd⟩
    · rw [if_neg c] at w'
      exact w'.elim
  | _ => exact w.elim
theorem cd_all (hc : X.calm = true) : CallR X (.builtin "all") (rA Z gAll) := by
  intro pins s σ H xs us Q I r h
  obtain ⟨G, α, S, l, hd, hl, w⟩ := h
  obtain ⟨x, y, rfl, hx, w⟩ := arg1_ok hl w
  cases x with
  | lst l =>
    obtain ⟨a, xs, rfl, h1, h2⟩ := hx
    have w' : Wk Z (R.of S (match bools? l with | some bs => vB (bs.all id) | none => none)) G α H (pRt Z Q) E0 := w
    cases q : bools? l with
    | none => simp only [q] at w'; exact w'.elim
    | some ns =>
      simp only [q] at w'
      have ex := bools_on q h2
      subst ex
      exact cr_all hc pins s σ H _ us Q I r ⟨a, ns, rfl, SqL.of h1, wB w' hd⟩
  | _ => exact w.elim
theorem onl_signs : ∀ l : List Nat, OnL Z G (l.map fun c => .str ⟨#[c]⟩) (l.map fun c => V.str ⟨#[c]⟩)
  | [] => OnL.nil'
  | c :: l => OnL.cons' on_str (onl_signs l)
theorem cd_list (hc : X.calm = true) (hK : X.K = Z.K) : CallR X (.type "list") (rA Z gList) := by
  intro pins s σ H xs us Q I r h
  obtain ⟨G, α, S, l, hd, hl, w⟩ := h
  obtain ⟨x, y, rfl, hx, w⟩ := arg1_ok hl w
  cases x with
  | lst l =>
    obtain ⟨a, xs, rfl, h1, h2⟩ := hx
    exact call_list_of pins s σ H _ us Q I r ⟨a, xs, rfl, .inl (SqL.of h1), fun p hp => wL w hd h2 hp⟩
  | tup l =>
    obtain ⟨a, xs, rfl, h1, h2⟩ := hx
    exact call_list_of pins s σ H _ us Q I r ⟨a, xs, rfl, .inr (SqT.of (hd.ex _ _ h1)), fun p hp => wL w hd h2 hp⟩
  | ktp l =>
    obtain ⟨a, xs, rfl, h1, h2⟩ := hx
    exact call_list_of pins s σ H _ us Q I r ⟨a, xs, rfl, .inr (hK ▸ h1.sq hd.ex), fun p hp => wL w hd h2 hp⟩
  | str t =>
    cases hx
    have w' : Wk Z (R.of S (if t.length ≤ 100000 then nL (t.cps.toList.map fun c => .str ⟨#[c]⟩) else none)) G α H (pRt Z Q) E0 := w
    by_cases c : t.length ≤ 100000
    · rw [if_pos c] at w'
      exact OP.call_list_text hc pins s σ H _ us Q I r ⟨t, rfl, sz_of c, fun p hp => wL w' hd (onl_signs _) hp⟩
    · rw [if_neg c] at w'
      exact w'.elim
  | _ => exact w.elim
theorem cd_tuple : CallR X (.type "tuple") (rA Z gTuple) := by
  intro pins s σ H xs us Q I r h
  obtain ⟨G, α, S, l, hd, hl, w⟩ := h
  obtain ⟨x, y, rfl, hx, w⟩ := arg1_ok hl w
  cases x with
  | lst l =>
    obtain ⟨a, xs, rfl, h1, h2⟩ := hx
    exact call_tuple_of pins s σ H _ us Q I r ⟨a, xs, rfl, .inl ⟨SqL.of h1, fun p hp => wT w hd h2 hp⟩⟩
  | tup l =>
    obtain ⟨a, xs, rfl, h1, h2⟩ := hx
    exact call_tuple_of pins s σ H _ us Q I r ⟨a, xs, rfl, .inr ⟨SqT.of (hd.ex _ _ h1), wkT w hd h1 h2⟩⟩
  | _ => exact w.elim
end
end DN
namespace DN
open PySem PySem.Spec PyProof.Rows L2 Evl
def isT (T : String) : Dv → Bool
  | .str _ => T == "str"
  | .int _ => T == "int"
  | .lst _ => T == "list"
  | _ => false
def gM (S : Sto) (a : Vr) (l : List Vr) (g : Dv → List Dv → Option Rt) : R Rt := match snap S a, snaps S l with
  | some d, some ds => R.of S (g d ds)
  | _, _ => .no
def onT {β : Type} (T : String) (S : Sto) (a : Vr) (r : R β) : R β := match snap S a with
  | some d => if isT T d then r else .no
  | none => .no
def fMeth (T : String) (g : Dv → List Dv → Option Rt) (fo : FE) (fa : FA) : FE := fun env S => (fo env S).bindV fun S1 a => onT T S1 a ((fa env S1).bind fun S2 l => gM S2 a l g)
/-- a list that is changed: its items, the arguments; its items behind, what is handed back -/
def gMu (S : Sto) (a : Vr) (l : List Vr) (g : List Dv → List Dv → Option (List Dv × Dv)) : R Rt := match a, allD l with
  | .r n, some ds => match S[n]? with
    | some (.lst l0) => match g l0 ds with
      | some (l1, res) => .ok (S.set n (.lst l1)) (.val (.d res))
      | none => .no
    | _ => .no
  | _, _ => .no
def fMut (g : List Dv → List Dv → Option (List Dv × Dv)) (fo : FE) (fa : FA) : FE := fun env S => (fo env S).bindV fun S1 a => onT "list" S1 a ((fa env S1).bind fun S2 l => gMu S2 a l g)
def gAppend (l ds : List Dv) : Option (List Dv × Dv) := match ds with
  | [y] => if l.length < 100000 then some (l ++ [y], .non) else none
  | _ => none
def gClear (l ds : List Dv) : Option (List Dv × Dv) := match ds with
  | [] => some ([], .non)
  | _ => none
section
variable {Z : Zx} {X : Cx} {G H : Hp} {α : List Addr} {S : Sto} {Q : VK} {E : XK}
def rMu (Z : Zx) (g : List Dv → List Dv → Option (List Dv × Dv)) : V → List V → Hp → VK → Prop := fun x xs H Q => ∃ G α S n a l0 ds l1 res, Hd Z G α S H ∧ x = .ref a ∧ α[n]? = some a ∧ S[n]? = some (.lst l0) ∧ OnL Z G ds xs ∧ g l0 ds = some (l1, res) ∧
  Wk Z (.ok (S.set n (.lst l1)) (.val (.d res))) G α H (pRt Z Q) E0
theorem ty_on {T : String} {d : Dv} {x : V} (eG : Ex G H) (h : OnH Z G H d x) (e : isT T d = true) : tyV Z.K T x H := by
  cases d with
  | str s => cases h; exact beq_iff_eq.mp e
  | int s => cases h; exact beq_iff_eq.mp e
  | lst l => obtain ⟨a, xs, rfl, h1, h2⟩ := h; exact .inl ⟨beq_iff_eq.mp e, xs, SqL.of h1⟩
  | _ => cases e
theorem onT_ok {β : Type} {T : String} {a : Vr} {x : V} {r : R β} {P : Pst β} (hd : Hd Z G α S H) (ox : OnR Z G α a x) (w : Wk Z (onT T S a r) G α H P E) : tyV Z.K T x H ∧ Wk Z r G α H P E := by
  unfold onT at w
  cases e : snap S a with
  | none => rw [e] at w; exact w.elim
  | some d =>
    rw [e] at w
    cases e2 : isT T d with
    | false => simp only [e2] at w; exact w.elim
    | true => simp only [e2] at w; exact ⟨ty_on hd.ex (snap_on hd ox e) e2, w⟩
theorem gMu_ok {a : Vr} {x : V} {l : List Vr} {vs : List V} {g : List Dv → List Dv → Option (List Dv × Dv)} (hd : Hd Z G α S H) (ox : OnR Z G α a x) (ol : OnA Z G α l vs) (w : Wk Z (gMu S a l g) G α H (pRt Z Q) E) : rMu Z g x vs H Q := by
  unfold gMu at w
  cases a with
  | d d => cases e : allD l <;> (rw [e] at w; exact w.elim)
  | r n =>
    cases e : allD l with
    | none => rw [e] at w; exact w.elim
    | some ds =>
      rw [e] at w
      cases e2 : S[n]? with
      | none => simp only [e2] at w; exact w.elim
      | some c =>
        simp only [e2] at w
        cases c with
        | lst l0 =>
          cases e3 : g l0 ds with
          | none => simp only [e3] at w; exact w.elim
          | some p =>
            simp only [e3] at w
            obtain ⟨b, rfl, hb⟩ := ox
            exact ⟨G, α, S, n, b, l0, ds, p.1, p.2, hd, rfl, hb, e2, allD_on e ol, e3, w⟩
        | _ => exact w.elim
variable {Ew : L2.St → XK} {to : TE} {fo : FE} {ta : TA} {fa : FA} {T : String}
theorem se_mut {g : List Dv → List Dv → Option (List Dv × Dv)} (ho : SE Z Ew to fo) (ha : SA Z Ew ta fa) : SE Z Ew (tBM Z.K "list" (rMu Z g) to ta) (fMut g fo fa) := fun env σ G α S H Q hd oe w =>
  ho.bind hd oe w fun S2 a x H2 G2 α2 f2 hd2 oe2 ox w2 => by
    obtain ⟨t, w3⟩ := onT_ok hd2 ox w2
    exact ⟨t, ha.bind hd2 oe2 w3 fun S3 l vs H3 G3 α3 f3 hd3 oe3 ol w4 => gMu_ok hd3 (ox.up f3.g f3.a) ol w4⟩
/-- the cell is changed -/
theorem Wk.put {n : Nat} {a : Addr} {c c2 : Cell} {o : HO} {v : Vr} {x : V} (w : Wk Z (.ok (S.set n c2) (.val v)) G α H (pRt Z Q) E) (hd : Hd Z G α S H) (ha : α[n]? = some a) (hs : S[n]? = some c) (hc : c ≠ .dead) (h2 : CellAt Z G c2 (some o)) (hx : OnR Z G α v x) : Q x (upd H a o) := by
  obtain ⟨hd2, f2⟩ := hd.put ha hs hc h2
  exact w _ _ _ f2 hd2 x hx
theorem md_append : MtR X "list.append" (rMu Z gAppend) := by
  intro pins s σ H x xs v us Q I rx rxs h
  obtain ⟨G, α, S, n, a, l0, ds, l1, res, hd, rfl, ha, hs, ol, e, w⟩ := h
  cases ds with
  | nil => cases e
  | cons y r =>
    cases r with
    | cons _ _ => cases e
    | nil =>
      have e' : (if l0.length < 100000 then some (l0 ++ [y], Dv.non) else none) = some (l1, res) := e
      by_cases hl : l0.length < 100000
      · rw [if_pos hl] at e'
        cases e'
        obtain ⟨z, rfl, oz⟩ := ol.one
        obtain ⟨zs, h1, h2⟩ := (hd.at_ n a _ ha hs).2
        exact mt_append pins s σ H _ _ v us Q I rx rxs ⟨a, zs, z, rfl, rfl, h1, Nat.lt_of_lt_of_le (by rw [h2.len]; exact hl) (by decide), w.put hd ha hs (fun c => nomatch c) ⟨_, rfl, h2.app (OnL.cons' oz OnL.nil')⟩ (or_non Z G α)⟩
      · rw [if_neg hl] at e'
        cases e'
variable {name : Str} {id : String} {o e : Expr} {es : List Expr} {apos cpos : Pos}
theorem pf_mut {g : List Dv → List Dv → Option (List Dv × Dv)} (hm : MtR X id (rMu Z g)) (slot : Slot "list" name id) (hty : typeOf (.builtin id) = pure (.type "method_descriptor")) (hK : X.K = Z.K) (ho : PF Z Ew X o fo) (ha : PAF Z Ew X (e :: es) fa)
    (hbase : attributeBase o name X.env (eval o X.env) = eval o X.env := by rfl)
    (hfew : ((backTo cpos (starEach (e :: es) X.env)).all (fun x => !x.1) && (backToKw cpos (keywordEach [] X.env)).all (fun x => x.1.isSome) && decide ((e :: es).length + ([] : List Keyword).length + (if ([] : List Keyword).isEmpty then 0 else 1) < 30)) = true := by rfl)
    (hline : (apos.endLine == cpos.line) = true := by rfl) (hst : starEach (e :: es) X.env = (false, eval e X.env) :: starEach es X.env := by rfl) (hpl : (backTo cpos (starEach es X.env)).any (·.1) = false := by rfl) :
    PF Z Ew X (.Call (.Attribute o name apos) (e :: es) [] cpos) (fMut g fo fa) := by
  obtain ⟨to, h1, h2⟩ := ho.ex
  obtain ⟨ta, h3, h4⟩ := ha.ex
  exact ⟨_, OP.pe_bmK Z.K PySem.F.plainAttrs_list slot hty hm h1 h3 hbase hfew hline hst hpl hK, se_mut h2 h4⟩
end
end DN
namespace DN
open PySem PySem.Spec PyProof.Rows L2 Evl
/-- the items, and the cell that they are read from (if it is one) -/
abbrev Its := List Dv × Option Nat
abbrev FI := Env → Sto → R Its
def OkI (Z : Zx) (G2 : Hp) (α2 : List Addr) (t : Its) (G' H : Hp) : Prop := Ex G2 G' ∧ Ex G' H ∧ ∀ n, t.2 = some n → ∃ a xs, α2[n]? = some a ∧ H a = some (.lst xs) ∧ OnL Z G' t.1 xs
structure Gz (Z : Zx) (J : It) (G2 : Hp) (α2 : List Addr) (t : Its) : Prop where
  go : ∀ i G' H, i < t.1.length → OkI Z G2 α2 t G' H → J.go i H
  stop : ∀ G' H, OkI Z G2 α2 t G' H → J.stop t.1.length H
  yld : ∀ i G' H x H', i < t.1.length → OkI Z G2 α2 t G' H → J.yld i H x H' → ∃ d, t.1[i]? = some d ∧ ∀ α' S', Hd Z G' α' S' H → ∃ G3, Fr G' α' H G3 α' H' ∧ Hd Z G3 α' S' H' ∧ On Z G3 d x
def pI (Z : Zx) (R' : It → Hp → Prop) : Pst Its := ⟨fun t _ G2 α2 H2 => ∀ J, Gz Z J G2 α2 t → R' J H2, fun _ q => q⟩
def SI (Z : Zx) (Ew : L2.St → XK) (wi : TI) (f : FI) : Prop :=
  ∀ env σ G α S H R', Hd Z G α S H → OnE Z G α env σ → Wk Z (f env S) G α H (pI Z R') (Ew σ) → wi σ H R'
structure PIF (Z : Zx) (Ew : L2.St → XK) (X : Cx) (tg e : Expr) (f : FI) : Prop where
  ex : ∃ wi, PI X tg e wi ∧ SI Z Ew wi f
/-- the items of a value -/
def iterD : Dv → Option (List Dv)
  | .lst l => some l
  | .tup l => some l
  | .ktp l => some l
  | .str s => some (s.cps.toList.map fun c => .str ⟨#[c]⟩)
  | _ => none
def itOf (S : Sto) (a : Vr) : R Its := match a with
  | .d d => match iterD d with
    | some l => .ok S (l, none)
    | none => .no
  | .r n => match S[n]? with
    | some (.lst l) => .ok S (l, some n)
    | _ => .no
def iVal (fa : FE) : FI := fun env S => (fa env S).bindV fun S1 a => itOf S1 a
section
variable {Z : Zx} {X : Cx} {Ew : L2.St → XK} {G H G' H' : Hp} {α : List Addr} {S : Sto} {Q : VK} {E : XK}
/-- nothing new at a turn -/
theorem y_same {d : Dv} {x : V} (o : On Z G' d x) : ∀ α' S', Hd Z G' α' S' H → ∃ G3, Fr G' α' H G3 α' H ∧ Hd Z G3 α' S' H ∧ On Z G3 d x := fun α' S' hd => ⟨G', Fr.refl G' α' H, hd, o⟩
theorem gz_list {K : PySem.W.Frag} {a : Addr} {l : List Dv} {xs : List V} {G2 : Hp} {α2 : List Addr} (h1 : G2 a = some (.lst xs)) (h2 : OnL Z G2 l xs) : Gz Z (Itl K a) G2 α2 (l, none) := by
  have sq : ∀ {G' H}, OkI Z G2 α2 (l, none) G' H → SqL K H a xs := fun ok => SqL.of (ok.2.1 _ _ (ok.1 _ _ h1))
  have w : Walk (Itl K a) xs.length (fun H => SqL K H a xs) (YAt xs) := walk_list
  refine ⟨fun i G' H hi ok => w.goes i H (by rw [h2.len]; exact hi) (sq ok), fun G' H ok => ?_, fun i G' H x H' hi ok y => ?_⟩
  · have := w.stops H (sq ok)
    rw [h2.len] at this
    exact this
  · obtain ⟨rfl, hx⟩ := w.yields i H x H' (by rw [h2.len]; exact hi) (sq ok) y
    obtain ⟨d, e, o⟩ := h2.got hx
    exact ⟨d, e, y_same (o.up ok.1)⟩
theorem gz_cell {K : PySem.W.Frag} {a : Addr} {n : Nat} {l : List Dv} {G2 : Hp} {α2 : List Addr} (h1 : α2[n]? = some a) : Gz Z (Itl K a) G2 α2 (l, some n) := by
  have sq : ∀ {G' H}, OkI Z G2 α2 (l, some n) G' H → ∃ xs, SqL K H a xs ∧ OnL Z G' l xs := fun ok => by
    obtain ⟨b, xs, e, h, o⟩ := ok.2.2 n rfl
    rw [h1] at e
    cases e
    exact ⟨xs, SqL.of h, o⟩
  refine ⟨fun i G' H hi ok => ?_, fun G' H ok => ?_, fun i G' H x H' hi ok y => ?_⟩
  · obtain ⟨xs, h, o⟩ := sq ok
    exact (walk_list : Walk (Itl K a) xs.length (fun H => SqL K H a xs) (YAt xs)).goes i H (by rw [o.len]; exact hi) h
  · obtain ⟨xs, h, o⟩ := sq ok
    have := (walk_list : Walk (Itl K a) xs.length (fun H => SqL K H a xs) (YAt xs)).stops H h
    rw [o.len] at this
    exact this
  · obtain ⟨xs, h, o⟩ := sq ok
    obtain ⟨rfl, hx⟩ := (walk_list : Walk (Itl K a) xs.length (fun H => SqL K H a xs) (YAt xs)).yields i H x H' (by rw [o.len]; exact hi) h y
    obtain ⟨d, e, o2⟩ := o.got hx
    exact ⟨d, e, y_same o2⟩
theorem gz_tup {K : PySem.W.Frag} {a : Addr} {l : List Dv} {xs : List V} {G2 : Hp} {α2 : List Addr} (h1 : ∀ H, Ex G2 H → SqT K H a xs) (h2 : OnL Z G2 l xs) : Gz Z (Itt K a) G2 α2 (l, none) := by
  have sq : ∀ {G' H}, OkI Z G2 α2 (l, none) G' H → SqT K H a xs := fun ok => h1 _ (ok.1.trans ok.2.1)
  have w : Walk (Itt K a) xs.length (fun H => SqT K H a xs) (YAt xs) := walk_tup
  refine ⟨fun i G' H hi ok => w.goes i H (by rw [h2.len]; exact hi) (sq ok), fun G' H ok => ?_, fun i G' H x H' hi ok y => ?_⟩
  · have := w.stops H (sq ok)
    rw [h2.len] at this
    exact this
  · obtain ⟨rfl, hx⟩ := w.yields i H x H' (by rw [h2.len]; exact hi) (sq ok) y
    obtain ⟨d, e, o⟩ := h2.got hx
    exact ⟨d, e, y_same (o.up ok.1)⟩
theorem gz_str {s : Str} {G2 : Hp} {α2 : List Addr} : Gz Z (L2.Its s) G2 α2 (s.cps.toList.map fun c => .str ⟨#[c]⟩, none) := by
  have hl : (s.cps.toList.map fun c => Dv.str ⟨#[c]⟩).length = s.cps.size := by rw [List.length_map, Array.length_toList]
  refine ⟨fun i G' H hi ok => by rw [hl] at hi; exact hi, fun G' H ok => by rw [hl]; exact Nat.le_refl _, fun i G' H x H' hi ok y => ?_⟩
  obtain ⟨rfl, c, hc, rfl⟩ := y
  exact ⟨.str ⟨#[c]⟩, by rw [List.getElem?_map, Array.getElem?_toList, hc]; rfl, y_same on_str⟩
theorem gz_range {lo : Int} {n : Nat} {G2 : Hp} {α2 : List Addr} : Gz Z (Itr lo n) G2 α2 ((List.range n).map fun (i : Nat) => Dv.int (lo + i), none) := by
  have hl : ((List.range n).map fun (i : Nat) => Dv.int (lo + i)).length = n := by rw [List.length_map, List.length_range]
  refine ⟨fun i G' H hi ok => by rw [hl] at hi; exact hi, fun G' H ok => by rw [hl]; exact Nat.le_refl _, fun i G' H x H' hi ok y => ?_⟩
  rw [hl] at hi
  obtain ⟨rfl, rfl⟩ := y
  exact ⟨.int (lo + i), by rw [List.getElem?_map, List.getElem?_range hi]; rfl, y_same on_int⟩
/-- which reading a value wants -/
def kindD : Dv → Nat
  | .lst _ => 0
  | .str _ => 2
  | _ => 1
def kindR (r : R Rt) : Nat := match r with
  | .ok _ (.val (.d d)) => kindD d
  | _ => 0
variable {tg e : Expr} {fa : FE} {te : TE}
theorem kind_got {r : R Rt} {S2 : Sto} {d : Dv} (g : Got r S2 (.d d)) (h : kindR r = 0) : kindD d = 0 ∨ ∃ c, frzC c = some d := by
  cases g with
  | val => exact .inl h
  | new S c d h => exact .inr ⟨c, h⟩
theorem got_kind {r : R Rt} {S2 : Sto} {d : Vr} {k : Nat} (g : Got r S2 d) (h : kindR r = k + 1) : ∃ x, d = .d x ∧ kindD x = k + 1 := by
  cases g with
  | val =>
    cases d with
    | r n => cases h
    | d d => exact ⟨d, rfl, h⟩
  | new S c d h' => cases h
theorem pif_val (hK : X.K = Z.K) (h : PF Z Ew X e fa) : PIF Z Ew X tg e (iVal fa) := by
  obtain ⟨te, h1, h2⟩ := h.ex
  refine ⟨_, OP.pi_alt (OP.pi_listK (K := Z.K) h1 hK) (OP.pi_alt (OP.pi_tupK (K := Z.K) h1 hK) (pi_str h1)), fun env σ G α S H R' hd oe w => ?_⟩
  have f0 := Fr.refl G α H
  match hk : kindR (fa env S) with
  | 0 =>
    refine .inl (h2.bind0 f0 hd oe w fun S2 d x H2 G2 α2 g f2 hd2 oe2 ox w2 => ?_)
    cases d with
    | r n =>
      have w2 : Wk Z (match S2[n]? with | some (.lst l) => R.ok S2 (l, some n) | _ => .no) G α H (pI Z R') (Ew σ) := w2
      obtain ⟨a, rfl, ha⟩ := ox
      cases q : S2[n]? with
      | none => rw [q] at w2; exact w2.elim
      | some c =>
        rw [q] at w2
        cases c with
        | lst l =>
          obtain ⟨xs, e1, e2⟩ := (hd2.at_ n a _ ha q).2
          exact ⟨a, rfl, ⟨xs, SqL.of e1⟩, (w2.later f2) H2 G2 α2 (Fr.refl _ _ _) hd2 _ (gz_cell ha)⟩
        | _ => exact w2.elim
    | d d =>
      rcases kind_got g hk with e | ⟨c, e⟩
      · cases d with
        | lst l =>
          have ox : On Z G2 (.lst l) x := ox
          unfold On at ox
          obtain ⟨a, xs, rfl, e1, e2⟩ := ox
          exact ⟨a, rfl, ⟨xs, SqL.of (hd2.ex _ _ e1)⟩, (w2.later f2) H2 G2 α2 (Fr.refl _ _ _) hd2 _ (gz_list e1 e2)⟩
        | _ => cases e
      · cases c with
        | lst l =>
          cases e
          have ox : On Z G2 (.lst l) x := ox
          unfold On at ox
          obtain ⟨a, xs, rfl, e1, e2⟩ := ox
          exact ⟨a, rfl, ⟨xs, SqL.of (hd2.ex _ _ e1)⟩, (w2.later f2) H2 G2 α2 (Fr.refl _ _ _) hd2 _ (gz_list e1 e2)⟩
        | ob c l => cases e; exact w2.elim
        | dc t ks vs => cases e; exact w2.elim
        | dead => cases e
        | tab rows => cases e
  | 1 =>
    refine .inr (.inl (h2.bind0 f0 hd oe w fun S2 d x H2 G2 α2 g f2 hd2 oe2 ox w2 => ?_))
    obtain ⟨d, rfl, hk⟩ := got_kind g hk
    · · cases d with
        | tup l =>
          have ox : On Z G2 (.tup l) x := ox
          unfold On at ox
          obtain ⟨a, xs, rfl, e1, e2⟩ := ox
          exact ⟨a, rfl, ⟨xs, SqT.of (hd2.ex _ _ e1)⟩, (w2.later f2) H2 G2 α2 (Fr.refl _ _ _) hd2 _ (gz_tup (fun H e => SqT.of (e _ _ e1)) e2)⟩
        | ktp l =>
          have ox : On Z G2 (.ktp l) x := ox
          unfold On at ox
          obtain ⟨a, xs, rfl, e1, e2⟩ := ox
          exact ⟨a, rfl, ⟨xs, e1.sq hd2.ex⟩, (w2.later f2) H2 G2 α2 (Fr.refl _ _ _) hd2 _ (gz_tup (fun H e => e1.sq e) e2)⟩
        | lst l => cases hk
        | str l => cases hk
        | _ => exact w2.elim
  | n + 2 =>
    refine .inr (.inr (h2.bind0 f0 hd oe w fun S2 d x H2 G2 α2 g f2 hd2 oe2 ox w2 => ?_))
    obtain ⟨d, rfl, hk⟩ := got_kind g hk
    · · cases d with
        | str l =>
          have ox : On Z G2 (.str l) x := ox
          unfold On at ox
          exact ⟨l, ox, (w2.later f2) H2 G2 α2 (Fr.refl _ _ _) hd2 _ gz_str⟩
        | _ => cases hk
def smallR (i : Int) : Bool := decide (-1000000 ≤ i) && decide (i ≤ 1000000)
def rangeD (lo hi : Int) : List Dv := (List.range (hi - lo).toNat).map fun (i : Nat) => Dv.int (lo + i)
def vi (a : Vr) : Option Int := match a with
  | .d (.int j) => some j
  | _ => none
def vi1 (l : List Vr) : Option Int := match l with
  | [a] => vi a
  | _ => none
def vi2 (l : List Vr) : Option (Int × Int) := match l with
  | [a, b] => match vi a, vi b with
    | some i, some j => some (i, j)
    | _, _ => none
  | _ => none
def rng1 (S : Sto) (o : Option Int) : R Its := match o with
  | some j => if smallR j then .ok S (rangeD 0 j, none) else .no
  | none => .no
def rng2 (S : Sto) (o : Option (Int × Int)) : R Its := match o with
  | some p => if smallR p.1 && smallR p.2 then .ok S (rangeD p.1 p.2, none) else .no
  | none => .no
def iRange1 (fa : FA) : FI := fun env S => (fa env S).bind fun S1 l => rng1 S1 (vi1 l)
def iRange2 (fa : FA) : FI := fun env S => (fa env S).bind fun S1 l => rng2 S1 (vi2 l)
theorem vi_on {a : Vr} {i : Int} {x : V} (e : vi a = some i) (h : OnR Z G α a x) : x = .int i := by
  cases a with
  | r n => cases e
  | d d =>
    cases d with
    | int j =>
      cases e
      have h : On Z G (.int i) x := h
      unfold On at h
      exact h
    | _ => cases e
theorem vi1_on {l : List Vr} {i : Int} {vs : List V} (e : vi1 l = some i) (h : OnA Z G α l vs) : vs = [.int i] := by
  cases l with
  | nil => cases e
  | cons a r =>
    cases r with
    | nil =>
      obtain ⟨y, ys, rfl, o1, o2⟩ := h
      cases (show ys = [] from o2)
      rw [vi_on e o1]
    | cons b r => cases e
theorem vi2_on {l : List Vr} {i j : Int} {vs : List V} (e : vi2 l = some (i, j)) (h : OnA Z G α l vs) : vs = [.int i, .int j] := by
  cases l with
  | nil => cases e
  | cons a r =>
    cases r with
    | nil => cases e
    | cons b r =>
      cases r with
      | nil =>
        obtain ⟨y, ys, rfl, o1, z, zs, rfl, o2, o3⟩ := h
        cases (show zs = [] from o3)
        have e' : (match vi a, vi b with | some i, some j => some (i, j) | _, _ => none) = some (i, j) := e
        cases q1 : vi a with
        | none => rw [q1] at e'; cases e'
        | some u =>
          cases q2 : vi b with
          | none => rw [q1, q2] at e'; cases e'
          | some v =>
            rw [q1, q2] at e'
            cases e'
            rw [vi_on q1 o1, vi_on q2 o2]
      | cons c r => cases e
theorem smallR_ok {i : Int} (h : smallR i = true) : -1000000 ≤ i ∧ i ≤ 1000000 := by
  obtain ⟨h1, h2⟩ := and2 h
  exact ⟨of_decide_eq_true h1, of_decide_eq_true h2⟩
variable {a b : Expr} {fl : FA} {p pos : Pos}
theorem pif_range1 (hg : Gl X "range") (hm : X.mg "range" = none) (ha : PAF Z Ew X [a] fl) (hs : starEach [a] X.env = [(false, eval a X.env)] := by rfl) : PIF Z Ew X tg (.Call (.Name "range" p) [a] [] pos) (iRange1 fl) := by
  obtain ⟨ta, h1, h2⟩ := ha.ex
  refine ⟨_, pi_range1 hg hm h1 hs, fun env σ G α S H R' hd oe w => h2.bind hd oe w fun S2 l vs H2 G2 α2 f2 hd2 oe2 ol w2 => ?_⟩
  cases q : vi1 l with
  | none => rw [q] at w2; exact w2.elim
  | some j =>
    rw [q] at w2
    have w2 : Wk Z (if smallR j then R.ok S2 (rangeD 0 j, none) else .no) G2 α2 H2 (pI Z R') (Ew σ) := w2
    cases c : smallR j with
    | false => rw [c] at w2; exact w2.elim
    | true =>
      rw [c] at w2
      obtain ⟨b1, b2⟩ := smallR_ok c
      refine ⟨j, vi1_on q ol, by omega, by omega, w2 H2 G2 α2 (Fr.refl _ _ _) hd2 _ ?_⟩
      have := gz_range (Z := Z) (lo := 0) (n := j.toNat) (G2 := G2) (α2 := α2)
      unfold rangeD
      rw [Int.sub_zero]
      exact this
theorem pif_range2 (hg : Gl X "range") (hm : X.mg "range" = none) (ha : PAF Z Ew X [a, b] fl) (hs : starEach [a, b] X.env = [(false, eval a X.env), (false, eval b X.env)] := by rfl) (hs2 : starEach [b] X.env = [(false, eval b X.env)] := by rfl) :
    PIF Z Ew X tg (.Call (.Name "range" p) [a, b] [] pos) (iRange2 fl) := by
  obtain ⟨ta, h1, h2⟩ := ha.ex
  refine ⟨_, pi_range2 hg hm h1 hs hs2, fun env σ G α S H R' hd oe w => h2.bind hd oe w fun S2 l vs H2 G2 α2 f2 hd2 oe2 ol w2 => ?_⟩
  cases q : vi2 l with
  | none => rw [q] at w2; exact w2.elim
  | some ij =>
    obtain ⟨i, j⟩ := ij
    rw [q] at w2
    have w2 : Wk Z (if smallR i && smallR j then R.ok S2 (rangeD i j, none) else .no) G2 α2 H2 (pI Z R') (Ew σ) := w2
    cases c : smallR i && smallR j with
    | false => rw [c] at w2; exact w2.elim
    | true =>
      rw [c] at w2
      obtain ⟨c1, c2⟩ := and2 c
      obtain ⟨b1, b2⟩ := smallR_ok c1
      obtain ⟨b3, b4⟩ := smallR_ok c2
      exact ⟨i, j, vi2_on q ol, by omega, w2 H2 G2 α2 (Fr.refl _ _ _) hd2 _ gz_range⟩
variable {elts : List Expr} {kk : Nat} {tpos : Pos}
end
end DN
namespace DN
open PySem PySem.Spec PyProof.Rows L2 Evl
def tF (Z : Zx) (Ew : L2.St → XK) (f : FE) : TE := fun σ H Q => ∃ env G α S, Hd Z G α S H ∧ OnE Z G α env σ ∧ Wk Z (f env S) G α H (pRt Z Q) (Ew σ)
def tFT (Z : Zx) (Ew : L2.St → XK) (f : FT) : TT := fun σ H Q => ∃ env G α S, Hd Z G α S H ∧ OnE Z G α env σ ∧ Wk Z (f env S) G α H (pB Q) (Ew σ)
def tFI (Z : Zx) (Ew : L2.St → XK) (f : FI) : TI := fun σ H R' => ∃ env G α S, Hd Z G α S H ∧ OnE Z G α env σ ∧ Wk Z (f env S) G α H (pI Z R') (Ew σ)
section
variable {Z : Zx} {Ew : L2.St → XK} {X : Cx} {e tg : Expr}
theorem PF.pe {f : FE} (h : PF Z Ew X e f) : PE X e (tF Z Ew f) := by
  obtain ⟨te, h1, h2⟩ := h.ex
  refine ⟨fun pins s σ H Q I ht => ?_⟩
  obtain ⟨env, G, α, S, hd, oe, w⟩ := ht
  exact h1.run pins s σ H Q I (h2 env σ G α S H Q hd oe w)
theorem PTF.pt {f : FT} (h : PTF Z Ew X e f) : PT X e (tFT Z Ew f) := by
  obtain ⟨te, h1, h2⟩ := h.ex
  refine ⟨fun pins s σ H Q I ht => ?_⟩
  obtain ⟨env, G, α, S, hd, oe, w⟩ := ht
  exact h1.run pins s σ H Q I (h2 env σ G α S H Q hd oe w)
theorem PIF.pi {f : FI} (h : PIF Z Ew X tg e f) : PI X tg e (tFI Z Ew f) := by
  obtain ⟨te, h1, h2⟩ := h.ex
  refine ⟨fun pins s σ H Q I ht => ?_⟩
  obtain ⟨env, G, α, S, hd, oe, w⟩ := ht
  exact h1.run pins s σ H Q I (h2 env σ G α S H Q hd oe w)
theorem se_tF {f : FE} : SE Z Ew (tF Z Ew f) f := fun env σ G α S H Q hd oe w => ⟨env, G, α, S, hd, oe, w⟩
theorem st_tF {f : FT} : ST Z Ew (tFT Z Ew f) f := fun env σ G α S H Q hd oe w => ⟨env, G, α, S, hd, oe, w⟩
theorem si_tF {f : FI} : SI Z Ew (tFI Z Ew f) f := fun env σ G α S H Q hd oe w => ⟨env, G, α, S, hd, oe, w⟩
end
abbrev FG := Dv → Env → Option Env
abbrev FGs := List Dv → Env → Option Env
def tgN (i : Nat) : FG := fun d env => some (env.set i (.v (.d d)))
def tgNil : FGs := fun l env => match l with
  | [] => some env
  | _ => none
def tgCons (f : FG) (fs : FGs) : FGs := fun l env => match l with
  | d :: r => match f d env with
    | some env' => fs r env'
    | none => none
  | [] => none
def tgT (fs : FGs) : FG := fun d env => match d with
  | .tup l => fs l env
  | _ => none
def Wp1 (sl : List Nat) (σ σ' : L2.St) : Prop := ∀ vs : List Nat, (∀ i ∈ sl, i ∈ vs) → wipe σ' vs = wipe σ vs
def tG (Z : Zx) (f : FG) (sl : List Nat) : TG := fun v σ H Q => ∃ env G α S d env', Hd Z G α S H ∧ OnE Z G α env σ ∧ On Z G d v ∧ f d env = some env' ∧ ∀ σ', OnE Z G α env' σ' → Wp1 sl σ σ' → Q σ' H
def tGs (Z : Zx) (f : FGs) (sl : List Nat) : TGs := fun vs σ H Q => ∃ env G α S l env', Hd Z G α S H ∧ OnE Z G α env σ ∧ OnL Z G l vs ∧ f l env = some env' ∧ ∀ σ', OnE Z G α env' σ' → Wp1 sl σ σ' → Q σ' H
structure PGF (Z : Zx) (X : Cx) (tg : Expr) (f : FG) (sl : List Nat) : Prop where
  pg : PG X tg (tG Z f sl)
structure PGFs (Z : Zx) (X : Cx) (n : Nat) (ts : List Expr) (f : FGs) (sl : List Nat) : Prop where
  pg : PGs X ts (tGs Z f sl)
  len : ∀ l env env', f l env = some env' → l.length = n
section
variable {Z : Zx} {X : Cx} {pos : Pos}
theorem wipe_set {σ : L2.St} {i : Nat} {x : Option V} : ∀ {vs : List Nat}, i ∈ vs → wipe (σ.set i x) vs = wipe σ vs
  | [], h => nomatch h
  | j :: vs, h => by
    show (wipe (σ.set i x) vs).set j none = (wipe σ vs).set j none
    by_cases q : i ∈ vs
    · rw [wipe_set q]
    · have e : i = j := by
        rcases List.mem_cons.mp h with e | e
        · exact e
        · exact absurd e q
      subst e
      clear h
      have aux : ∀ (σ : L2.St) (vs : List Nat), i ∉ vs → wipe (σ.set i x) vs = (wipe σ vs).set i x := fun σ vs => by
        induction vs generalizing σ with
        | nil => intro _; rfl
        | cons k r ih =>
          intro h
          have hk : i ≠ k := fun e => h (e ▸ List.mem_cons_self)
          have hr : i ∉ r := fun e => h (List.mem_cons_of_mem _ e)
          show (wipe (σ.set i x) r).set k none = ((wipe σ r).set k none).set i x
          rw [ih σ hr, List.set_comm _ _ hk]
      rw [aux σ vs q, List.set_set]
theorem Wp1.refl (sl : List Nat) (σ : L2.St) : Wp1 sl σ σ := fun _ _ => rfl
theorem Wp1.trans {sl sl' : List Nat} {σ σ' σ'' : L2.St} (a : Wp1 sl σ σ') (b : Wp1 sl' σ' σ'') : Wp1 (sl ++ sl') σ σ'' := fun vs h => (b vs fun i hi => h i (List.mem_append_right _ hi)).trans (a vs fun i hi => h i (List.mem_append_left _ hi))
theorem pgf_name (i : Nat) {x : Str} (hN : X.N.Nodup) (hi : X.N[i]? = some x) (hx : Loc X.env.scope x) (hf : X.fn x = true ∨ X.env.scope.names.lookup x = some .local := by first | exact .inl rfl | exact .inr rfl | assumption) : PGF Z X (.Name x pos) (tgN i) [i] := by
  refine ⟨⟨fun pins s σ H v u Q I r h => ?_⟩⟩
  obtain ⟨env, G, α, S, d, env', hd, oe, ov, e, k⟩ := h
  cases e
  exact (pg_name hN hi hx hf).run pins s σ H v u Q I r (k _ (oe.set i ov) fun vs hv => wipe_set (hv i (by simp)))
theorem pgfs_nil : PGFs Z X 0 [] tgNil [] := by
  refine ⟨⟨fun pins s σ H vs us Q I r h => ?_⟩, fun l env env' e => ?_⟩
  · obtain ⟨env, G, α, S, l, env', hd, oe, ol, e, k⟩ := h
    cases l with
    | nil =>
      cases e
      exact pgs_nil.run pins s σ H vs us Q I r ⟨OnL.nil.mp ol, k _ oe (Wp1.refl _ _)⟩
    | cons a b => cases e
  · cases l with
    | nil => rfl
    | cons a b => cases e
theorem pgfs_cons {e : Expr} {es : List Expr} {f : FG} {fs : FGs} {sl sl' : List Nat} {n : Nat} (h1 : PGF Z X e f sl) (h2 : PGFs Z X n es fs sl')
    (hs : (assignEach (e :: es) X.env).map (·.2) = assign e X.env :: (assignEach es X.env).map (·.2) := by rfl) : PGFs Z X (n + 1) (e :: es) (tgCons f fs) (sl ++ sl') := by
  refine ⟨⟨fun pins s σ H vs us Q I r h => ?_⟩, fun l env env' e => ?_⟩
  · obtain ⟨env, G, α, S, l, env', hd, oe, ol, q, k⟩ := h
    cases l with
    | nil => cases q
    | cons d l =>
      obtain ⟨y, ys, rfl, o1, o2⟩ := OnL.cons.mp ol
      have q' : (match f d env with | some env' => fs l env' | none => none) = some env' := q
      cases q2 : f d env with
      | none => rw [q2] at q'; cases q'
      | some env1 =>
        rw [q2] at q'
        refine (pgs_cons h1.pg h2.pg hs).run pins s σ H _ us Q I r ⟨y, ys, rfl, env, G, α, S, d, env1, hd, oe, o1, q2, fun σ' oe' wp => ⟨env1, G, α, S, l, env', hd, oe', o2, q', fun σ2 oe2 wp2 => k σ2 oe2 (wp.trans wp2)⟩⟩
  · cases l with
    | nil => cases e
    | cons d l =>
      have q' : (match f d env with | some env' => fs l env' | none => none) = some env' := e
      cases q2 : f d env with
      | none => rw [q2] at q'; cases q'
      | some env1 => rw [q2] at q'; rw [List.length_cons, h2.len _ _ _ q']
theorem pgf_tup {es : List Expr} {k : Nat} {fs : FGs} {sl : List Nat} {n : Nat} (hK : X.K = Z.K) (hc : X.calm = true) (h : PGFs Z X n es fs sl)
    (hn : (assignEach es X.env).length = n := by rfl) (hst : (assignEach es X.env).findIdx? (·.1) = none := by rfl) : PGF Z X (.Tuple es k pos) (tgT fs) sl := by
  refine ⟨⟨fun pins s σ H v u Q I r h' => ?_⟩⟩
  obtain ⟨env, G, α, S, d, env', hd, oe, ov, e, kk⟩ := h'
  cases d with
  | tup l =>
    unfold On at ov
    obtain ⟨a, xs, rfl, o1, o2⟩ := ov
    exact (pg_tup hc h.pg hn hst).run pins s σ H _ u Q I r ⟨a, xs, rfl, SqT.of (hd.ex _ _ o1), by rw [o2.len]; exact h.len _ _ _ e, env, G, α, S, l, env', hd, oe, o2, e, kk⟩
  | _ => cases e
end
mutual
def beqD : Dv → Dv → Bool
  | .non, .non => true
  | .bl a, .bl b => a == b
  | .int a, .int b => a == b
  | .str a, .str b => a == b
  | .ty a, .ty b => a == b
  | .cls a, .cls b => a == b
  | .lst a, .lst b => beqDs a b
  | .tup a, .tup b => beqDs a b
  | .ktp a, .ktp b => beqDs a b
  | .obj c a, .obj d b => c == d && beqDs a b
  | .dic t a b, .dic u c d => t == u && beqDs a c && beqDs b d
  | .scr a, .scr b => a == b
  | _, _ => false
def beqDs : List Dv → List Dv → Bool
  | [], [] => true
  | a :: l, b :: m => beqD a b && beqDs l m
  | _, _ => false
end
mutual
theorem beqD_refl : ∀ d : Dv, beqD d d = true
  | .non => by simp [beqD]
  | .bl _ => by simp [beqD]
  | .int _ => by simp [beqD]
  | .str _ => by simp [beqD]
  | .ty _ => by simp [beqD]
  | .cls _ => by simp [beqD]
  | .scr _ => by simp [beqD]
  | .lst l => by simp [beqD, beqDs_refl l]
  | .tup l => by simp [beqD, beqDs_refl l]
  | .ktp l => by simp [beqD, beqDs_refl l]
  | .obj c l => by simp [beqD, beqDs_refl l]
  | .dic t l m => by simp [beqD, beqDs_refl l, beqDs_refl m]
theorem beqDs_refl : ∀ l : List Dv, beqDs l l = true
  | [] => by simp [beqDs]
  | d :: l => by simp [beqDs, beqD_refl d, beqDs_refl l]
end
mutual
theorem beqD_eq : ∀ {a b : Dv}, beqD a b = true → a = b
  | a, b, h => by
    cases a <;> cases b <;> first
      | rfl
      | (simp [beqD] at h; done)
      | (simp [beqD] at h; subst h; rfl)
      | skip
    · rename_i l m; rw [beqDs_eq (a := l) (b := m) (by simpa [beqD] using h)]
    · rename_i l m; rw [beqDs_eq (a := l) (b := m) (by simpa [beqD] using h)]
    · rename_i c l d m
      have h' : c = d ∧ beqDs l m = true := by simpa [beqD] using h
      rw [h'.1, beqDs_eq h'.2]
    · rename_i t l m u l' m'
      have h' : (t = u ∧ beqDs l l' = true) ∧ beqDs m m' = true := by simpa [beqD] using h
      rw [h'.1.1, beqDs_eq h'.1.2, beqDs_eq h'.2]
    · rename_i l m; rw [beqDs_eq (a := l) (b := m) (by simpa [beqD] using h)]
theorem beqDs_eq : ∀ {a b : List Dv}, beqDs a b = true → a = b
  | [], [], _ => rfl
  | [], _ :: _, h => by simp [beqDs] at h
  | _ :: _, [], h => by simp [beqDs] at h
  | a :: l, b :: m, h => by
    have h' : beqD a b = true ∧ beqDs l m = true := by simpa [beqDs] using h
    rw [beqD_eq h'.1, beqDs_eq h'.2]
end
/-- the list that is gone over stands as it did -/
def lockOk (t : Its) (S : Sto) : Bool := match t.2 with
  | none => true
  | some n => match S[n]? with
    | some (.lst l) => beqDs l t.1
    | _ => false
theorem lock_ok {Z : Zx} {G2 G' H : Hp} {α2 α' : List Addr} {t : Its} {S' : Sto} (hd : Hd Z G' α' S' H) (e : Ex G2 G') (p : Px α2 α') (hn : ∀ n, t.2 = some n → n < α2.length) (h : lockOk t S' = true) : OkI Z G2 α2 t G' H := by
  refine ⟨e, hd.ex, fun n q => ?_⟩
  unfold lockOk at h
  rw [q] at h
  obtain ⟨b, ha⟩ : ∃ b, α2[n]? = some b := ⟨_, List.getElem?_eq_getElem (hn n q)⟩
  cases q2 : S'[n]? with
  | none => simp only [q2] at h; cases h
  | some c =>
    simp only [q2] at h
    cases c with
    | lst l =>
      have e2 := beqDs_eq h
      subst e2
      obtain ⟨xs, h1, h2⟩ := (hd.at_ n _ _ (p.get ha) q2).2
      exact ⟨_, xs, ha, h1, h2⟩
    | _ => cases h
theorem lock_lt {Z : Zx} {G H : Hp} {α : List Addr} {t : Its} {S : Sto} (hd : Hd Z G α S H) (h : lockOk t S = true) : ∀ n, t.2 = some n → n < α.length := fun n q => by
  unfold lockOk at h
  rw [q] at h
  rw [hd.len]
  cases q2 : S[n]? with
  | none => simp only [q2] at h; cases h
  | some c => exact (List.getElem?_eq_some_iff.mp q2).1
def R.noex {β : Type} (r : R β) : R β := match r with
  | .ex _ _ => .no
  | r => r
def onD {β : Type} (v : Vr) (f : Dv → R β) : R β := match v with
  | .d d => f d
  | .r _ => .no
/-- the turns of a comprehension -/
def lcGo (t : Its) (tg : FG) (ft : FT) (fe : FE) (env : Env) : List Dv → Sto → List Dv → R (List Dv)
  | [], S, acc => if lockOk t S then .ok S acc else .no
  | d :: r, S, acc => if lockOk t S then (match tg d env with
    | some env' => (ft env' S).noex.bind fun S1 b => if b then (fe env' S1).noex.bindV fun S2 v => onD v fun y => if acc.length < 100000 then lcGo t tg ft fe env r S2 (acc ++ [y]) else .no else lcGo t tg ft fe env r S1 acc
    | none => .no) else .no
def wipeE (env : Env) : List Nat → Env
  | [] => env
  | i :: vs => (wipeE env vs).set i .u
def fLc (fi : FI) (tg : FG) (ft : FT) (fe : FE) (vs : List Nat) : FE := fun env S => (fi env S).bind fun S1 t => (lcGo t tg ft fe (wipeE env vs) t.1 S1 []).bind fun S2 l => .ok S2 (.new (.lst l))
def kYes : FT := fun _ S => .ok S true
abbrev Ew0 : L2.St → XK := fun _ => E0
section
variable {Z : Zx} {X : Cx} {Ew : L2.St → XK} {G H : Hp} {α : List Addr} {S : Sto}
theorem OnE.wipe {env : Env} {σ : L2.St} (h : OnE Z G α env σ) : ∀ vs : List Nat, OnE Z G α (wipeE env vs) (wipe σ vs)
  | [] => h
  | i :: vs => (OnE.wipe h vs).forget i
theorem wipe_wipe {σ : L2.St} {vs : List Nat} : ∀ {l : List Nat}, (∀ i ∈ l, i ∈ vs) → wipe (wipe σ l) vs = wipe σ vs
  | [], _ => rfl
  | i :: l, h => by
    show wipe ((wipe σ l).set i none) vs = wipe σ vs
    rw [wipe_set (h i List.mem_cons_self), wipe_wipe fun j hj => h j (List.mem_cons_of_mem _ hj)]
/-- beside what is known and the cells, something of ours is changed -/
theorem Hd.side {D : Addr} {o : HO} (h : Hd Z G α S H) (hG : G D = none) (hD : D ∉ α) : Hd Z G α S (upd H D o) := by
  refine ⟨fun b u hb => ?_, h.len, h.nd, fun n a c h1 h2 => ?_⟩
  · have : b ≠ D := fun e => by subst e; rw [hG] at hb; cases hb
    rw [upd_ne this]
    exact h.ex b u hb
  · have : a ≠ D := fun e => hD (e ▸ List.mem_of_getElem? h1)
    obtain ⟨h3, h4⟩ := h.at_ n a c h1 h2
    refine ⟨h3, h4.move (Ex.refl G) (upd_ne this) (fun _ _ _ q => q) fun m b _ q1 q2 q3 => ⟨q1, q2, q3, fun o' ho => ?_⟩⟩
    have nb : b ≠ D := fun e => hD (e ▸ List.mem_of_getElem? q1)
    rw [upd_ne nb]; exact ho
theorem Fr.side {G2 H2 : Hp} {α2 : List Addr} {D : Addr} {o : HO} (f : Fr G α H G2 α2 H2) (hD : H D = none) : Fr G α H G2 α2 (upd H2 D o) :=
  ⟨f.g, f.a, fun b u h1 h2 => by
    have : b ≠ D := fun e => by subst e; rw [hD] at h1; cases h1
    rw [upd_ne this]
    exact f.h b u h1 h2, f.n, f.m, fun b hb => by
    by_cases q : b = D
    · subst q; rw [upd_same]; exact fun h => nomatch h
    · rw [upd_ne q]; exact f.s b hb⟩
/-- D, of ours, through a step -/
theorem Fr.ours {G2 H2 : Hp} {α2 : List Addr} {D : Addr} {o : HO} (f : Fr G α H G2 α2 H2) (hG : G D = none) (hD : D ∉ α) (h : H D = some o) (ht : ∀ xs, o ≠ HO.tup xs := by intro _ h; cases h) : G2 D = none ∧ D ∉ α2 ∧ H2 D = some o := by
  refine ⟨f.n D o hG h ht hD, fun hm => ?_, f.h D o h hD⟩
  rcases f.m D hm with e | e
  · exact hD e
  · rw [h] at e; cases e
theorem noex_V {γ δ : Type} {r : R Rt} {F : Sto → Vr → R γ} {fin : Sto → γ → R δ} {P : Pst δ} {E : XK} {Q' : VK} {G' H' : Hp} {α' : List Addr} (w : Wk Z ((r.noex.bindV F).bind fin) G α H P E)
    (k : ∀ S2 d v H2 G2 α2, Fr G' α' H' G2 α2 H2 → Hd Z G2 α2 S2 H2 → OnR Z G2 α2 d v → Wk Z ((F S2 d).bind fin) G α H P E → Q' v H2) : Wk Z r G' α' H' (pRt Z Q') E0 := by
  match r, w with
  | .ok S (.val v), w => exact fun H2 G2 α2 f2 hd2 x ox => k S v x H2 G2 α2 f2 hd2 ox w
  | .ok S (.new c), w =>
    intro H2 G2 α2 f2 hd2 p n
    cases e : frzC c with
    | none =>
      have w : Wk Z ((R.bindV (.ok S (.new c)) F).bind fin) G α H P E := w
      rw [bindV_dead e] at w
      exact w.elim
    | some d =>
      have w : Wk Z ((R.bindV (.ok S (.new c)) F).bind fin) G α H P E := w
      rw [bindV_new e] at w
      cases q : H2 p with
      | none => exact absurd q n.c.ne
      | some o =>
        have hc := n.c
        rw [q] at hc
        exact k S (.d d) _ H2 _ α2 (f2.freeze (o := o) n.h n.g) (hd2.freeze n.g q n.a) (On.frz hc e n.g) w
structure PTsF (Z : Zx) (X : Cx) (ifs : List Expr) (f : FT) : Prop where
  pts : PTs X ifs (tFT Z Ew0 f)
theorem ptsf_nil : PTsF Z X [] kYes := ⟨⟨fun pins s σ H Q I h => by
  obtain ⟨env, G, α, S, hd, oe, w⟩ := h
  exact pts_nil.run pins s σ H Q I (Wk.bool w hd)⟩⟩
theorem ptsf_one {c : Expr} {f : FT} (h : PTF Z Ew0 X c f) : PTsF Z X [c] f := ⟨pts_one h.pt⟩
/-- [elt for target in iter if ..] -/
theorem se_lc {fi : FI} {tg : FG} {ft : FT} {fe : FE} {sl vs : List Nat} (hsl : ∀ i ∈ sl, i ∈ vs) : SE Z Ew (tLc (tFI Z Ew fi) (tG Z tg sl) (tFT Z Ew0 ft) (tF Z Ew0 fe) vs) (fLc fi tg ft fe vs) := fun env σ G α S H Q hd oe w => by
  refine ⟨env, G, α, S, hd, oe, w.bind (P' := pI Z _) fun S1 t H1 G1 α1 f1 hd1 w1 J gz D hD => ?_⟩
  have oe1 : OnE Z G1 α1 (wipeE env vs) (wipe σ vs) := (oe.up f1.g f1.a).wipe vs
  let fin : Sto → List Dv → R Rt := fun S2 l => .ok S2 (.new (.lst l))
  have lk0 : lockOk t S1 = true := by
    have w1 : Wk Z ((lcGo t tg ft fe (wipeE env vs) t.1 S1 []).bind fin) G1 α1 H1 (pRt Z Q) (Ew σ) := w1
    cases q : lockOk t S1 with
    | true => rfl
    | false =>
      cases q2 : t.1 with
      | nil => rw [q2] at w1; simp only [lcGo, q] at w1; exact w1.elim
      | cons d r => rw [q2] at w1; simp only [lcGo, q] at w1; exact w1.elim
  have hlt := lock_lt hd1 lk0
  refine ⟨fun i m H' => m = t.1.length - i ∧ i ≤ t.1.length ∧ ∃ G' α' S' acc xs, Fr G1 α1 H1 G' α' H' ∧ Hd Z G' α' S' H' ∧ G' D = none ∧ D ∉ α' ∧ H' D = some (.lst xs) ∧ OnL Z G' acc xs ∧
    Wk Z ((lcGo t tg ft fe (wipeE env vs) (t.1.drop i) S' acc).bind fin) G1 α1 H1 (pRt Z Q) (Ew σ),
    ⟨t.1.length, by simp, Nat.zero_le _, G1, α1, S1, [], [], Fr.grow hd1 (Ex.new hD), hd1.grow (Ex.new hD), fresh_back hd1.ex hD, fun h => hd1.live h hD, upd_same, OnL.nil', w1⟩, ?_⟩
  rintro i m H' ⟨rfl, hi, G', α', S', acc, xs, f2, hd2, gD, aD, hHD, oa, w2⟩
  cases lk : lockOk t S' with
  | false =>
    cases q2 : t.1.drop i with
    | nil => rw [q2] at w2; simp only [lcGo, lk] at w2; exact w2.elim
    | cons d r => rw [q2] at w2; simp only [lcGo, lk] at w2; exact w2.elim
  | true =>
    have ok := lock_ok hd2 f2.g f2.a hlt lk
    by_cases hlt2 : i < t.1.length
    · refine .inr ⟨gz.go i G' H' hlt2 ok, _, fun H3 h3 => ⟨t.1.length - (i + 1), by omega, rfl, hlt2, h3⟩, fun x H3 y => ?_⟩
      obtain ⟨d, ed, hy⟩ := gz.yld i G' H' x H3 hlt2 ok y
      obtain ⟨G3, f3, hd3, od⟩ := hy α' S' hd2
      obtain ⟨gD3, aD3, hHD3⟩ := f3.ours gD aD hHD
      have e1 : t.1.drop i = d :: t.1.drop (i + 1) := by
        rw [List.drop_eq_getElem_cons hlt2]
        rw [List.getElem?_eq_getElem hlt2] at ed
        cases ed
        rfl
      rw [e1] at w2
      simp only [lcGo, lk, if_true] at w2
      cases q : tg d (wipeE env vs) with
      | none => simp only [q] at w2; exact w2.elim
      | some env' =>
        simp only [q] at w2
        have oe3 : OnE Z G3 α' (wipeE env vs) (wipe σ vs) := (oe1.up f2.g f2.a).up f3.g f3.a
        refine ⟨_, G3, α', S', d, env', hd3, oe3, od, q, fun σ2 oe2 wp => ⟨(wp vs hsl).trans (wipe_wipe fun i h => h), env', G3, α', S', hd3, oe2, ?_⟩⟩
        cases q3 : ft env' S' with
        | no => rw [q3] at w2; exact w2.elim
        | ex S x => rw [q3] at w2; exact w2.elim
        | ok S4 b =>
          rw [q3] at w2
          intro H4 G4 α4 f4 hd4
          obtain ⟨gD4, aD4, hHD4⟩ := f4.ours gD3 aD3 hHD3
          have f14 := (f2.trans f3).trans f4
          cases b with
          | false =>
            dsimp only [pB]
            rw [if_neg Bool.false_ne_true]
            exact ⟨G4, α4, S4, acc, xs, f14, hd4, gD4, aD4, hHD4, oa.up (f3.g.trans f4.g), w2⟩
          | true =>
            dsimp only [pB]
            rw [if_pos rfl]
            refine ⟨env', G4, α4, S4, hd4, oe2.up f4.g f4.a, noex_V (F := fun S2 v => onD v fun y => if acc.length < 100000 then lcGo t tg ft fe (wipeE env vs) (t.1.drop (i + 1)) S2 (acc ++ [y]) else .no) w2 fun S5 v y H5 G5 α5 f5 hd5 ov w5 => ?_⟩
            obtain ⟨gD5, aD5, hHD5⟩ := f5.ours gD4 aD4 hHD4
            cases v with
            | r n => exact w5.elim
            | d v =>
              by_cases hl : acc.length < 100000
              · have w5 : Wk Z ((if acc.length < 100000 then lcGo t tg ft fe (wipeE env vs) (t.1.drop (i + 1)) S5 (acc ++ [v]) else .no).bind fin) G1 α1 H1 (pRt Z Q) (Ew σ) := w5
                rw [if_pos hl] at w5
                have oa5 := (oa.up (f3.g.trans f4.g)).up f5.g
                exact ⟨xs, hHD5, Nat.lt_of_lt_of_le (by rw [oa.len]; exact hl) (by decide), G5, α5, S5, acc ++ [v], xs ++ [y], (f14.trans f5).side hD, hd5.side gD5 aD5, gD5, aD5, upd_same, oa5.app (OnL.cons' ov OnL.nil'), w5⟩
              · have w5 : Wk Z ((if acc.length < 100000 then lcGo t tg ft fe (wipeE env vs) (t.1.drop (i + 1)) S5 (acc ++ [v]) else .no).bind fin) G1 α1 H1 (pRt Z Q) (Ew σ) := w5
                rw [if_neg hl] at w5
                exact w5.elim
    · have e : i = t.1.length := by omega
      subst e
      rw [List.drop_length] at w2
      simp only [lcGo, lk, if_true] at w2
      have w2 : Wk Z (.ok S' (Rt.new (.lst acc))) G1 α1 H1 (pRt Z Q) (Ew σ) := w2
      exact .inl ⟨gz.stop G' H' ok, w2 H' G' α' f2 hd2 D ⟨hD, gD, aD, ⟨xs, hHD, oa⟩⟩⟩
theorem pf_lc {elt tg iter : Expr} {ifs : List Expr} {scope : Scope} {own : List (Str × Nat)} {pos : Pos} {fi : FI} {ftg : FG} {ft : FT} {fe : FE} {sl : List Nat} (hc : X.calm = true) (hN : X.N.Nodup) (hi : PIF Z Ew X tg iter fi) (ok : BlkOk X.N X.env.scope scope own)
    (hg : ∀ (s : Shared) (H : Hp) (C : Addr) (cl : List (Str × Addr)) (fp : List Addr), PGF Z (X.blk s H scope (compEnvC scope cl C X.env) fp) tg ftg sl)
    (ht : ∀ (s : Shared) (H : Hp) (C : Addr) (cl : List (Str × Addr)) (fp : List Addr), PTsF Z (X.blk s H scope (compEnvC scope cl C X.env) fp) ifs ft)
    (he : ∀ (s : Shared) (H : Hp) (C : Addr) (cl : List (Str × Addr)) (fp : List Addr), PF Z Ew0 (X.blk s H scope (compEnvC scope cl C X.env) fp) elt fe)
    (hsl : ∀ i ∈ sl, i ∈ own.map (·.2) := by decide) (hs : ∀ x, foldedSetIterable iter X.env x = pure x := by intro _; rfl) : PF Z Ew X (.ListComp elt [⟨tg, iter, ifs, 0⟩] scope pos) (fLc fi ftg ft fe (own.map (·.2))) :=
  ⟨_, pe_lc hc hN hi.pi ok (fun s H C cl fp => (hg s H C cl fp).pg) (fun s H C cl fp => (ht s H C cl fp).pts) (fun s H C cl fp => (he s H C cl fp).pe) hs, se_lc hsl⟩
end
end DN
namespace DN
open PySem PySem.Spec PyProof.Rows L2 Evl
inductive RS where
  | nx (env : Env) (S : Sto) | rt (S : Sto) (r : Rt) | bk (env : Env) (S : Sto) | ct (env : Env) (S : Sto) | ex (env : Env) (S : Sto) (x : Xn) | no
abbrev FS := Env → Sto → RS
/-- a value is wanted, then a statement goes on -/
def sV (env : Env) (r : R Rt) (F : Sto → Vr → RS) : RS := match r with
  | .ok S (.val v) => F S v
  | .ok S (.new (.lst l)) => F S (.d (.lst l))
  | .ok S (.new (.ob c l)) => F S (.d (.obj c l))
  | .ok S (.new (.dc t ks vs)) => F S (.d (.dic t ks vs))
  | .ok _ (.new .dead) => .no
  | .ok _ (.new (.tab _)) => .no
  | .ex S x => .ex env S x
  | .no => .no
def sB {β : Type} (env : Env) (r : R β) (F : Sto → β → RS) : RS := match r with
  | .ok S b => F S b
  | .ex S x => .ex env S x
  | .no => .no
def WkS (Z : Zx) (r : RS) (G : Hp) (α : List Addr) (H : Hp) (D : Ends) (W : WX) : Prop := match r with
  | .nx env S => ∀ σ2 H2 G2 α2, Fr G α H G2 α2 H2 → Hd Z G2 α2 S H2 → OnE Z G2 α2 env σ2 → D.nx σ2 H2
  | .bk env S => ∀ σ2 H2 G2 α2, Fr G α H G2 α2 H2 → Hd Z G2 α2 S H2 → OnE Z G2 α2 env σ2 → D.bk σ2 H2
  | .ct env S => ∀ σ2 H2 G2 α2, Fr G α H G2 α2 H2 → Hd Z G2 α2 S H2 → OnE Z G2 α2 env σ2 → D.ct σ2 H2
  | .rt S r => Wk Z (.ok S r) G α H (pRt Z D.rt) E0
  | .ex env S x => ∀ σ2 cls d H2 G2 α2, Fr G α H G2 α2 H2 → Hd Z G2 α2 S H2 → OnE Z G2 α2 env σ2 → OnX Z G2 α2 x cls d → W cls d σ2 H2
  | .no => False
def SS (Z : Zx) (W : WX) (ts : TS) (f : FS) : Prop := ∀ env σ G α S H D, Hd Z G α S H → OnE Z G α env σ → WkS Z (f env S) G α H D W → ts D σ H
def tS (Z : Zx) (W : WX) (f : FS) : TS := fun D σ H => ∃ env G α S, Hd Z G α S H ∧ OnE Z G α env σ ∧ WkS Z (f env S) G α H D W
structure PSF (Z : Zx) (W : WX) (X : Cx) (st : Stmt) (f : FS) : Prop where
  ps : PS X st (tS Z W f)
structure PSsF (Z : Zx) (W : WX) (X : Cx) (st : List Stmt) (f : FS) : Prop where
  ps : PSs X st (tS Z W f)
section
variable {Z : Zx} {W : WX} {X : Cx} {G H G2 H2 : Hp} {α α2 : List Addr} {S : Sto} {D : Ends} {env : Env} {σ : L2.St}
theorem WkS.later {r : RS} (w : WkS Z r G α H D W) (f : Fr G α H G2 α2 H2) : WkS Z r G2 α2 H2 D W := by
  cases r with
  | nx env S => exact fun σ2 H3 G3 α3 f3 => w σ2 H3 G3 α3 (f.trans f3)
  | bk env S => exact fun σ2 H3 G3 α3 f3 => w σ2 H3 G3 α3 (f.trans f3)
  | ct env S => exact fun σ2 H3 G3 α3 f3 => w σ2 H3 G3 α3 (f.trans f3)
  | rt S r => exact Wk.later (show Wk Z (.ok S r) G α H (pRt Z D.rt) E0 from w) f
  | ex env S x => exact fun σ2 cls d H3 G3 α3 f3 => w σ2 cls d H3 G3 α3 (f.trans f3)
  | no => exact w
theorem PSF.of {st : Stmt} {ts : TS} {f : FS} (h : PS X st ts) (s : SS Z W ts f) : PSF Z W X st f := ⟨⟨fun pins sh σ H D I ht => by
  obtain ⟨env, G, α, S, hd, oe, w⟩ := ht
  exact h.run pins sh σ H D I (s env σ G α S H D hd oe w)⟩⟩
theorem PSsF.of {st : List Stmt} {ts : TS} {f : FS} (h : PSs X st ts) (s : SS Z W ts f) : PSsF Z W X st f := ⟨⟨fun pins sh σ H D I ht => by
  obtain ⟨env, G, α, S, hd, oe, w⟩ := ht
  exact h.run pins sh σ H D I (s env σ G α S H D hd oe w)⟩⟩
theorem Got.sV {r : R Rt} {S : Sto} {d : Vr} {F : Sto → Vr → RS} (h : Got r S d) : sV env r F = F S d := by
  cases h with
  | val => rfl
  | new S c d h => cases c <;> cases h <;> rfl
/-- an expression's value, then the rest of the statement -/
theorem SE.bindS {te : TE} {fe : FE} {F : Sto → Vr → RS} {Q' : VK} (h : SE Z (WE W) te fe) (hd : Hd Z G α S H) (oe : OnE Z G α env σ) (w : WkS Z (sV env (fe env S) F) G α H D W)
    (k : ∀ S2 d v H2 G2 α2, Got (fe env S) S2 d → Fr G α H G2 α2 H2 → Hd Z G2 α2 S2 H2 → OnE Z G2 α2 env σ → OnR Z G2 α2 d v → WkS Z (F S2 d) G2 α2 H2 D W → Q' v H2) : te σ H Q' := by
  refine h env σ G α S H Q' hd oe ?_
  cases e : fe env S with
  | no => rw [e] at w; exact w.elim
  | ex S2 x =>
    rw [e] at w
    exact fun cls d H2 G2 α2 f2 hd2 ox => w σ cls d H2 G2 α2 f2 hd2 (oe.up f2.g f2.a) ox
  | ok S2 b =>
    cases b with
    | val v =>
      rw [e] at w
      exact fun H2 G2 α2 f2 hd2 x ox => k S2 v x H2 G2 α2 (e ▸ .val S2 v) f2 hd2 (oe.up f2.g f2.a) ox (WkS.later w f2)
    | new c =>
      intro H2 G2 α2 f2 hd2 p n
      cases q : frzC c with
      | none =>
        rw [e] at w
        cases c with
        | dead => exact w.elim
        | tab rows => exact w.elim
        | _ => cases q
      | some d =>
        have g : Got (fe env S) S2 (.d d) := e ▸ .new S2 c d q
        rw [g.sV] at w
        cases q2 : H2 p with
        | none => exact absurd q2 n.c.ne
        | some o =>
          have hc := n.c
          rw [q2] at hc
          have f3 := f2.freeze (o := o) n.h n.g
          exact k S2 (.d d) _ H2 _ α2 g f3 (hd2.freeze n.g q2 n.a) (oe.up f3.g f3.a) (On.frz hc q n.g) (WkS.later w f3)
theorem ST.bindS {tt : TT} {ft : FT} {F : Sto → Bool → RS} {Q' : Bool → Hp → Prop} (h : ST Z (WE W) tt ft) (hd : Hd Z G α S H) (oe : OnE Z G α env σ) (w : WkS Z (sB env (ft env S) F) G α H D W)
    (k : ∀ S2 b H2 G2 α2, Fr G α H G2 α2 H2 → Hd Z G2 α2 S2 H2 → OnE Z G2 α2 env σ → WkS Z (F S2 b) G2 α2 H2 D W → Q' b H2) : tt σ H Q' := by
  refine h env σ G α S H Q' hd oe ?_
  cases e : ft env S with
  | no => rw [e] at w; exact w.elim
  | ex S2 x =>
    rw [e] at w
    exact fun cls d H2 G2 α2 f2 hd2 ox => w σ cls d H2 G2 α2 f2 hd2 (oe.up f2.g f2.a) ox
  | ok S2 b =>
    rw [e] at w
    exact fun H2 G2 α2 f2 hd2 => k S2 b H2 G2 α2 f2 hd2 (oe.up f2.g f2.a) (WkS.later w f2)
theorem SA.bindS {ta : TA} {fa : FA} {F : Sto → List Vr → RS} {Q' : List V → Hp → Prop} (h : SA Z (WE W) ta fa) (hd : Hd Z G α S H) (oe : OnE Z G α env σ) (w : WkS Z (sB env (fa env S) F) G α H D W)
    (k : ∀ S2 l vs H2 G2 α2, Fr G α H G2 α2 H2 → Hd Z G2 α2 S2 H2 → OnE Z G2 α2 env σ → OnA Z G2 α2 l vs → WkS Z (F S2 l) G2 α2 H2 D W → Q' vs H2) : ta σ H Q' := by
  refine h env σ G α S H Q' hd oe ?_
  cases e : fa env S with
  | no => rw [e] at w; exact w.elim
  | ex S2 x =>
    rw [e] at w
    exact fun cls d H2 G2 α2 f2 hd2 ox => w σ cls d H2 G2 α2 f2 hd2 (oe.up f2.g f2.a) ox
  | ok S2 b =>
    rw [e] at w
    exact fun H2 G2 α2 f2 hd2 vs ov => k S2 b vs H2 G2 α2 f2 hd2 (oe.up f2.g f2.a) ov (WkS.later w f2)
theorem WkS.here {env' : Env} (w : WkS Z (.nx env' S) G α H D W) (hd : Hd Z G α S H) (oe : OnE Z G α env' σ) : D.nx σ H := w σ H G α (Fr.refl G α H) hd oe
end
def kNext : FS := fun env S => .nx env S
def kSeq (a b : FS) : FS := fun env S => match a env S with
  | .nx e2 S2 => b e2 S2
  | r => r
def kIf (ft : FT) (a b : FS) : FS := fun env S => sB env (ft env S) fun S1 t => if t then a env S1 else b env S1
def kRet (fe : FE) : FS := fun env S => match fe env S with
  | .ok S2 r => .rt S2 r
  | .ex S2 x => .ex env S2 x
  | .no => .no
def kRetN : FS := fun _ S => .rt S (.val (.d .non))
def kExpr (fe : FE) : FS := fun env S => sB env (fe env S) fun S1 _ => .nx env S1
/-- name = value -/
def kSet (i : Nat) (fe : FE) : FS := fun env S => sV env (fe env S) fun S1 v => .nx (env.set i (.v v)) S1
/-- name = value, a new thing becomes a cell -/
def kSetC (i : Nat) (fe : FE) : FS := fun env S => match fe env S with
  | .ok S1 (.val v) => .nx (env.set i (.v v)) S1
  | .ok S1 (.new c) => .nx (env.set i (.v (.r S1.length))) (S1 ++ [c])
  | .ex S1 x => .ex env S1 x
  | .no => .no
/-- target = value -/
def kAsg (f : FG) (fe : FE) : FS := fun env S => sV env (fe env S) fun S1 v => match v with
  | .d d => match f d env with
    | some env' => .nx env' S1
    | none => .no
  | .r _ => .no
/-- a, b = x, y -/
def kPar (i j : Nat) (fa : FA) : FS := fun env S => sB env (fa env S) fun S1 l => match l with
  | [v, w] => .nx ((env.set i (.v v)).set j (.v w)) S1
  | _ => .no
section
variable {Z : Zx} {W : WX} {X : Cx} {st : Stmt} {rest : List Stmt} {f g : FS} {e : Expr} {fe : FE} {pos : Pos}
theorem psf_nil : PSsF Z W X [] kNext := .of pss_nil fun env σ G α S H D hd oe w => w.here hd oe
theorem psf_cons (h1 : PSF Z W X st f) (h2 : PSsF Z W X rest g) : PSsF Z W X (st :: rest) (kSeq f g) := .of (pss_cons h1.ps h2.ps) fun env σ G α S H D hd oe w => by
  refine ⟨env, G, α, S, hd, oe, ?_⟩
  unfold kSeq at w
  cases q : f env S with
  | nx e2 S2 =>
    rw [q] at w
    exact fun σ2 H2 G2 α2 f2 hd2 oe2 => ⟨e2, G2, α2, S2, hd2, oe2, WkS.later w f2⟩
  | rt S2 r => rw [q] at w; exact w
  | bk e2 S2 => rw [q] at w; exact w
  | ct e2 S2 => rw [q] at w; exact w
  | ex e2 S2 x => rw [q] at w; exact w
  | no => rw [q] at w; exact w
theorem psf_one (h1 : PSF Z W X st f) : PSsF Z W X [st] f := ⟨pss_one h1.ps⟩
theorem psf_ret (h : PF Z (WE W) X e fe) : PSF Z W X (.Return (some e) pos) (kRet fe) := by
  obtain ⟨te, h1, h2⟩ := h.ex
  refine .of (ps_ret h1) fun env σ G α S H D hd oe w => h2 env σ G α S H _ hd oe ?_
  unfold kRet at w
  cases q : fe env S with
  | ok S2 r => rw [q] at w; exact w
  | ex S2 x =>
    rw [q] at w
    exact fun cls d H2 G2 α2 f2 hd2 ox => w σ cls d H2 G2 α2 f2 hd2 (oe.up f2.g f2.a) ox
  | no => rw [q] at w; exact w.elim
theorem psf_expr (h : PF Z (WE W) X e fe) (hs : swapsWith e none pos.line X.env = pure false := by rfl) : PSF Z W X (.Expr e pos) (kExpr fe) := by
  obtain ⟨te, h1, h2⟩ := h.ex
  refine .of (ps_expr h1 hs) fun env σ G α S H D hd oe w => h2 env σ G α S H _ hd oe ?_
  unfold kExpr at w
  cases q : fe env S with
  | ok S2 r =>
    rw [q] at w
    cases r with
    | val v => exact fun H2 G2 α2 f2 hd2 x ox => w σ H2 G2 α2 f2 hd2 (oe.up f2.g f2.a)
    | new c => exact fun H2 G2 α2 f2 hd2 p n => w σ H2 G2 α2 f2 hd2 (oe.up f2.g f2.a)
  | ex S2 x =>
    rw [q] at w
    exact fun cls d H2 G2 α2 f2 hd2 ox => w σ cls d H2 G2 α2 f2 hd2 (oe.up f2.g f2.a) ox
  | no => rw [q] at w; exact w.elim
theorem psf_if {c : Expr} {a b : List Stmt} {ft : FT} (hc : PTF Z (WE W) X c ft) (ha : PSsF Z W X a f) (hb : PSsF Z W X b g) : PSF Z W X (.If c a b pos) (kIf ft f g) := by
  refine .of (ps_if hc.pt ha.ps hb.ps) fun env σ G α S H D hd oe w => st_tF.bindS hd oe w fun S2 b H2 G2 α2 f2 hd2 oe2 w2 => ?_
  cases b with
  | true => rw [if_pos rfl]; exact ⟨env, G2, α2, S2, hd2, oe2, w2⟩
  | false => rw [if_neg Bool.false_ne_true]; exact ⟨env, G2, α2, S2, hd2, oe2, w2⟩
/-- what a plain name's store leaves -/
theorem ss_set {i : Nat} {te : TE} (h : SE Z (WE W) te fe) : SS Z W (tAsg te (gName i)) (kSet i fe) := fun env σ G α S H D hd oe w =>
  h.bindS hd oe w fun S2 d v H2 G2 α2 _ f2 hd2 oe2 ov w2 => w2.here hd2 (oe2.set i ov)
theorem ss_setC {i : Nat} {te : TE} (h : SE Z (WE W) te fe) : SS Z W (tAsg te (gName i)) (kSetC i fe) := fun env σ G α S H D hd oe w => by
  refine h env σ G α S H _ hd oe ?_
  unfold kSetC at w
  cases q : fe env S with
  | no => rw [q] at w; exact w.elim
  | ex S2 x =>
    rw [q] at w
    exact fun cls d H2 G2 α2 f2 hd2 ox => w σ cls d H2 G2 α2 f2 hd2 (oe.up f2.g f2.a) ox
  | ok S2 r =>
    rw [q] at w
    cases r with
    | val v => exact fun H2 G2 α2 f2 hd2 x ox => w _ H2 G2 α2 f2 hd2 ((oe.up f2.g f2.a).set i ox)
    | new c =>
      intro H2 G2 α2 f2 hd2 p n
      have hd3 := hd2.push n.g n.a n.c
      have f3 := f2.push n.h
      refine w _ H2 G2 _ f3 hd3 ((oe.up f3.g f3.a).set i ⟨p, rfl, ?_⟩)
      rw [← hd2.len, List.getElem?_append_right (Nat.le_refl _), Nat.sub_self]
      rfl
theorem psf_set (i : Nat) {x : Str} {p' : Pos} (hN : X.N.Nodup) (hi : X.N[i]? = some x) (hx : Loc X.env.scope x) (h : PF Z (WE W) X e fe) (hs : swapsWith e (some (.Name x p')) pos.line X.env = pure false := by rfl) (hf : X.fn x = true ∨ X.env.scope.names.lookup x = some .local := by first | exact .inl rfl | exact .inr rfl | assumption) :
    PSF Z W X (.Assign [.Name x p'] e pos) (kSet i fe) := .of (ps_set hN hi hx h.pe hs hf) (ss_set se_tF)
theorem psf_setC (i : Nat) {x : Str} {p' : Pos} (hN : X.N.Nodup) (hi : X.N[i]? = some x) (hx : Loc X.env.scope x) (h : PF Z (WE W) X e fe) (hs : swapsWith e (some (.Name x p')) pos.line X.env = pure false := by rfl) (hf : X.fn x = true ∨ X.env.scope.names.lookup x = some .local := by first | exact .inl rfl | exact .inr rfl | assumption) :
    PSF Z W X (.Assign [.Name x p'] e pos) (kSetC i fe) := .of (ps_set hN hi hx h.pe hs hf) (ss_setC se_tF)
theorem psf_asg {tg : Expr} {ftg : FG} {sl : List Nat} (h : PF Z (WE W) X e fe) (hg : PGF Z X tg ftg sl) (hs : swapsWithSole [tg] e pos.line X.env = pure false := by rfl) (hw : swappedStores [tg] e X.env = pure none := by rfl)
    (h1 : (assignEach [tg] X.env).map (·.2) = [assign tg X.env] := by rfl) : PSF Z W X (.Assign [tg] e pos) (kAsg ftg fe) := by
  refine .of (ps_asg h.pe hg.pg hs hw h1) fun env σ G α S H D hd oe w => se_tF.bindS hd oe w fun S2 d v H2 G2 α2 _ f2 hd2 oe2 ov w2 => ?_
  cases d with
  | r n => exact w2.elim
  | d d =>
    cases q : ftg d env with
    | none => simp only [q] at w2; exact w2.elim
    | some env' =>
      simp only [q] at w2
      exact ⟨env, G2, α2, S2, d, env', hd2, oe2, ov, q, fun σ' oe' _ => w2.here hd2 oe'⟩
theorem psf_par (i j : Nat) {x y : Str} {a b : Expr} {fa : FA} {px py pt : Pos} {kt k2 pt2} (hc : X.calm = true) (hN : X.N.Nodup) (hi : X.N[i]? = some x) (hj : X.N[j]? = some y) (hij : i ≠ j)
    (hx : X.env.scope.names.lookup x = some .local) (hy : X.env.scope.names.lookup y = some .local) (ha : PAF Z (WE W) X [a, b] fa)
    (hw : swappedStores [.Tuple [.Name x px, .Name y py] kt pt] (.Tuple [a, b] k2 pt2) X.env = pure (some [x, y]))
    (hs : swapsWithSole [.Tuple [.Name x px, .Name y py] kt pt] (.Tuple [a, b] k2 pt2) pos.line X.env = pure false := by rfl) :
    PSF Z W X (.Assign [.Tuple [.Name x px, .Name y py] kt pt] (.Tuple [a, b] k2 pt2) pos) (kPar i j fa) := by
  obtain ⟨ta, h1, h2⟩ := ha.ex
  refine .of (ps_par hc hN hi hj hij hx hy h1 hw hs) fun env σ G α S H D hd oe w => h2.bindS hd oe w fun S2 l vs H2 G2 α2 f2 hd2 oe2 ol w2 => ?_
  cases l with
  | nil => exact w2.elim
  | cons u r =>
    cases r with
    | nil => exact w2.elim
    | cons v r =>
      cases r with
      | cons _ _ => exact w2.elim
      | nil =>
        obtain ⟨y1, ys, rfl, o1, z, zs, rfl, o2, o3⟩ := ol
        cases (show zs = [] from o3)
        exact ⟨y1, z, rfl, w2.here hd2 ((oe2.set i o1).set j o2)⟩
end
end DN
namespace DN
open PySem PySem.Spec PyProof.Rows L2 Evl
def forGo (t : Its) (tg : FG) (body : FS) : List Dv → Env → Sto → RS
  | [], env, S => if lockOk t S then .nx env S else .no
  | d :: r, env, S => if lockOk t S then (match tg d env with
    | some env' => match body env' S with
      | .nx e2 S2 => forGo t tg body r e2 S2
      | .ct e2 S2 => forGo t tg body r e2 S2
      | .bk e2 S2 => .nx e2 S2
      | r => r
    | none => .no) else .no
def kFor (fi : FI) (tg : FG) (body : FS) : FS := fun env S => sB env (fi env S) fun S1 t => forGo t tg body t.1 env S1
section
variable {Z : Zx} {W : WX} {X : Cx} {G H G2 H2 : Hp} {α α2 : List Addr} {S : Sto} {D : Ends} {env : Env} {σ : L2.St} {pos : Pos}
theorem SI.bindS {wi : TI} {fi : FI} {F : Sto → Its → RS} {R' : It → Hp → Prop} (h : SI Z (WE W) wi fi) (hd : Hd Z G α S H) (oe : OnE Z G α env σ) (w : WkS Z (sB env (fi env S) F) G α H D W)
    (k : ∀ S2 t H2 G2 α2, Fr G α H G2 α2 H2 → Hd Z G2 α2 S2 H2 → OnE Z G2 α2 env σ → WkS Z (F S2 t) G2 α2 H2 D W → ∀ J, Gz Z J G2 α2 t → R' J H2) : wi σ H R' := by
  refine h env σ G α S H R' hd oe ?_
  cases e : fi env S with
  | no => rw [e] at w; exact w.elim
  | ex S2 x =>
    rw [e] at w
    exact fun cls d H2 G2 α2 f2 hd2 ox => w σ cls d H2 G2 α2 f2 hd2 (oe.up f2.g f2.a) ox
  | ok S2 b =>
    rw [e] at w
    exact fun H2 G2 α2 f2 hd2 J gz => k S2 b H2 G2 α2 f2 hd2 (oe.up f2.g f2.a) (WkS.later w f2) J gz
theorem psf_for {tg iter : Expr} {body : List Stmt} {fi : FI} {ftg : FG} {sl : List Nat} {fb : FS} (hp : PassesOwn (model X.prog X.w) X.A X.env X.xe) (hc : X.calm = true) (hi : PIF Z (WE W) X tg iter fi) (hg : PGF Z X tg ftg sl) (hb : PSsF Z W X body fb)
    (hs : ∀ x, foldedSetIterable iter X.env x = pure x := by intro _; rfl) : PSF Z W X (.For tg iter body [] pos) (kFor fi ftg fb) := by
  refine .of (ps_for hp hc hi.pi hg.pg hb.ps hs) fun env σ G α S H D hd oe w => si_tF.bindS hd oe w fun S1 t H1 G1 α1 f1 hd1 oe1 w1 J gz => ?_
  have lk0 : lockOk t S1 = true := by
    cases q : lockOk t S1 with
    | true => rfl
    | false =>
      cases q2 : t.1 with
      | nil => rw [q2] at w1; simp only [forGo, q] at w1; exact w1.elim
      | cons d r => rw [q2] at w1; simp only [forGo, q] at w1; exact w1.elim
  have hlt := lock_lt hd1 lk0
  refine ⟨fun i m σ' H' => m = t.1.length - i ∧ i ≤ t.1.length ∧ ∃ env' G' α' S', Fr G1 α1 H1 G' α' H' ∧ Hd Z G' α' S' H' ∧ OnE Z G' α' env' σ' ∧ WkS Z (forGo t ftg fb (t.1.drop i) env' S') G' α' H' D W,
    ⟨t.1.length, by simp, Nat.zero_le _, env, G1, α1, S1, Fr.refl _ _ _, hd1, oe1, w1⟩, ?_⟩
  rintro i m σ' H' ⟨rfl, hi, env', G', α', S', f2, hd2, oe2, w2⟩
  cases lk : lockOk t S' with
  | false =>
    cases q2 : t.1.drop i with
    | nil => rw [q2] at w2; simp only [forGo, lk] at w2; exact w2.elim
    | cons d r => rw [q2] at w2; simp only [forGo, lk] at w2; exact w2.elim
  | true =>
    have ok := lock_ok hd2 f2.g f2.a hlt lk
    by_cases hlt2 : i < t.1.length
    · refine .inr ⟨gz.go i G' H' hlt2 ok, _, fun σ3 H3 h3 => ⟨t.1.length - (i + 1), by omega, rfl, hlt2, h3⟩, fun x H3 y => ?_⟩
      obtain ⟨d, ed, hy⟩ := gz.yld i G' H' x H3 hlt2 ok y
      obtain ⟨G3, f3, hd3, od⟩ := hy α' S' hd2
      have e1 : t.1.drop i = d :: t.1.drop (i + 1) := by
        rw [List.drop_eq_getElem_cons hlt2]
        rw [List.getElem?_eq_getElem hlt2] at ed
        cases ed
        rfl
      rw [e1] at w2
      simp only [forGo, lk, if_true] at w2
      cases q : ftg d env' with
      | none => simp only [q] at w2; exact w2.elim
      | some env2 =>
        simp only [q] at w2
        refine ⟨env', G3, α', S', d, env2, hd3, oe2.up f3.g f3.a, od, q, fun σ4 oe4 _ => ⟨env2, G3, α', S', hd3, oe4, ?_⟩⟩
        have w3 := WkS.later w2 f3
        cases q3 : fb env2 S' with
        | nx e5 S5 =>
          simp only [q3] at w3
          exact fun σ5 H5 G5 α5 f5 hd5 oe5 => ⟨e5, G5, α5, S5, (f2.trans f3).trans f5, hd5, oe5, WkS.later w3 f5⟩
        | ct e5 S5 =>
          simp only [q3] at w3
          exact fun σ5 H5 G5 α5 f5 hd5 oe5 => ⟨e5, G5, α5, S5, (f2.trans f3).trans f5, hd5, oe5, WkS.later w3 f5⟩
        | bk e5 S5 => simp only [q3] at w3; exact w3
        | rt S5 r => simp only [q3] at w3; exact w3
        | ex e5 S5 x => simp only [q3] at w3; exact w3
        | no => simp only [q3] at w3; exact w3
    · have e : i = t.1.length := by omega
      subst e
      rw [List.drop_length] at w2
      simp only [forGo, lk, if_true] at w2
      exact .inl ⟨gz.stop G' H' ok, w2.here hd2 oe2⟩
end
/-- a cell is changed at an index or a key -/
def putC (c : Cell) (i v : Dv) : Option Cell := match c, i with
  | .lst l, .int k => match ixN l.length k with
    | some j => some (.lst (l.set j v))
    | none => none
  | _, _ => none
def setIx (env : Env) (S : Sto) (o i v : Vr) : RS := match o, i, v with
  | .r n, .d i, .d v => match S[n]? with
    | some c => match putC c i v with
      | some c2 => .nx env (S.set n c2)
      | none => .no
    | none => .no
  | _, _, _ => .no
def kSub (fo fi fv : FE) : FS := fun env S => sV env (fv env S) fun S1 v => sV env (fo env S1) fun S2 o => sV env (fi env S2) fun S3 i => setIx env S3 o i v
section
variable {Z : Zx} {W : WX} {X : Cx} {pos p' : Pos} {o i e : Expr} {fo fi fe : FE}
theorem psf_sub (ho : PF Z (WE W) X o fo) (hi : PF Z (WE W) X i fi) (he : PF Z (WE W) X e fe)
    (ha : ∀ v, assign (.Subscript o i p') X.env v = (do
      let ov ← holding [v] (eval o X.env)
      let iv ← holding [v, ov] (eval i X.env)
      standAt p'
      holding [v, ov, iv] (setItem ov iv v)
      release [v, ov, iv] []) := by intro _; rfl)
    (hs : swapsWithSole [.Subscript o i p'] e pos.line X.env = pure false := by rfl) (hw : swappedStores [.Subscript o i p'] e X.env = pure none := by rfl)
    (h1 : (assignEach [.Subscript o i p'] X.env).map (·.2) = [assign (.Subscript o i p') X.env] := by rfl) : PSF Z W X (.Assign [.Subscript o i p'] e pos) (kSub fo fi fe) := by
  refine .of (ps_asg he.pe (pg_sub ho.pe hi.pe set_list ha) hs hw h1) fun env σ G α S H D hd oe w => se_tF.bindS hd oe w fun S2 dv v H2 G2 α2 _ f2 hd2 oe2 ov w2 => ?_
  refine se_tF.bindS hd2 oe2 w2 fun S3 d3 o3 H3 G3 α3 _ f3 hd3 oe3 ov3 w3 => se_tF.bindS hd3 oe3 w3 fun S4 d4 i4 H4 G4 α4 _ f4 hd4 oe4 ov4 w4 => ?_
  cases d3 with
  | d _ => exact w4.elim
  | r n =>
    cases d4 with
    | r _ => exact w4.elim
    | d di =>
      cases dv with
      | r _ => exact w4.elim
      | d dv =>
        have w4 : WkS Z (match S4[n]? with | some c => (match putC c di dv with | some c2 => RS.nx env (S4.set n c2) | none => .no) | none => .no) G4 α4 H4 D W := w4
        cases q : S4[n]? with
        | none => rw [q] at w4; exact w4.elim
        | some c =>
          rw [q] at w4
          have w4 : WkS Z (match putC c di dv with | some c2 => RS.nx env (S4.set n c2) | none => .no) G4 α4 H4 D W := w4
          cases q2 : putC c di dv with
          | none => rw [q2] at w4; exact w4.elim
          | some c2 =>
            rw [q2] at w4
            have w4 : WkS Z (RS.nx env (S4.set n c2)) G4 α4 H4 D W := w4
            obtain ⟨a, rfl, ha3⟩ := ov3
            have ha4 := f4.a.get ha3
            have ovv : On Z G4 dv v := (On.up f3.g (show On Z G2 dv v from ov)).up f4.g
            cases c with
            | lst l =>
              cases di with
              | int k =>
                have e' : (match ixN l.length k with | some j => some (Cell.lst (l.set j dv)) | none => none) = some c2 := q2
                cases q3 : ixN l.length k with
                | none => rw [q3] at e'; cases e'
                | some j =>
                  rw [q3] at e'
                  cases e'
                  obtain ⟨xs, e1, e2⟩ := (hd4.at_ n a _ ha4 q).2
                  obtain ⟨hd5, f5⟩ := hd4.put (c2 := .lst (l.set j dv)) (o := .lst (xs.set j v)) ha4 q (fun c => nomatch c) ⟨_, rfl, e2.set ovv⟩
                  have ok4 : On Z G4 (.int k) i4 := ov4
                  unfold On at ok4
                  exact ⟨a, xs, k, j, rfl, ok4, e1, by rw [e2.len]; exact q3, w4 _ _ _ _ f5 hd5 (oe4.up f5.g f5.a)⟩
              | _ => cases q2
            | _ => cases di <;> cases q2
end
end DN
namespace DN
open PySem PySem.Spec PyProof.Rows L2 Evl
abbrev FD := List Vr → Sto → R Rt
def cutX (k : Nat) (S : Sto) (x : Xn) : R Rt := match x with
  | .own c (.r n) => if n < k then .ex (S.take k) (.own c (.r n)) else .no
  | x => .ex (S.take k) x
/-- a def is left: its own cells are forgotten, one that is handed back is new -/
def exitR (k : Nat) (r : R Rt) : R Rt := match r with
  | .ok S (.val (.r n)) => if n < k then .ok (S.take k) (.val (.r n)) else (match S[n]? with
    | some (.lst l) => .ok (S.take k) (.new (.lst l))
    | some (.ob c l) => .ok (S.take k) (.new (.ob c l))
    | some (.dc t ks vs) => .ok (S.take k) (.new (.dc t ks vs))
    | _ => .no)
  | .ok S b => .ok (S.take k) b
  | .ex S x => cutX k S x
  | .no => .no
def startE (n : Nat) (args : List Vr) : Env := args.map .v ++ List.replicate (n - args.length) .u
def outS (r : RS) : R Rt := match r with
  | .nx _ S => .ok S (.val (.d .non))
  | .rt S r => .ok S r
  | .ex _ S x => .ex S x
  | _ => .no
def defD (n : Nat) (body : FS) : FD := fun args S => exitR S.length (outS (body (startE n args) S))
def spD (Z : Zx) (m : Nat) (D : FD) : Sp := fun vs H Q E => ∃ G α S args, Hd Z G α S H ∧ OnA Z G α args vs ∧ args.length = m ∧ Wk Z (D args S) G α H (pRt Z Q) E
section
variable {Z : Zx} {G H G2 H2 : Hp} {α α2 : List Addr} {S : Sto} {Q : VK} {E : XK}
theorem take_pre {S2 : Sto} (f : Fr G α H G2 α2 H2) (hd2 : Hd Z G2 α2 S2 H2) : Hd Z G2 α (S2.take α.length) H2 := by
  have := hd2.cut α.length
  rw [f.a.cut] at this
  exact this
theorem pre_get {n : Nat} {a : Addr} (p : Px α α2) (hn : n < α.length) (h : α2[n]? = some a) : α[n]? = some a := by
  obtain ⟨γ, rfl⟩ := p
  rw [List.getElem?_append_left hn] at h
  exact h
theorem cutX_ok {S2 : Sto} {x : Xn} (w : Wk Z (cutX α.length S2 x) G α H (pRt Z Q) E) : Xp Z S2 x G α H E := by
  intro cls d H2 G2 α2 f2 hd2 ox
  have hd3 := take_pre f2 hd2
  cases x with
  | blt n => exact w cls d H2 G2 α f2.cut hd3 ox
  | own c v =>
    cases v with
    | d v => exact w cls d H2 G2 α f2.cut hd3 ox
    | r n =>
      have w : Wk Z (if n < α.length then R.ex (S2.take α.length) (.own c (.r n)) else .no) G α H (pRt Z Q) E := w
      by_cases hn : n < α.length
      · rw [if_pos hn] at w
        obtain ⟨h1, dd, v, h2, h3, a, h4, h5⟩ := ox
        exact w cls d H2 G2 α f2.cut hd3 ⟨h1, dd, v, h2, h3, a, h4, pre_get f2.a hn h5⟩
      · rw [if_neg hn] at w
        exact w.elim
/-- a cell that the def made -/
theorem own_cell {S2 : Sto} {n : Nat} {a : Addr} {c : Cell} (hd : Hd Z G α S H) (f2 : Fr G α H G2 α2 H2) (hd2 : Hd Z G2 α2 S2 H2) (hn : ¬ n < α.length) (ha : α2[n]? = some a) (hs : S2[n]? = some c) (hc : c ≠ .dead) (ht : ∀ r, c ≠ .tab r) : Nw Z H G2 α H2 c a := by
  obtain ⟨h1, h2⟩ := hd2.at_ n a c ha hs
  have na : a ∉ α := fun hm => by
    obtain ⟨m, hm1, hm2⟩ := List.mem_iff_getElem.mp hm
    have h3 : α2[m]? = some a := f2.a.get (by rw [List.getElem?_eq_getElem hm1, hm2])
    have e : m = n := (List.getElem?_inj (List.getElem?_eq_some_iff.mp h3).1 hd2.nd).mp (h3.trans ha.symm)
    omega
  refine ⟨?_, h1 hc, na, h2.at ht⟩
  rcases f2.m a (List.mem_of_getElem? ha) with h | h
  · exact absurd h na
  · exact h
theorem exitR_ok {r : R Rt} (hd : Hd Z G α S H) (w : Wk Z (exitR S.length r) G α H (pRt Z Q) E) : Wk Z r G α H (pRt Z Q) E := by
  rw [← hd.len] at w
  cases r with
  | no => exact w.elim
  | ex S2 x => exact cutX_ok w
  | ok S2 b =>
    cases b with
    | new c =>
      intro H2 G2 α2 f2 hd2 p n
      exact w H2 G2 α f2.cut (take_pre f2 hd2) p ⟨n.h, n.g, fun hm => n.a (f2.a.mem hm), n.c⟩
    | val v =>
      cases v with
      | d d => exact fun H2 G2 α2 f2 hd2 x ox => w H2 G2 α f2.cut (take_pre f2 hd2) x ox
      | r n =>
        intro H2 G2 α2 f2 hd2 x ox
        obtain ⟨a, rfl, ha⟩ := ox
        have hd3 := take_pre f2 hd2
        by_cases hn : n < α.length
        · simp only [exitR, if_pos hn] at w
          exact w H2 G2 α f2.cut hd3 _ ⟨a, rfl, pre_get f2.a hn ha⟩
        · simp only [exitR, if_neg hn] at w
          cases q : S2[n]? with
          | none => simp only [q] at w; exact w.elim
          | some c =>
            simp only [q] at w
            have nw : c ≠ .dead → (∀ r, c ≠ .tab r) → Nw Z H G2 α H2 c a := fun hc ht => own_cell hd f2 hd2 hn ha q hc ht
            cases c with
            | lst l => exact w H2 G2 α f2.cut hd3 a (nw (fun e => nomatch e) (fun _ e => nomatch e))
            | ob c l => exact w H2 G2 α f2.cut hd3 a (nw (fun e => nomatch e) (fun _ e => nomatch e))
            | dc t ks vs => exact w H2 G2 α f2.cut hd3 a (nw (fun e => nomatch e) (fun _ e => nomatch e))
            | dead => exact w.elim
            | tab rows => exact w.elim
theorem OnA.get : ∀ {l : List Vr} {xs : List V} {i : Nat} {d : Vr}, OnA Z G α l xs → l[i]? = some d → ∃ x, xs[i]? = some x ∧ OnR Z G α d x
  | [], _, _, _, _, e => by simp at e
  | c :: l, xs, 0, d, h, e => by
    obtain ⟨y, ys, rfl, h2, h3⟩ := h
    simp at e
    subst e
    exact ⟨y, rfl, h2⟩
  | c :: l, xs, i + 1, d, h, e => by
    obtain ⟨y, ys, rfl, h2, h3⟩ := h
    obtain ⟨x, h4, h5⟩ := OnA.get (i := i) h3 (by simpa using e)
    exact ⟨x, by simpa using h4, h5⟩
theorem start_on {N : List Str} {args : List Vr} {vs : List V} (h : OnA Z G α args vs) : OnE Z G α (startE N.length args) (L2.start N vs) := by
  have hl := h.len
  refine ⟨?_, fun i d e => ?_, fun i c r e => ?_⟩
  · unfold startE L2.start
    rw [List.length_append, List.length_append, List.length_map, List.length_map, List.length_replicate, List.length_replicate, hl]
  · unfold startE at e
    by_cases hi : i < args.length
    · rw [List.getElem?_append_left (by rw [List.length_map]; exact hi), List.getElem?_map] at e
      cases q : args[i]? with
      | none => rw [q] at e; cases e
      | some a =>
        rw [q] at e
        cases e
        obtain ⟨x, h1, h2⟩ := h.get q
        refine ⟨x, ?_, h2⟩
        unfold L2.start
        rw [List.getElem?_append_left (by rw [List.length_map, hl]; exact hi), List.getElem?_map, h1]
        rfl
    · rw [List.getElem?_append_right (by rw [List.length_map]; omega), List.getElem?_replicate] at e
      split at e <;> cases e
  · unfold startE at e
    by_cases hi : i < args.length
    · rw [List.getElem?_append_left (by rw [List.length_map]; exact hi), List.getElem?_map] at e
      cases q : args[i]? with
      | none => rw [q] at e; cases e
      | some a => rw [q] at e; cases e
    · rw [List.getElem?_append_right (by rw [List.length_map]; omega), List.getElem?_replicate] at e
      split at e <;> cases e
end
/-- a def with defaults or without -/
structure FunD (K : PySem.W.Frag) (x qual : Str) (st : Stmt) (f : Addr) (fd : FuncData) : Prop where
  ex : ∃ (oc : Value) (od : Option Addr) (dV kV doc pm : Value) (an : Option Addr) (cdv ct : Value) (osl : Array (Option Value)),
    fd = PySem.W.fnOf x qual (defArgs st) (defBody st) (defScope st) dV kV doc pm an cdv ct ∧ K.lookup f = some ⟨oc, od, .func fd, osl⟩ ∧ PySem.W.codeIn K cdv qual = true
  kp : PySem.W.keepIn K (.ref f) = true
theorem Fun.d {K : PySem.W.Frag} {x qual : Str} {st : Stmt} {f : Addr} {fd : FuncData} (F : Fun K x qual st f fd) : FunD K x qual st f fd := by
  obtain ⟨⟨oc, od, kV, doc, pm, an, cdv, ct, osl, h1, h2, h3⟩, h4⟩ := F
  exact ⟨⟨oc, od, .none, kV, doc, pm, an, cdv, ct, osl, h1, h2, h3⟩, h4⟩
/-- the wish of a def about exceptions -/
abbrev WD (E : XK) : WX := fun cls d _ H => E cls d H
/-- THE RULE: a def computes its denotation -/
theorem fn_d {Z : Zx} {P : Program} {w : World} {K : PySem.W.Frag} {mg : Str → Option Value} {base : Heap} {b : Bool} {x qual : Str} {st : Stmt} {f : Addr} {fd : FuncData} {N ps : List Str} {k : Nat} {fb : FS} (F : FunD K x qual st f fd) (sc : FnScope N ps (defScope st))
    (hb : ∀ (cdv : Value) (A : Around) (outer : List PySem.Env) (s : Shared) (H : Hp) (E : XK), RoomG b k (A.deeper (envOfC qual (defScope st) s.heap.objs.size f cdv)) →
      PSsF Z (WD E) (cxOf (L2.CX P w) P w K mg base N qual (defScope st) f cdv A outer s H E) (defBody st) fb) : FnG b P w K mg base (L2.CX P w) (k + 1) f fd ps (spD Z ps.length (defD N.length fb)) := by
  obtain ⟨oc, od, dV, kV, doc, pm, an, cdv, ct, osl, rfl, lk, hcd⟩ := F.ex
  refine fn_ofG lk hcd sc (fun vs H Q E h => ?_) fun A outer s H vs Q E hr h => ?_
  · obtain ⟨G, α, S, args, _, h1, h2, _⟩ := h
    rw [h1.len, h2]
  · obtain ⟨G, α, S, args, hd, oa, hl, w'⟩ := h
    refine ⟨_, (hb cdv A outer s H E hr).ps, startE N.length args, G, α, S, hd, start_on oa, ?_⟩
    have w2 := exitR_ok hd w'
    cases q : fb (startE N.length args) S with
    | nx e2 S2 =>
      rw [q] at w2
      exact fun σ2 H2 G2 α2 f2 hd2 oe2 => w2 H2 G2 α2 f2 hd2 _ (or_non Z G2 α2)
    | rt S2 r =>
      rw [q] at w2
      show Wk Z (.ok S2 r) G α H (pRt Z Q) E0
      cases r <;> exact w2
    | ex e2 S2 x =>
      rw [q] at w2
      exact fun σ2 cls d H2 G2 α2 f2 hd2 oe2 ox => w2 cls d H2 G2 α2 f2 hd2 ox
    | bk e2 S2 => rw [q] at w2; exact w2.elim
    | ct e2 S2 => rw [q] at w2; exact w2.elim
    | no => rw [q] at w2; exact w2.elim
def fCallD (m : Nat) (D : FD) (fa : FA) : FE := fun env S => (fa env S).bind fun S1 l => if l.length = m then D l S1 else .no
section
variable {Z : Zx} {X : Cx} {W : WX} {k m : Nat} {f : Addr} {fd : FuncData} {ps : List Str} {D : FD} {x : Str} {p pos : Pos} {e : Expr} {es : List Expr} {fa : FA} {fe : FE}
theorem sp_of {vs : List V} {l : List Vr} {G H : Hp} {α : List Addr} {S : Sto} {Q : VK} {E : XK} (hd : Hd Z G α S H) (ol : OnA Z G α l vs) (w : Wk Z (if l.length = m then D l S else .no) G α H (pRt Z Q) E) : spD Z m D vs H Q E := by
  by_cases h : l.length = m
  · rw [if_pos h] at w
    exact ⟨G, α, S, l, hd, ol, h, w⟩
  · rw [if_neg h] at w
    exact w.elim
theorem pf_call {b : Bool} (F : FnG b X.prog X.w X.K X.mg X.base (L2.CX X.prog X.w) k f fd ps (spD Z m D)) (hr : RoomG b k X.A) (tk : Takes X W) (hg : Gl X x) (hm : X.mg x = some (.ref f)) (hk : PySem.W.keepIn X.K (.ref f) = true) (hb : Binds X.K fd ps [])
    (ha : PAF Z (WE W) X (e :: es) fa) (hdb : (x == ("__debug__" : Str)) = false := by decide) (he : starEach (e :: es) X.env = (false, eval e X.env) :: starEach es X.env := by rfl) (hpl : (backTo pos (starEach es X.env)).any (·.1) = false := by rfl) :
    PF Z (WE W) X (.Call (.Name x p) (e :: es) [] pos) (fCallD m D fa) := by
  obtain ⟨ta, h1, h2⟩ := ha.ex
  refine ⟨_, pe_callG (E := WE W) F hr hg hm hk hb .nil (passAt tk) h1 hdb he hpl, fun env σ G α S H Q hd oe w => h2.bind hd oe w fun S2 l vs H2 G2 α2 f2 hd2 oe2 ol w2 => ?_⟩
  rw [List.append_nil]
  exact sp_of hd2 ol w2
end
end DN
namespace DN
open PySem PySem.Spec PyProof.Rows L2 Evl
def fldOf (l : List Dv) : List Str → Str → Option Dv
  | g :: fs, f => match l with
    | d :: r => if f == g then some d else fldOf r fs f
    | [] => none
  | [], _ => none
def gFld (cs : List String) (f : Str) : Dv → Option Rt
  | .obj c l => if cs.contains c then (match fldOf l (flds c) f with
    | some d => vD d
    | none => none) else none
  | _ => none
def AllC (P : String → Prop) : List String → Prop
  | [] => True
  | c :: r => P c ∧ AllC P r
theorem AllC.mem {P : String → Prop} : ∀ {cs : List String} {c : String}, AllC P cs → cs.contains c = true → P c
  | [], c, _, h => by simp at h
  | a :: r, c, h, e => by
    rw [List.contains_cons, Bool.or_eq_true] at e
    rcases e with e | e
    · rw [beq_iff_eq.mp e]; exact h.1
    · exact AllC.mem h.2 e
/-- the class c has the field f of its instances -/
structure Fd (Z : Zx) (f : Str) (c : String) : Prop where
  cl : Cls Z.K (Z.cm c)
  na : NoAttr Z.K (Z.cm c) f
section
variable {Z : Zx} {X : Cx} {G H G2 H2 : Hp} {α α2 : List Addr} {S : Sto} {Q : VK} {E : XK}
theorem fld_on {f : Str} : ∀ {fs : List Str} {l : List Dv} {xs : List V} {d : Dv}, OnL Z G l xs → fldOf l fs f = some d → ∃ v, (fs.zip xs).lookup f = some v ∧ On Z G d v
  | [], l, xs, d, h, e => by unfold fldOf at e; cases e
  | g :: fs, l, xs, d, h, e => by
    cases l with
    | nil => unfold fldOf at e; cases e
    | cons a r =>
      obtain ⟨y, ys, rfl, h2, h3⟩ := OnL.cons.mp h
      have e' : (if f == g then some a else fldOf r fs f) = some d := e
      rw [List.zip_cons_cons]
      cases q : f == g with
      | true =>
        rw [q] at e'
        cases e'
        exact ⟨y, by simp only [List.lookup, q], h2⟩
      | false =>
        rw [q] at e'
        obtain ⟨v, h4, h5⟩ := fld_on (fs := fs) h3 e'
        exact ⟨v, by simp only [List.lookup, q]; exact h4, h5⟩
variable {Ew : L2.St → XK} {W : WX} {o e : Expr} {es : List Expr} {fo fe : FE} {fa : FA} {pos apos : Pos} {f : Str}
theorem pf_fld (cs : List String) (hK : X.K = Z.K) (hcs : AllC (Fd Z f) cs) (ho : PF Z Ew X o fo) (hb : attributeBase o f X.env (eval o X.env) = eval o X.env := by rfl) : PF Z Ew X (.Attribute o f pos) (fUn (gFld cs f) fo) := by
  obtain ⟨to, h1, h2⟩ := ho.ex
  refine ⟨_, OP.pe_fldK Z.K h1 hb hK, fun env σ G α S H Q hd oe w => h2.bind hd oe w fun S2 a x H2 G2 α2 f2 hd2 oe2 ox w2 => ?_⟩
  obtain ⟨G3, α3, S3, u, hd3, hu, w3⟩ := g1_ok hd2 ox w2
  cases u with
  | obj c l =>
    obtain ⟨a, dx, xs, rfl, k1, k2, k3⟩ := hu
    have w3 : Wk Z (R.of S3 (if cs.contains c then (match fldOf l (flds c) f with | some d => vD d | none => none) else none)) G3 α3 H2 (pRt Z Q) E0 := w3
    cases q : cs.contains c with
    | false => rw [q] at w3; exact w3.elim
    | true =>
      rw [q] at w3
      have w3 : Wk Z (R.of S3 (match fldOf l (flds c) f with | some d => vD d | none => none)) G3 α3 H2 (pRt Z Q) E0 := w3
      have fd := hcs.mem q
      cases q2 : fldOf l (flds c) f with
      | none => rw [q2] at w3; exact w3.elim
      | some d =>
        rw [q2] at w3
        obtain ⟨v, e1, o1⟩ := fld_on k3 q2
        exact ⟨a, Z.cm c, dx, _, v, rfl, k1, fd.cl, fd.na, e1, wD w3 hd3 o1⟩
  | _ => exact w3.elim
def idxS (f : Str) : List Str → Option Nat
  | [] => none
  | g :: r => if f == g then some 0 else (idxS f r).map (· + 1)
def putFd (c : String) (f : Str) (l : List Dv) (v : Dv) : Option (List Dv) := match idxS f (flds c) with
  | some i => if i < l.length then some (l.set i v) else if i = l.length then some (l ++ [v]) else none
  | none => none
def setFd (cs : List String) (f : Str) (env : Env) (S : Sto) (o v : Vr) : RS := match o, v with
  | .r n, .d v => match S[n]? with
    | some (.ob c l) => if cs.contains c then (match putFd c f l v with
      | some l2 => .nx env (S.set n (.ob c l2))
      | none => .no) else .no
    | _ => .no
  | _, _ => .no
def kFld (cs : List String) (f : Str) (fo fv : FE) : FS := fun env S => sV env (fv env S) fun S1 v => sV env (fo env S1) fun S2 o => setFd cs f env S2 o v
theorem putF_zip {f : Str} {y : V} : ∀ {fs : List Str} {xs : List V} {i : Nat}, fs.Nodup → idxS f fs = some i → xs.length ≤ fs.length → i ≤ xs.length →
    putF f y (fs.zip xs) = fs.zip (if i < xs.length then xs.set i y else xs ++ [y])
  | [], xs, i, nd, e, hl, hi => by cases e
  | g :: fs, xs, i, nd, e, hl, hi => by
    have e' : (if f == g then some 0 else (idxS f fs).map (· + 1)) = some i := e
    cases q : f == g with
    | true =>
      rw [q] at e'
      cases e'
      have eg := beq_iff_eq.mp q
      cases xs with
      | nil => rw [List.zip_nil_right, if_neg (by simp), List.nil_append, List.zip_cons_cons, List.zip_nil_right, eg]; rfl
      | cons x xs =>
        rw [if_pos (by simp), List.set_cons_zero, List.zip_cons_cons, List.zip_cons_cons]
        show (if g = f then (g, y) :: fs.zip xs else _) = _
        rw [if_pos eg.symm]
    | false =>
      rw [q] at e'
      cases q2 : idxS f fs with
      | none => rw [q2] at e'; cases e'
      | some j =>
        rw [q2] at e'
        cases e'
        have ng : ¬ g = f := fun h => by rw [h, beq_self_eq_true] at q; cases q
        cases xs with
        | nil => simp at hi
        | cons x xs =>
          rw [List.zip_cons_cons]
          show (if g = f then (g, y) :: fs.zip xs else (g, x) :: putF f y (fs.zip xs)) = _
          rw [if_neg ng, putF_zip (List.nodup_cons.mp nd).2 q2 (by simpa using hl) (by simpa using hi)]
          by_cases c : j < xs.length
          · rw [if_pos c, if_pos (by simpa using c), List.set_cons_succ, List.zip_cons_cons]
          · rw [if_neg c, if_neg (by simpa using c), List.cons_append, List.zip_cons_cons]
theorem flds_nd (c : String) : (flds c).Nodup := by
  unfold flds
  split
  · decide
  split
  · decide
  split
  · decide
  split
  · decide
  split
  · decide
  split
  · decide
  split
  · decide
  · decide
theorem flds_len (c : String) : (flds c).length ≤ 6 := by
  unfold flds
  split
  · decide
  split
  · decide
  split
  · decide
  split
  · decide
  split
  · decide
  split
  · decide
  split
  · decide
  · decide
theorem idx_lt {f : Str} : ∀ {fs : List Str} {i : Nat}, idxS f fs = some i → i < fs.length
  | [], i, e => by cases e
  | g :: fs, i, e => by
    have e' : (if f == g then some 0 else (idxS f fs).map (· + 1)) = some i := e
    cases q : f == g with
    | true => rw [q] at e'; cases e'; simp
    | false =>
      rw [q] at e'
      cases q2 : idxS f fs with
      | none => rw [q2] at e'; cases e'
      | some j => rw [q2] at e'; cases e'; have := idx_lt q2; simpa using this
theorem psf_fld (cs : List String) {p' : Pos} (hK : X.K = Z.K) (hcs : AllC (Fd Z f) cs) (ho : PF Z (WE W) X o fo) (he : PF Z (WE W) X e fe) (hs : swapsWith e (some (.Attribute o f p')) pos.line X.env = pure false := by rfl) :
    PSF Z W X (.Assign [.Attribute o f p'] e pos) (kFld cs f fo fe) := by
  refine .of (ps_fld ho.pe he.pe hs) fun env σ G α S H D hd oe w => se_tF.bindS hd oe w fun S2 dv v H2 G2 α2 _ f2 hd2 oe2 ov w2 => ?_
  refine se_tF.bindS hd2 oe2 w2 fun S3 d3 o3 H3 G3 α3 _ f3 hd3 oe3 ov3 w3 => ?_
  cases d3 with
  | d _ => exact w3.elim
  | r n =>
    cases dv with
    | r _ => exact w3.elim
    | d dv =>
      have w3 : WkS Z (match S3[n]? with | some (.ob c l) => (if cs.contains c then (match putFd c f l dv with | some l2 => RS.nx env (S3.set n (.ob c l2)) | none => .no) else .no) | _ => .no) G3 α3 H3 D W := w3
      cases q : S3[n]? with
      | none => rw [q] at w3; exact w3.elim
      | some cl =>
        rw [q] at w3
        cases cl with
        | ob c l =>
          have w3 : WkS Z (if cs.contains c then (match putFd c f l dv with | some l2 => RS.nx env (S3.set n (.ob c l2)) | none => .no) else .no) G3 α3 H3 D W := w3
          cases q2 : cs.contains c with
          | false => rw [q2] at w3; exact w3.elim
          | true =>
            rw [q2] at w3
            have w3 : WkS Z (match putFd c f l dv with | some l2 => RS.nx env (S3.set n (.ob c l2)) | none => .no) G3 α3 H3 D W := w3
            have fd := hcs.mem q2
            cases q3 : putFd c f l dv with
            | none => rw [q3] at w3; exact w3.elim
            | some l2 =>
              rw [q3] at w3
              have w3 : WkS Z (RS.nx env (S3.set n (.ob c l2))) G3 α3 H3 D W := w3
              obtain ⟨a, rfl, ha⟩ := ov3
              obtain ⟨dx, xs, e1, e2, e3⟩ := (hd3.at_ n a _ ha q).2
              have ovv : On Z G3 dv v := On.up f3.g (show On Z G2 dv v from ov)
              unfold putFd at q3
              cases q4 : idxS f (flds c) with
              | none => rw [q4] at q3; cases q3
              | some i =>
                rw [q4] at q3
                have q3 : (if i < l.length then some (l.set i dv) else if i = l.length then some (l ++ [dv]) else none) = some l2 := q3
                have hxl : xs.length ≤ (flds c).length := by rw [e3.len]; exact e2
                have fin : ∀ ys, putF f v ((flds c).zip xs) = (flds c).zip ys → OnL Z G3 l2 ys → l2.length ≤ (flds c).length →
                    ∃ a1 C dx1 fs, V.ref a = .ref a1 ∧ H3 a1 = some (.ins C dx1 fs) ∧ Cls X.K C ∧ NoAttr X.K C f ∧ fs.length < 1000 ∧ D.nx σ (upd H3 a1 (.ins C dx1 (putF f v fs))) := fun ys h1 h2 h3 => by
                  obtain ⟨hd5, f5⟩ := hd3.put (c2 := .ob c l2) (o := .ins (Z.cm c) dx ((flds c).zip ys)) ha q (fun c => nomatch c) ⟨dx, ys, rfl, h3, h2⟩
                  refine ⟨a, Z.cm c, dx, _, rfl, e1, hK ▸ fd.cl, hK ▸ fd.na, ?_, ?_⟩
                  · have := flds_len c
                    rw [List.length_zip]
                    omega
                  · rw [h1]
                    exact w3 _ _ _ _ f5 hd5 (oe3.up f5.g f5.a)
                by_cases hi : i < l.length
                · rw [if_pos hi] at q3
                  cases q3
                  refine fin (xs.set i v) ?_ (e3.set ovv) (by rw [List.length_set]; exact e2)
                  rw [putF_zip (flds_nd c) q4 hxl (by rw [e3.len]; omega), if_pos (by rw [e3.len]; exact hi)]
                · rw [if_neg hi] at q3
                  by_cases hi2 : i = l.length
                  · rw [if_pos hi2] at q3
                    cases q3
                    refine fin (xs ++ [v]) ?_ (e3.app (OnL.cons' ovv OnL.nil')) (by have := idx_lt q4; rw [List.length_append, List.length_singleton]; omega)
                    rw [putF_zip (flds_nd c) q4 hxl (by rw [e3.len]; omega), if_neg (by rw [e3.len]; exact hi)]
                  · rw [if_neg hi2] at q3
                    cases q3
        | _ => exact w3.elim
end
end DN
namespace DN
open PySem PySem.Spec PyProof.Rows L2 Evl
theorem passE {X : Cx} : Passes (L2.CX X.prog X.w) X E0 := fun _ _ _ _ _ _ _ h => by
  obtain ⟨_, _, _, _, _, _, _, _, _, _, _, _, h⟩ := h
  exact h.elim
/-- for each class: how many arguments, what the def computes -/
abbrev MT := List (String × Nat × FD)
def MT.at (t : MT) (c : String) : Option (Nat × FD) := match t with
  | [] => none
  | (b, p) :: r => if b == c then some p else MT.at r c
def AllM (P : String → Nat → FD → Prop) : MT → Prop
  | [] => True
  | (c, n, D) :: r => P c n D ∧ AllM P r
theorem AllM.mem {P : String → Nat → FD → Prop} : ∀ {t : MT} {c : String} {n : Nat} {D : FD}, AllM P t → t.at c = some (n, D) → P c n D
  | [], c, n, D, _, h => by cases h
  | (b, p, q) :: r, c, n, D, h, e => by
    have e' : (if b == c then some (p, q) else MT.at r c) = some (n, D) := e
    cases g : b == c with
    | true =>
      rw [g] at e'
      cases e'
      rw [← beq_iff_eq.mp g]
      exact h.1
    | false =>
      rw [g] at e'
      exact AllM.mem h.2 e'
def clsV (S : Sto) : Vr → Option String
  | .d (.obj c _) => some c
  | .r n => match S[n]? with
    | some (.ob c _) => some c
    | _ => none
  | _ => none
section
variable {Z : Zx} {X : Cx} {G H G2 H2 : Hp} {α α2 : List Addr} {S : Sto} {Q : VK} {E : XK}
theorem clsV_on {o : Vr} {x : V} {c : String} (hd : Hd Z G α S H) (ox : OnR Z G α o x) (e : clsV S o = some c) : ∃ a dx xs, x = .ref a ∧ H a = some (.ins (Z.cm c) dx ((flds c).zip xs)) := by
  cases o with
  | d d =>
    cases d with
    | obj b l =>
      cases e
      have h := On.h hd.ex (show On Z G (.obj c l) x from ox)
      obtain ⟨a, dx, xs, h1, h2, _⟩ := h
      exact ⟨a, dx, xs, h1, h2⟩
    | _ => cases e
  | r n =>
    obtain ⟨a, rfl, ha⟩ := ox
    obtain ⟨cl, h1, h2, h3⟩ := hd.cell2 ha
    unfold clsV at e
    simp only [h1] at e
    cases cl with
    | ob b l =>
      cases e
      obtain ⟨dx, xs, h4, _⟩ := h3
      exact ⟨a, dx, xs, rfl, h4⟩
    | _ => cases e
theorem zip_no {f : Str} : ∀ {fs : List Str} {xs : List V}, fs.contains f = false → (fs.zip xs).lookup f = none
  | [], _, _ => rfl
  | n :: r, [], _ => rfl
  | n :: r, x :: t, h => by
    show List.lookup f ((n, x) :: (r.zip t)) = none
    rw [List.contains_cons, Bool.or_eq_false_iff] at h
    simp only [List.lookup, h.1]
    exact zip_no h.2
structure MtOk (X : Cx) (m : Str) (C : Addr) (sp : Sp) : Prop where
  ex : ∃ b k f fd ps, RoomG b k X.A ∧ Cls X.K C ∧ Meth X.K C m f ∧ FnG b X.prog X.w X.K X.mg X.base (L2.CX X.prog X.w) k f fd ps sp ∧ Binds X.K fd ps []
def tMethX (X : Cx) (W : WX) (m : Str) (ta : TE) (t : TA) : TE := fun σ H Q => ta σ H fun x H1 => ∃ a dx fs C sp, x = .ref a ∧ H1 a = some (.ins C dx fs) ∧ MtOk X m C sp ∧ fs.lookup m = none ∧ t σ H1 fun vs H2 => sp (.ref a :: vs) H2 Q (WE W σ)
variable {W : WX} {o e : Expr} {es : List Expr} {m x : Str} {p pos apos : Pos} {ta : TE} {t : TA} {fo : FE} {fa : FA}
theorem pe_methX {pl : Sem Bool} (he : PE X o ta) (tk : Takes X W) (ha : PA X (e :: es) t)
    (hst : starEach (e :: es) X.env = (false, eval e X.env) :: starEach es X.env := by rfl) (hpl : (backTo pos (starEach es X.env)).any (·.1) = false := by rfl)
    (ht : eval (.Call (.Attribute o m apos) (e :: es) [] pos) X.env = (do
      let ov ← eval o X.env
      standAt apos.atName
      let (f, first) ← holding [ov] (getMethod ov m pl)
      callWith pos f first (backTo pos (starEach (e :: es) X.env)) (backToKw pos (keywordEach [] X.env))) := by rfl) :
    PE X (.Call (.Attribute o m apos) (e :: es) [] pos) (tMethX X W m ta t) := by
  refine ⟨fun pins s σ H Q I h => ?_⟩
  refine PySem.W.methodCall_KW (pl := pl) (thn (he.run pins s σ H _ I h) fun u s1 ⟨x, H1, I1, rx, a, dx, fs, C, sp, ex, ea, mt, l, q⟩ => ?_) ht
  subst ex
  obtain rfl : u = Value.ref a := rx
  obtain ⟨bb, k, f, fd, ps, hr, c, hm, F, hb⟩ := mt.ex
  refine getmeth_ok I1 ea c hm l ?_
  refine PySem.W.callWith_K (first := [.ref a]) (h₀ := X.base) I.ok.mod.kin hm.kp (thn (ha.run pos pins s1 σ H1 _ I1 q) fun us s2 ⟨vs, H2, I2, r, q2⟩ => ⟨I2.kIn, ?_⟩) hst hpl
  exact run_fnG (us := .ref a :: us) (vs := .ref a :: vs) (dvs := []) (E := WE W σ) F hr hb .nil (passAt tk σ) I2 (.cons rfl r) (by rw [List.append_nil]; exact q2)
def fMethD (t : MT) (fo : FE) (fa : FA) : FE := fun env S => (fo env S).bindV fun S1 o => match clsV S1 o with
  | some c => (match t.at c with
    | some (n, D) => (fa env S1).bind fun S2 l => if (o :: l).length = n then D (o :: l) S2 else .no
    | none => .no)
  | none => .no
/-- the class c has the method -/
structure MtD (X : Cx) (Z : Zx) (m : Str) (c : String) (n : Nat) (D : FD) : Prop where
  ok : MtOk X m (Z.cm c) (spD Z n D)
  nf : (flds c).contains m = false
theorem se_methD {T : MT} (hT : AllM (MtD X Z m) T) (ho : SE Z (WE W) ta fo) (ha : SA Z (WE W) t fa) : SE Z (WE W) (tMethX X W m ta t) (fMethD T fo fa) := fun env σ G α S H Q hd oe w => by
  refine ho.bind hd oe w fun S2 a x H2 G2 α2 f2 hd2 oe2 ox w2 => ?_
  cases q : clsV S2 a with
  | none => simp only [q] at w2; exact w2.elim
  | some c =>
    simp only [q] at w2
    cases q2 : T.at c with
    | none => simp only [q2] at w2; exact w2.elim
    | some nD =>
      obtain ⟨n, D⟩ := nD
      simp only [q2] at w2
      obtain ⟨b, dx, xs, rfl, hb⟩ := clsV_on hd2 ox q
      have mt := hT.mem q2
      refine ⟨b, dx, _, _, _, rfl, hb, mt.ok, zip_no mt.nf, ha.bind hd2 oe2 w2 fun S3 l vs H3 G3 α3 f3 hd3 oe3 ol w3 => ?_⟩
      exact sp_of hd3 (l := a :: l) ⟨_, _, rfl, ox.up f3.g f3.a, ol⟩ w3
theorem pf_methD {pl : Sem Bool} {T : MT} (tk : Takes X W) (hT : AllM (MtD X Z m) T) (ho : PF Z (WE W) X o fo) (ha : PAF Z (WE W) X (e :: es) fa)
    (hst : starEach (e :: es) X.env = (false, eval e X.env) :: starEach es X.env := by rfl) (hpl : (backTo pos (starEach es X.env)).any (·.1) = false := by rfl)
    (ht : eval (.Call (.Attribute o m apos) (e :: es) [] pos) X.env = (do
      let ov ← eval o X.env
      standAt apos.atName
      let (f, first) ← holding [ov] (getMethod ov m pl)
      callWith pos f first (backTo pos (starEach (e :: es) X.env)) (backToKw pos (keywordEach [] X.env))) := by rfl) :
    PF Z (WE W) X (.Call (.Attribute o m apos) (e :: es) [] pos) (fMethD T fo fa) := by
  obtain ⟨to, h1, h2⟩ := ho.ex
  obtain ⟨ta, h3, h4⟩ := ha.ex
  exact ⟨_, pe_methX (pl := pl) h1 tk h3 hst hpl ht, se_methD hT h2 h4⟩
def okR : R Rt → R Rt
  | .ex _ _ => .no
  | r => r
theorem okR_ok {r : R Rt} {E' : XK} (w : Wk Z (okR r) G α H (pRt Z Q) E) : Wk Z r G α H (pRt Z Q) E' := by
  cases r with
  | no => exact w.elim
  | ex S x => exact w.elim
  | ok S b => exact w
def fAsk1 (t : MT) (S : Sto) (o : Vr) : R Rt := match clsV S o with
  | some c => (match t.at c with
    | some (n, D) => if [o].length = n then okR (D [o] S) else .no
    | none => .no)
  | none => .no
def fPropD (t : MT) (fo : FE) : FE := fun env S => (fo env S).bindV fun S1 o => fAsk1 t S1 o
def makeR (k : Nat) (r : R Rt) : R Rt := match r with
  | .ok S (.val (.d .non)) => (match S[k]? with
    | some (.ob c l) => .ok (S.take k) (.new (.ob c l))
    | _ => .no)
  | .ok _ _ => .no
  | .ex S x => cutX k S x
  | .no => .no
def fMakeD (c : String) (dl : List Dv) (n : Nat) (D : FD) (fa : FA) : FE := fun env S => (fa env S).bind fun S1 l =>
  if (Vr.r S1.length :: (l ++ dl.map .d)).length = n then makeR S1.length (D (.r S1.length :: (l ++ dl.map .d)) (S1 ++ [.ob c []])) else .no
structure MkOk (X : Cx) (Z : Zx) (c : String) (dl : List Dv) (n : Nat) (D : FD) : Prop where
  ex : ∃ b k f fd ps ds dvs, RoomG b (k + 1) X.A ∧ Mk X.K (Z.cm c) f ∧ FnG b X.prog X.w X.K X.mg X.base (L2.CX X.prog X.w) k f fd ps (spD Z n D) ∧ Binds X.K fd ps ds ∧ Vals dvs ds ∧ ∀ G, OnL Z G dl dvs
theorem run_makeW {b : Bool} {k : Nat} {C f : Addr} {fd : FuncData} {ps : List Str} {sp : Sp} {dvs : List V} {ds : List Value} {CX : CXT} {pins : List (Addr × Obj)} {σ : L2.St} {H : Hp} {s : Shared} {Q : VK} {us : List Value} {vs : List V} (M : Mk X.K C f) (F : FnG b X.prog X.w X.K X.mg X.base CX k f fd ps sp) (hr : RoomG b (k + 1) X.A) (hb : Binds X.K fd ps ds) (hd : Vals dvs ds)
    (hx : PassesAt CX X σ E) (I : Inv X pins σ H s) (r : Vals vs us)
    (h : ∀ x dx, H x = none → H dx = none → dx ≠ x → sp (.ref x :: (vs ++ dvs)) (upd (upd H dx (.own x)) x (.ins C dx [])) (fun v H2 => v = .non ∧ Q (.ref x) H2) E) :
    wpAny (model X.prog X.w) X.A (call (.ref C) us) (EP X pins σ Q) X.xe s := by
  have hq := h (s.heap.objs.size + 1) s.heap.objs.size (I.hok.fresh (Nat.le_succ _)) (I.hok.fresh (Nat.le_refl _)) (Nat.ne_of_lt (Nat.lt_succ_self _))
  have I2 := Inv.made (C := C) I
  have r2 : Vals (V.ref (s.heap.objs.size + 1) :: (vs ++ dvs)) (Value.ref (s.heap.objs.size + 1) :: (us ++ ds)) := .cons rfl (r.append hd)
  have hl : (Value.ref (s.heap.objs.size + 1) :: us ++ ds).length = ps.length := by
    have e := r2.length
    rw [F.len _ _ _ _ hq] at e
    exact e.symm
  refine wpAny_call (make_map (f := f) I.kIn M.makes M.init (beq_iff_eq.mp M.fn) (codeAny_mono (F.run _ X.stack _ _ ⟨Value.ref (s.heap.objs.size + 1) :: us, []⟩ (Value.ref (s.heap.objs.size + 1) :: (us ++ ds)) _ _ E (hr.make C us [])
    (I2.env0.make C us []) (hb _ (Value.ref (s.heap.objs.size + 1) :: us) I2.kIn hl) r2 hq) fun r s' hq' => ?_))
  cases r with
  | error e => exact hx pins _ _ e s' I2 hq'
  | ok fl =>
    cases fl with
    | ret u =>
      obtain ⟨v, H', I3, rv, ev, q3⟩ := I2.after hq'
      subst ev
      exact ⟨rv, ⟨V.ref (s.heap.objs.size + 1), H', I3, rfl, q3⟩⟩
    | next => exact False.elim hq'
    | brk => exact False.elim hq'
    | cont => exact False.elim hq'
def tMakeW (C : Addr) (sp : Sp) (dvs : List V) (W : WX) (t : TA) : TE := fun σ H Q => t σ H fun vs H1 => ∀ x dx, H1 x = none → H1 dx = none → dx ≠ x → sp (.ref x :: (vs ++ dvs)) (upd (upd H1 dx (.own x)) x (.ins C dx [])) (fun v H2 => v = .non ∧ Q (.ref x) H2) (WE W σ)
theorem OnA.app : ∀ {l m : List Vr} {xs ys : List V}, OnA Z G α l xs → OnA Z G α m ys → OnA Z G α (l ++ m) (xs ++ ys)
  | [], _, _, _, h, g => by rw [show _ = [] from h]; exact g
  | d :: l, m, xs, ys, h, g => by
    obtain ⟨y, zs, rfl, h2, h3⟩ := h
    exact ⟨y, zs ++ ys, rfl, h2, OnA.app h3 g⟩
theorem OnL.toA : ∀ {l : List Dv} {xs : List V}, OnL Z G l xs → OnA Z G α (l.map .d) xs
  | [], _, h => OnL.nil.mp h
  | d :: l, xs, h => by
    obtain ⟨y, ys, rfl, h2, h3⟩ := OnL.cons.mp h
    exact ⟨y, ys, rfl, h2, OnL.toA h3⟩
/-- the new instance is a cell -/
theorem make_ok {c : String} {n : Nat} {D : FD} {l : List Vr} {vs : List V} (hd : Hd Z G α S H) (ol : OnA Z G α l vs) (w : Wk Z (if (Vr.r S.length :: l).length = n then makeR S.length (D (.r S.length :: l) (S ++ [.ob c []])) else .no) G α H (pRt Z Q) E) :
    ∀ x dx, H x = none → H dx = none → dx ≠ x → spD Z n D (.ref x :: vs) (upd (upd H dx (.own x)) x (.ins (Z.cm c) dx [])) (fun v H2 => v = .non ∧ Q (.ref x) H2) E := by
  intro x dx hx hdx hne
  by_cases hl : (Vr.r S.length :: l).length = n
  · rw [if_pos hl] at w
    obtain ⟨hd1, f1⟩ := hd.know (o := .own x) hdx
    have hx1 : upd H dx (.own x) x = none := by rw [upd_ne hne.symm]; exact hx
    have hd2 := hd1.grow (Ex.new (o := .ins (Z.cm c) dx []) hx1)
    have f2 := f1.trans (Fr.grow hd1 (Ex.new (o := .ins (Z.cm c) dx []) hx1))
    have hG : upd G dx (.own x) x = none := fresh_back hd1.ex hx1
    have nm : x ∉ α := fun hm => hd.live hm hx
    have hd3 := hd2.push (c := .ob c []) hG nm ⟨dx, [], by rw [upd_same, List.zip_nil_right], Nat.zero_le _, OnL.nil'⟩
    have f3 := f2.push hx
    refine ⟨_, _, _, .r S.length :: l, hd3, ⟨_, _, rfl, ⟨x, rfl, by rw [← hd.len, List.getElem?_append_right (Nat.le_refl _), Nat.sub_self]; rfl⟩, ol.up f3.g f3.a⟩, hl, ?_⟩
    cases q : D (.r S.length :: l) (S ++ [.ob c []]) with
    | no => rw [q] at w; exact w.elim
    | ex S2 x =>
      rw [q] at w
      exact Xp.later (cutX_ok (by rw [hd.len]; exact w)) f3
    | ok S2 b =>
      rw [q] at w
      cases b with
      | new _ => exact w.elim
      | val v =>
        cases v with
        | r _ => exact w.elim
        | d v =>
          cases v with
          | non =>
            intro H2 G2 α2 f4 hd4 y oy
            have f5 := f3.trans f4
            refine ⟨by have : On Z G2 .non y := oy; unfold On at this; exact this, ?_⟩
            cases q2 : S2[S.length]? with
            | none => simp only [makeR, q2] at w; exact w.elim
            | some cl =>
              cases cl with
              | ob c' l' =>
                simp only [makeR, q2] at w
                rw [← hd.len] at w q2
                have ha : α2[α.length]? = some x := f4.a.get (by rw [List.getElem?_append_right (Nat.le_refl _), Nat.sub_self]; rfl)
                exact w H2 G2 α f5.cut (take_pre f5 hd4) x (own_cell hd f5 hd4 (Nat.lt_irrefl _) ha q2 (fun e => nomatch e) (fun _ e => nomatch e))
              | _ => simp only [makeR, q2] at w; exact w.elim
          | _ => exact w.elim
  · rw [if_neg hl] at w
    exact w.elim
theorem pf_make {c : String} {dl : List Dv} {n : Nat} {D : FD} (M : MkOk X Z c dl n D) (tk : Takes X W) (hg : Gl X x) (hm : X.mg x = some (.ref (Z.cm c))) (ha : PAF Z (WE W) X (e :: es) fa)
    (hdb : (x == ("__debug__" : Str)) = false := by decide) (he : starEach (e :: es) X.env = (false, eval e X.env) :: starEach es X.env := by rfl) (hpl : (backTo pos (starEach es X.env)).any (·.1) = false := by rfl) :
    PF Z (WE W) X (.Call (.Name x p) (e :: es) [] pos) (fMakeD c dl n D fa) := by
  obtain ⟨bb, k, f, fd, ps, ds, dvs, hr, M, F, hb, hdv, hdl⟩ := M.ex
  obtain ⟨ta, h1, h2⟩ := ha.ex
  refine ⟨tMakeW (Z.cm c) (spD Z n D) dvs W ta, ⟨fun pins s σ H Q I h => ?_⟩, fun env σ G α S H Q hd oe w => h2.bind hd oe w fun S2 l vs H2 G2 α2 f2 hd2 oe2 ol w2 => ?_⟩
  · refine wpAny_Call_Name_kw (ld_glob I hg hm ?_ hdb)
    refine PySem.W.callWith_K (h₀ := X.base) I.ok.mod.kin M.kp (thn (h1.run pos pins s σ H _ I h) fun us s1 ⟨vs, H1, I1, r, q⟩ => ⟨I1.kIn, ?_⟩) he hpl
    exact run_makeW M F hr hb hdv (passAt tk σ) I1 r q
  · exact make_ok hd2 (ol.app (hdl G2).toA) w2
/-- cls(..), the class held by a name -/
def fMakeL (i : Nat) (c : String) (n : Nat) (D : FD) (fa : FA) : FE := fun env S => match env[i]? with
  | some (.v (.d (.cls b))) => if b == c then fMakeD c [] n D fa env S else .no
  | _ => .no
def fCMeth (c : String) (n : Nat) (D : FD) (fo : FE) (fa : FA) : FE := fun env S => (fo env S).bindV fun S1 o => match o with
  | .d (.cls b) => if b == c then (fa env S1).bind fun S2 l => if (Vr.d (.cls c) :: l).length = n then D (.d (.cls c) :: l) S2 else .no else .no
  | _ => .no
end
end DN
namespace DN
open PySem PySem.Spec PyProof.Rows L2 Evl
inductive Tk where
  | b (n : String) | o (c : String)
def TYS : List String := ["bool", "int", "str", "list", "tuple", "dict"]
def tkD : Dv → Option Tk
  | .non => some (.b "NoneType")
  | .bl _ => some (.b "bool")
  | .int _ => some (.b "int")
  | .str _ => some (.b "str")
  | .lst _ => some (.b "list")
  | .tup _ => some (.b "tuple")
  | .ktp _ => some (.b "tuple")
  | .dic _ _ _ => some (.b "dict")
  | .obj c _ => some (.o c)
  | _ => none
def tkV (Z : Zx) : Tk → Value
  | .b n => .type n
  | .o c => .ref (Z.cm c)
structure ClOk (Z : Zx) (c : String) : Prop where
  cl : Cls Z.K (Z.cm c)
  it : OP.InsT Z.K (Z.cm c)
  kc : PySem.W.kitOne Z.K (.type "int") (.ref (Z.cm c)) = some false
  kb : AllC (fun t => PySem.W.kitOne Z.K (.ref (Z.cm c)) (.type t) = some false) TYS
structure CsOk (Z : Zx) (cs : List String) : Prop where
  all : AllC (ClOk Z) cs
  two : AllC (fun c => AllC (fun d => c = d ∨ PySem.W.kitOne Z.K (.ref (Z.cm c)) (.ref (Z.cm d)) = some false) cs) cs
def BTS : List String := ["NoneType", "bool", "int", "str", "list", "tuple", "dict"]
/-- is a thing of type k one of the class d? -/
def isa1 (cs : List String) (k : Tk) (d : Dv) : Option Bool := match k, d with
  | .b n, .ty m => if BTS.contains n && TYS.contains m then some (n == m || (n == "bool" && m == "int")) else none
  | .b n, .cls c => if BTS.contains n && cs.contains c then some false else none
  | .o c, .ty m => if cs.contains c && TYS.contains m then some false else none
  | .o c, .cls e => if cs.contains c && cs.contains e then some (c == e) else none
  | _, _ => none
def okT (cs : List String) : Tk → Bool
  | .b n => BTS.contains n
  | .o c => cs.contains c
section
variable {Z : Zx} {X : Cx} {G H G2 H2 : Hp} {α α2 : List Addr} {S : Sto} {Q : VK} {E : XK} {cs : List String}
theorem beq_tr (n : String) (C : Addr) : (Value.type n == Value.ref C) = false := rfl
theorem kit_c {C : Addr} (h : PySem.W.kitOne Z.K (.type "int") (.ref C) = some false) : ((PySem.W.clsIn Z.K C).isSome && PySem.W.typeIn Z.K (.ref C) == some (.type "type")) = true := by
  unfold PySem.W.kitOne at h
  rw [beq_tr] at h
  simp only [Bool.false_eq_true, if_false] at h
  unfold PySem.W.kitCls at h
  simp only at h
  split at h
  · assumption
  · cases h
theorem kit_bo {C : Addr} {n : String} (h : PySem.W.kitOne Z.K (.type "int") (.ref C) = some false) (hn : BTS.contains n = true) : PySem.W.kitOne Z.K (.type n) (.ref C) = some false := by
  have h2 := kit_c h
  unfold PySem.W.kitOne
  rw [beq_tr]
  simp only [Bool.false_eq_true, if_false]
  unfold PySem.W.kitCls
  simp only [h2, if_true]
  simp only [BTS, List.contains_cons, List.contains_nil, Bool.or_false, Bool.or_eq_true, beq_iff_eq] at hn
  rcases hn with rfl | rfl | rfl | rfl | rfl | rfl | rfl <;> rfl
theorem sub_bo {C : Addr} {n : String} (hn : BTS.contains n = true) : PySem.W.subIn Z.K (.type n) (.ref C) = some false := by
  simp only [BTS, List.contains_cons, List.contains_nil, Bool.or_false, Bool.or_eq_true, beq_iff_eq] at hn
  rcases hn with rfl | rfl | rfl | rfl | rfl | rfl | rfl <;> rfl
theorem kit_bb {n m : String} (hn : BTS.contains n = true) (hm : TYS.contains m = true) : PySem.W.kitOne Z.K (.type n) (.type m) = some (n == m || (n == "bool" && m == "int")) := by
  simp only [BTS, List.contains_cons, List.contains_nil, Bool.or_false, Bool.or_eq_true, beq_iff_eq] at hn
  simp only [TYS, List.contains_cons, List.contains_nil, Bool.or_false, Bool.or_eq_true, beq_iff_eq] at hm
  rcases hn with rfl | rfl | rfl | rfl | rfl | rfl | rfl <;> rcases hm with rfl | rfl | rfl | rfl | rfl | rfl <;> rfl
theorem isa1_ok (C : CsOk Z cs) {k : Tk} {d : Dv} {b : Bool} (h : isa1 cs k d = some b) : ∃ x u, (∀ G, On Z G d x) ∧ ClsV x u ∧ PySem.W.kitOne Z.K (tkV Z k) u = some b := by
  cases k with
  | b n =>
    cases d with
    | ty m =>
      have h : (if BTS.contains n && TYS.contains m then some (n == m || (n == "bool" && m == "int")) else none) = some b := h
      split at h
      · rename_i q
        obtain ⟨q1, q2⟩ := and2 q
        cases h
        exact ⟨.ty m, .type m, fun G => on_ty, .ty m, kit_bb q1 q2⟩
      · cases h
    | cls c =>
      have h : (if BTS.contains n && cs.contains c then some false else none) = some b := h
      split at h
      · rename_i q
        obtain ⟨q1, q2⟩ := and2 q
        cases h
        exact ⟨.ref (Z.cm c), .ref (Z.cm c), fun G => on_cls, .own _, kit_bo (C.all.mem q2).kc q1⟩
      · cases h
    | _ => cases h
  | o c =>
    cases d with
    | ty m =>
      have h : (if cs.contains c && TYS.contains m then some false else none) = some b := h
      split at h
      · rename_i q
        obtain ⟨q1, q2⟩ := and2 q
        cases h
        exact ⟨.ty m, .type m, fun G => on_ty, .ty m, (C.all.mem q1).kb.mem q2⟩
      · cases h
    | cls e =>
      have h : (if cs.contains c && cs.contains e then some (c == e) else none) = some b := h
      split at h
      · rename_i q
        obtain ⟨q1, q2⟩ := and2 q
        cases h
        refine ⟨.ref (Z.cm e), .ref (Z.cm e), fun G => on_cls, .own _, ?_⟩
        cases q3 : c == e with
        | true =>
          rw [beq_iff_eq.mp q3]
          show PySem.W.kitOne Z.K (.ref (Z.cm e)) (.ref (Z.cm e)) = some true
          unfold PySem.W.kitOne
          rw [if_pos (by simp)]
        | false =>
          rcases (C.two.mem q1).mem q2 with rfl | h
          · simp at q3
          · exact h
      · cases h
    | _ => cases h
theorem tk_on (C : CsOk Z cs) {d : Dv} {y : V} {k : Tk} (eG : Ex G H) (h : OnH Z G H d y) (e : tkD d = some k) (hk : okT cs k = true) : TyX Z.K H y (tkV Z k) := by
  cases d with
  | non => cases e; cases h; exact .base .non
  | bl b => cases e; cases h; exact .base (.bl b)
  | int b => cases e; cases h; exact .base (.int b)
  | str b => cases e; cases h; exact .base (.str b)
  | lst l => cases e; obtain ⟨a, xs, rfl, h2, _⟩ := h; exact .base (.lst h2)
  | tup l => cases e; obtain ⟨a, xs, rfl, h2, _⟩ := h; exact .base (.tup (eG _ _ h2))
  | ktp l =>
    cases e
    obtain ⟨a, xs, rfl, h1, _⟩ := h
    rcases h1 with ⟨_, o, h1, h2, _⟩ | ⟨o, _, _, h1⟩
    · exact .kTuple h1 h2
    · exact .fTuple (eG _ _ h1)
  | obj c l =>
    cases e
    obtain ⟨a, dx, xs, rfl, h2, _⟩ := h
    have cc := C.all.mem hk
    exact .base (.ins h2 cc.cl cc.it.ha cc.it.hn cc.it.htk cc.it.hm)
  | dic t ks vs =>
    cases e
    obtain ⟨a, ws, rfl, h2, _⟩ := h
    cases t with
    | false => obtain ⟨kk, _, h3⟩ := h2; exact .base (.dK h3)
    | true => obtain ⟨kk, _, h3⟩ := h2; exact .base (.dT h3)
  | _ => cases e
/-- all classes of the tuple are asked -/
def isaA (cs : List String) (k : Tk) : List Dv → Option Bool
  | [] => some false
  | d :: l => match isa1 cs k d, isaA cs k l with
    | some a, some b => some (a || b)
    | _, _ => none
theorem isaA_ok (C : CsOk Z cs) {k : Tk} : ∀ {l : List Dv} {b : Bool} {xs : List V}, isaA cs k l = some b → OnL Z G l xs → ∃ us, Paired ClsV xs us ∧ PySem.W.kitAny Z.K (tkV Z k) us = some b
  | [], b, xs, h, o => by
    cases h
    rw [OnL.nil.mp o]
    exact ⟨[], .nil, rfl⟩
  | d :: l, b, xs, h, o => by
    obtain ⟨y, ys, rfl, h2, h3⟩ := OnL.cons.mp o
    have h : (match isa1 cs k d, isaA cs k l with | some a, some b => some (a || b) | _, _ => none) = some b := h
    cases q : isa1 cs k d with
    | none => rw [q] at h; cases h
    | some c =>
      cases q2 : isaA cs k l with
      | none => rw [q, q2] at h; cases h
      | some c2 =>
        rw [q, q2] at h
        cases h
        obtain ⟨x, u, e1, e2, e3⟩ := isa1_ok C q
        have ey : y = x := by
          cases d with
          | ty m => have a := e1 G; unfold On at a h2; rw [a, h2]
          | cls m => have a := e1 G; unfold On at a h2; rw [a, h2]
          | _ => cases k <;> cases q
        subst ey
        obtain ⟨us, f1, f2⟩ := isaA_ok C (l := l) q2 h3
        exact ⟨u :: us, .cons e2 f1, kitAny_cons e3 (fun h => by rw [h]; exact f2) (fun h => by rw [h]; rfl)⟩
end
def gIsi (cs : List String) (x c : Dv) : Option Rt := match tkD x with
  | some k => if okT cs k then (match c with
    | .tup l => (match isaA cs k l with
      | some b => vB b
      | none => none)
    | c => (match isa1 cs k c with
      | some b => vB b
      | none => none)) else none
  | none => none
def arg2 (f : Dv → Dv → Option Rt) : List Dv → Option Rt
  | [x, y] => f x y
  | _ => none
section
variable {Z : Zx} {X : Cx} {G H G2 H2 : Hp} {α α2 : List Addr} {S : Sto} {Q : VK} {E : XK} {cs : List String}
theorem arg2_ok {P : Pst Rt} {f : Dv → Dv → Option Rt} {l : List Dv} {xs : List V} (h : OnHA Z G H l xs) (w : Wk Z (R.of S (arg2 f l)) G α H P E) : ∃ x x2 y y2, xs = [y, y2] ∧ OnH Z G H x y ∧ OnH Z G H x2 y2 ∧ Wk Z (R.of S (f x x2)) G α H P E := by
  cases l with
  | nil => exact w.elim
  | cons a r =>
    cases r with
    | nil => exact w.elim
    | cons b r =>
      cases r with
      | nil =>
        obtain ⟨y, z, e, o, o2⟩ := h.two
        exact ⟨a, b, y, z, e, o, o2, w⟩
      | cons c r => exact w.elim
theorem cd_isi (C : CsOk Z cs) (hK : X.K = Z.K) : CallR X (.builtin "isinstance") (rA Z (arg2 (gIsi cs))) := by
  intro pins s σ H xs us Q I r h
  obtain ⟨G, α, S, l, hd, ol, w⟩ := h
  obtain ⟨x, c, y, z, rfl, ox, oc, w⟩ := arg2_ok ol w
  unfold gIsi at w
  cases q : tkD x with
  | none => rw [q] at w; exact w.elim
  | some k =>
    rw [q] at w
    simp only at w
    by_cases q2 : okT cs k = true
    · rw [if_pos q2] at w
      have ty := tk_on C hd.ex ox q q2
      rw [← hK] at ty
      by_cases ht : ∃ l, c = .tup l
      · obtain ⟨l, rfl⟩ := ht
        simp only at w
        cases q3 : isaA cs k l with
        | none => rw [q3] at w; exact w.elim
        | some b =>
          rw [q3] at w
          obtain ⟨tp, cs', rfl, h1, h2⟩ := oc
          obtain ⟨us', f1, f2⟩ := isaA_ok C q3 h2
          exact call_isiT pins s σ H _ us Q I r ⟨y, tp, cs', _, us', b, rfl, hd.ex _ _ h1, f1, ty, hK ▸ f2, wB w hd⟩
      · have w' : Wk Z (R.of S (match isa1 cs k c with | some b => vB b | none => none)) G α H (pRt Z Q) E0 := by
          cases c with
          | tup l => exact absurd ⟨l, rfl⟩ ht
          | _ => exact w
        cases q3 : isa1 cs k c with
        | none => rw [q3] at w'; exact w'.elim
        | some b =>
          rw [q3] at w'
          obtain ⟨x', u, e1, e2, e3⟩ := isa1_ok C q3
          have ez : z = x' := by
            cases c with
            | ty m => have a := e1 G; unfold On at a; have oc : z = .ty m := oc; rw [a, oc]
            | cls m => have a := e1 G; unfold On at a; have oc : z = .ref (Z.cm m) := oc; rw [a, oc]
            | _ => cases k <;> cases q3
          subst ez
          exact OP.call_isZ pins s σ H _ us Q I r ⟨y, z, _, u, b, rfl, e2, .x ty, hK ▸ e3, wB w' hd⟩
    · rw [if_neg q2] at w
      exact w.elim
def onlyV (p : Dv → Option Dv) (r : R Rt) : R Rt := match r with
  | .ok S (.val (.d d)) => (match p d with
    | some e => .ok S (.val (.d e))
    | none => .no)
  | _ => .no
theorem only_ok {p : Dv → Option Dv} {r : R Rt} {Q' : VK} {E' : XK} (w : Wk Z (onlyV p r) G α H (pRt Z Q) E) (k : ∀ d d' v H' G', p d = some d' → On Z G' d v → (∀ v', On Z G' d' v' → Q v' H') → Q' v H') : Wk Z r G α H (pRt Z Q') E' := by
  cases r with
  | no => exact w.elim
  | ex S x => exact w.elim
  | ok S b =>
    cases b with
    | new c => exact w.elim
    | val v =>
      cases v with
      | r n => exact w.elim
      | d d =>
        cases e : p d with
        | none => simp only [onlyV, e] at w; exact w.elim
        | some d' =>
          simp only [onlyV, e] at w
          exact fun H2 G2 α2 f hd v ov => k d d' v H2 G2 e ov (w H2 G2 α2 f hd)
def pInt : Dv → Option Dv
  | .int i => if 0 ≤ i ∧ i < 2 ^ 63 then some (.int i) else none
  | _ => none
def pStr : Dv → Option Dv
  | .str i => some (.str i)
  | _ => none
def pBl (neg : Bool) : Dv → Option Dv
  | .bl b => some (.bl (if neg then !b else b))
  | _ => none
structure OwOk (X : Cx) (m : Str) (C : Addr) (sp : Sp) : Prop where
  ex : ∃ b k f fd ps, RoomG b (k + 2) X.A ∧ OP.OwnM X.K C m f ∧ FnG b X.prog X.w X.K X.mg X.base (L2.CX X.prog X.w) k f fd ps sp ∧ Binds X.K fd ps []
structure OwD (X : Cx) (Z : Zx) (m : Str) (c : String) (n : Nat) (D : FD) : Prop where
  ok : OwOk X m (Z.cm c) (spD Z n D)
/-- the own method of o, at these arguments -/
def askT (t : MT) (c : String) (l : List Vr) (S : Sto) : R Rt := match t.at c with
  | some (n, D) => if l.length = n then D l S else .no
  | none => .no
theorem ask_ok {T : MT} {P : String → Nat → FD → Prop} {c : String} {l : List Vr} {vs : List V} (hT : AllM P T) (hd : Hd Z G α S H) (ol : OnA Z G α l vs) (w : Wk Z (askT T c l S) G α H (pRt Z Q) E) : ∃ n D, P c n D ∧ spD Z n D vs H Q E := by
  unfold askT at w
  cases q2 : T.at c with
  | none => simp only [q2] at w; exact w.elim
  | some nD =>
    obtain ⟨n, D⟩ := nD
    simp only [q2] at w
    exact ⟨n, D, hT.mem q2, sp_of hd ol w⟩
/-- len -/
def lenR (T : MT) (S : Sto) (l : List Vr) : R Rt := match l with
  | [o] => (match clsV S o with
    | some c => onlyV pInt (askT T c [o] S)
    | none => gA S [o] gLen)
  | _ => .no
def fLenD (T : MT) (fa : FA) : FE := fun env S => (fa env S).bind fun S1 l => lenR T S1 l
def rLenX (Z : Zx) (T : MT) : List V → Hp → VK → Prop := fun xs H Q => ∃ G α S l, Hd Z G α S H ∧ OnA Z G α l xs ∧ Wk Z (lenR T S l) G α H (pRt Z Q) E0
theorem arg1A {l : List Vr} {xs : List V} {o : Vr} (h : OnA Z G α [o] xs) : ∃ x, xs = [x] ∧ OnR Z G α o x := by
  obtain ⟨y, ys, rfl, h1, h2⟩ := h
  cases (show ys = [] from h2)
  exact ⟨y, rfl, h1⟩
theorem lenR_any {T : MT} {l : List Vr} {E' : XK} (w : Wk Z (lenR T S l) G α H (pRt Z Q) E) : Wk Z (lenR T S l) G α H (pRt Z Q) E' := by
  unfold lenR at w ⊢
  split at w
  · split at w
    · unfold onlyV at w ⊢
      split at w
      · split at w
        · exact w
        · exact w.elim
      · exact w.elim
    · unfold gA at w ⊢
      split at w
      · exact w.any
      · exact w.elim
  · exact w.elim
theorem cd_lenO {T : MT} (hT : AllM (OwD X Z "__len__") T) (hK : X.K = Z.K) : CallR X (.builtin "len") (rLenX Z T) := by
  intro pins s σ H xs us Q I r h
  obtain ⟨G, α, S, l, hd, ol, w⟩ := h
  unfold lenR at w
  split at w
  · rename_i o
    obtain ⟨x, rfl, ox⟩ := arg1A (l := []) ol
    cases q : clsV S o with
    | none =>
      simp only [q] at w
      exact cd_len hK pins s σ H _ us Q I r (gA_ok hd ol w)
    | some c =>
      simp only [q] at w
      obtain ⟨b, dx, ys, rfl, hb⟩ := clsV_on hd ox q
      have w2 := only_ok (E' := E0) (Q' := fun v H' => ∃ i : Int, v = .int i ∧ 0 ≤ i ∧ i < 2 ^ 63 ∧ Q (.int i) H') w fun d d' v H' G' e ov k => by
        cases d with
        | int i =>
          have e : (if 0 ≤ i ∧ i < 2 ^ 63 then some (Dv.int i) else none) = some d' := e
          split at e
          · rename_i c
            cases e
            have ov : On Z G' (.int i) v := ov
            unfold On at ov
            exact ⟨i, ov, c.1, c.2, k _ on_int⟩
          · cases e
        | _ => cases e
      obtain ⟨n, D, P, sp⟩ := ask_ok hT hd ol w2
      obtain ⟨bb, k, f, fd, ps, hr, O, F, hbb⟩ := P.ok.ex
      exact call_lenG O F (hr.mono (by omega)) hbb passE pins s σ H _ us Q I r ⟨b, dx, _, rfl, hb, sp⟩
  · exact w.elim
variable {Ew : L2.St → XK} {x : Str} {p pos : Pos} {e : Expr} {es : List Expr} {fa : FA}
theorem pf_lenO {T : MT} (hT : AllM (OwD X Z "__len__") T) (hK : X.K = Z.K) (hg : Gl X "len") (hm : X.mg "len" = none) (ha : PAF Z Ew X (e :: es) fa)
    (he : starEach (e :: es) X.env = (false, eval e X.env) :: starEach es X.env := by rfl) (hpl : (backTo pos (starEach es X.env)).any (·.1) = false := by rfl) : PF Z Ew X (.Call (.Name "len" p) (e :: es) [] pos) (fLenD T fa) := by
  obtain ⟨ta, h1, h2⟩ := ha.ex
  exact ⟨_, pe_callB (cd_lenO hT hK) hg hm (by decide +kernel) h1 (by decide) (by decide) he hpl, fun env σ G α S H Q hd oe w => h2.bind hd oe w fun S2 l vs H2 G2 α2 f2 hd2 oe2 ol w2 => ⟨G2, α2, S2, l, hd2, ol, lenR_any w2⟩⟩
/-- str -/
def strR (T : MT) (S : Sto) (l : List Vr) : R Rt := match l with
  | [o] => (match clsV S o with
    | some c => onlyV pStr (askT T c [o] S)
    | none => gA S [o] gStr)
  | _ => .no
def fStrD (T : MT) (fa : FA) : FE := fun env S => (fa env S).bind fun S1 l => strR T S1 l
structure EqOk (X : Cx) (C : Addr) (sp : Sp) : Prop where
  ex : ∃ b k f fd ps, RoomG b (k + 1) X.A ∧ OP.OwnE X.K C f ∧ FnG b X.prog X.w X.K X.mg X.base (L2.CX X.prog X.w) k f fd ps sp ∧ Binds X.K fd ps []
structure EqD (X : Cx) (Z : Zx) (c : String) (n : Nat) (D : FD) : Prop where
  ok : EqOk X (Z.cm c) (spD Z n D)
def eqR (cs : List String) (T : MT) (neg : Bool) (S : Sto) (a b : Vr) : R Rt := match clsV S a with
  | some c => (match snap S b with
    | some y => (match tkD y with
      | some k => if okT cs k && cs.contains c then (match k, neg with
        | .b _, true => .no
        | .o e, true => if e == c then onlyV (pBl true) (askT T c [a, b] S) else .no
        | _, false => onlyV (pBl false) (askT T c [a, b] S)) else .no
      | none => .no)
    | none => .no)
  | none => g2 S a b (if neg then gNe else gEq)
def fEqD (cs : List String) (T : MT) (neg : Bool) (fa fb : FE) : FE := fun env S => (fa env S).bindV fun S1 a => (fb env S1).bindV fun S2 b => eqR cs T neg S2 a b
def rEqX (Z : Zx) (cs : List String) (T : MT) (neg : Bool) : R2 := fun x y H Q => ∃ G α S a b, Hd Z G α S H ∧ OnR Z G α a x ∧ OnR Z G α b y ∧ Wk Z (eqR cs T neg S a b) G α H (pRt Z Q) E0
theorem wk_noex {r : R Rt} {P : Pst Rt} {E' : XK} (h : ∀ S x, r ≠ .ex S x) (w : Wk Z r G α H P E) : Wk Z r G α H P E' := by
  cases r with
  | no => exact w
  | ok S b => exact w
  | ex S x => exact absurd rfl (h S x)
theorem onlyV_ne {p : Dv → Option Dv} {r : R Rt} : ∀ S x, onlyV p r ≠ .ex S x := fun S x h => by
  unfold onlyV at h
  split at h
  · split at h <;> cases h
  · cases h
theorem g2_ne {a b : Vr} {g : Dv → Dv → Option Rt} : ∀ S' x, g2 S a b g ≠ .ex S' x := fun S' x h => by
  unfold g2 at h
  split at h
  · unfold R.of at h
    split at h <;> cases h
  · cases h
theorem eqR_any {T : MT} {neg : Bool} {a b : Vr} {E' : XK} (w : Wk Z (eqR cs T neg S a b) G α H (pRt Z Q) E) : Wk Z (eqR cs T neg S a b) G α H (pRt Z Q) E' := by
  refine wk_noex (fun S' x h => ?_) w
  unfold eqR at h
  split at h
  · split at h
    · split at h
      · split at h
        · split at h
          · cases h
          · split at h
            · exact onlyV_ne _ _ h
            · cases h
          · exact onlyV_ne _ _ h
        · cases h
      · cases h
    · cases h
  · exact g2_ne _ _ h
theorem eq_own {T : MT} {neg : Bool} {c : String} {a b : Vr} {x y : V} (hT : AllM (EqD X Z) T) (hd : Hd Z G α S H) (ox : OnR Z G α a x) (oy : OnR Z G α b y) (w : Wk Z (onlyV (pBl neg) (askT T c [a, b] S)) G α H (pRt Z Q) E) :
    ∃ n D, EqD X Z c n D ∧ spD Z n D [x, y] H (fun v H' => ∃ t, v = .bl t ∧ Q (.bl (if neg then !t else t)) H') E0 := by
  have w2 := only_ok (E' := E0) (Q' := fun v H' => ∃ t, v = .bl t ∧ Q (.bl (if neg then !t else t)) H') w fun d d' v H' G' e ov k => by
    cases d with
    | bl i =>
      cases e
      have ov : On Z G' (.bl i) v := ov
      unfold On at ov
      exact ⟨i, ov, k _ on_bl⟩
    | _ => cases e
  exact ask_ok hT hd (l := [a, b]) ⟨_, _, rfl, ox, _, _, rfl, oy, rfl⟩ w2
theorem not_first {c : String} {k : Tk} (C : CsOk Z cs) (h1 : okT cs k = true) (h2 : cs.contains c = true) : PySem.W.notFirst Z.K (Z.cm c) (tkV Z k) = true := by
  unfold PySem.W.notFirst
  cases k with
  | b n =>
    rw [show tkV Z (.b n) = .type n from rfl, sub_bo h1]
    simp
  | o e =>
    rcases (C.two.mem h1).mem h2 with rfl | h
    · simp [tkV]
    · rw [show tkV Z (.o e) = .ref (Z.cm e) from rfl]
      unfold PySem.W.kitOne at h
      split at h
      · cases h
      · unfold PySem.W.kitCls at h
        simp only [kit_c (C.all.mem h2).kc, if_true] at h
        rw [h]
        simp
theorem od_eqO {T : MT} (C : CsOk Z cs) (hT : AllM (EqD X Z) T) (hu : X.A.units + 64 < cLine) (hK : X.K = Z.K) : OpR X (compareOp .Eq) (rEqX Z cs T false) := by
  intro pins s σ H x y v u Q I rx ry h
  obtain ⟨G, α, S, a, b, hd, ox, oy, w⟩ := h
  unfold eqR at w
  cases q : clsV S a with
  | none =>
    simp only [q] at w
    exact od_eq hu hK pins s σ H _ _ v u Q I rx ry (g2_ok hd ox oy w)
  | some c =>
    simp only [q] at w
    obtain ⟨a', dx, ys, rfl, hb⟩ := clsV_on hd ox q
    cases q2 : snap S b with
    | none => simp only [q2] at w; exact w.elim
    | some d =>
      simp only [q2] at w
      cases q3 : tkD d with
      | none => simp only [q3] at w; exact w.elim
      | some k =>
        simp only [q3] at w
        by_cases q4 : (okT cs k && cs.contains c) = true
        · rw [if_pos q4] at w
          obtain ⟨q5, q6⟩ := and2 q4
          have w2 : Wk Z (onlyV (pBl false) (askT T c [a, b] S)) G α H (pRt Z Q) E0 := by cases k <;> exact w
          obtain ⟨n, D, P, sp⟩ := eq_own hT hd ox oy w2
          obtain ⟨bb, k', f, fd, ps, hr, O, F, hbb⟩ := P.ok.ex
          exact op_ownEqG O F (hr.mono (by omega)) hbb passE pins s σ H _ _ v u Q I rx ry ⟨a', dx, _, _, rfl, hb, hK ▸ tk_on C hd.ex (snap_on hd oy q2) q3 q5, hK ▸ not_first C q5 q6, sp⟩
        · rw [if_neg q4] at w
          exact w.elim
theorem od_neO {T : MT} (C : CsOk Z cs) (hT : AllM (EqD X Z) T) (hu : X.A.units + 64 < cLine) (hK : X.K = Z.K) : OpR X (compareOp .NotEq) (rEqX Z cs T true) := by
  intro pins s σ H x y v u Q I rx ry h
  obtain ⟨G, α, S, a, b, hd, ox, oy, w⟩ := h
  unfold eqR at w
  cases q : clsV S a with
  | none =>
    simp only [q] at w
    exact od_ne hu hK pins s σ H _ _ v u Q I rx ry (g2_ok hd ox oy w)
  | some c =>
    simp only [q] at w
    obtain ⟨a', dx, ys, rfl, hb⟩ := clsV_on hd ox q
    cases q2 : snap S b with
    | none => simp only [q2] at w; exact w.elim
    | some d =>
      simp only [q2] at w
      cases q3 : tkD d with
      | none => simp only [q3] at w; exact w.elim
      | some k =>
        simp only [q3] at w
        by_cases q4 : (okT cs k && cs.contains c) = true
        · rw [if_pos q4] at w
          obtain ⟨q5, q6⟩ := and2 q4
          cases k with
          | b n => exact w.elim
          | o e =>
            simp only at w
            by_cases q7 : (e == c) = true
            · rw [if_pos q7] at w
              obtain ⟨n, D, P, sp⟩ := eq_own hT hd ox oy w
              obtain ⟨bb, k', f, fd, ps, hr, O, F, hbb⟩ := P.ok.ex
              have ec := beq_iff_eq.mp q7
              have hy := snap_on hd oy q2
              cases d with
              | obj e' l =>
                cases q3
                obtain ⟨b2, dy, ys2, rfl, hb2, _⟩ := hy
                exact op_ownNeG O F hr hbb passE pins s σ H _ _ v u Q I rx ry ⟨a', dx, _, b2, dy, _, rfl, rfl, hb, by rw [ec] at hb2; exact hb2, sp⟩
              | _ => cases q3
            · rw [if_neg q7] at w
              exact w.elim
        · rw [if_neg q4] at w
          exact w.elim
variable {a b : Expr} {fx fy : FE}
theorem pf_eqO {T : MT} (C : CsOk Z cs) (hT : AllM (EqD X Z) T) (hu : X.A.units + 64 < cLine) (hK : X.K = Z.K) (ha : PF Z Ew X a fx) (hb : PF Z Ew X b fy) (hm : lastMarks [.Eq] [b] = false := by with_unfolding_all rfl) :
    PF Z Ew X (.Compare a [.Eq] [b] pos) (fEqD cs T false fx fy) := by
  obtain ⟨ta, h1, h2⟩ := ha.ex
  obtain ⟨tb, h3, h4⟩ := hb.ex
  exact ⟨_, pe_cmpR (od_eqO C hT hu hK) h1 h3 hm, fun env σ G α S H Q hd oe w => h2.bind hd oe w fun S2 a x H2 G2 α2 f2 hd2 oe2 ox w2 => h4.bind hd2 oe2 w2 fun S3 b y H3 G3 α3 f3 hd3 oe3 oy w3 => ⟨G3, α3, S3, a, b, hd3, ox.up f3.g f3.a, oy, eqR_any w3⟩⟩
def ixR (T : MT) (S : Sto) (a b : Vr) : R Rt := match clsV S a with
  | some c => okR (askT T c [a, b] S)
  | none => g2 S a b gIx
def fIxD (T : MT) (fa fb : FE) : FE := fun env S => (fa env S).bindV fun S1 a => (fb env S1).bindV fun S2 b => ixR T S2 a b
end
end DN
namespace DN
open PySem PySem.Spec PyProof.Rows L2 Evl
section
variable {Z : Zx} {X : Cx} {G H G2 H2 : Hp} {α α2 : List Addr} {S : Sto} {Q : VK} {E : XK} {cs : List String} {Ew : L2.St → XK} {pos p p2 : Pos} {a b : Expr} {fx fy : FE}
theorem ptf_eqO {T : MT} (C : CsOk Z cs) (hT : AllM (EqD X Z) T) (hu : X.A.units + 64 < cLine) (hK : X.K = Z.K) (ha : PF Z Ew X a fx) (hb : PF Z Ew X b fy) (hm : behindInMarks .Eq b = false := by with_unfolding_all rfl) :
    PTF Z Ew X (.Compare a [.Eq] [b] pos) (kVal (fEqD cs T false fx fy)) := by
  obtain ⟨ta, h1, h2⟩ := ha.ex
  obtain ⟨tb, h3, h4⟩ := hb.ex
  exact ⟨_, pt_cmpR (od_eqO C hT hu hK) h1 h3 hm, st_val fun env σ G α S H Q hd oe w => h2.bind hd oe w fun S2 a x H2 G2 α2 f2 hd2 oe2 ox w2 => h4.bind hd2 oe2 w2 fun S3 b y H3 G3 α3 f3 hd3 oe3 oy w3 => ⟨G3, α3, S3, a, b, hd3, ox.up f3.g f3.a, oy, eqR_any w3⟩⟩
theorem ptf_neO {T : MT} (C : CsOk Z cs) (hT : AllM (EqD X Z) T) (hu : X.A.units + 64 < cLine) (hK : X.K = Z.K) (ha : PF Z Ew X a fx) (hb : PF Z Ew X b fy) (hm : behindInMarks .NotEq b = false := by with_unfolding_all rfl) :
    PTF Z Ew X (.Compare a [.NotEq] [b] pos) (kVal (fEqD cs T true fx fy)) := by
  obtain ⟨ta, h1, h2⟩ := ha.ex
  obtain ⟨tb, h3, h4⟩ := hb.ex
  exact ⟨_, pt_cmpR (od_neO C hT hu hK) h1 h3 hm, st_val fun env σ G α S H Q hd oe w => h2.bind hd oe w fun S2 a x H2 G2 α2 f2 hd2 oe2 ox w2 => h4.bind hd2 oe2 w2 fun S3 b y H3 G3 α3 f3 hd3 oe3 oy w3 => ⟨G3, α3, S3, a, b, hd3, ox.up f3.g f3.a, oy, eqR_any w3⟩⟩
def rgD (a b : Int) : List Dv := (List.range (b - a).toNat).map fun i => Dv.int (a + (i : Nat))
def gRg (a b : Dv) : Option Rt := match a, b with
  | .int a, .int b => if -1000000 ≤ a ∧ a ≤ 1000000 ∧ -1000000 ≤ b ∧ b ≤ 1000000 then some (.new (.lst (rgD a b))) else none
  | _, _ => none
theorem rg_on (a b : Int) : OnL Z G (rgD a b) (rgV a b) := by
  unfold rgD rgV
  generalize (List.range (b - a).toNat) = l
  induction l with
  | nil => exact OnL.nil'
  | cons i l ih => exact OnL.cons' on_int ih
theorem rg_ok {a b : Vr} {x y : V} (hd : Hd Z G α S H) (ox : OnR Z G α a x) (oy : OnR Z G α b y) (w : Wk Z (g2 S a b gRg) G α H (pRt Z Q) E) : ∃ i j, x = .int i ∧ y = .int j ∧ RgOk i j ∧ ∀ q, H q = none → Q (.ref q) (upd H q (.lst (rgV i j))) := by
  unfold g2 at w
  cases e1 : snap S a with
  | none => rw [e1] at w; exact w.elim
  | some u =>
    cases e2 : snap S b with
    | none => rw [e1, e2] at w; exact w.elim
    | some v =>
      rw [e1, e2] at w
      have o1 := snap_on hd ox e1
      have o2 := snap_on hd oy e2
      cases u with
      | int i =>
        cases v with
        | int j =>
          have w : Wk Z (R.of S (if -1000000 ≤ i ∧ i ≤ 1000000 ∧ -1000000 ≤ j ∧ j ≤ 1000000 then some (.new (.lst (rgD i j))) else none)) G α H (pRt Z Q) E := w
          split at w
          · rename_i c
            refine ⟨i, j, o1, o2, ⟨by omega, by omega, by omega, by omega, by omega⟩, fun q hq => ?_⟩
            have e := Ex.new (o := HO.lst (rgV i j)) hq
            exact w _ G α (Fr.grow hd e) (hd.grow e) q ⟨hq, fresh_back hd.ex hq, fun hm => hd.live hm hq, ⟨_, upd_same, rg_on i j⟩⟩
          · exact w.elim
        | _ => exact w.elim
      | _ => cases v <;> exact w.elim
def fRg1 (fa : FE) : FE := fOp gRg (fC (.int 0)) fa
theorem pf_listRg1 (hc : X.calm = true) (hg : Gl X "list") (hm : X.mg "list" = none) (hg2 : Gl X "range") (hm2 : X.mg "range" = none) (ha : PF Z Ew X a fx) (na : starEach [a] X.env = (false, eval a X.env) :: starEach [] X.env := by rfl)
    (nb : starEach [.Call (.Name "range" p2) [a] [] pos] X.env = (false, eval (.Call (.Name "range" p2) [a] [] pos) X.env) :: starEach [] X.env := by rfl) {pos2 : Pos} : PF Z Ew X (.Call (.Name "list" p) [.Call (.Name "range" p2) [a] [] pos] [] pos2) (fRg1 fx) := by
  obtain ⟨ta, h1, h2⟩ := ha.ex
  refine ⟨_, pe_listRg hc hg hm (prg_1 hg2 hm2 h1 na) nb, fun env σ G α S H Q hd oe w => ?_⟩
  refine h2.bind hd oe (show Wk Z ((fx env S).bindV fun S1 b => g2 S1 (.d (.int 0)) b gRg) G α H (pRt Z Q) (Ew σ) from w) fun S2 a x H2 G2 α2 f2 hd2 oe2 ox w2 => ?_
  obtain ⟨i, j, e1, e2, ok, k⟩ := rg_ok hd2 (or_int Z G2 α2 0) ox w2
  cases e1
  exact ⟨j, e2, ok, k⟩
def fDisp (ks vs : List Dv) : FE := fun _ S => .ok S (.new (.dc false ks vs))
end
end DN
namespace DN
open PySem PySem.Spec PyProof.Rows L2 Evl
theorem AllM.nil {P : String → Nat → FD → Prop} : AllM P [] := trivial
theorem AllM.cons {P : String → Nat → FD → Prop} {c : String} {n : Nat} {D : FD} {r : MT} (h : P c n D) (t : AllM P r) : AllM P ((c, n, D) :: r) := ⟨h, t⟩
theorem AllC.nil {P : String → Prop} : AllC P [] := trivial
theorem AllC.cons {P : String → Prop} {c : String} {r : List String} (h : P c) (t : AllC P r) : AllC P (c :: r) := ⟨h, t⟩
theorem _root_.L2.Room.u1 {k : Nat} {A : Around} (r : Room k A) : A.units + 1 < cLine := by have := r.un; omega
theorem _root_.L2.Room.u64 {k : Nat} {A : Around} (r : Room k A) : A.units + 64 < cLine := by have := r.un; omega
theorem _root_.L2.Room.u65 {k : Nat} {A : Around} (r : Room k A) : A.units + 65 < cLine := by have := r.un; omega
theorem tk0 {X : Cx} : Takes X (fun _ _ _ _ => False) := fun u s' x => by
  obtain ⟨_, _, _, _, _, _, _, _, _, _, _, _, _, _, _, _, h⟩ := x
  exact h.elim
theorem tkd {P : Program} {w : World} {K : PySem.W.Frag} {mg : Str → Option Value} {base : Heap} {N : List Str} {qual : Str} {scope : Scope} {f : Addr} {cd : Value} {A : Around} {outer : List PySem.Env} {s : Shared} {H : Hp} {E : XK} :
    Takes (cxOf (L2.CX P w) P w K mg base N qual scope f cd A outer s H E) (WD E) := takes_of rfl rfl rfl rfl
theorem pod {P : Program} {w : World} {K : PySem.W.Frag} {mg : Str → Option Value} {base : Heap} {N : List Str} {qual : Str} {scope : Scope} {f : Addr} {cd : Value} {A : Around} {outer : List PySem.Env} {s : Shared} {H : Hp} {E : XK} :
    PassesOwn (model P w) (cxOf (L2.CX P w) P w K mg base N qual scope f cd A outer s H E).A (cxOf (L2.CX P w) P w K mg base N qual scope f cd A outer s H E).env (cxOf (L2.CX P w) P w K mg base N qual scope f cd A outer s H E).xe := passes_of (X := cxOf (L2.CX P w) P w K mg base N qual scope f cd A outer s H E) rfl
def spLaw (K : PySem.W.Frag) : Sp := fun vs H Q _ => ∃ (a : Addr) (ns : List Int), vs = [.ref a] ∧ SqL K H a (ns.map V.int) ∧ ns.length ≤ 63 ∧ ∀ H', Q (.bl true) H'
theorem law_sp {Z : Zx} {D : FD} (h : ∀ ns : List Int, ns.length ≤ 63 → ∃ S, D [.d (.scr ns)] [] = .ok S (.val (.d (.bl true)))) (vs : List V) (H : Hp) (Q : VK) (E : XK) (q : spLaw Z.K vs H Q E) : spD Z 1 D vs H Q E := by
  obtain ⟨a, ns, rfl, hS, hl, k⟩ := q
  obtain ⟨S, e⟩ := h ns hl
  refine ⟨H, [], [], [.d (.scr ns)], ⟨Ex.refl H, rfl, List.nodup_nil, fun n a c h1 h2 => by simp at h1⟩, ⟨_, _, rfl, ?_, rfl⟩, rfl, ?_⟩
  · show On Z H (.scr ns) (.ref a)
    unfold On
    exact ⟨a, rfl, hS⟩
  · rw [e]
    intro H2 G2 α2 f hd v ov
    have ov : On Z G2 (.bl true) v := ov
    unfold On at ov
    rw [ov]
    exact k H2
theorem cx_no {P : Program} {w : World} {o : List PySem.Env} {H : Hp} {s : Shared} {e : Value} {s' : Shared} (h : L2.CX P w o H s (fun _ _ _ => False) e s') : False := by
  obtain ⟨_, _, _, _, _, _, _, _, _, _, _, _, h⟩ := h
  exact h
end DN
namespace DN
open PySem
theorem got_val {S : Sto} {v : Vr} : Got (.ok S (.val v)) S v := .val S v
theorem noex_ok {β : Type} {S : Sto} {b : β} : (R.ok S b).noex = .ok S b := rfl
/-- a comprehension that changes nothing -/
theorem lc_pure {t : Its} {tg : FG} {ft : FT} {fe : FE} {env : Env} {S : Sto} (p : Dv → Bool) (g : Dv → Dv) (hk : lockOk t S = true) : ∀ {l acc : List Dv},
    (∀ d ∈ l, ∃ env', tg d env = some env' ∧ ft env' S = .ok S (p d) ∧ (p d = true → Got (fe env' S) S (.d (g d)))) → acc.length + l.length ≤ 100000 → lcGo t tg ft fe env l S acc = .ok S (acc ++ (l.filter p).map g)
  | [], acc, h, hl => by simp [lcGo, hk]
  | d :: l, acc, h, hl => by
    obtain ⟨env', h1, h2, h3⟩ := h d List.mem_cons_self
    have ih := fun acc => lc_pure p g hk (l := l) (acc := acc) fun x hx => h x (List.mem_cons_of_mem _ hx)
    have hl' : acc.length + l.length + 1 ≤ 100000 := by simpa [Nat.add_assoc] using hl
    simp only [lcGo, hk, if_true, h1, h2, noex_ok, R.bind]
    cases q : p d with
    | false =>
      simp only [Bool.false_eq_true, if_false]
      rw [ih acc (by omega), List.filter_cons, q]
      rfl
    | true =>
      have g3 := h3 q
      simp only [if_true]
      have e : (fe env' S).noex.bindV (fun S2 v => onD v fun y => if acc.length < 100000 then lcGo t tg ft fe env l S2 (acc ++ [y]) else .no) = lcGo t tg ft fe env l S (acc ++ [g d]) := by
        generalize fe env' S = r at g3
        cases g3 with
        | val =>
          simp only [noex_ok, R.bindV, onD]
          rw [if_pos (by omega)]
        | new S c d' hc => rw [noex_ok, bindV_new hc]; simp only [onD]; rw [if_pos (by omega)]
      rw [e, ih (acc ++ [g d]) (by simp; omega), List.filter_cons, q]
      simp
theorem fLc_pure {fi : FI} {tg : FG} {ft : FT} {fe : FE} {vs : List Nat} {env : Env} {S : Sto} {t : Its} (p : Dv → Bool) (g : Dv → Dv) (hi : fi env S = .ok S t) (hk : lockOk t S = true) (hl : t.1.length ≤ 100000)
    (h : ∀ d ∈ t.1, ∃ env', tg d (wipeE env vs) = some env' ∧ ft env' S = .ok S (p d) ∧ (p d = true → Got (fe env' S) S (.d (g d)))) : fLc fi tg ft fe vs env S = .ok S (.new (.lst ((t.1.filter p).map g))) := by
  unfold fLc
  rw [hi]
  simp only [R.bind]
  rw [lc_pure p g hk h (by simpa using hl)]
  rfl
theorem def_val {n : Nat} {body : FS} {args : List Vr} {S S' : Sto} {d : Dv} (h : outS (body (startE n args) S) = .ok S' (.val (.d d))) (h2 : S'.take S.length = S) : defD n body args S = .ok S (.val (.d d)) := by
  unfold defD
  rw [h]
  show R.ok _ _ = _
  rw [h2]
theorem def_pure {n : Nat} {body : FS} {args : List Vr} {S : Sto} {d : Dv} (h : outS (body (startE n args) S) = .ok S (.val (.d d))) : defD n body args S = .ok S (.val (.d d)) := def_val h (by simp)
theorem def_new {n : Nat} {body : FS} {args : List Vr} {S : Sto} {c : Cell} (h : outS (body (startE n args) S) = .ok S (.new c)) : defD n body args S = .ok S (.new c) := by
  unfold defD
  rw [h]
  show R.ok _ _ = _
  rw [List.take_length]
end DN
namespace DN
open PySem
structure Fx {α : Sort _} (a : α) : Type where
def bindW {γ : Type} (r : R Rt) (f : Sto → Vr → R γ) (_ : Fx f) : R γ := r.bindV f
def bindX {β γ : Type} (r : R β) (f : Sto → β → R γ) (_ : Fx f) : R γ := r.bind f
def sVW (env : Env) (r : R Rt) (f : Sto → Vr → RS) (_ : Fx f) : RS := sV env r f
def sBW {β : Type} (env : Env) (r : R β) (f : Sto → β → RS) (_ : Fx f) : RS := sB env r f
def onBW {β : Type} (S : Sto) (a : Vr) (f : Bool → R β) (_ : Fx f) : R β := onB S a f
section
variable {β γ : Type} {S S1 : Sto} {env : Env}
theorem bindV_val {v : Vr} {f : Sto → Vr → R γ} {u : Fx f} : bindW (.ok S (.val v)) f u = f S v := rfl
theorem bindV_lst {l : List Dv} {f : Sto → Vr → R γ} {u : Fx f} : bindW (.ok S (.new (.lst l))) f u = f S (.d (.lst l)) := rfl
theorem bindV_ob {c : String} {l : List Dv} {f : Sto → Vr → R γ} {u : Fx f} : bindW (.ok S (.new (.ob c l))) f u = f S (.d (.obj c l)) := rfl
theorem bindV_dc {t : Bool} {k l : List Dv} {f : Sto → Vr → R γ} {u : Fx f} : bindW (.ok S (.new (.dc t k l))) f u = f S (.d (.dic t k l)) := rfl
theorem bindV_no {f : Sto → Vr → R γ} {u : Fx f} : bindW .no f u = .no := rfl
theorem bindV_ex {x : Xn} {f : Sto → Vr → R γ} {u : Fx f} : bindW (.ex S x) f u = .ex S x := rfl
theorem bind_ok {b : β} {f : Sto → β → R γ} {u : Fx f} : bindX (.ok S b) f u = f S b := rfl
theorem bind_no {f : Sto → β → R γ} {u : Fx f} : bindX .no f u = .no := rfl
theorem bind_ex {x : Xn} {f : Sto → β → R γ} {u : Fx f} : bindX (.ex S x) f u = .ex S x := rfl
theorem sV_val {v : Vr} {f : Sto → Vr → RS} {u : Fx f} : sVW env (.ok S (.val v)) f u = f S v := rfl
theorem sV_lst {l : List Dv} {f : Sto → Vr → RS} {u : Fx f} : sVW env (.ok S (.new (.lst l))) f u = f S (.d (.lst l)) := rfl
theorem sV_ob {c : String} {l : List Dv} {f : Sto → Vr → RS} {u : Fx f} : sVW env (.ok S (.new (.ob c l))) f u = f S (.d (.obj c l)) := rfl
theorem sV_dc {t : Bool} {k l : List Dv} {f : Sto → Vr → RS} {u : Fx f} : sVW env (.ok S (.new (.dc t k l))) f u = f S (.d (.dic t k l)) := rfl
theorem sV_ex {x : Xn} {f : Sto → Vr → RS} {u : Fx f} : sVW env (.ex S x) f u = .ex env S x := rfl
theorem sB_ok {b : β} {f : Sto → β → RS} {u : Fx f} : sBW env (.ok S b) f u = f S b := rfl
theorem sB_ex {x : Xn} {f : Sto → β → RS} {u : Fx f} : sBW env (.ex S x) f u = .ex env S x := rfl
/-- one statement, then the rest -/
def seqR (r : RS) (b : FS) : RS := match r with
  | .nx e2 S2 => b e2 S2
  | r => r
theorem kSeq_ {a b : FS} : kSeq a b env S = seqR (a env S) b := rfl
theorem seqR_nx {b : FS} : seqR (.nx env S) b = b env S := rfl
theorem seqR_rt {r : Rt} {b : FS} : seqR (.rt S r) b = .rt S r := rfl
theorem seqR_ex {x : Xn} {b : FS} : seqR (.ex env S x) b = .ex env S x := rfl
theorem seqR_no {b : FS} : seqR .no b = .no := rfl
def retR (env : Env) (r : R Rt) : RS := match r with
  | .ok S2 r => .rt S2 r
  | .ex S2 x => .ex env S2 x
  | .no => .no
theorem kRet_ {fe : FE} : kRet fe env S = retR env (fe env S) := rfl
theorem retR_ok {r : Rt} : retR env (.ok S r) = .rt S r := rfl
theorem retR_ex {x : Xn} : retR env (.ex S x) = .ex env S x := rfl
theorem kRetN_ : kRetN env S = .rt S (.val (.d .non)) := rfl
theorem kNext_ : kNext env S = .nx env S := rfl
theorem kIf_ {ft : FT} {a b : FS} : kIf ft a b env S = (sBW env (ft env S) (fun S1 t => if t then a env S1 else b env S1) ⟨⟩) := rfl
theorem kExpr_ {fe : FE} : kExpr fe env S = (sBW env (fe env S) (fun S1 _ => .nx env S1) ⟨⟩) := rfl
theorem kSet_ {i : Nat} {fe : FE} : kSet i fe env S = (sVW env (fe env S) (fun S1 v => .nx (env.set i (.v v)) S1) ⟨⟩) := rfl
def setC (i : Nat) (env : Env) (r : R Rt) : RS := match r with
  | .ok S1 (.val v) => .nx (env.set i (.v v)) S1
  | .ok S1 (.new c) => .nx (env.set i (.v (.r S1.length))) (S1 ++ [c])
  | .ex S1 x => .ex env S1 x
  | .no => .no
theorem kSetC_ {i : Nat} {fe : FE} : kSetC i fe env S = setC i env (fe env S) := rfl
theorem setC_val {i : Nat} {v : Vr} : setC i env (.ok S (.val v)) = .nx (env.set i (.v v)) S := rfl
theorem setC_new {i : Nat} {c : Cell} : setC i env (.ok S (.new c)) = .nx (env.set i (.v (.r S.length))) (S ++ [c]) := rfl
def asgR (f : FG) (env : Env) (S1 : Sto) (v : Vr) : RS := match v with
  | .d d => match f d env with
    | some env' => .nx env' S1
    | none => .no
  | .r _ => .no
theorem kAsg_ {f : FG} {fe : FE} : kAsg f fe env S = (sVW env (fe env S) (fun S1 v => asgR f env S1 v) ⟨⟩) := rfl
def asgO (o : Option Env) (S : Sto) : RS := match o with
  | some env' => .nx env' S
  | none => .no
theorem asgR_d {f : FG} {d : Dv} : asgR f env S (.d d) = asgO (f d env) S := rfl
theorem asgO_ {env' : Env} : asgO (some env') S = .nx env' S := rfl
theorem tgN_ {i : Nat} {d : Dv} : tgN i d env = some (env.set i (.v (.d d))) := rfl
theorem tgNil_ : tgNil [] env = some env := rfl
def tgO (o : Option Env) (fs : FGs) (l : List Dv) : Option Env := match o with
  | some e => fs l e
  | none => none
theorem tgCons_ {f : FG} {fs : FGs} {d : Dv} {l : List Dv} : tgCons f fs (d :: l) env = tgO (f d env) fs l := by
  cases h : f d env <;> simp [tgCons, tgO, h]
theorem tgO_ {fs : FGs} {l : List Dv} : tgO (some env) fs l = fs l env := rfl
theorem tgT_ {fs : FGs} {l : List Dv} : tgT fs (.tup l) env = fs l env := rfl
def parR (i j : Nat) (env : Env) (S1 : Sto) (l : List Vr) : RS := match l with
  | [v, w] => .nx ((env.set i (.v v)).set j (.v w)) S1
  | _ => .no
theorem kPar_ {i j : Nat} {fa : FA} : kPar i j fa env S = (sBW env (fa env S) (fun S1 l => parR i j env S1 l) ⟨⟩) := rfl
theorem parR_ {i j : Nat} {v w : Vr} : parR i j env S [v, w] = .nx ((env.set i (.v v)).set j (.v w)) S := rfl
theorem kFor_ {fi : FI} {tg : FG} {b : FS} : kFor fi tg b env S = (sBW env (fi env S) (fun S1 t => forGo t tg b t.1 env S1) ⟨⟩) := rfl
theorem kSub_ {fo fi fv : FE} : kSub fo fi fv env S = (sVW env (fv env S) (fun S1 v => (sVW env (fo env S1) (fun S2 o => (sVW env (fi env S2) (fun S3 i => setIx env S3 o i v) ⟨⟩)) ⟨⟩)) ⟨⟩) := rfl
theorem kFld_ {cs : List String} {f : Str} {fo fv : FE} : kFld cs f fo fv env S = (sVW env (fv env S) (fun S1 v => (sVW env (fo env S1) (fun S2 o => setFd cs f env S2 o v) ⟨⟩)) ⟨⟩) := rfl
def loopR (r : RS) (k : Env → Sto → RS) (_ : Fx k) : RS := match r with
  | .nx e S => k e S
  | .ct e S => k e S
  | .bk e S => .nx e S
  | r => r
theorem loopR_nx {k : Env → Sto → RS} {u : Fx k} : loopR (.nx env S) k u = k env S := rfl
theorem loopR_ct {k : Env → Sto → RS} {u : Fx k} : loopR (.ct env S) k u = k env S := rfl
theorem loopR_bk {k : Env → Sto → RS} {u : Fx k} : loopR (.bk env S) k u = .nx env S := rfl
theorem loopR_rt {k : Env → Sto → RS} {r : Rt} {u : Fx k} : loopR (.rt S r) k u = .rt S r := rfl
def forO (o : Option Env) (S : Sto) (body : FS) (k : Env → Sto → RS) (u : Fx k) : RS := match o with
  | some e => loopR (body e S) k u
  | none => .no
theorem forO_ {body : FS} {k : Env → Sto → RS} {u : Fx k} : forO (some env) S body k u = loopR (body env S) k u := rfl
theorem forGo_c {l t : List Dv} {d : Dv} {tg : FG} {body : FS} : forGo (t, none) tg body (d :: l) env S = forO (tg d env) S body (fun e2 S2 => forGo (t, none) tg body l e2 S2) ⟨⟩ := by
  have hk : lockOk (t, none) S = true := rfl
  simp only [forGo, hk, if_true]
  cases tg d env with
  | none => rfl
  | some e => simp only [forO]; cases body e S <;> rfl
theorem forGo_n {t : List Dv} {tg : FG} {body : FS} : forGo (t, none) tg body [] env S = .nx env S := rfl
theorem iVal_ {fa : FE} : iVal fa env S = (bindW (fa env S) (fun S1 a => itOf S1 a) ⟨⟩) := rfl
theorem itOf_lst {l : List Dv} : itOf S (.d (.lst l)) = .ok S (l, none) := rfl
theorem itOf_tup {l : List Dv} : itOf S (.d (.tup l)) = .ok S (l, none) := rfl
def varR (o : Option Sl) (S : Sto) : R Rt := match o with
  | some (.v d) => .ok S (.val d)
  | _ => .no
theorem fVar_ {i : Nat} : fVar i env S = varR env[i]? S := rfl
theorem varR_ {d : Vr} : varR (some (.v d)) S = .ok S (.val d) := rfl
theorem fC_ {d : Dv} : fC d env S = .ok S (.val (.d d)) := rfl
theorem fOp_ {g : Dv → Dv → Option Rt} {fa fb : FE} : fOp g fa fb env S = (bindW (fa env S) (fun S1 a => (bindW (fb env S1) (fun S2 b => g2 S2 a b g) ⟨⟩)) ⟨⟩) := rfl
def g2o (S : Sto) (x y : Option Dv) (g : Dv → Dv → Option Rt) : R Rt := match x, y with
  | some x, some y => R.of S (g x y)
  | _, _ => .no
theorem g2_ {a b : Vr} {g : Dv → Dv → Option Rt} : g2 S a b g = g2o S (snap S a) (snap S b) g := rfl
theorem g2o_ {x y : Dv} {g : Dv → Dv → Option Rt} : g2o S (some x) (some y) g = R.of S (g x y) := rfl
theorem fUn_ {g : Dv → Option Rt} {fa : FE} : fUn g fa env S = (bindW (fa env S) (fun S1 a => g1 S1 a g) ⟨⟩) := rfl
def g1o (S : Sto) (x : Option Dv) (g : Dv → Option Rt) : R Rt := match x with
  | some x => R.of S (g x)
  | _ => .no
theorem g1_ {a : Vr} {g : Dv → Option Rt} : g1 S a g = g1o S (snap S a) g := by unfold g1 g1o; cases snap S a <;> rfl
theorem g1o_ {x : Dv} {g : Dv → Option Rt} : g1o S (some x) g = R.of S (g x) := rfl
theorem of_some {b : β} : R.of S (some b) = .ok S b := rfl
theorem snap_d {d : Dv} : snap S (.d d) = some d := rfl
def snapC : Option Cell → Option Dv
  | some (.lst l) => some (.lst l)
  | some (.ob c l) => some (.obj c l)
  | some (.dc t ks vs) => some (.dic t ks vs)
  | _ => none
theorem snap_r {n : Nat} : snap S (.r n) = snapC S[n]? := by
  cases q : S[n]? with
  | none => simp [snap, q, snapC]
  | some c => cases c <;> simp [snap, q, snapC]
theorem snapC_lst {l : List Dv} : snapC (some (.lst l)) = some (.lst l) := rfl
theorem snapC_ob {c : String} {l : List Dv} : snapC (some (.ob c l)) = some (.obj c l) := rfl
theorem fNil_ : fNil env S = .ok S [] := rfl
theorem fCons_ {fa : FE} {fr : FA} : fCons fa fr env S = (bindW (fa env S) (fun S1 a => (bindX (fr env S1) (fun S2 l => .ok S2 (a :: l)) ⟨⟩)) ⟨⟩) := rfl
theorem fTup_ {fa : FA} : fTup fa env S = (bindX (fa env S) (fun S1 l => R.of S1 (gTupD l)) ⟨⟩) := rfl
theorem fLst_ {fa : FA} : fLst fa env S = (bindX (fa env S) (fun S1 l => R.of S1 (gLstD l)) ⟨⟩) := rfl
theorem allD_n : allD [] = some [] := rfl
def allC (x : Dv) : Option (List Dv) → Option (List Dv)
  | some r => some (x :: r)
  | none => none
theorem allD_c {x : Dv} {l : List Vr} : allD (.d x :: l) = allC x (allD l) := rfl
theorem allC_ {x : Dv} {l : List Dv} : allC x (some l) = some (x :: l) := rfl
def tupO : Option (List Dv) → Option Rt
  | some r => if r.length ≤ 100000 then some (.val (.d (.tup r))) else none
  | none => none
def lstO : Option (List Dv) → Option Rt
  | some r => if r.length ≤ 100000 then some (.new (.lst r)) else none
  | none => none
theorem gTupD_ {l : List Vr} : gTupD l = tupO (allD l) := rfl
theorem gLstD_ {l : List Vr} : gLstD l = lstO (allD l) := rfl
theorem tupO_0 : tupO (some []) = some (.val (.d (.tup []))) := by simp only [tupO, lstO]; exact if_pos (show (0 : Nat) ≤ 100000 by decide)
theorem lstO_0 : lstO (some []) = some (.new (.lst [])) := by simp only [tupO, lstO]; exact if_pos (show (0 : Nat) ≤ 100000 by decide)
theorem tupO_1 {a : Dv} : tupO (some [a]) = some (.val (.d (.tup [a]))) := by simp only [tupO, lstO]; exact if_pos (show (1 : Nat) ≤ 100000 by decide)
theorem lstO_1 {a : Dv} : lstO (some [a]) = some (.new (.lst [a])) := by simp only [tupO, lstO]; exact if_pos (show (1 : Nat) ≤ 100000 by decide)
theorem tupO_2 {a b : Dv} : tupO (some [a, b]) = some (.val (.d (.tup [a, b]))) := by simp only [tupO, lstO]; exact if_pos (show (2 : Nat) ≤ 100000 by decide)
theorem lstO_2 {a b : Dv} : lstO (some [a, b]) = some (.new (.lst [a, b])) := by simp only [tupO, lstO]; exact if_pos (show (2 : Nat) ≤ 100000 by decide)
theorem tupO_3 {a b c : Dv} : tupO (some [a, b, c]) = some (.val (.d (.tup [a, b, c]))) := by simp only [tupO, lstO]; exact if_pos (show (3 : Nat) ≤ 100000 by decide)
theorem lstO_3 {a b c : Dv} : lstO (some [a, b, c]) = some (.new (.lst [a, b, c])) := by simp only [tupO, lstO]; exact if_pos (show (3 : Nat) ≤ 100000 by decide)
theorem tupO_4 {a b c d : Dv} : tupO (some [a, b, c, d]) = some (.val (.d (.tup [a, b, c, d]))) := by simp only [tupO, lstO]; exact if_pos (show (4 : Nat) ≤ 100000 by decide)
theorem lstO_4 {a b c d : Dv} : lstO (some [a, b, c, d]) = some (.new (.lst [a, b, c, d])) := by simp only [tupO, lstO]; exact if_pos (show (4 : Nat) ≤ 100000 by decide)
theorem tupO_5 {a b c d e : Dv} : tupO (some [a, b, c, d, e]) = some (.val (.d (.tup [a, b, c, d, e]))) := by simp only [tupO, lstO]; exact if_pos (show (5 : Nat) ≤ 100000 by decide)
theorem lstO_5 {a b c d e : Dv} : lstO (some [a, b, c, d, e]) = some (.new (.lst [a, b, c, d, e])) := by simp only [tupO, lstO]; exact if_pos (show (5 : Nat) ≤ 100000 by decide)
theorem tupO_6 {a b c d e f : Dv} : tupO (some [a, b, c, d, e, f]) = some (.val (.d (.tup [a, b, c, d, e, f]))) := by simp only [tupO, lstO]; exact if_pos (show (6 : Nat) ≤ 100000 by decide)
theorem lstO_6 {a b c d e f : Dv} : lstO (some [a, b, c, d, e, f]) = some (.new (.lst [a, b, c, d, e, f])) := by simp only [tupO, lstO]; exact if_pos (show (6 : Nat) ≤ 100000 by decide)
theorem tupO_7 {a b c d e f g : Dv} : tupO (some [a, b, c, d, e, f, g]) = some (.val (.d (.tup [a, b, c, d, e, f, g]))) := by simp only [tupO, lstO]; exact if_pos (show (7 : Nat) ≤ 100000 by decide)
theorem lstO_7 {a b c d e f g : Dv} : lstO (some [a, b, c, d, e, f, g]) = some (.new (.lst [a, b, c, d, e, f, g])) := by simp only [tupO, lstO]; exact if_pos (show (7 : Nat) ≤ 100000 by decide)
theorem fAnd_ {fa fb : FE} : fAnd fa fb env S = (bindW (fa env S) (fun S1 a => (onBW S1 a (fun b => if b then fb env S1 else .ok S1 (.val (.d (.bl false)))) ⟨⟩)) ⟨⟩) := rfl
theorem fOr_ {fa fb : FE} : fOr fa fb env S = (bindW (fa env S) (fun S1 a => (onBW S1 a (fun b => if b then .ok S1 (.val (.d (.bl true))) else fb env S1) ⟨⟩)) ⟨⟩) := rfl
theorem fNot_ {fa : FE} : fNot fa env S = (bindW (fa env S) (fun S1 a => (onBW S1 a (fun b => .ok S1 (.val (.d (.bl (!b))))) ⟨⟩)) ⟨⟩) := rfl
theorem fIf_ {ft : FT} {fa fb : FE} : fIf ft fa fb env S = (bindX (ft env S) (fun S1 b => if b then fa env S1 else fb env S1) ⟨⟩) := rfl
theorem onB_ {b : Bool} {f : Bool → R β} {u : Fx f} : onBW S (.d (.bl b)) f u = f b := rfl
theorem kVal_ {fa : FE} : kVal fa env S = (bindW (fa env S) (fun S1 a => (onBW S1 a (fun b => .ok S1 b) ⟨⟩)) ⟨⟩) := rfl
theorem kAnd_ {ta tb : FT} : kAnd ta tb env S = (bindX (ta env S) (fun S1 b => if b then tb env S1 else .ok S1 false) ⟨⟩) := rfl
theorem kOr_ {ta tb : FT} : kOr ta tb env S = (bindX (ta env S) (fun S1 b => if b then .ok S1 true else tb env S1) ⟨⟩) := rfl
theorem kNot_ {ta : FT} : kNot ta env S = (bindX (ta env S) (fun S1 b => .ok S1 (!b)) ⟨⟩) := rfl
theorem kYes_ : kYes env S = .ok S true := rfl
theorem fCall_ {g : List Dv → Option Rt} {fa : FA} : fCall g fa env S = (bindX (fa env S) (fun S1 l => gA S1 l g) ⟨⟩) := rfl
def gAo (S : Sto) (x : Option (List Dv)) (g : List Dv → Option Rt) : R Rt := match x with
  | some x => R.of S (g x)
  | _ => .no
theorem gA_ {l : List Vr} {g : List Dv → Option Rt} : gA S l g = gAo S (snaps S l) g := by unfold gA gAo; cases snaps S l <;> rfl
theorem gAo_ {l : List Dv} {g : List Dv → Option Rt} : gAo S (some l) g = R.of S (g l) := rfl
def snapsC : Option Dv → Option (List Dv) → Option (List Dv)
  | some d, some m => some (d :: m)
  | _, _ => none
theorem snaps_n : snaps S [] = some [] := rfl
theorem snaps_c {r : Vr} {l : List Vr} : snaps S (r :: l) = snapsC (snap S r) (snaps S l) := by
  unfold snapsC
  show (match snap S r, snaps S l with | some d, some m => some (d :: m) | _, _ => none) = _
  cases snap S r <;> cases snaps S l <;> rfl
theorem snapsC_ {d : Dv} {l : List Dv} : snapsC (some d) (some l) = some (d :: l) := rfl
theorem arg1_ {f : Dv → Option Rt} {x : Dv} : arg1 f [x] = f x := rfl
theorem arg12_1 {f : Dv → Option Rt} {g : Dv → Dv → Option Rt} {x : Dv} : arg12 f g [x] = f x := rfl
theorem arg12_2 {f : Dv → Option Rt} {g : Dv → Dv → Option Rt} {x y : Dv} : arg12 f g [x, y] = g x y := rfl
theorem arg2_ {f : Dv → Dv → Option Rt} {x y : Dv} : arg2 f [x, y] = f x y := rfl
theorem onlyIf_t {r : Option Rt} : onlyIf true r = r := rfl
theorem fCallD_ {m : Nat} {D : FD} {fa : FA} : fCallD m D fa env S = (bindX (fa env S) (fun S1 l => if l.length = m then D l S1 else .no) ⟨⟩) := rfl
theorem fMeth_ {T : String} {g : Dv → List Dv → Option Rt} {fo : FE} {fa : FA} : fMeth T g fo fa env S = (bindW (fo env S) (fun S1 a => onT T S1 a ((bindX (fa env S1) (fun S2 l => gM S2 a l g) ⟨⟩))) ⟨⟩) := rfl
def onTo (T : String) (x : Option Dv) (r : R β) : R β := match x with
  | some d => if isT T d then r else .no
  | none => .no
theorem onT_ {T : String} {a : Vr} {r : R β} : onT T S a r = onTo T (snap S a) r := rfl
theorem onTo_ {T : String} {d : Dv} {r : R β} : onTo T (some d) r = if isT T d then r else .no := rfl
def gMo (S : Sto) (x : Option Dv) (l : Option (List Dv)) (g : Dv → List Dv → Option Rt) : R Rt := match x, l with
  | some d, some ds => R.of S (g d ds)
  | _, _ => .no
theorem gM_ {a : Vr} {l : List Vr} {g : Dv → List Dv → Option Rt} : gM S a l g = gMo S (snap S a) (snaps S l) g := rfl
theorem gMo_ {d : Dv} {l : List Dv} {g : Dv → List Dv → Option Rt} : gMo S (some d) (some l) g = R.of S (g d l) := rfl
def clsC : Option Cell → Option String
  | some (.ob c _) => some c
  | _ => none
theorem clsV_r {n : Nat} : clsV S (.r n) = clsC S[n]? := by
  cases q : S[n]? with
  | none => simp [clsV, q, clsC]
  | some c => cases c <;> simp [clsV, q, clsC]
theorem clsC_lst {l : List Dv} : clsC (some (.lst l)) = none := rfl
theorem clsC_ob {c : String} {l : List Dv} : clsC (some (.ob c l)) = some c := rfl
theorem clsV_obj {c : String} {l : List Dv} : clsV S (.d (.obj c l)) = some c := rfl
theorem clsV_int {i : Int} : clsV S (.d (.int i)) = none := rfl
theorem clsV_bl {i : Bool} : clsV S (.d (.bl i)) = none := rfl
theorem clsV_str {i : Str} : clsV S (.d (.str i)) = none := rfl
theorem clsV_non : clsV S (.d .non) = none := rfl
theorem clsV_lst {l : List Dv} : clsV S (.d (.lst l)) = none := rfl
theorem clsV_tup {l : List Dv} : clsV S (.d (.tup l)) = none := rfl
theorem clsV_scr {l : List Int} : clsV S (.d (.scr l)) = none := rfl
theorem fLenD_ {T : MT} {fa : FA} : fLenD T fa env S = (bindX (fa env S) (fun S1 l => lenR T S1 l) ⟨⟩) := rfl
def lenC (k : Option String) (T : MT) (S : Sto) (o : Vr) : R Rt := match k with
  | some c => onlyV pInt (askT T c [o] S)
  | none => gA S [o] gLen
theorem lenR_ {T : MT} {o : Vr} : lenR T S [o] = lenC (clsV S o) T S o := rfl
theorem lenC_n {T : MT} {o : Vr} : lenC none T S o = gA S [o] gLen := rfl
theorem lenC_s {T : MT} {o : Vr} {c : String} : lenC (some c) T S o = onlyV pInt (askT T c [o] S) := rfl
theorem fIxD_ {T : MT} {fa fb : FE} : fIxD T fa fb env S = (bindW (fa env S) (fun S1 a => (bindW (fb env S1) (fun S2 b => ixR T S2 a b) ⟨⟩)) ⟨⟩) := rfl
def ixC (k : Option String) (T : MT) (S : Sto) (a b : Vr) : R Rt := match k with
  | some c => okR (askT T c [a, b] S)
  | none => g2 S a b gIx
theorem ixR_ {T : MT} {a b : Vr} : ixR T S a b = ixC (clsV S a) T S a b := rfl
theorem ixC_n {T : MT} {a b : Vr} : ixC none T S a b = g2 S a b gIx := rfl
theorem ixC_s {T : MT} {a b : Vr} {c : String} : ixC (some c) T S a b = okR (askT T c [a, b] S) := rfl
theorem fEqD_ {cs : List String} {T : MT} {neg : Bool} {fa fb : FE} : fEqD cs T neg fa fb env S = (bindW (fa env S) (fun S1 a => (bindW (fb env S1) (fun S2 b => eqR cs T neg S2 a b) ⟨⟩)) ⟨⟩) := rfl
theorem fPropD_ {t : MT} {fo : FE} : fPropD t fo env S = (bindW (fo env S) (fun S1 o => fAsk1 t S1 o) ⟨⟩) := rfl
theorem fMakeD_ {c : String} {dl : List Dv} {n : Nat} {D : FD} {fa : FA} : fMakeD c dl n D fa env S = (bindX (fa env S) (fun S1 l =>
  if (Vr.r S1.length :: (l ++ dl.map .d)).length = n then makeR S1.length (D (.r S1.length :: (l ++ dl.map .d)) (S1 ++ [.ob c []])) else .no) ⟨⟩) := rfl
theorem isi_int_int {cs : List String} {i : Int} : gIsi cs (.int i) (.ty "int") = vB true := rfl
theorem isi_int_bool {cs : List String} {i : Int} : gIsi cs (.int i) (.ty "bool") = vB false := rfl
theorem isi_int_str {cs : List String} {i : Int} : gIsi cs (.int i) (.ty "str") = vB false := rfl
theorem isi_str_str {cs : List String} {i : Str} : gIsi cs (.str i) (.ty "str") = vB true := rfl
theorem isi_str_int {cs : List String} {i : Str} : gIsi cs (.str i) (.ty "int") = vB false := rfl
theorem isi_lst_lst {cs : List String} {i : List Dv} : gIsi cs (.lst i) (.ty "list") = vB true := rfl
theorem isi_lst_str {cs : List String} {i : List Dv} : gIsi cs (.lst i) (.ty "str") = vB false := rfl
theorem isi_tup_str {cs : List String} {i : List Dv} : gIsi cs (.tup i) (.ty "str") = vB false := rfl
theorem isi_tup_tup {cs : List String} {i : List Dv} : gIsi cs (.tup i) (.ty "tuple") = vB true := rfl
theorem isi_lst_lt {cs : List String} {i : List Dv} : gIsi cs (.lst i) (.tup [.ty "list", .ty "tuple"]) = vB true := rfl
theorem isi_tup_lt {cs : List String} {i : List Dv} : gIsi cs (.tup i) (.tup [.ty "list", .ty "tuple"]) = vB true := rfl
theorem isi_str_lt {cs : List String} {i : Str} : gIsi cs (.str i) (.tup [.ty "list", .ty "tuple"]) = vB false := rfl
theorem vB_ {b : Bool} : vB b = some (.val (.d (.bl b))) := rfl
theorem vI_ {b : Int} : vI b = some (.val (.d (.int b))) := rfl
theorem vS_ {b : Str} : vS b = some (.val (.d (.str b))) := rfl
theorem vT_ {b : List Dv} : vT b = some (.val (.d (.tup b))) := rfl
theorem nL_ {b : List Dv} : nL b = some (.new (.lst b)) := rfl
theorem vD_ {b : Dv} : vD b = some (.val (.d b)) := rfl
theorem startE_ {n : Nat} {args : List Vr} : startE n args = args.map .v ++ List.replicate (n - args.length) .u := rfl
theorem outS_nx : outS (.nx env S) = .ok S (.val (.d .non)) := rfl
theorem outS_rt {r : Rt} : outS (.rt S r) = .ok S r := rfl
theorem outS_ex {x : Xn} : outS (.ex env S x) = .ex S x := rfl
def methP (p : Option (Nat × FD)) (o : Vr) (r : R (List Vr)) : R Rt := match p with
  | some (n, D) => r.bind fun S2 l => if (o :: l).length = n then D (o :: l) S2 else .no
  | none => .no
def methR (k : Option String) (t : MT) (o : Vr) (r : R (List Vr)) : R Rt := match k with
  | some c => methP (t.at c) o r
  | none => .no
theorem fMethD_ {t : MT} {fo : FE} {fa : FA} : fMethD t fo fa env S = (bindW (fo env S) (fun S1 o => methR (clsV S1 o) t o (fa env S1)) ⟨⟩) := by
  unfold fMethD methR methP
  congr 1
theorem methR_ {c : String} {t : MT} {o : Vr} {r : R (List Vr)} : methR (some c) t o r = methP (t.at c) o r := rfl
theorem methP_ {n : Nat} {D : FD} {o : Vr} {r : R (List Vr)} : methP (some (n, D)) o r = (bindX r (fun S2 l => if (o :: l).length = n then D (o :: l) S2 else .no) ⟨⟩) := rfl
def askP (p : Option (Nat × FD)) (l : List Vr) (S : Sto) : R Rt := match p with
  | some (n, D) => if l.length = n then D l S else .no
  | none => .no
theorem askT_ {t : MT} {c : String} {l : List Vr} : askT t c l S = askP (t.at c) l S := rfl
theorem askP_ {n : Nat} {D : FD} {l : List Vr} : askP (some (n, D)) l S = if l.length = n then D l S else .no := rfl
def ask1P (p : Option (Nat × FD)) (o : Vr) (S : Sto) : R Rt := match p with
  | some (n, D) => if [o].length = n then okR (D [o] S) else .no
  | none => .no
def ask1R (k : Option String) (t : MT) (o : Vr) (S : Sto) : R Rt := match k with
  | some c => ask1P (t.at c) o S
  | none => .no
theorem fAsk1_ {t : MT} {o : Vr} : fAsk1 t S o = ask1R (clsV S o) t o S := rfl
theorem ask1R_ {c : String} {t : MT} {o : Vr} : ask1R (some c) t o S = ask1P (t.at c) o S := rfl
theorem ask1P_ {n : Nat} {D : FD} {o : Vr} : ask1P (some (n, D)) o S = if [o].length = n then okR (D [o] S) else .no := rfl
theorem at_cons {b c : String} {p : Nat × FD} {r : MT} : MT.at ((b, p) :: r) c = if b == c then some p else MT.at r c := rfl
theorem eqR_int {cs : List String} {T : MT} {neg : Bool} {i : Int} {b : Vr} : eqR cs T neg S (.d (.int i)) b = g2 S (.d (.int i)) b (if neg then gNe else gEq) := rfl
theorem eqR_bl {cs : List String} {T : MT} {neg : Bool} {i : Bool} {b : Vr} : eqR cs T neg S (.d (.bl i)) b = g2 S (.d (.bl i)) b (if neg then gNe else gEq) := rfl
theorem eqR_str {cs : List String} {T : MT} {neg : Bool} {i : Str} {b : Vr} : eqR cs T neg S (.d (.str i)) b = g2 S (.d (.str i)) b (if neg then gNe else gEq) := rfl
theorem eqR_lst {cs : List String} {T : MT} {neg : Bool} {i : List Dv} {b : Vr} : eqR cs T neg S (.d (.lst i)) b = g2 S (.d (.lst i)) b (if neg then gNe else gEq) := rfl
theorem eqR_tup {cs : List String} {T : MT} {neg : Bool} {i : List Dv} {b : Vr} : eqR cs T neg S (.d (.tup i)) b = g2 S (.d (.tup i)) b (if neg then gNe else gEq) := rfl
theorem eqR_non {cs : List String} {T : MT} {neg : Bool} {b : Vr} : eqR cs T neg S (.d .non) b = g2 S (.d .non) b (if neg then gNe else gEq) := rfl
theorem eqR_oo {cs : List String} {T : MT} {neg : Bool} {c : String} {l m : List Dv} (h : cs.contains c = true) : eqR cs T neg S (.d (.obj c l)) (.d (.obj c m)) = onlyV (pBl neg) (askT T c [.d (.obj c l), .d (.obj c m)] S) := by
  unfold eqR
  simp only [clsV_obj, snap_d, tkD, okT, h, Bool.and_self, if_true]
  cases neg <;> simp
theorem onlyV_bl {neg b : Bool} : onlyV (pBl neg) (.ok S (.val (.d (.bl b)))) = .ok S (.val (.d (.bl (if neg then !b else b)))) := rfl
theorem onlyV_str {s : Str} : onlyV pStr (.ok S (.val (.d (.str s)))) = .ok S (.val (.d (.str s))) := rfl
theorem fStrD_ {T : MT} {fa : FA} : fStrD T fa env S = (bindX (fa env S) (fun S1 l => strR T S1 l) ⟨⟩) := rfl
def strC (k : Option String) (T : MT) (S : Sto) (o : Vr) : R Rt := match k with
  | some c => onlyV pStr (askT T c [o] S)
  | none => gA S [o] gStr
theorem strR_ {T : MT} {o : Vr} : strR T S [o] = strC (clsV S o) T S o := rfl
theorem strC_n {T : MT} {o : Vr} : strC none T S o = gA S [o] gStr := rfl
theorem strC_s {T : MT} {o : Vr} {c : String} : strC (some c) T S o = onlyV pStr (askT T c [o] S) := rfl
theorem fChain_ {g g' : Dv → Dv → Option Rt} {fa fb fc : FE} : fChain g g' fa fb fc env S = (bindW (fa env S) (fun S1 a => (bindW (fb env S1) (fun S2 b => (bindW (g2 S2 a b g) (fun S3 k => (onBW S3 k (fun t =>
  if t then (bindW (fc env S3) (fun S4 c => g2 S4 b c g') ⟨⟩) else .ok S3 (.val (.d (.bl false)))) ⟨⟩)) ⟨⟩)) ⟨⟩)) ⟨⟩) := rfl
theorem fSl_ {fa : FE} {lo hi : FO} : fSl fa lo hi env S = (bindW (fa env S) (fun S1 a => (bindX (lo env S1) (fun S2 l => (bindX (hi env S2) (fun S3 h => g1 S3 a (gSl l h)) ⟨⟩)) ⟨⟩)) ⟨⟩) := rfl
theorem fNoPart_ : fNoPart env S = .ok S none := rfl
def partR (S : Sto) (a : Vr) : R (Option Int) := match a with
  | .d (.int i) => .ok S (some i)
  | _ => .no
theorem fPart_ {fa : FE} : fPart fa env S = (bindW (fa env S) (fun S1 a => partR S1 a) ⟨⟩) := rfl
theorem partR_ {i : Int} : partR S (.d (.int i)) = .ok S (some i) := rfl
theorem fDisp_ {ks vs : List Dv} : fDisp ks vs env S = .ok S (.new (.dc false ks vs)) := rfl
theorem gSl_lst {l : List Dv} {lo hi : Option Int} : gSl lo hi (.lst l) = nL (cutL l lo hi) := rfl
theorem gSl_tup {l : List Dv} {lo hi : Option Int} : gSl lo hi (.tup l) = vT (cutL l lo hi) := rfl
theorem fMut_ {g : List Dv → List Dv → Option (List Dv × Dv)} {fo : FE} {fa : FA} : fMut g fo fa env S = (bindW (fo env S) (fun S1 a => onT "list" S1 a ((bindX (fa env S1) (fun S2 l => gMu S2 a l g) ⟨⟩))) ⟨⟩) := rfl
def muC (n : Nat) (o : Option Cell) (S : Sto) (ds : Option (List Dv)) (g : List Dv → List Dv → Option (List Dv × Dv)) : R Rt := match ds, o with
  | some ds, some (.lst l0) => muP n S (g l0 ds)
  | _, _ => .no
where muP (n : Nat) (S : Sto) (p : Option (List Dv × Dv)) : R Rt := match p with
  | some (l1, res) => .ok (S.set n (.lst l1)) (.val (.d res))
  | none => .no
theorem gMu_ {n : Nat} {l : List Vr} {g : List Dv → List Dv → Option (List Dv × Dv)} : gMu S (.r n) l g = muC n S[n]? S (allD l) g := by
  unfold gMu muC muC.muP
  cases q : allD l with
  | none => rfl
  | some ds =>
    cases q2 : S[n]? with
    | none => simp only [q2]
    | some c => cases c <;> simp only [q2] <;> rfl
theorem muC_ {n : Nat} {ds l0 : List Dv} {g : List Dv → List Dv → Option (List Dv × Dv)} : muC n (some (.lst l0)) S (some ds) g = muC.muP n S (g l0 ds) := rfl
theorem muP_ {n : Nat} {l1 : List Dv} {res : Dv} : muC.muP n S (some (l1, res)) = .ok (S.set n (.lst l1)) (.val (.d res)) := rfl
theorem isT_str {s : Str} : isT "str" (.str s) = true := rfl
theorem isT_lst {s : List Dv} : isT "list" (.lst s) = true := rfl
theorem gClear_ {l : List Dv} : gClear l [] = some ([], .non) := rfl
def cmR (c : String) (n : Nat) (D : FD) (o : Vr) (r : R (List Vr)) : R Rt := match o with
  | .d (.cls b) => if b == c then r.bind fun S2 l => if (Vr.d (.cls c) :: l).length = n then D (.d (.cls c) :: l) S2 else .no else .no
  | _ => .no
theorem fCMeth_ {c : String} {n : Nat} {D : FD} {fo : FE} {fa : FA} : fCMeth c n D fo fa env S = (bindW (fo env S) (fun S1 o => cmR c n D o (fa env S1)) ⟨⟩) := by
  unfold fCMeth cmR
  congr 1
theorem cmR_ {c : String} {n : Nat} {D : FD} {r : R (List Vr)} : cmR c n D (.d (.cls c)) r = (bindX r (fun S2 l => if (Vr.d (.cls c) :: l).length = n then D (.d (.cls c) :: l) S2 else .no) ⟨⟩) := by
  unfold cmR bindX
  simp
theorem makeR_ok {c : String} {l : List Dv} : makeR (List.length S) (.ok (S ++ [.ob c l]) (.val (.d .non))) = .ok S (.new (.ob c l)) := by
  unfold makeR
  simp
def mkLR (c : String) (o : Option Sl) (r : R Rt) : R Rt := match o with
  | some (.v (.d (.cls b))) => if b == c then r else .no
  | _ => .no
theorem fMakeL_ {i n : Nat} {c : String} {D : FD} {fa : FA} : fMakeL i c n D fa env S = mkLR c env[i]? (fMakeD c [] n D fa env S) := by
  unfold fMakeL mkLR
  rfl
theorem mkLR_ {c : String} {r : R Rt} : mkLR c (some (.v (.d (.cls c)))) r = r := by
  unfold mkLR
  simp
end
end DN
local macro_rules | `(tactic| simp_arith [$ls,*]) => `(tactic| simp -dsimp only [↓reduceIte, DN.bindV_val, DN.bindV_lst, DN.bindV_ob, DN.bindV_dc, DN.bindV_no, DN.bindV_ex, DN.bind_ok, DN.bind_no, DN.bind_ex, DN.sV_val, DN.sV_lst, DN.sV_ob, DN.sV_dc, DN.sV_ex, DN.sB_ok, DN.sB_ex, DN.kSeq_, DN.seqR_nx, DN.seqR_rt, DN.seqR_ex, DN.seqR_no, DN.kRet_, DN.retR_ok, DN.retR_ex, DN.kRetN_, DN.kNext_, DN.loopR_nx, DN.loopR_ct, DN.loopR_bk, DN.loopR_rt, DN.forGo_c, DN.forO_, DN.forGo_n, DN.iVal_, DN.itOf_lst, DN.itOf_tup, DN.kIf_, DN.kExpr_, DN.kSet_, DN.kSetC_, DN.setC_val, DN.setC_new, DN.kAsg_, DN.asgR_d, DN.asgO_, DN.tgN_, DN.tgNil_, DN.tgCons_, DN.tgO_, DN.tgT_, DN.kPar_, DN.parR_, DN.kSub_, DN.kFld_, DN.fVar_, DN.varR_, DN.fC_, DN.fOp_, DN.g2_, DN.g2o_, DN.fUn_, DN.g1_, DN.g1o_, DN.of_some, DN.snap_d, DN.snap_r, DN.snapC_lst, DN.snapC_ob, DN.fNil_, DN.fCons_, DN.fTup_, DN.fLst_, DN.allD_n, DN.allD_c, DN.allC_, DN.gTupD_, DN.gLstD_, DN.tupO_0, DN.lstO_0, DN.tupO_1, DN.lstO_1, DN.tupO_2, DN.lstO_2, DN.tupO_3, DN.lstO_3, DN.tupO_4, DN.lstO_4, DN.tupO_5, DN.lstO_5, DN.tupO_6, DN.lstO_6, DN.tupO_7, DN.lstO_7, DN.fAnd_, DN.fOr_, DN.fNot_, DN.fIf_, DN.onB_, DN.kVal_, DN.kAnd_, DN.kOr_, DN.kNot_, DN.kYes_, DN.fCall_, DN.gA_, DN.gAo_, DN.snaps_n, DN.snaps_c, DN.snapsC_, DN.arg1_, DN.arg12_1, DN.arg12_2, DN.arg2_, DN.onlyIf_t, DN.fCallD_, DN.fMeth_, DN.onT_, DN.onTo_, DN.gM_, DN.gMo_, DN.clsV_r, DN.clsC_lst, DN.clsC_ob, DN.clsV_obj, DN.clsV_int, DN.clsV_bl, DN.clsV_str, DN.clsV_non, DN.clsV_lst, DN.clsV_tup, DN.clsV_scr, DN.fLenD_, DN.lenR_, DN.lenC_n, DN.lenC_s, DN.fIxD_, DN.ixR_, DN.ixC_n, DN.ixC_s, DN.okR_ok, DN.fEqD_, DN.fMethD_, DN.fPropD_, DN.fMakeD_, DN.isi_int_int, DN.isi_int_bool, DN.isi_int_str, DN.isi_str_str, DN.isi_str_int, DN.isi_lst_lst, DN.isi_lst_str, DN.isi_tup_str, DN.isi_tup_tup, DN.isi_lst_lt, DN.isi_tup_lt, DN.isi_str_lt, DN.methR_, DN.methP_, DN.askT_, DN.askP_, DN.fAsk1_, DN.ask1R_, DN.ask1P_, DN.at_cons, beq_self_eq_true, DN.eqR_int, DN.eqR_bl, DN.eqR_str, DN.eqR_lst, DN.eqR_tup, DN.eqR_non, DN.onlyV_bl, DN.onlyV_str, DN.fStrD_, DN.strR_, DN.strC_n, DN.strC_s, DN.fChain_, DN.fSl_, DN.fNoPart_, DN.fPart_, DN.partR_, DN.fDisp_, DN.gSl_lst, DN.gSl_tup, DN.fMut_, DN.gMu_, DN.muC_, DN.muP_, DN.isT_str, DN.isT_lst, DN.gClear_, DN.fCMeth_, DN.cmR_, DN.fMakeL_, DN.mkLR_, DN.makeR_ok, List.append_nil, DN.vB_, DN.vI_, DN.vS_, DN.vT_, DN.nL_, DN.vD_, DN.startE_, DN.outS_nx, DN.outS_rt, DN.outS_ex, List.map, List.nil_append, List.cons_append, List.length_cons, List.length_nil, List.replicate, List.getElem?_cons_zero, List.getElem?_cons_succ, List.getElem?_nil, List.set_cons_zero, List.set_cons_succ, if_true, if_false, ite_true, ite_false, Bool.not_true, Bool.not_false, Bool.false_eq_true, Bool.and_true, Bool.true_and, Bool.or_false, Bool.false_or, Nat.add_sub_cancel, Nat.zero_add, Nat.reduceSub, Nat.reduceAdd, $ls,*])
namespace DN
open PySem L2
/-- a comprehension that changes nothing, all items kept -/
theorem fLc_map {fi : FI} {i : Nat} {fe : FE} {vs : List Nat} {env : Env} {S : Sto} {t : Its} (g : Dv → Dv) (hi : fi env S = .ok S t) (hk : lockOk t S = true) (hl : t.1.length ≤ 100000)
    (h : ∀ d ∈ t.1, Got (fe ((wipeE env vs).set i (.v (.d d))) S) S (.d (g d))) : fLc fi (tgN i) kYes fe vs env S = .ok S (.new (.lst (t.1.map g))) := by
  have := fLc_pure (fi := fi) (tg := tgN i) (ft := kYes) (fe := fe) (vs := vs) (env := env) (p := fun _ => true) g hi hk hl fun d hd => ⟨_, rfl, rfl, fun _ => h d hd⟩
  rw [this, List.filter_eq_self.mpr fun _ _ => rfl]
theorem bools_map : ∀ (ws : List Bool), bools? (ws.map .bl) = some ws
  | [] => rfl
  | w :: ws => by simp only [List.map, bools?, bools_map ws]
theorem okN_str {n : Nat} {s : Str} : okN n (.str s) = PyData.strOk s := by cases n <;> rfl
theorem okN_int {n : Nat} {s : Int} : okN n (.int s) = true := by cases n <;> rfl
theorem okN_lst {n : Nat} {l : List Dv} : okN (n + 1) (.lst l) = okNs n l := rfl
theorem okN_tup {n : Nat} {l : List Dv} : okN (n + 1) (.tup l) = okNs n l := rfl
theorem okNs_all {n : Nat} : ∀ {l : List Dv}, (∀ d ∈ l, okN n d = true) → okNs n l = true
  | [], _ => by cases n <;> rfl
  | d :: l, h => by
    have h1 := h d List.mem_cons_self
    have h2 := okNs_all (n := n) (l := l) fun x hx => h x (List.mem_cons_of_mem _ hx)
    show (okN n d && okNs n l) = true
    rw [h1, h2]; rfl
mutual
theorem eqD_refl : ∀ {n : Nat} {d : Dv}, okN n d = true → eqD d d = true
  | _, .non, _ => rfl
  | _, .bl _, _ => by simp [eqD]
  | _, .int _, _ => by simp [eqD]
  | _, .str _, _ => by simp [eqD]
  | n + 1, .lst l, h => by simp only [eqD]; exact eqDs_refl (n := n) h
  | n + 1, .tup l, h => by simp only [eqD]; exact eqDs_refl (n := n) h
  | 0, .lst l, h => by simp [okN] at h
  | 0, .tup l, h => by simp [okN] at h
  | n, .ty _, h => by cases n <;> simp [okN] at h
  | n, .cls _, h => by cases n <;> simp [okN] at h
  | n, .obj _ _, h => by cases n <;> simp [okN] at h
  | n, .dic _ _ _, h => by cases n <;> simp [okN] at h
  | n, .scr _, h => by cases n <;> simp [okN] at h
  | n, .ktp _, h => by cases n <;> simp [okN] at h
theorem eqDs_refl : ∀ {n : Nat} {l : List Dv}, okNs n l = true → eqDs l l = true
  | _, [], _ => rfl
  | n, d :: l, h => by
    have h' : okN n d = true ∧ okNs n l = true := by simpa [okNs] using h
    simp only [eqDs]
    rw [eqD_refl h'.1, eqDs_refl h'.2]; rfl
end
theorem gEq_refl {d : Dv} (h : okN 60 d = true) : gEq d d = vB true := by
  unfold gEq
  rw [h, eqD_refl h]; rfl
theorem gNe_refl {d : Dv} (h : okN 60 d = true) : gNe d d = vB false := by
  unfold gNe
  rw [h, eqD_refl h]; rfl
theorem gEq_int {i j : Int} : gEq (.int i) (.int j) = vB (decide (i = j)) := by
  show onlyIf (okN 60 (.int i) && okN 60 (.int j)) (vB (i == j)) = _
  rw [okN_int, okN_int]
  by_cases h : i = j
  · simp [onlyIf, h]
  · simp [onlyIf, h, beq_false_of_ne h]
theorem gNe_int {i j : Int} : gNe (.int i) (.int j) = vB (!decide (i = j)) := by
  show onlyIf (okN 60 (.int i) && okN 60 (.int j)) (vB (!(i == j))) = _
  rw [okN_int, okN_int]
  by_cases h : i = j
  · simp [onlyIf, h]
  · simp [onlyIf, h, beq_false_of_ne h]
theorem atI_nat {β : Type} {l : List β} {i : Nat} {x : β} (h : l[i]? = some x) : atI l (i : Int) = some x := by
  have hl := (List.getElem?_eq_some_iff.mp h).1
  have : ixN l.length (i : Int) = some i := by
    unfold ixN
    rw [if_pos (by omega), if_pos (by omega)]
    simp
  unfold atI
  rw [this]
  exact h
theorem gIx_lst {l : List Dv} {i : Nat} {x : Dv} (h : l[i]? = some x) : gIx (.lst l) (.int i) = vD x := by
  show (match atI l (i : Int) with | some d => vD d | none => none) = _
  rw [atI_nat h]
theorem gIx_tup {l : List Dv} {i : Nat} {x : Dv} (h : l[i]? = some x) : gIx (.tup l) (.int i) = vD x := by
  show (match atI l (i : Int) with | some d => vD d | none => none) = _
  rw [atI_nat h]
theorem gIx_scr {l : List Int} {i : Nat} {x : Int} (h : l[i]? = some x) : gIx (.scr l) (.int i) = vI x := by
  show (match atI l (i : Int) with | some d => vI d | none => none) = _
  rw [atI_nat h]
theorem gLen_scr {l : List Int} : gLen [.scr l] = vI l.length := rfl
theorem gTuple_lst {l : List Dv} : gTuple [.lst l] = vT l := rfl
theorem gLe_ {i j : Int} : gLe (.int i) (.int j) = vB (decide (i ≤ j)) := rfl
theorem gLt_ {i j : Int} : gLt (.int i) (.int j) = vB (decide (i < j)) := rfl
theorem gGt_ {i j : Int} : gGt (.int i) (.int j) = vB (decide (i > j)) := rfl
theorem gAdd_ {i j : Int} : gAdd (.int i) (.int j) = vI (i + j) := rfl
theorem gSub_ {i j : Int} : gSub (.int i) (.int j) = vI (i - j) := rfl
theorem gInt_ {i : Int} : gInt [.int i] = vI i := rfl
theorem gMax2_ {i j : Int} : gMax [.int i, .int j] = gMax2 (.int i) (.int j) := rfl
theorem gMin2_ {i j : Int} : gMin [.int i, .int j] = gMin2 (.int i) (.int j) := rfl
theorem gAll_true {β : Type} (l : List β) : gAll [.lst (l.map fun _ => Dv.bl true)] = vB true := by
  have e : (l.map fun _ => Dv.bl true) = (l.map fun _ => true).map .bl := by simp
  show gAll1 (.lst _) = _
  rw [e]
  simp only [gAll1, bools_map]
  congr 1
  simp
theorem iRange1_ {fa : FA} {env : Env} {S : Sto} {n : Nat} (h : fa env S = .ok S [.d (.int n)]) (hn : n ≤ 1000000) : iRange1 fa env S = .ok S ((List.range n).map fun i : Nat => Dv.int i, none) := by
  unfold iRange1
  rw [h]
  show rng1 S (some (n : Int)) = _
  unfold rng1
  have : smallR (n : Int) = true := by unfold smallR; rw [decide_eq_true (by omega), decide_eq_true (by omega)]; rfl
  simp only [this, if_true]
  unfold rangeD
  congr 2
  simp
end DN
namespace DN
open PySem L2
abbrev box (a b c : Int) : Cell := .lst [.int a, .int b, .int c]
theorem ix_0 {x : Dv} {l : List Dv} : gIx (.lst (x :: l)) (.int 0) = vD x := gIx_lst (i := 0) rfl
theorem ix_1 {x y : Dv} {l : List Dv} : gIx (.lst (x :: y :: l)) (.int 1) = vD y := gIx_lst (i := 1) rfl
theorem ix_2 {x y z : Dv} {l : List Dv} : gIx (.lst (x :: y :: z :: l)) (.int 2) = vD z := gIx_lst (i := 2) rfl
theorem gMod_ {i j : Int} (h : 0 < j) : gMod (.int i) (.int j) = vI (i.fmod j) := by
  show onlyIf (decide (j ≠ 0)) _ = _
  rw [decide_eq_true (by omega)]; rfl
theorem gDiv_ {i j : Int} (h : 0 < j) (h2 : j < 1073741824) : gDiv (.int i) (.int j) = vI (i.fdiv j) := by
  show onlyIf (decide (j ≠ 0) && decide (j.natAbs < 1073741824)) _ = _
  rw [decide_eq_true (by omega), decide_eq_true (by omega)]; rfl
theorem gMul_ {i j : Int} (h : -(2 ^ 64) < i) (h2 : i < 2 ^ 64) : gMul (.int i) (.int j) = vI (i * j) := by
  show onlyIf (small64 i || small64 j) _ = _
  have : small64 i = true := by unfold small64; rw [decide_eq_true h, decide_eq_true h2]; rfl
  rw [this]; rfl
theorem gPow_ {i : Int} {j : Nat} (h : i.natAbs < 2 ^ 64) (h2 : j ≤ 1000000) : gPow (.int i) (.int j) = vI (i ^ j) := by
  show onlyIf (decide (0 ≤ (j : Int)) && decide ((j : Int) ≤ 1000000) && decide (i.natAbs < 2 ^ 64)) _ = _
  rw [decide_eq_true (by omega), decide_eq_true (by omega), decide_eq_true h]; rfl
theorem exit_d {k : Nat} {S : Sto} {d : Dv} : exitR k (.ok S (.val (.d d))) = .ok (S.take k) (.val (.d d)) := rfl
theorem set_ix {T : Sto} {n k : Nat} {l : List Dv} {v : Dv} {env : Env} (h : T[n]? = some (.lst l)) (hk : k < l.length) : setIx env T (.r n) (.d (.int k)) (.d v) = .nx env (T.set n (.lst (l.set k v))) := by
  have e : ixN l.length (k : Int) = some k := by
    unfold ixN
    rw [if_pos (by omega), if_pos (by omega)]
    simp
  show (match T[n]? with | some c => (match putC c (.int k) v with | some c2 => RS.nx env (T.set n c2) | none => .no) | none => .no) = _
  rw [h]
  show (match (match ixN l.length (k : Int) with | some j => some (Cell.lst (l.set j v)) | none => none) with | some c2 => RS.nx env (T.set n c2) | none => .no) = _
  rw [e]
theorem set_ix0 {T : Sto} {n : Nat} {x v : Dv} {l : List Dv} {env : Env} (h : T[n]? = some (.lst (x :: l))) : setIx env T (.r n) (.d (.int 0)) (.d v) = .nx env (T.set n (.lst (v :: l))) := set_ix (k := 0) h (by simp)
theorem set_ix2 {T : Sto} {n : Nat} {x y z v : Dv} {l : List Dv} {env : Env} (h : T[n]? = some (.lst (x :: y :: z :: l))) : setIx env T (.r n) (.d (.int 2)) (.d v) = .nx env (T.set n (.lst (x :: y :: v :: l))) := set_ix (k := 2) h (by simp)
theorem take_set {T : Sto} {n : Nat} {c : Cell} : (T.set n c).take T.length = T.set n c := List.take_of_length_le (by simp)
theorem take_len {T : Sto} : T.take T.length = T := List.take_length
theorem def_set {m n : Nat} {body : FS} {args : List Vr} {T : Sto} {k k' : Cell} {d : Dv} (h : outS (body (startE m args) (T.set n k)) = .ok (T.set n k') (.val (.d d))) : defD m body args (T.set n k) = .ok (T.set n k') (.val (.d d)) := by
  unfold defD
  rw [h, exit_d, List.length_set, take_set]
theorem get_set {T : Sto} {n : Nat} {c d : Cell} (h : T[n]? = some d) : (T.set n c)[n]? = some c := List.getElem?_set_self (List.getElem?_eq_some_iff.mp h).1
/-- the box at cell n, after at most m turns of the small numbers -/
def BxC (B : Int) (m : Nat) (k : Cell) : Prop := ∃ a b c : Int, k = box a b c ∧ 0 ≤ b ∧ b < B ∧ 0 ≤ c ∧ c ≤ m
theorem BxC.le {B : Int} {n m : Nat} {k : Cell} (h : BxC B n k) (l : n ≤ m) : BxC B m k := by
  obtain ⟨a, b, c, rfl, h1, h2, h3, h4⟩ := h
  exact ⟨a, b, c, rfl, h1, h2, h3, by omega⟩
section
variable {fa : FE} {fl : FA} {ft : FT} {fe : FE} {vs : List Nat} {env : Env} {S : Sto} {i n : Nat}
theorem fLc_it {d : Dv} {l : List Dv} (g : Dv → Dv) (h1 : fa env S = .ok S (.val (.d d))) (h2 : iterD d = some l) (hl : l.length ≤ 100000)
    (h : ∀ x ∈ l, Got (fe ((wipeE env vs).set i (.v (.d x))) S) S (.d (g x))) : fLc (iVal fa) (tgN i) kYes fe vs env S = .ok S (.new (.lst (l.map g))) := by
  refine fLc_map (t := (l, none)) g ?_ rfl hl h
  unfold iVal
  rw [h1]
  show itOf S (.d d) = _
  simp only [itOf, h2]
theorem range_1 (h : fl env S = .ok S [.d (.int n)]) (hn : n ≤ 100000) : iRange1 fl env S = .ok S ((List.range n).map fun i : Nat => Dv.int i, none) := iRange1_ h (by omega)
theorem range_2 {a b : Nat} (h : fl env S = .ok S [.d (.int a), .d (.int b)]) (ha : a ≤ 100000) (hb : b ≤ 100000) : iRange2 fl env S = .ok S ((List.range (b - a)).map fun i : Nat => Dv.int ((a + i : Nat) : Int), none) := by
  unfold iRange2
  rw [h]
  show rng2 S (some ((a : Int), (b : Int))) = _
  have h1 : smallR (a : Int) = true := by unfold smallR; rw [decide_eq_true (by omega), decide_eq_true (by omega)]; rfl
  have h2 : smallR (b : Int) = true := by unfold smallR; rw [decide_eq_true (by omega), decide_eq_true (by omega)]; rfl
  show (if smallR (a : Int) && smallR (b : Int) then R.ok S (rangeD (a : Int) (b : Int), none) else .no) = _
  rw [h1, h2]
  show R.ok S (rangeD (a : Int) (b : Int), none) = _
  unfold rangeD
  rw [show ((b : Int) - (a : Int)).toNat = b - a by omega]
  congr 2
theorem fLc_rg (g : Nat → Dv) (h1 : fl env S = .ok S [.d (.int n)]) (hn : n ≤ 100000)
    (h : ∀ k, k < n → Got (fe ((wipeE env vs).set i (.v (.d (.int k)))) S) S (.d (g k))) : fLc (iRange1 fl) (tgN i) kYes fe vs env S = .ok S (.new (.lst ((List.range n).map g))) := by
  have := fLc_map (fi := iRange1 fl) (fe := fe) (vs := vs) (env := env) (S := S) (i := i) (fun d => match d with | .int s => g s.toNat | _ => .non) (range_1 h1 hn) rfl (by simpa using hn) (fun x hx => by
    obtain ⟨s, hs, rfl⟩ := List.mem_map.mp hx
    exact h s (List.mem_range.mp hs))
  rw [this, List.map_map]
  rfl
theorem fLc_rgF (p : Nat → Bool) (g : Nat → Dv) (h1 : fl env S = .ok S [.d (.int n)]) (hn : n ≤ 100000)
    (h0 : ∀ k, k < n → ft ((wipeE env vs).set i (.v (.d (.int k)))) S = .ok S (p k))
    (h : ∀ k, k < n → p k = true → Got (fe ((wipeE env vs).set i (.v (.d (.int k)))) S) S (.d (g k))) : fLc (iRange1 fl) (tgN i) ft fe vs env S = .ok S (.new (.lst (((List.range n).filter p).map g))) := by
  have := fLc_pure (fi := iRange1 fl) (tg := tgN i) (ft := ft) (fe := fe) (vs := vs) (env := env) (S := S) (fun d => match d with | .int s => p s.toNat | _ => false) (fun d => match d with | .int s => g s.toNat | _ => .non) (range_1 h1 hn) rfl (by simpa using hn) (fun x hx => by
    obtain ⟨s, hs, rfl⟩ := List.mem_map.mp hx
    exact ⟨_, rfl, h0 s (List.mem_range.mp hs), h s (List.mem_range.mp hs)⟩)
  rw [this, List.filter_map, List.map_map]
  rfl
end
/-- a loop over items that do not change, by an invariant; it runs to its end -/
theorem for_inv {t : Its} {tg : FG} {body : FS} (ht : t.2 = none) : ∀ {l : List Dv} {env : Env} {S : Sto} (I : Nat → Env → Sto → Prop) (j : Nat), I j env S →
    (∀ k d env S, l[k]? = some d → I (j + k) env S → ∃ env1 env' S', tg d env = some env1 ∧ body env1 S = .nx env' S' ∧ I (j + k + 1) env' S') → ∃ env' S', forGo t tg body l env S = .nx env' S' ∧ I (j + l.length) env' S'
  | [], env, S, I, j, hI, _ => ⟨env, S, by
      have : lockOk t S = true := by unfold lockOk; rw [ht]
      simp [forGo, this], hI⟩
  | d :: l, env, S, I, j, hI, h => by
    have hk : lockOk t S = true := by unfold lockOk; rw [ht]
    obtain ⟨env1, env', S', h1, h2, h3⟩ := h 0 d env S rfl hI
    obtain ⟨e2, S2, h4, h5⟩ := for_inv ht (l := l) I (j + 1) h3 (fun k d' e S hd hi => by
      have := h (k + 1) d' e S (by simpa using hd) (by rw [show j + (k + 1) = j + 1 + k by omega]; exact hi)
      rw [show j + (k + 1) + 1 = j + 1 + k + 1 by omega] at this
      exact this)
    refine ⟨e2, S2, ?_, by rw [List.length_cons, show j + (l.length + 1) = j + 1 + l.length by omega]; exact h5⟩
    simp only [forGo, hk, if_true, h1, h2, h4]
/-- over a range -/
theorem for_rg {fl : FA} {body : FS} {env : Env} {S : Sto} {i n : Nat} (I : Nat → Env → Sto → Prop) (h1 : fl env S = .ok S [.d (.int n)]) (hn : n ≤ 100000) (h0 : I 0 env S)
    (h : ∀ k env S, k < n → I k env S → ∃ env' S', body (env.set i (.v (.d (.int k)))) S = .nx env' S' ∧ I (k + 1) env' S') : ∃ env' S', kFor (iRange1 fl) (tgN i) body env S = .nx env' S' ∧ I n env' S' := by
  obtain ⟨e, S', h2, h3⟩ := for_inv (t := ((List.range n).map fun i : Nat => Dv.int i, none)) (tg := tgN i) (body := body) rfl (l := (List.range n).map fun i : Nat => Dv.int i) (env := env) (S := S) I 0 h0 (fun k d e T hd hi => by
    rw [List.getElem?_map] at hd
    cases q : (List.range n)[k]? with
    | none => rw [q] at hd; cases hd
    | some x =>
      rw [q] at hd
      have hx := List.getElem?_eq_some_iff.mp q
      have : x = k := by rw [← hx.2]; simp
      subst this
      cases hd
      have hxn : x < n := by simpa using hx.1
      rw [Nat.zero_add] at hi ⊢
      obtain ⟨e', T', h4, h5⟩ := h x e T hxn hi
      exact ⟨_, e', T', rfl, h4, h5⟩)
  refine ⟨e, S', ?_, by simpa using h3⟩
  unfold kFor
  rw [range_1 h1 hn]
  exact h2
theorem set_last {S : Sto} {c d : Cell} : (S ++ [c]).set (List.length S) d = S ++ [d] := by
  rw [List.set_append_right _ _ (Nat.le_refl _), Nat.sub_self]
  rfl
/-- a is a list or a tuple of the items ds, in the state S -/
structure Sq (S : Sto) (a : Vr) (ds : List Dv) : Prop where
  it : ∃ t, itOf S a = .ok S t ∧ t.1 = ds ∧ lockOk t S = true
  sn : ∃ d, snap S a = some d ∧ (∀ cs, gIsi cs d (.tup [.ty "list", .ty "tuple"]) = vB true) ∧ gLen [d] = vI ds.length ∧ gTuple [d] = vT ds ∧ gList [d] = nL ds ∧ ∀ i : Nat, ∀ x, ds[i]? = some x → gIx d (.int i) = vD x
  cl : clsV S a = none
theorem Sq.lst {S : Sto} {ds : List Dv} : Sq S (.d (.lst ds)) ds := ⟨⟨(ds, none), rfl, rfl, rfl⟩, ⟨.lst ds, rfl, fun _ => rfl, rfl, rfl, rfl, fun i x h => gIx_lst h⟩, rfl⟩
theorem Sq.tup {S : Sto} {ds : List Dv} : Sq S (.d (.tup ds)) ds := ⟨⟨(ds, none), rfl, rfl, rfl⟩, ⟨.tup ds, rfl, fun _ => rfl, rfl, rfl, rfl, fun i x h => gIx_tup h⟩, rfl⟩
theorem Sq.cell {S : Sto} {n : Nat} {ds : List Dv} (h : S[n]? = some (.lst ds)) : Sq S (.r n) ds := by
  refine ⟨⟨(ds, some n), ?_, rfl, ?_⟩, ⟨.lst ds, ?_, fun _ => rfl, rfl, rfl, rfl, fun i x h => gIx_lst h⟩, ?_⟩
  · simp [itOf, h]
  · simp [lockOk, h, beqDs_refl]
  · simp [snap, h]
  · simp [clsV, h]
theorem app_tl (a b : Str) : (a ++ b).cps.toList = a.cps.toList ++ b.cps.toList := by
  show (a.cps ++ b.cps).toList = _
  simp
theorem gAdd_lst {a b : List Dv} (h : a.length + b.length ≤ 100000) : gAdd (.lst a) (.lst b) = nL (a ++ b) := by
  show onlyIf (decide (a.length + b.length ≤ 100000)) _ = _
  rw [decide_eq_true h]; rfl
end DN
namespace DN
open PySem PySem.Spec PyProof.Rows L2 Evl
end DN
namespace DN
open PySem PySem.Spec PyProof.Rows L2 Evl
section
variable {P : Program} {w : World} {A : Around} {E : Value → Shared → Prop} {s : Shared}
/-- a set as it is made -/
abbrev setO (w : World) : Obj := { cls := .type "set", dict := none, data := .set #[] 0 (.fresh 0 0 (!w.params.followText "set-order")) }
end
end DN
namespace DN
open PySem PySem.Spec PyProof.Rows L2 Evl
def cd2 (p : Int × Int) : Int := p.1 * 64 + p.2
def pair? : Dv → Option (Int × Int)
  | .tup [.int a, .int b] => if 0 ≤ a ∧ a < 64 ∧ 0 ≤ b ∧ b < 64 then some (a, b) else none
  | _ => none
def pairs? : List Dv → Option (List (Int × Int))
  | [] => some []
  | d :: l => match pair? d, pairs? l with
    | some p, some ps => some (p :: ps)
    | _, _ => none
def pairD (p : Int × Int) : Dv := .tup [.int p.1, .int p.2]
def insP (p : Int × Int) : List (Int × Int) → List (Int × Int)
  | [] => [p]
  | q :: l => if cd2 p < cd2 q then p :: q :: l else if cd2 p = cd2 q then q :: l else q :: insP p l
def sortP : List (Int × Int) → List (Int × Int)
  | [] => []
  | p :: l => insP p (sortP l)
def Small (p : Int × Int) : Prop := 0 ≤ p.1 ∧ p.1 < 64 ∧ 0 ≤ p.2 ∧ p.2 < 64
theorem cd2_inj {p q : Int × Int} (h : Small p) (g : Small q) (e : cd2 p = cd2 q) : p = q := by
  obtain ⟨a, b⟩ := p
  obtain ⟨c, d⟩ := q
  unfold Small at h g
  unfold cd2 at e
  simp only at h g e
  have : a = c := by omega
  have : b = d := by omega
  subst_vars
  rfl
theorem pair_some {d : Dv} {p : Int × Int} (h : pair? d = some p) : d = pairD p ∧ Small p := by
  unfold pair? at h
  split at h
  · split at h
    · rename_i hc
      cases h
      exact ⟨rfl, hc⟩
    · cases h
  · cases h
theorem pairs_small : ∀ {l : List Dv} {ps : List (Int × Int)}, pairs? l = some ps → l = ps.map pairD ∧ ∀ p ∈ ps, Small p
  | [], ps, h => by cases h; exact ⟨rfl, fun _ h => nomatch h⟩
  | d :: l, ps, h => by
    unfold pairs? at h
    cases q1 : pair? d with
    | none => rw [q1] at h; cases h
    | some p =>
      cases q2 : pairs? l with
      | none => rw [q1, q2] at h; cases h
      | some qs =>
        rw [q1, q2] at h
        cases h
        obtain ⟨h1, h2⟩ := pairs_small q2
        obtain ⟨h3, h4⟩ := pair_some q1
        exact ⟨by rw [h3, h1]; rfl, fun p hp => by
          rcases List.mem_cons.mp hp with rfl | hp
          · exact h4
          · exact h2 p hp⟩
theorem mem_insP {p q : Int × Int} (hp : Small p) : ∀ {l : List (Int × Int)}, (∀ x ∈ l, Small x) → (q ∈ insP p l ↔ q = p ∨ q ∈ l)
  | [], _ => by simp [insP]
  | x :: l, h => by
    unfold insP
    split
    · simp
    · split
      · rename_i h1 h2
        have := cd2_inj hp (h x List.mem_cons_self) h2
        subst this
        simp
      · rw [List.mem_cons, mem_insP hp fun y hy => h y (List.mem_cons_of_mem _ hy), List.mem_cons]
        constructor
        · rintro (h | h | h)
          · exact .inr (.inl h)
          · exact .inl h
          · exact .inr (.inr h)
        · rintro (h | h | h)
          · exact .inr (.inl h)
          · exact .inl h
          · exact .inr (.inr h)
theorem mem_sortP {q : Int × Int} : ∀ {l : List (Int × Int)}, (∀ x ∈ l, Small x) → (q ∈ sortP l ↔ q ∈ l)
  | [], _ => by simp [sortP]
  | x :: l, h => by
    have ih : ∀ q, q ∈ sortP l ↔ q ∈ l := fun q => mem_sortP fun y hy => h y (List.mem_cons_of_mem _ hy)
    show q ∈ insP x (sortP l) ↔ _
    rw [mem_insP (h x List.mem_cons_self) (fun y hy => h y (List.mem_cons_of_mem _ ((ih y).mp hy))), ih, List.mem_cons]
theorem insP_pw {p : Int × Int} : ∀ {l : List (Int × Int)}, l.Pairwise (fun x y => cd2 x < cd2 y) → (insP p l).Pairwise (fun x y => cd2 x < cd2 y) ∧ ∀ y ∈ insP p l, y = p ∨ y ∈ l
  | [], _ => by simp [insP]
  | x :: l, h => by
    have h1 := List.pairwise_cons.mp h
    unfold insP
    split
    · rename_i hlt
      refine ⟨List.pairwise_cons.mpr ⟨fun y hy => ?_, h⟩, fun y hy => by simpa using hy⟩
      rcases List.mem_cons.mp hy with rfl | hy
      · exact hlt
      · exact Int.lt_trans hlt (h1.1 y hy)
    · split
      · exact ⟨h, fun y hy => .inr hy⟩
      · rename_i h2 h3
        obtain ⟨ih1, ih2⟩ := insP_pw (p := p) h1.2
        refine ⟨List.pairwise_cons.mpr ⟨fun y hy => ?_, ih1⟩, fun y hy => ?_⟩
        · rcases ih2 y hy with rfl | hy
          · omega
          · exact h1.1 y hy
        · rcases List.mem_cons.mp hy with rfl | hy
          · exact .inr List.mem_cons_self
          · rcases ih2 y hy with rfl | hy
            · exact .inl rfl
            · exact .inr (List.mem_cons_of_mem _ hy)
theorem sortP_pw : ∀ (l : List (Int × Int)), (sortP l).Pairwise (fun x y => cd2 x < cd2 y)
  | [] => List.Pairwise.nil
  | p :: l => (insP_pw (sortP_pw l)).1
/-- two lists that ascend by a key and have the same members are one -/
theorem ascend_unique {β : Type} (f : β → Int) : ∀ {l m : List β}, l.Pairwise (fun x y => f x < f y) → m.Pairwise (fun x y => f x < f y) → (∀ x, x ∈ l ↔ x ∈ m) → l = m
  | [], [], _, _, _ => rfl
  | [], y :: m, _, _, h => absurd ((h y).mpr List.mem_cons_self) (by simp)
  | x :: l, [], _, _, h => absurd ((h x).mp List.mem_cons_self) (by simp)
  | x :: l, y :: m, hl, hm, h => by
    have h1 := List.pairwise_cons.mp hl
    have h2 := List.pairwise_cons.mp hm
    have e : x = y := by
      rcases List.mem_cons.mp ((h x).mp List.mem_cons_self) with e | e
      · exact e
      · rcases List.mem_cons.mp ((h y).mpr List.mem_cons_self) with e2 | e2
        · exact e2.symm
        · have := h2.1 x e
          have := h1.1 y e2
          omega
    subst e
    rw [ascend_unique f h1.2 h2.2 fun z => ?_]
    constructor
    · intro hz
      rcases List.mem_cons.mp ((h z).mp (List.mem_cons_of_mem _ hz)) with e | e
      · subst e; have := h1.1 z hz; omega
      · exact e
    · intro hz
      rcases List.mem_cons.mp ((h z).mpr (List.mem_cons_of_mem _ hz)) with e | e
      · subst e; have := h2.1 z hz; omega
      · exact e
def insU (i : Int) : List Int → List Int
  | [] => [i]
  | j :: l => if i < j then i :: j :: l else if i = j then j :: l else j :: insU i l
def sortU : List Int → List Int
  | [] => []
  | i :: l => insU i (sortU l)
theorem mem_insU {i q : Int} : ∀ {l : List Int}, q ∈ insU i l ↔ q = i ∨ q ∈ l
  | [] => by simp [insU]
  | x :: l => by
    unfold insU
    split
    · simp
    · split
      · rename_i h1 h2
        subst h2
        simp
      · rw [List.mem_cons, mem_insU, List.mem_cons]
        constructor
        · rintro (h | h | h)
          · exact .inr (.inl h)
          · exact .inl h
          · exact .inr (.inr h)
        · rintro (h | h | h)
          · exact .inr (.inl h)
          · exact .inl h
          · exact .inr (.inr h)
theorem mem_sortU {q : Int} : ∀ {l : List Int}, q ∈ sortU l ↔ q ∈ l
  | [] => by simp [sortU]
  | x :: l => by
    show q ∈ insU x (sortU l) ↔ _
    rw [mem_insU, mem_sortU, List.mem_cons]
theorem insU_pw {i : Int} : ∀ {l : List Int}, l.Pairwise (· < ·) → (insU i l).Pairwise (· < ·)
  | [], _ => by simp [insU]
  | x :: l, h => by
    have h1 := List.pairwise_cons.mp h
    unfold insU
    split
    · rename_i hlt
      refine List.pairwise_cons.mpr ⟨fun y hy => ?_, h⟩
      rcases List.mem_cons.mp hy with rfl | hy
      · exact hlt
      · exact Int.lt_trans hlt (h1.1 y hy)
    · split
      · exact h
      · refine List.pairwise_cons.mpr ⟨fun y hy => ?_, insU_pw h1.2⟩
        rcases mem_insU.mp hy with rfl | hy
        · omega
        · exact h1.1 y hy
theorem sortU_pw : ∀ (l : List Int), (sortU l).Pairwise (· < ·)
  | [] => List.Pairwise.nil
  | p :: l => insU_pw (sortU_pw l)
section
variable {Z : Zx} {X : Cx} {Ew : L2.St → XK} {S : Sto} {G H : Hp} {α : List Addr} {Q : VK} {E : XK}
def rSetQ (K : PySem.W.Frag) (P : Program) (w : World) : List V → Hp → VK → Prop := fun xs H Q => ∃ (l : Addr) (ks : List (Addr × List Int)), xs = [V.ref l] ∧ (SqL K H l (ks.map fun p => V.ref p.1) ∨ SqT K H l (ks.map fun p => V.ref p.1)) ∧ (∀ p ∈ ks, SqT K H p.1 (p.2.map V.int)) ∧ ks.length < 64 ∧
  ∀ a L, H a = none → (∀ p ∈ L, p ∈ ks) → (∀ p ∈ ks, p.2 ∈ L.map (·.2)) → Q (.ref a) (upd H a (SetTO P w a L))
theorem pairs_on : ∀ {l : List Dv} {xs : List V} {ps : List (Int × Int)}, pairs? l = some ps → OnL Z G l xs → ∃ ks : List (Addr × List Int), xs = ks.map (fun p => V.ref p.1) ∧ ks.map (·.2) = ps.map (fun p => [p.1, p.2]) ∧ ∀ p ∈ ks, G p.1 = some (.tup (p.2.map V.int))
  | [], xs, ps, h, o => by cases h; rw [OnL.nil.mp o]; exact ⟨[], rfl, rfl, fun _ h => nomatch h⟩
  | d :: l, xs, ps, h, o => by
    obtain ⟨y, ys, rfl, o1, o2⟩ := OnL.cons.mp o
    unfold pairs? at h
    cases q1 : pair? d with
    | none => rw [q1] at h; cases h
    | some p =>
      cases q2 : pairs? l with
      | none => rw [q1, q2] at h; cases h
      | some qs =>
        rw [q1, q2] at h
        cases h
        obtain ⟨ks, rfl, h2, h3⟩ := pairs_on q2 o2
        obtain ⟨e, _⟩ := pair_some q1
        subst e
        unfold pairD On at o1
        obtain ⟨a, zs, rfl, e1, e2⟩ := o1
        obtain ⟨u, v, rfl, hu, hv⟩ := e2.two
        unfold On at hu hv
        subst hu hv
        exact ⟨(a, [p.1, p.2]) :: ks, rfl, by simp [h2], fun q hq => by
          rcases List.mem_cons.mp hq with rfl | hq
          · exact e1
          · exact h3 q hq⟩
theorem on_pairs : ∀ {L : List (Addr × List Int)} {ps : List (Int × Int)}, L.map (·.2) = ps.map (fun p => [p.1, p.2]) → (∀ p ∈ L, G p.1 = some (.tup (p.2.map V.int))) → OnL Z G (ps.map pairD) (L.map fun p => V.ref p.1)
  | [], [], _, _ => OnL.nil'
  | [], _ :: _, h, _ => by simp at h
  | _ :: _, [], h, _ => by simp at h
  | q :: L, p :: ps, h, g => by
    rw [List.map_cons, List.map_cons] at h
    obtain ⟨h1, h2⟩ := List.cons_eq_cons.mp h
    have e := g q List.mem_cons_self
    rw [show q.2 = [p.1, p.2] from h1] at e
    refine OnL.cons' ?_ (on_pairs h2 fun x hx => g x (List.mem_cons_of_mem _ hx))
    unfold pairD On
    exact ⟨q.1, _, rfl, e, OnL.cons' on_int (OnL.cons' on_int OnL.nil')⟩
/-- a set of ints, of a tuple -/
def rSetI (K : PySem.W.Frag) (w : World) : List V → Hp → VK → Prop := fun xs H Q => ∃ (l : Addr) (ns : List Int), xs = [V.ref l] ∧ SqT K H l (ns.map V.int) ∧ ns.length < 64 ∧ ∀ a c, H a = none → c ≤ ns.length → Q (.ref a) (upd H a (SetO w a (fun j => decide (j ∈ ns)) c))
theorem rSetQ.imp {xs : List V} {Q Q' : VK} {K : PySem.W.Frag} {P : Program} {w : World} (h : rSetQ K P w xs H Q) (k : ∀ v H, Q v H → Q' v H) : rSetQ K P w xs H Q' := by
  obtain ⟨l, ks, h1, h2, h3, h4, h5⟩ := h
  exact ⟨l, ks, h1, h2, h3, h4, fun a L x y z => k _ _ (h5 a L x y z)⟩
end
end DN
namespace DN
open PySem PySem.Spec PyProof.Rows L2 Evl
theorem put_tupleKey {X : Cx} {pins : List (Addr × Obj)} {σ : L2.St} {H : Hp} {s : Shared} {E : Value → Shared → Prop} {D b : Addr} {kvs : List (List Key × V)} {k : List Key} {v : V} {r : Value} {Q : Unit → Shared → Prop} (hu : X.A.units < cLine) (I : Inv X pins σ H s) (hD : H D = some (.dT kvs)) (hz : kvs.length < sizeLine)
    (hb : H b = some (.tup (k.map kV))) (rv : RelV v r) (h : ∀ s', Inv X pins σ (upd H D (.dT (putK kvs k v))) s' → Q () s') : wpAny (model X.prog X.w) X.A (dictSet D (.ref b) r) Q E s := by
  obtain ⟨z, hd, xs, rel, dd⟩ := dt_of I.hok hD
  have hxs : xs.length ≤ sizeLine := by rw [← Paired.length rel]; exact z
  have hput : (putK kvs k v).length ≤ sizeLine := by have := length_putK kvs k v; omega
  refine wpAny_dictSet_heap (knd := tupleKind (mixKind X.prog X.w)) (hsz := hxs) hu (key_of I.hok hb) dd fun h' dd' hs => h _ ?_
  obtain ⟨q, es, ep, hq, h2, h3, h4, _, h5⟩ := dd'
  refine d_write I (by rw [hD]; trivial) hs ⟨q, hq⟩ ⟨hput, hd, _, (rel.put k hb rv).keeps fun c ys ec => ?_, q, es, ep, hq, h2, h3, h4, h5⟩
  have : c ≠ D := fun e => by rw [e, hD] at ec; cases ec
  rw [upd_ne this]
  exact ec
/-- {k: v for target in iter}, k a tuple: D the new dict; P i H: what holds ahead of the i-th turn -/
def tDcT (wi : TI) (g : TG) (tk tv : TE) (vs : List Nat) : TE := fun σ H Q => wi σ H fun J H1 => ∀ D, H1 D = none → ∃ (n : Nat) (P : Nat → Hp → Prop), P 0 (upd H1 D (.dT [])) ∧ (∀ H, P n H → J.stop n H ∧ Q (.ref D) H) ∧
  ∀ i H, i < n → P i H → J.go i H ∧ ∀ x H', J.yld i H x H' → g x (wipe σ vs) H' fun σ2 H2 => wipe σ2 vs = wipe σ vs ∧
    tk σ2 H2 fun y H3 => tv σ2 H3 fun z H4 => ∃ b kvs k, y = .ref b ∧ H4 b = some (.tup (k.map kV)) ∧ H4 D = some (.dT kvs) ∧ kvs.length < sizeLine ∧ P (i + 1) (upd H4 D (.dT (putK kvs k z)))
theorem pe_dcT {X : Cx} {kx vx tg iter : Expr} {scope : Scope} {own : List (Str × Nat)} {pos : Pos} {wi : TI} {g : TG} {tk tv : TE} (hc : X.calm = true) (hu : X.A.units < cLine) (hN : X.N.Nodup) (hi : PI X tg iter wi) (ok : BlkOk X.N X.env.scope scope own)
    (hg : ∀ (s : Shared) (H : Hp) (C : Addr) (cl : List (Str × Addr)) (fp : List Addr), PG (X.blk s H scope (compEnvC scope cl C X.env) fp) tg g)
    (hk : ∀ (s : Shared) (H : Hp) (C : Addr) (cl : List (Str × Addr)) (fp : List Addr), PE (X.blk s H scope (compEnvC scope cl C X.env) fp) kx tk)
    (he : ∀ (s : Shared) (H : Hp) (C : Addr) (cl : List (Str × Addr)) (fp : List Addr), PE (X.blk s H scope (compEnvC scope cl C X.env) fp) vx tv) (hs : ∀ x, foldedSetIterable iter X.env x = pure x := by intro _; rfl) :
    PE X (.DictComp kx vx [⟨tg, iter, [], 0⟩] scope pos) (tDcT wi g tk tv (own.map (·.2))) := by
  refine ⟨fun pins s σ H Q I h => ?_⟩
  rw [arm_eval_DictComp]
  have cells : ∀ y ∈ scope.names, y.2 = .free → ∃ c, X.env.cells.lookup y.1 = some c := fun y hy e => (ok.free y hy e).elim (fun k => I.ok.has _ (.inl k)) fun k => I.ok.has _ (.inr k)
  refine wpAny_comprehension_free (use := none) rfl hs (closure_ok cells) ok.kind (fun y hy e => by rw [ok.uniq y hy, e]) (thn (hi.run pins s σ H _ I h) fun xv sa hx => thn hx fun itv sb hb => ?_)
  obtain ⟨it, fp, tn, J, Hb, rfl, Ib, T, stb, fb, q⟩ := hb
  refine wpAny_newObj_type (newEnv_comp ?_)
  obtain ⟨D, hD⟩ : ∃ D, sb.heap.objs.size = D := ⟨_, rfl⟩
  have freshD : Hb D = none := Ib.hok.fresh (Nat.le_of_eq hD)
  obtain ⟨n, P, p0, pend, pstep⟩ := q D freshD
  obtain ⟨sc, hsc⟩ : ∃ sc : Shared, { sb with heap := sb.heap.push { cls := .type "dict", data := .dict #[] } } = sc := ⟨_, rfl⟩
  have heapc : sc.heap = sb.heap.push { cls := .type "dict", data := .dict #[] } := by rw [← hsc]
  have Ic : Inv X pins σ (upd Hb D (.dT [])) sc := by
    subst hsc hD
    exact Ib.laid (t' := sb.toks) (fun _ _ e => Heap.get?_push_of_some _ e) (Nat.le_refl _) (dt_empty sb.heap Ib.big)
  have below : ∀ b ∈ fp, b < sb.heap.objs.size := fun b hbf => let ⟨o, e, _⟩ := T.obj _ _ stb b hbf; Heap.lt_size e
  have fc : ∀ b ∈ fp, FpOk X pins (upd Hb D (.dT [])) b ∧ b < sc.heap.objs.size := fun b hbf => by
    have lt := below b hbf
    have ne : b ≠ D := fun e => by rw [e, ← hD] at lt; exact Nat.lt_irrefl _ lt
    refine ⟨⟨by rw [upd_ne ne]; exact (fb b hbf).1, (fb b hbf).2⟩, ?_⟩
    rw [heapc, Heap.size_push]
    exact Nat.lt_succ_of_lt lt
  have stc : tn 0 sc.heap := T.keep _ _ _ stb fun b _ o e => by rw [heapc]; exact Heap.get?_push_of_some _ e
  have Id := block_start Ic ok hN fc
  obtain ⟨cl, hcl⟩ : ∃ cl, cellsFrom (sc.heap.objs.size + 1) scope.names (cloFrom X.env.cells scope.names []) = cl := ⟨_, rfl⟩
  rw [hcl] at Id
  have pg := hg sc (upd Hb D (.dT [])) sc.heap.objs.size cl fp
  have pk := hk sc (upd Hb D (.dT [])) sc.heap.objs.size cl fp
  have pe := he sc (upd Hb D (.dT [])) sc.heap.objs.size cl fp
  have goal : codeAny (model X.prog X.w) X.A (.compStart (.DictComp kx vx [⟨tg, iter, [], 0⟩] scope pos) 0 (.ref it) (.ref D) (compEnvC scope cl sc.heap.objs.size X.env))
      (compPost (model X.prog X.w) X.A X.xe none (EP X pins σ Q) (.ref D) sc.heap.objs.size) { sc with heap := pushCells (sc.heap.push { cls := .type "dict", data := .dict #[] }) scope.names } := by
    obtain ⟨B, hB⟩ : ∃ B, upd Hb D (.dT []) = B := ⟨_, rfl⟩
    rw [hB] at Ic Id pg pk pe p0 fc
    obtain ⟨ce, hce⟩ : ∃ ce, compEnvC scope cl sc.heap.objs.size X.env = ce := ⟨_, rfl⟩
    have loc : ce.locals = sc.heap.objs.size := by subst hce; rfl
    rw [hce] at Id pg pk pe ⊢
    obtain ⟨sd, hsd⟩ : ∃ sd : Shared, { sc with heap := pushCells (sc.heap.push { cls := .type "dict", data := .dict #[] }) scope.names } = sd := ⟨_, rfl⟩
    rw [hsd] at Id ⊢
    have std : tn 0 sd.heap := T.keep _ _ _ stc fun b _ o e => by rw [← hsd]; exact pushCells_keeps _ _ _ _ (Heap.get?_push_of_some _ e)
    have freeB : ∀ b ∈ fp, B b = none := fun b hbf => (fc b hbf).1.1
    have own_ok : ∀ {σ' : L2.St} {H' : Hp} {s' : Shared}, Inv (X.blk sc B scope ce fp) [] σ' H' s' → (∀ b ∈ fp, H' b = none) → ∀ b ∈ fp, FpOk (X.blk sc B scope ce fp) [] H' b := fun {σ' H' s'} J' hn b hbf =>
      ⟨hn b hbf, (J'.ok.exf b hbf).1, J'.ok.exfs b hbf, .inl hbf, fun x c e => (J'.ok.exf b hbf).2 x c e, fun p hp => nomatch (show p ∈ ([] : List (Addr × Obj)) from by simpa using hp)⟩
    have loop : codeAny (model X.prog X.w) X.A (.compLoop (.DictComp kx vx [⟨tg, iter, [], 0⟩] scope pos) 0 (.ref it) (.ref D) ce) (compPost (model X.prog X.w) X.A X.xe none (EP X pins σ Q) (.ref D) sc.heap.objs.size) sd := by
      refine compLoop_anyD (fun m s' => ∃ i H', i + m = n ∧ Inv (X.blk sc B scope ce fp) [] (wipe σ (own.map (·.2))) H' s' ∧ tn i s'.heap ∧ (∀ b ∈ fp, H' b = none) ∧ P i H') ?_ n ⟨0, B, Nat.zero_add n, Id, std, freeB, p0⟩
      rintro m se ⟨i, He, him, Ie, ste, ne, pe5⟩
      rcases Nat.lt_or_ge i n with lt | ge
      · obtain ⟨go, step⟩ := pstep i He lt pe5
        refine thnF (T.item (X.blk sc B scope ce fp) rfl rfl rfl hc i [] se _ He (fun _ _ => False) Ie (own_ok Ie ne) ste go) fun r sf ⟨u, hr, h6⟩ => ?_
        subst hr
        refine thnF h6 fun _ sg ⟨x, Hg, Ig, rg, yg, stg, ng⟩ => ?_
        refine thnF (pg.run _ sg _ Hg x u _ (Ig.pinned (own_ok Ig ng) (T.obj _ _ stg)) rg (step x Hg yg)) fun _ sh ⟨σh, Hh, Ih, whi, qh⟩ => ?_
        refine wpAny_pure ?_
        refine thnF (pk.run _ sh σh Hh _ Ih qh) fun z si ⟨yk, Hi, Ii, ri, qi⟩ => ?_
        refine thnF (pe.run _ si σh Hi _ Ii qi) fun z2 sj ⟨yv, Hj, Ij, rj, b, kvs, k, ek, hbk, hDk, hlen, nx⟩ => ?_
        subst ek
        obtain rfl : z = Value.ref b := ri
        refine put_tupleKey (X := X.blk sc B scope ce fp) hu Ij hDk hlen hbk rj fun sk Ik => ?_
        have pinned : ∀ b ∈ fp, ∀ o, sg.heap.get? b = some o → sk.heap.get? b = some o ∧ (upd Hj D (.dT (putK kvs k yv))) b = none := fun b hbf o e =>
          let z := Ik.pin (b, o) (List.mem_append_right _ (List.mem_append_right _ (mem_pinsAt hbf e)))
          ⟨z.1, z.2.1⟩
        refine ⟨m - 1, by omega, i + 1, _, by omega, (Ik.unpinned (pins := [])).weak (by rw [← whi, wipe_length]) (fun j v e => ?_), T.keep _ _ _ stg fun b hbf o e => (pinned b hbf o e).1, fun b hbf => ?_, nx⟩
        · rw [← whi] at e
          exact (wipe_some e).1
        · obtain ⟨o, e, _⟩ := T.obj _ _ stg b hbf
          exact (pinned b hbf o e).2
      · have ein : i = n := by omega
        subst ein
        obtain ⟨stop, qq⟩ := pend He pe5
        refine thnF (T.done (X.blk sc B scope ce fp) rfl rfl rfl hc i [] se _ He (fun _ _ => False) Ie (own_ok Ie ne) ste stop) fun r sf ⟨hr, If⟩ => ?_
        subst hr
        have Iback : Inv X pins σ He sf := Ic.call' (ch := fp) If.os If.base If.hok If.bare fun b hbf => ⟨(fc b hbf).1.2.2.2.1, (fc b hbf).1.2.1, (fc b hbf).1.2.2.2.2.1, (fc b hbf).1.2.2.2.2.2⟩
        have freeC : He sc.heap.objs.size = none := by rw [← loc]; exact If.free
        obtain ⟨mm, hnn, _⟩ := If.loc
        have hnn : sf.heap.Ns ce.locals mm := hnn
        rw [loc] at hnn
        obtain ⟨f0, f1, f2, f3, f4, f5⟩ := Ic.fpOk (Nat.le_refl _) freeC
        exact ⟨mm, hnn, fun h'' sb' => ⟨.ref D, He, Iback.turned (t' := sf.toks) (fun b o hb' e => (sb'.2 b hb').trans e) f0 f1 f3 f4 f5, rfl, qq⟩⟩
    exact codeAny_compStart_dict loop (T.self X.A 0 _ _ _ std loop)
  rw [hsc, hcl, hD]
  exact goal
end DN
namespace DN
open PySem PySem.Spec PyProof.Rows L2 Evl
def gIn2 (a b : Dv) : Option Rt := match b with
  | .dic t ks vs => onlyIf (isKey t a) (vB (dLook t a ks vs).isSome)
  | b => gIn a b
def gNotIn2 (a b : Dv) : Option Rt := match b with
  | .dic t ks vs => onlyIf (isKey t a) (vB (!(dLook t a ks vs).isSome))
  | b => gNotIn a b
section
variable {Z : Zx} {X : Cx} {Ew : L2.St → XK} {S : Sto} {G H : Hp} {α : List Addr} {Q : VK} {E : XK}
theorem od_in2 (hu : X.A.units + 65 < cLine) (hK : X.K = Z.K) : OpR X (compareOp .In) (rD Z gIn2) := by
  intro pins s σ H x y v u Q I rx ry h
  obtain ⟨G, α, S, a, b, hd, ha, hb, w⟩ := h
  cases b with
  | dic t ks vs =>
    have w : Wk Z (R.of S (onlyIf (isKey t a) (vB (dLook t a ks vs).isSome))) G α H (pRt Z Q) E0 := w
    obtain ⟨hk, w⟩ := onlyIf_ok w
    obtain ⟨p, rfl, h1, h2⟩ := dic_get hd.ex hb ha hk
    cases ry
    cases q : dLook t a ks vs with
    | none =>
      rw [q] at w
      exact d_in (by omega) I (h2 q) rx fun s' I' => ⟨.bl false, H, I', rfl, wB w hd⟩
    | some d =>
      rw [q] at w
      obtain ⟨v, g, _⟩ := h1 d q
      exact d_in (by omega) I g rx fun s' I' => ⟨.bl true, H, I', rfl, wB w hd⟩
  | _ => exact od_in hu hK pins s σ H x y v u Q I rx ry ⟨G, α, S, a, _, hd, ha, hb, w⟩
theorem od_notin2 (hu : X.A.units + 65 < cLine) (hK : X.K = Z.K) : OpR X (compareOp .NotIn) (rD Z gNotIn2) := by
  intro pins s σ H x y v u Q I rx ry h
  obtain ⟨G, α, S, a, b, hd, ha, hb, w⟩ := h
  cases b with
  | dic t ks vs =>
    have w : Wk Z (R.of S (onlyIf (isKey t a) (vB (!(dLook t a ks vs).isSome)))) G α H (pRt Z Q) E0 := w
    obtain ⟨hk, w⟩ := onlyIf_ok w
    obtain ⟨p, rfl, h1, h2⟩ := dic_get hd.ex hb ha hk
    cases ry
    cases q : dLook t a ks vs with
    | none =>
      rw [q] at w
      exact d_notIn (by omega) I (h2 q) rx fun s' I' => ⟨.bl true, H, I', rfl, wB w hd⟩
    | some d =>
      rw [q] at w
      obtain ⟨v, g, _⟩ := h1 d q
      exact d_notIn (by omega) I g rx fun s' I' => ⟨.bl false, H, I', rfl, wB w hd⟩
  | _ => exact od_notin hu hK pins s σ H x y v u Q I rx ry ⟨G, α, S, a, _, hd, ha, hb, w⟩
def dcGo (t : Its) (tg : FG) (fk fv : FE) (env : Env) : List Dv → Sto → List Dv → List Dv → R (List Dv × List Dv)
  | [], S, ks, vs => if lockOk t S then .ok S (ks, vs) else .no
  | d :: r, S, ks, vs => if lockOk t S then (match tg d env with
    | some env' => (fk env' S).noex.bindV fun S1 k => (fv env' S1).noex.bindV fun S2 v => onD k fun k => onD v fun v => if ks.length < 100000 ∧ (tkey? k).isSome = true ∧ dLook true k ks vs = none then dcGo t tg fk fv env r S2 (ks ++ [k]) (vs ++ [v]) else .no
    | none => .no) else .no
def fDc (fi : FI) (tg : FG) (fk fv : FE) (vs : List Nat) : FE := fun env S => (fi env S).bind fun S1 t => (dcGo t tg fk fv (wipeE env vs) t.1 S1 [] []).bind fun S2 p => .ok S2 (.new (.dc true p.1 p.2))
theorem look_none {kk : List (List Key)} {ws : List V} {vs ks : List Dv} {k : Dv} {κ : List Key} (e1 : ks.map tkey? = kk.map some) (h2 : OnL Z G vs ws) (h3 : ks.length = ws.length) (hk : tkey? k = some κ) (h : dLook true k ks vs = none) : valV (kk.zip ws) κ = none := by
  have := (look_on (Z := Z) (G := G) (f := tkey?) (k' := κ) (g := fun a => kHit true a k) (fun a b e => by
    show decide (tkey? a = tkey? k) = decide (b = κ)
    rw [e, hk, decide_eq_decide, Option.some.injEq]) e1 h2 h3).2 h
  exact this
theorem tkey_on {d : Dv} {κ : List Key} {x : V} (h : tkey? d = some κ) (o : On Z G d x) : ∃ b, x = .ref b ∧ G b = some (.tup (κ.map kV)) := by
  cases d with
  | tup l =>
    unfold On at o
    obtain ⟨b, xs, rfl, h1, h2⟩ := o
    have ex := keys_on h2 h
    subst ex
    exact ⟨b, rfl, h1⟩
  | _ => cases h
theorem se_dc {fi : FI} {tg : FG} {fk fv : FE} {sl vs : List Nat} (hsl : ∀ i ∈ sl, i ∈ vs) : SE Z Ew (tDcT (tFI Z Ew fi) (tG Z tg sl) (tF Z Ew0 fk) (tF Z Ew0 fv) vs) (fDc fi tg fk fv vs) := fun env σ G α S H Q hd oe w => by
  refine ⟨env, G, α, S, hd, oe, w.bind (P' := pI Z _) fun S1 t H1 G1 α1 f1 hd1 w1 J gz D hD => ?_⟩
  have oe1 : OnE Z G1 α1 (wipeE env vs) (wipe σ vs) := (oe.up f1.g f1.a).wipe vs
  let fin : Sto → List Dv × List Dv → R Rt := fun S2 p => .ok S2 (.new (.dc true p.1 p.2))
  have lk0 : lockOk t S1 = true := by
    have w1 : Wk Z ((dcGo t tg fk fv (wipeE env vs) t.1 S1 [] []).bind fin) G1 α1 H1 (pRt Z Q) (Ew σ) := w1
    cases q : lockOk t S1 with
    | true => rfl
    | false =>
      cases q2 : t.1 with
      | nil => rw [q2] at w1; simp only [dcGo, q] at w1; exact w1.elim
      | cons d r => rw [q2] at w1; simp only [dcGo, q] at w1; exact w1.elim
  have hlt := lock_lt hd1 lk0
  refine ⟨t.1.length, fun i H' => ∃ G' α' S' ks ds kk xs, Fr G1 α1 H1 G' α' H' ∧ Hd Z G' α' S' H' ∧ G' D = none ∧ D ∉ α' ∧ H' D = some (.dT (kk.zip xs)) ∧ ks.map tkey? = kk.map some ∧ ks.length = xs.length ∧ OnL Z G' ds xs ∧
    Wk Z ((dcGo t tg fk fv (wipeE env vs) (t.1.drop i) S' ks ds).bind fin) G1 α1 H1 (pRt Z Q) (Ew σ),
    ⟨G1, α1, S1, [], [], [], [], Fr.grow hd1 (Ex.new hD), hd1.grow (Ex.new hD), fresh_back hd1.ex hD, fun h => hd1.live h hD, upd_same, rfl, rfl, OnL.nil', w1⟩, ?_, ?_⟩
  · rintro H' ⟨G', α', S', ks, ds, kk, xs, f2, hd2, gD, aD, hHD, hk, hkl, oa, w2⟩
    rw [List.drop_length] at w2
    cases lk : lockOk t S' with
    | false => simp only [dcGo, lk] at w2; exact w2.elim
    | true =>
      simp only [dcGo, lk, if_true] at w2
      have ok := lock_ok hd2 f2.g f2.a hlt lk
      have w2 : Wk Z (.ok S' (Rt.new (.dc true ks ds))) G1 α1 H1 (pRt Z Q) (Ew σ) := w2
      exact ⟨gz.stop G' H' ok, w2 H' G' α' f2 hd2 D ⟨hD, gD, aD, ⟨xs, ⟨kk, hk, hHD⟩, hkl, oa⟩⟩⟩
  · rintro i H' hlt2 ⟨G', α', S', ks, ds, kk, xs, f2, hd2, gD, aD, hHD, hk, hkl, oa, w2⟩
    obtain ⟨d0, ed0⟩ : ∃ d, t.1[i]? = some d := ⟨_, List.getElem?_eq_getElem hlt2⟩
    have e1 : t.1.drop i = d0 :: t.1.drop (i + 1) := by
      rw [List.drop_eq_getElem_cons hlt2]
      rw [List.getElem?_eq_getElem hlt2] at ed0
      cases ed0
      rfl
    rw [e1] at w2
    cases lk : lockOk t S' with
    | false => simp only [dcGo, lk] at w2; exact w2.elim
    | true =>
      have ok := lock_ok hd2 f2.g f2.a hlt lk
      refine ⟨gz.go i G' H' hlt2 ok, fun x H3 y => ?_⟩
      obtain ⟨d, ed, hy⟩ := gz.yld i G' H' x H3 hlt2 ok y
      rw [ed0] at ed
      cases ed
      obtain ⟨G3, f3, hd3, od⟩ := hy α' S' hd2
      obtain ⟨gD3, aD3, hHD3⟩ := f3.ours gD aD hHD
      simp only [dcGo, lk, if_true] at w2
      cases q : tg d0 (wipeE env vs) with
      | none => simp only [q] at w2; exact w2.elim
      | some env' =>
        simp only [q] at w2
        have oe3 : OnE Z G3 α' (wipeE env vs) (wipe σ vs) := (oe1.up f2.g f2.a).up f3.g f3.a
        refine ⟨_, G3, α', S', d0, env', hd3, oe3, od, q, fun σ2 oe2 wp => ⟨(wp vs hsl).trans (wipe_wipe fun i h => h), env', G3, α', S', hd3, oe2, ?_⟩⟩
        refine noex_V (F := fun S1 k => (fv env' S1).noex.bindV fun S2 v => onD k fun k => onD v fun v => if ks.length < 100000 ∧ (tkey? k).isSome = true ∧ dLook true k ks ds = none then dcGo t tg fk fv (wipeE env vs) (t.1.drop (i + 1)) S2 (ks ++ [k]) (ds ++ [v]) else .no) w2 fun S4 k yk H4 G4 α4 f4 hd4 ok4 w4 => ?_
        obtain ⟨gD4, aD4, hHD4⟩ := f4.ours gD3 aD3 hHD3
        refine ⟨env', G4, α4, S4, hd4, oe2.up f4.g f4.a, noex_V (F := fun S2 v => onD k fun k => onD v fun v => if ks.length < 100000 ∧ (tkey? k).isSome = true ∧ dLook true k ks ds = none then dcGo t tg fk fv (wipeE env vs) (t.1.drop (i + 1)) S2 (ks ++ [k]) (ds ++ [v]) else .no) w4 fun S5 v yv H5 G5 α5 f5 hd5 ov5 w5 => ?_⟩
        obtain ⟨gD5, aD5, hHD5⟩ := f5.ours gD4 aD4 hHD4
        cases k with
        | r n => exact w5.elim
        | d k =>
          cases v with
          | r n => exact w5.elim
          | d v =>
            have w5 : Wk Z ((if ks.length < 100000 ∧ (tkey? k).isSome = true ∧ dLook true k ks ds = none then dcGo t tg fk fv (wipeE env vs) (t.1.drop (i + 1)) S5 (ks ++ [k]) (ds ++ [v]) else .no).bind fin) G1 α1 H1 (pRt Z Q) (Ew σ) := w5
            by_cases hcnd : ks.length < 100000 ∧ (tkey? k).isSome = true ∧ dLook true k ks ds = none
            · rw [if_pos hcnd] at w5
              obtain ⟨c1, c2, c3⟩ := hcnd
              cases qk : tkey? k with
              | none => rw [qk] at c2; cases c2
              | some κ =>
                obtain ⟨b, rfl, hb⟩ := tkey_on qk (show On Z G4 k yk from ok4)
                have nov := look_none hk oa hkl qk c3
                have f15 := (((f2.trans f3).trans f4).trans f5)
                have zl : (kk.zip xs).length < sizeLine := by
                  rw [List.length_zip]
                  have : kk.length = ks.length := by have := congrArg List.length hk; simpa using this.symm
                  have : (100000 : Nat) ≤ sizeLine := by decide
                  omega
                refine ⟨b, kk.zip xs, κ, rfl, hd5.ex _ _ (f5.g _ _ hb), hHD5, zl, G5, α5, S5, ks ++ [k], ds ++ [v], kk ++ [κ], xs ++ [yv], f15.side hD, hd5.side gD5 aD5, gD5, aD5, ?_, by simp [hk, qk], by simp [hkl], (oa.up (f3.g.trans (f4.g.trans f5.g))).app (OnL.cons' ov5 OnL.nil'), w5⟩
                rw [upd_same, putK_new yv nov, List.zip_append (by have := congrArg List.length hk; simp at this; omega)]
                rfl
            · rw [if_neg hcnd] at w5
              exact w5.elim
theorem pf_dc {kx vx tg iter : Expr} {scope : Scope} {own : List (Str × Nat)} {pos : Pos} {fi : FI} {ftg : FG} {fk fv : FE} {sl : List Nat} (hc : X.calm = true) (hu : X.A.units < cLine) (hN : X.N.Nodup) (hi : PIF Z Ew X tg iter fi) (ok : BlkOk X.N X.env.scope scope own)
    (hg : ∀ (s : Shared) (H : Hp) (C : Addr) (cl : List (Str × Addr)) (fp : List Addr), PGF Z (X.blk s H scope (compEnvC scope cl C X.env) fp) tg ftg sl)
    (hk : ∀ (s : Shared) (H : Hp) (C : Addr) (cl : List (Str × Addr)) (fp : List Addr), PF Z Ew0 (X.blk s H scope (compEnvC scope cl C X.env) fp) kx fk)
    (he : ∀ (s : Shared) (H : Hp) (C : Addr) (cl : List (Str × Addr)) (fp : List Addr), PF Z Ew0 (X.blk s H scope (compEnvC scope cl C X.env) fp) vx fv)
    (hsl : ∀ i ∈ sl, i ∈ own.map (·.2) := by decide) (hs : ∀ x, foldedSetIterable iter X.env x = pure x := by intro _; rfl) : PF Z Ew X (.DictComp kx vx [⟨tg, iter, [], 0⟩] scope pos) (fDc fi ftg fk fv (own.map (·.2))) :=
  ⟨_, pe_dcT hc hu hN hi.pi ok (fun s H C cl fp => (hg s H C cl fp).pg) (fun s H C cl fp => (hk s H C cl fp).pe) (fun s H C cl fp => (he s H C cl fp).pe) hs, se_dc hsl⟩
end
end DN
namespace DN
open PySem PySem.Spec PyProof.Rows L2 Evl
end DN
namespace DN
open PySem PySem.Spec PyProof.Rows L2 Evl
end DN
namespace DN
open PySem PySem.Spec PyProof.Rows L2 Evl
section
variable {Z : Zx} {W : WX} {X : Cx} {Ew : L2.St → XK} {G H G2 H2 : Hp} {α α2 : List Addr} {S : Sto}
/-- rows of ours -/
structure Rws (Z : Zx) (G : Hp) (α : List Addr) (H0 H : Hp) (bs : List Addr) (rows : List (List Dv)) : Prop where
  len : bs.length = rows.length
  nd : bs.Nodup
  at_ : ∀ (k : Nat) row, rows[k]? = some row → ∃ b ys, bs[k]? = some b ∧ G b = none ∧ b ∉ α ∧ H0 b = none ∧ H b = some (.lst ys) ∧ OnL Z G row ys
theorem Rws.step {H0 : Hp} {bs : List Addr} {rows : List (List Dv)} (h : Rws Z G α H0 H bs rows) (f : Fr G α H G2 α2 H2) : Rws Z G2 α2 H0 H2 bs rows := ⟨h.len, h.nd, fun k row hk => by
  obtain ⟨b, ys, h1, h2, h3, h4, h5, h6⟩ := h.at_ k row hk
  obtain ⟨q1, q2, q3⟩ := f.ours h2 h3 h5
  exact ⟨b, ys, h1, q1, q2, h4, q3, h6.up f.g⟩⟩
theorem Rws.mem {H0 : Hp} {bs : List Addr} {rows : List (List Dv)} (h : Rws Z G α H0 H bs rows) {b : Addr} (hb : b ∈ bs) : G b = none ∧ b ∉ α ∧ H0 b = none ∧ H b ≠ none := by
  obtain ⟨k, hk, rfl⟩ := List.mem_iff_getElem.mp hb
  have hk' : k < rows.length := by rw [← h.len]; exact hk
  obtain ⟨c, ys, h1, h2, h3, h4, h5, _⟩ := h.at_ k rows[k] (List.getElem?_eq_getElem hk')
  rw [List.getElem?_eq_getElem hk] at h1
  cases h1
  exact ⟨h2, h3, h4, by rw [h5]; exact fun e => nomatch e⟩
end
end DN
namespace DN
open PySem PySem.Spec PyProof.Rows L2 Evl
theorem _root_.L2.Room.u0 {k : Nat} {A : Around} (r : Room k A) : A.units < cLine := by have := r.un; omega
section
variable {K : PySem.W.Frag}
theorem dfun_mk {x qual : Str} {st : Stmt} {f dT : Addr} {oc : Value} {od an : Option Addr} {osl : Array (Option Value)} {kV doc pm cdv ct : Value} (l : K.lookup f = some ⟨oc, od, .func (PySem.W.fnOf x qual (defArgs st) (defBody st) (defScope st) (.ref dT) kV doc pm an cdv ct), osl⟩)
    (c : PySem.W.codeIn K cdv qual = true) (k : PySem.W.keepIn K (.ref f) = true) : FunD K x qual st f (PySem.W.fnOf x qual (defArgs st) (defBody st) (defScope st) (.ref dT) kV doc pm an cdv ct) := ⟨⟨_, _, _, _, _, _, _, _, _, _, rfl, l, c⟩, k⟩
theorem dbinds {fd : FuncData} {ps : List Str} {dT e : Addr} {tc : Value} {td : Option Addr} {tn : Nat} {ts : Array (Option Value)} (lT : K.lookup dT = some ⟨tc, td, .seq #[.ref e] tn, ts⟩)
    (h : ∀ us : List Value, us.length + 1 = ps.length → ∃ k, bindArgs fd ⟨us, []⟩ = seqItems? (.ref dT) >>= k ∧ k (some #[.ref e]) = pure (ps.zip (us ++ [.ref e]))) : Binds K fd ps [.ref e] := fun s us Y hlen => BindsTo.of_looks fun M => by
  obtain ⟨k, e1, e2⟩ := h us (by simpa using hlen)
  rw [e1]
  exact looks_items Y lT rfl (.of_pure e2)
theorem dbinds0 {fd : FuncData} {ps : List Str} {dT e : Addr} {tc : Value} {td : Option Addr} {tn : Nat} {ts : Array (Option Value)} (lT : K.lookup dT = some ⟨tc, td, .seq #[.ref e] tn, ts⟩)
    (h : ∀ us : List Value, us.length = ps.length → ∃ k, bindArgs fd ⟨us, []⟩ = seqItems? (.ref dT) >>= k ∧ k (some #[.ref e]) = pure (ps.zip us)) : Binds K fd ps [] := fun s us Y hlen => BindsTo.of_looks fun M => by
  obtain ⟨k, e1, e2⟩ := h us (by simpa using hlen)
  rw [e1, List.append_nil]
  exact looks_items Y lT rfl (.of_pure e2)
theorem ktp_nil {Z : Zx} {G : Hp} {e : Addr} {tn : Nat} {ts : Array (Option Value)} (hK : Z.K = K) (l : K.lookup e = some ⟨.type "tuple", none, .seq #[] tn, ts⟩) : On Z G (.ktp []) (.ref e) := by
  unfold On
  exact ⟨e, [], rfl, .inl ⟨.inr ⟨_, _, _, hK ▸ l, rfl, rfl, by decide, .nil⟩, _, hK ▸ l, rfl, rfl⟩, OnL.nil'⟩
end
end DN
namespace DN
open PySem PySem.Spec PyProof.Rows L2 Evl
section
variable {Z : Zx} {X : Cx} {Ew : L2.St → XK} {S : Sto} {G H : Hp} {α : List Addr} {Q : VK} {E : XK}
theorem perm_map_inv {α β : Type} {f : α → β} {ys zs : List β} (h : ys.Perm zs) : ∀ l : List α, zs = l.map f → ∃ l' : List α, ys = l'.map f ∧ l'.Perm l := by
  induction h with
  | nil => intro l e; exact ⟨[], rfl, by cases l with | nil => exact .nil | cons a l => cases e⟩
  | cons x _ ih =>
    intro l e
    cases l with
    | nil => cases e
    | cons a l =>
      rw [List.map_cons] at e
      cases e
      obtain ⟨l', rfl, h⟩ := ih l rfl
      exact ⟨a :: l', rfl, h.cons a⟩
  | swap x y zs =>
    intro l e
    cases l with
    | nil => cases e
    | cons a l =>
      cases l with
      | nil => cases e
      | cons b l =>
        rw [List.map_cons, List.map_cons] at e
        cases e
        exact ⟨b :: a :: l, rfl, .swap _ _ _⟩
  | trans _ _ ih1 ih2 =>
    intro l e
    obtain ⟨l1, e1, h1⟩ := ih2 l e
    obtain ⟨l2, e2, h2⟩ := ih1 l1 e1
    exact ⟨l2, e2, h2.trans h1⟩
def fDNew (t : Bool) : FE := fun _ S => .ok S (.new (.dc t [] []))
theorem pf_dnewK {pos : Pos} : PF Z Ew X (.Dict [] [] pos) (fDNew false) := ⟨_, pe_dnewK, fun env σ G α S H Q hd oe w p hp => Wk.fresh (c := .dc false [] []) w hd hp ⟨[], ⟨[], rfl, rfl⟩, rfl, OnL.nil'⟩⟩
end
end DN
namespace DN
open PySem PySem.Spec PyProof.Rows L2 Evl
end DN
namespace DN
open PySem PySem.Spec PyProof.Rows L2 Evl
section
variable {Z : Zx} {X : Cx} {Ew : L2.St → XK} {S : Sto} {G H : Hp} {α : List Addr} {Q : VK} {E : XK}
def srt2 (a b : Str) : Option Rt := if sortedS [a, b] = true ∧ sortedS [b, a] = false then nL [.str a, .str b] else if sortedS [b, a] = true ∧ sortedS [a, b] = false then nL [.str b, .str a] else if a = b then nL [.str a, .str b] else none
def strs2? : List Dv → Option (Str × Str)
  | [.str a, .str b] => some (a, b)
  | _ => none
theorem strs2_eq {l : List Dv} {p : Str × Str} (h : strs2? l = some p) : l = [.str p.1, .str p.2] := by
  unfold strs2? at h
  split at h
  · cases h; rfl
  · cases h
def srtP (ps : List (Int × Int)) : Option Rt := if ps.Nodup then nL ((sortP ps).map pairD) else none
def gSortedL (l : List Dv) : Option Rt := match ints? l with
  | some ns => nL ((sortI ns).map .int)
  | none => match strs2? l with
    | some p => srt2 p.1 p.2
    | none => match pairs? l with
      | some ps => srtP ps
      | none => none
def gSortedX1 : Dv → Option Rt
  | .lst l => gSortedL l
  | _ => none
def gSortedX : List Dv → Option Rt := arg1 gSortedX1
theorem perm2 {β : Type} {a b : β} {ys : List β} (h : ys.Perm [a, b]) : ys = [a, b] ∨ ys = [b, a] := by
  have hl := h.length_eq
  match ys, hl with
  | [x, y], _ =>
    have hx : x ∈ [a, b] := h.mem_iff.mp (by simp)
    simp only [List.mem_cons, List.not_mem_nil, or_false] at hx
    rcases hx with rfl | rfl
    · have := (List.perm_cons x).mp h
      have := List.perm_singleton.mp this
      left; rw [this]
    · have h2 : [x, y].Perm [x, a] := h.trans (List.Perm.swap _ _ _)
      have := (List.perm_cons x).mp h2
      have := List.perm_singleton.mp this
      right; rw [this]
def kOf (G : Hp) (v : V) : Int × Int := match v with
  | .ref t => match G t with
    | some (.tup [.int a, .int b]) => (a, b)
    | _ => (0, 0)
  | _ => (0, 0)
theorem pair_at : ∀ {ps : List (Int × Int)} {xs : List V}, OnL Z G (ps.map pairD) xs → xs.map (kOf G) = ps ∧ ∀ x ∈ xs, ∃ t, x = V.ref t ∧ G t = some (.tup [.int (kOf G x).1, .int (kOf G x).2])
  | [], xs, h => by
    have := OnL.nil.mp h
    subst this
    exact ⟨rfl, fun _ h => nomatch h⟩
  | p :: ps, xs, h => by
    obtain ⟨y, ys, rfl, h1, h2⟩ := OnL.cons.mp h
    obtain ⟨i1, i2⟩ := pair_at h2
    have h1 : On Z G (.tup [.int p.1, .int p.2]) y := h1
    unfold On at h1
    obtain ⟨a, zs, rfl, g1, g2⟩ := h1
    obtain ⟨z1, zs', rfl, o1, o2⟩ := OnL.cons.mp g2
    obtain ⟨z2, zs'', rfl, o3, o4⟩ := OnL.cons.mp o2
    have := OnL.nil.mp o4
    subst this
    unfold On at o1 o3
    subst o1 o3
    have ek : kOf G (.ref a) = p := by simp only [kOf, g1]
    refine ⟨by rw [List.map_cons, ek, i1], fun x hx => ?_⟩
    rcases List.mem_cons.mp hx with rfl | hx
    · exact ⟨a, rfl, by rw [ek]; exact g1⟩
    · exact i2 x hx
theorem on_pairsK : ∀ {ys : List V}, (∀ x ∈ ys, ∃ t, x = V.ref t ∧ G t = some (.tup [.int (kOf G x).1, .int (kOf G x).2])) → OnL Z G ((ys.map (kOf G)).map pairD) ys
  | [], _ => OnL.nil'
  | y :: ys, h => OnL.cons' (by
      obtain ⟨t, e, g⟩ := h y (by simp)
      show On Z G (pairD (kOf G y)) y
      unfold pairD On
      exact ⟨t, _, e, g, OnL.cons' (by unfold On; rfl) (OnL.cons' (by unfold On; rfl) OnL.nil')⟩) (on_pairsK fun x hx => h x (List.mem_cons_of_mem _ hx))
theorem lex_cd {p q : Int × Int} (hp : Small p) (hq : Small q) (h : SrtO.lexB q p = false) : cd2 p ≤ cd2 q := by
  rw [SrtO.lexB_no] at h
  unfold Small at hp hq
  unfold cd2
  omega
theorem cd_sortedX (hK : X.K = Z.K) : CallR X (.builtin "sorted") (rA Z gSortedX) := by
  intro pins s σ H xs us Q I r h
  obtain ⟨G, α, S, l, hd, hl, w⟩ := h
  obtain ⟨x, y, rfl, hx, w⟩ := arg1_ok hl w
  cases x with
  | lst l =>
    have w' : Wk Z (R.of S (gSortedL l)) G α H (pRt Z Q) E0 := w
    unfold gSortedL at w'
    cases q : ints? l with
    | some ns =>
      rw [q] at w'
      have : rA Z gSorted [y] H Q := ⟨G, α, S, [.lst l], hd, ⟨_, _, rfl, hx, rfl⟩, by
        show Wk Z (R.of S (onI (ints? l) fun ns => nL ((sortI ns).map .int))) G α H (pRt Z Q) E0
        rw [q]; exact w'⟩
      exact cd_sorted pins s σ H _ us Q I r this
    | none =>
      rw [q] at w'
      obtain ⟨a, xs, rfl, h1, h2⟩ := hx
      cases q2 : strs2? l with
      | some p =>
        rw [q2] at w'
        have w2 : Wk Z (R.of S (srt2 p.1 p.2)) G α H (pRt Z Q) E0 := w'
        have el := strs2_eq q2
        rw [el] at h2
        obtain ⟨z1, zs', rfl, o1, o2⟩ := OnL.cons.mp h2
        obtain ⟨z2, zs'', rfl, o3, o4⟩ := OnL.cons.mp o2
        have := OnL.nil.mp o4
        subst this
        unfold On at o1 o3
        subst o1 o3
        refine cr_sortedS pins s σ H _ us Q I r ⟨a, [p.1, p.2], rfl, SqL.of h1, by simp, fun ys p' hp hs hn => ?_⟩
        have os : ∀ u v : Str, OnL Z G [.str u, .str v] ([u, v].map V.str) := fun u v => OnL.cons' (by unfold On; rfl) (OnL.cons' (by unfold On; rfl) OnL.nil')
        unfold srt2 at w2
        by_cases c1 : sortedS [p.1, p.2] = true ∧ sortedS [p.2, p.1] = false
        · rw [if_pos c1] at w2
          rcases perm2 hp with rfl | rfl
          · exact wL w2 hd (os _ _) hn
          · rw [c1.2] at hs; cases hs
        · rw [if_neg c1] at w2
          by_cases c2 : sortedS [p.2, p.1] = true ∧ sortedS [p.1, p.2] = false
          · rw [if_pos c2] at w2
            rcases perm2 hp with rfl | rfl
            · rw [c2.2] at hs; cases hs
            · exact wL w2 hd (os _ _) hn
          · rw [if_neg c2] at w2
            by_cases c3 : p.1 = p.2
            · rw [if_pos c3] at w2
              have : ys = [p.1, p.2] := by
                rcases perm2 hp with rfl | rfl
                · rfl
                · rw [c3]
              subst this
              exact wL w2 hd (os _ _) hn
            · rw [if_neg c3] at w2; exact w2.elim
      | none =>
        rw [q2] at w'
        cases q3 : pairs? l with
        | none => rw [q3] at w'; exact w'.elim
        | some ps =>
          rw [q3] at w'
          have w2 : Wk Z (R.of S (srtP ps)) G α H (pRt Z Q) E0 := w'
          unfold srtP at w2
          by_cases c : ps.Nodup
          · rw [if_pos c] at w2
            obtain ⟨el, hsm⟩ := pairs_small q3
            rw [el] at h2
            obtain ⟨k1, k2⟩ := pair_at h2
            refine cr_sortedPO pins s σ H _ us Q I r ⟨a, xs, kOf G, rfl, SqL.of h1, fun x hx => ?_, fun ys p hs hb hn => ?_⟩
            · obtain ⟨t, e, g⟩ := k2 x hx
              exact ⟨t, e, hd.ex _ _ g⟩
            · have pm : (ys.map (kOf G)).Perm ps := by
                have := hb.perm.map (kOf G)
                rwa [k1] at this
              have sm : ∀ x ∈ ys.map (kOf G), Small x := fun x hx => hsm x (pm.mem_iff.mp hx)
              have eL : ys.map (kOf G) = sortP ps := by
                have nd : (ys.map (kOf G)).Nodup := pm.nodup_iff.mpr c
                refine ascend_unique cd2 ?_ (sortP_pw ps) fun x => by rw [pm.mem_iff, mem_sortP hsm]
                have h1 : (ys.map (kOf G)).Pairwise (fun x y => cd2 x ≤ cd2 y) := by
                  rw [List.pairwise_map]
                  refine List.Pairwise.imp_of_mem (fun {x y} hx hy hxy => ?_) hs
                  exact lex_cd (sm _ (List.mem_map.mpr ⟨x, hx, rfl⟩)) (sm _ (List.mem_map.mpr ⟨y, hy, rfl⟩)) hxy
                have h2 := List.nodup_iff_pairwise_ne.mp nd
                refine List.Pairwise.imp_of_mem (fun {x y} hx hy hxy => ?_) (h1.and h2)
                have : cd2 x ≠ cd2 y := fun e => hxy.2 (cd2_inj (sm x hx) (sm y hy) e)
                have := hxy.1
                omega
              rw [← eL] at w2
              exact wL w2 hd (on_pairsK fun x hx => k2 x (hb.perm.mem_iff.mp hx)) hn
          · rw [if_neg c] at w2; exact w2.elim
  | _ => exact w.elim
end
end DN
namespace DN
open PySem PySem.Spec PyProof.Rows L2 Evl
open Sem (wp)
abbrev EnX (h : Heap) (e it : Addr) (i : Int) (old : Value) (a : Addr) (f : Bool) : Prop :=
  h.get? e = some { cls := .type "enumerate", dict := none, data := .fields #[rawInt a, .bool f, .ref it, rawInt i, .none, old], slots := #[] }
section
variable {prog : Program} {w : World} {A : Around} {E : Value → Shared → Prop} {s : Shared}
/-- where the walk stands -/
def EnSt (h : Heap) (e it S : Addr) (i : Nat) : Prop := (i = 0 ∧ ∃ old, IsEnum h e it 0 old) ∨ ∃ old a f oa, EnX h e it i old a f ∧ h.get? a = some oa ∧ a ≠ e ∧ a ≠ it ∧ a ≠ S
theorem EnSt.keep {h h' : Heap} {e it S : Addr} {i : Nat} (x : EnSt h e it S i) (hk : ∀ b o, b ≠ S → h.get? b = some o → h'.get? b = some o) (he : e ≠ S) : EnSt h' e it S i := by
  rcases x with ⟨e1, old, hit⟩ | ⟨old, a, f, oa, hit, ha, h1, h2, h3⟩
  · exact .inl ⟨e1, old, hk _ _ he hit⟩
  · exact .inr ⟨old, a, f, oa, hk _ _ he hit, hk _ _ h3 ha, h1, h2, h3⟩
structure EnG (items : Array Value) (lo : Addr) (h : Heap) (as : List Addr) : Prop where
  rise : as.Pairwise (· < ·)
  above : ∀ a ∈ as, lo < a
  pairs : ∀ (j : Nat) (a : Addr), as[j]? = some a → ∃ t x, items[j]? = some x ∧ h.get? a = some { cls := .type "tuple", data := .seq #[.int j t, x] }
theorem EnG.there {items : Array Value} {lo : Addr} {h : Heap} {as : List Addr} (g : EnG items lo h as) {a : Addr} (ha : a ∈ as) : a < h.objs.size := by
  obtain ⟨j, hj⟩ := List.mem_iff_getElem?.mp ha
  obtain ⟨_, _, _, e⟩ := g.pairs j a hj
  exact Heap.lt_size e
end
end DN
namespace DN
open PySem PySem.Spec PyProof.Rows L2 Evl
end DN
namespace DN
open PySem PySem.Spec PyProof.Rows L2 Evl
end DN
namespace DN
open PySem PySem.Spec PyProof.Rows L2 Evl
end DN
namespace DN
open PySem PySem.Spec PyProof.Rows L2 Evl OP
end DN
namespace DN
open PySem PySem.Spec PyProof.Rows L2 Evl OP
theorem adjust_back (n : Nat) : Builtin.Slice.sliceAdjust none none (-1) (n : Int) = ((n : Int) - 1, -1) := by
  unfold Builtin.Slice.sliceAdjust
  simp
theorem places_back (n : Nat) : Builtin.Slice.slicePlaces ((n : Int) - 1) (-1) (-1) = n := by
  unfold Builtin.Slice.slicePlaces
  have h1 : ¬ ((-1 : Int) > 0) := by omega
  simp only [h1, if_false, Int.neg_neg, Int.ediv_one]
  split <;> omega
theorem pick_back (xs : Array Value) : ((List.range xs.size).filterMap fun (k : Nat) => xs[(((xs.size : Int) - 1) + (k : Int) * (-1)).toNat]?).toArray = xs.toList.reverse.toArray := by
  have e : ∀ n, n ≤ xs.size → (List.range n).filterMap (fun (k : Nat) => xs[(((xs.size : Int) - 1) + (k : Int) * (-1)).toNat]?) = xs.toList.reverse.take n := by
    intro n
    induction n with
    | zero => intro _; rfl
    | succ n ih =>
      intro hn
      have e1 : (((xs.size : Int) - 1) + (n : Int) * (-1)).toNat = xs.size - 1 - n := by omega
      have e2 : xs.toList.reverse[n]? = xs[xs.size - 1 - n]? := by
        rw [List.getElem?_reverse (by simp; omega)]; simp
      rw [List.range_succ, List.filterMap_append, ih (by omega), List.take_succ, e2]
      congr 1
      simp only [List.filterMap_cons, List.filterMap_nil, e1]
      cases xs[xs.size - 1 - n]? <;> rfl
  rw [e xs.size (Nat.le_refl _), List.take_of_length_le (by simp)]
section
variable {prog : Program} {w : World} {A : Around} {E : Value → Shared → Prop} {s : Shared}
theorem getItem_tuple_back {t sl : Addr} {items : Array Value} {u : Value} {Q : Value → Shared → Prop} (ht : IsTup s.heap t items) (hs : s.heap.IsSliceOf sl .none .none u) (pu : IsPart u (some (-1)))
    (h : Q (.ref s.heap.objs.size) { s with heap := s.heap.push { cls := .type "tuple", data := .seq items.toList.reverse.toArray } })
    (hsz : items.size ≤ sizeLine) : wpAny (model prog w) A (getItem (.ref t) (.ref sl)) Q E s := by
  have hfit : sizeOk (.seq items.toList.reverse.toArray) := by
    show items.toList.reverse.toArray.size ≤ sizeLine
    simpa using hsz
  obtain ⟨os, hos, hcs, hds⟩ := id hs
  have hTs : s.TypeIs (.ref sl) "slice" := ⟨os, hos, hcs⟩
  have applied : ∀ {A : Around} {Q : Int × Int × Nat → Shared → Prop}, Q ((items.size : Int) - 1, -1, items.size) s → wpAny (model prog w) A (Builtin.Slice.sliceApplied (.ref sl) (pure (items.size : Int))) Q E s := fun {A Q} hq => by
    unfold Builtin.Slice.sliceApplied Builtin.Slice.sliceFields
    refine wpAny_bind (wpAny_bind (wpAny_field hos hds (x := .none) rfl (wpAny_bind (wpAny_field hos hds (x := .none) rfl (wpAny_bind (wpAny_field hos hds (x := u) rfl (wpAny_pure ?_)))))))
    refine wpAny_bind (HT.slicePart_ pu ?_)
    show wpAny _ _ (if ((-1 : Int) == 0) = true then _ else _) _ _ s
    rw [if_neg (by decide)]
    refine wpAny_bind (slicePart_none (wpAny_bind (slicePart_none (wpAny_bind (wpAny_pure ?_)))))
    show wpAny _ _ (match Builtin.Slice.sliceAdjust none none (-1) (items.size : Int) with | (lo, hi) => pure (lo, (-1 : Int), Builtin.Slice.slicePlaces lo hi (-1))) _ _ s
    rw [adjust_back]
    show wpAny _ _ (pure ((items.size : Int) - 1, (-1 : Int), Builtin.Slice.slicePlaces ((items.size : Int) - 1) (-1) (-1))) _ _ s
    rw [places_back]
    exact wpAny_pure hq
  unfold getItem
  try with_reducible refine wpAny_holding ?_
  first | refine wpAny_bind (wpAny_pure ?_) | skip
  refine wpAny_bind (wpAny_sequenceKey ht.typeIs (by decide) ?_)
  refine wpAny_bind (wpAny_callSpecial?_slot (name := Str.ofString "__getitem__") ht.typeIs slot_tuple_getitem
    (wpAny_call_entry slot_tuple_getitem ht.typeIs entry_tuple_getitem ?_ (args_tuple_getitem _ _)))
  show wpAny _ _ (Builtin.Tuple.tupleItemsOf (.ref t) >>= _) _ _ s
  refine wpAny_bind (tupleItemsOf_ ht ?_)
  refine wpAny_bind (wpAny_typeOf hTs ?_)
  rw [if_pos (by decide)]
  refine wpAny_bind (applied ?_)
  have hno : ¬ ((((items.size : Int) - 1) == 0 && (-1 : Int) == 1 && items.size == items.size) = true) := by
    have : ((-1 : Int) == 1) = false := by decide
    rw [this]; simp
  show wpAny _ _ (if (((items.size : Int) - 1) == 0 && (-1 : Int) == 1 && items.size == items.size) = true then _ else _) _ _ s
  rw [if_neg hno, pick_back items]
  first
    | exact wpAny_bind (m := Builtin.Tuple.tupleExact _) (wpAny_newObj_type (wpAny_pure ⟨_, rfl, wpAny_pure h⟩) hfit)
    | exact wpAny_bind (m := Builtin.Tuple.tupleExact _) (wpAny_newObj_type (wpAny_bind (wpAny_pure (wpAny_pure ⟨_, rfl, wpAny_pure h⟩))) hfit)
    | exact wpAny_bind (wpAny_bind (m := Builtin.Tuple.tupleExact _) (wpAny_newObj_type (wpAny_pure (wpAny_pure ⟨_, rfl, wpAny_pure h⟩)) hfit))
    | exact wpAny_bind (wpAny_bind (m := Builtin.Tuple.tupleExact _) (wpAny_newObj_type (wpAny_pure ⟨_, rfl, wpAny_pure h⟩) hfit))
end
end DN
namespace DN
open PySem PySem.Spec PyProof.Rows L2 Evl OP
theorem adjust_fwd (n : Nat) : Builtin.Slice.sliceAdjust none none 1 (n : Int) = (0, (n : Int)) := by
  unfold Builtin.Slice.sliceAdjust
  simp
theorem places_fwd (n : Nat) : Builtin.Slice.slicePlaces 0 (n : Int) 1 = n := by
  unfold Builtin.Slice.slicePlaces
  have h1 : (1 : Int) > 0 := by omega
  simp only [h1, if_true, Int.ediv_one]
  split <;> omega
section
variable {prog : Program} {w : World} {A : Around} {E : Value → Shared → Prop} {s : Shared}
theorem getItem_tuple_fwd {t sl : Addr} {items : Array Value} {u : Value} {Q : Value → Shared → Prop} (ht : IsTup s.heap t items) (hs : s.heap.IsSliceOf sl .none .none u) (pu : IsPart u (some 1))
    (h : Q (.ref t) s) : wpAny (model prog w) A (getItem (.ref t) (.ref sl)) Q E s := by
  obtain ⟨os, hos, hcs, hds⟩ := id hs
  have hTs : s.TypeIs (.ref sl) "slice" := ⟨os, hos, hcs⟩
  have applied : ∀ {A : Around} {Q : Int × Int × Nat → Shared → Prop}, Q (0, 1, items.size) s → wpAny (model prog w) A (Builtin.Slice.sliceApplied (.ref sl) (pure (items.size : Int))) Q E s := fun {A Q} hq => by
    unfold Builtin.Slice.sliceApplied Builtin.Slice.sliceFields
    refine wpAny_bind (wpAny_bind (wpAny_field hos hds (x := .none) rfl (wpAny_bind (wpAny_field hos hds (x := .none) rfl (wpAny_bind (wpAny_field hos hds (x := u) rfl (wpAny_pure ?_)))))))
    refine wpAny_bind (HT.slicePart_ pu ?_)
    show wpAny _ _ (if ((1 : Int) == 0) = true then _ else _) _ _ s
    rw [if_neg (by decide)]
    refine wpAny_bind (slicePart_none (wpAny_bind (slicePart_none (wpAny_bind (wpAny_pure ?_)))))
    show wpAny _ _ (match Builtin.Slice.sliceAdjust none none 1 (items.size : Int) with | (lo, hi) => pure (lo, (1 : Int), Builtin.Slice.slicePlaces lo hi 1)) _ _ s
    rw [adjust_fwd]
    show wpAny _ _ (pure ((0 : Int), (1 : Int), Builtin.Slice.slicePlaces 0 (items.size : Int) 1)) _ _ s
    rw [places_fwd]
    exact wpAny_pure hq
  unfold getItem
  try with_reducible refine wpAny_holding ?_
  first | refine wpAny_bind (wpAny_pure ?_) | skip
  refine wpAny_bind (wpAny_sequenceKey ht.typeIs (by decide) ?_)
  refine wpAny_bind (wpAny_callSpecial?_slot (name := Str.ofString "__getitem__") ht.typeIs slot_tuple_getitem
    (wpAny_call_entry slot_tuple_getitem ht.typeIs entry_tuple_getitem ?_ (args_tuple_getitem _ _)))
  show wpAny _ _ (Builtin.Tuple.tupleItemsOf (.ref t) >>= _) _ _ s
  refine wpAny_bind (tupleItemsOf_ ht ?_)
  refine wpAny_bind (wpAny_typeOf hTs ?_)
  rw [if_pos (by decide)]
  refine wpAny_bind (applied ?_)
  have hyes : (((0 : Int)) == 0 && (1 : Int) == 1 && items.size == items.size) = true := by simp
  show wpAny _ _ (if (((0 : Int)) == 0 && (1 : Int) == 1 && items.size == items.size) = true then _ else _) _ _ s
  rw [if_pos hyes]
  refine wpAny_bind (wpAny_bind (wpAny_typeOf ht.typeIs (wpAny_pure ?_)))
  show wpAny _ _ (if (Value.type "tuple" == Value.type "tuple") = true then _ else _) _ _ s
  rw [if_pos (by decide)]
  refine wpAny_bind (wpAny_rule ?_)
  exact wpAny_pure ⟨_, rfl, wpAny_pure h⟩
end
section
variable {Z : Zx} {X : Cx} {Ew : L2.St → XK} {fa fs : FE} {e es : Expr} {te ts : TE} {p3 pos : Pos}
def StepBody (K : PySem.W.Frag) (x : V) (i : Int) (H : Hp) (Q : VK) : Prop := ∃ a xs, x = .ref a ∧ SqT K H a xs ∧ ((i = 1 ∧ Q (.ref a) H) ∨ (i = -1 ∧ ∀ p, H p = none → Q (.ref p) (upd H p (.tup xs.reverse))))
def tStep (K : PySem.W.Frag) (te ts : TE) : TE := fun σ H Q => te σ H fun x H1 => ts σ H1 fun y H2 => ∃ i, y = .int i ∧ StepBody K x i H2 Q
theorem pe_step (he : PE X e te) (hs : PE X es ts) : PE X (.Subscript e (.Slice none none (some es) p3) pos) (tStep X.K te ts) := by
  refine ⟨fun pins s σ H Q I h => ?_⟩
  refine Subscript_ (thn (he.run pins s σ H _ I h) fun v s1 ⟨x, H1, I1, r1, q1⟩ => ?_)
  have hst : PO X (some es) (tPart ts) := po_some hs
  refine wpAny_Slice (thn (po_none.run pins s1 σ H1 (fun o H2 => o = none ∧ H2 = H1) I1 ⟨rfl, rfl⟩) fun vl s2 ⟨l, H2, I2, pl, el, e2⟩ => ?_)
  subst el e2
  refine thn (po_none.run pins s2 σ H2 (fun o H3 => o = none ∧ H3 = H2) I2 ⟨rfl, rfl⟩) fun vu s3 ⟨u, H3, I3, pu, eu, e3⟩ => ?_
  subst eu e3
  refine thn (hst.run pins s3 σ H3 (fun o H4 => match o with | some i => StepBody X.K x i H4 Q | none => False) I3 q1) fun vs s4 ⟨o, H4, I4, ps, q4⟩ => ?_
  cases o with
  | none => exact q4.elim
  | some i =>
    obtain ⟨a, xs, ex, hx, q⟩ := q4
    subst ex
    cases r1
    cases pl
    cases pu
    have I5 : Inv X pins σ H4 { s4 with heap := s4.heap.push { cls := .type "slice", data := .fields #[.none, .none, vs] } } := I4.kept (t' := s4.toks) fun b ob q => Heap.get?_push_of_some _ q
    show wpAny (model X.prog X.w) X.A (subscriptTail e (.Slice none none (some es) p3) (.ref a) (.ref s4.heap.objs.size)) (EP X pins σ Q) X.xe { s4 with heap := s4.heap.push { cls := .type "slice", data := .fields #[.none, .none, vs] } }
    obtain ⟨its, r, ht, hz⟩ := I5.tuple hx
    have hlen := r.length
    refine tail_any (ops := [.ref a, .ref s4.heap.objs.size]) ht.typeIs (PyProof.Rows.slot_tuple_getitem.lookup) ?_ (by with_unfolding_all rfl)
    rcases q with ⟨rfl, q⟩ | ⟨rfl, q⟩
    · exact getItem_tuple_fwd ht (Heap.IsSliceOf.new _ .none .none vs) ps ⟨.ref a, H4, I5, rfl, q⟩
    · refine getItem_tuple_back ht (Heap.IsSliceOf.new _ .none .none vs) ps ?_ (by rw [List.size_toArray]; omega)
      refine ⟨.ref _, _, I5.laid (t' := s4.toks) (o := .tup xs.reverse) (fun b ob q => Heap.get?_push_of_some _ q) (Nat.le_refl _) ?_, rfl, q _ (I5.hok.fresh (Nat.le_refl _))⟩
      exact ⟨by rw [List.length_reverse]; exact hz, _, r.reverse, ⟨_, Heap.get?_push_size _ rfl, rfl, 0, rfl⟩⟩
def gStep (a b : Dv) : Option Rt := match a, b with
  | .tup l, .int i => if i = 1 then vT l else if i = -1 then vT l.reverse else none
  | _, _ => none
def fStep (fa fs : FE) : FE := fOp gStep fa fs
theorem pf_step (hK : X.K = Z.K) (ha : PF Z Ew X e fa) (hs : PF Z Ew X es fs) : PF Z Ew X (.Subscript e (.Slice none none (some es) p3) pos) (fStep fa fs) := by
  obtain ⟨ta, h1, h2⟩ := ha.ex
  obtain ⟨ts, h3, h4⟩ := hs.ex
  refine ⟨_, pe_step h1 h3, fun env σ G α S H Q hd oe w => h2.bind hd oe w fun S2 d x H2 G2 α2 f2 hd2 oe2 ox w2 => h4.bind hd2 oe2 w2 fun S3 y v H3 G3 α3 f3 hd3 oe3 oy w3 => ?_⟩
  obtain ⟨G4, α4, S4, a, b, hd4, oa, ob, w4⟩ := g2_ok hd3 (ox.up f3.g f3.a) oy w3
  by_cases c : ∃ l i, a = .tup l ∧ b = .int i
  · obtain ⟨l, i, rfl, rfl⟩ := c
    obtain ⟨p, xs, rfl, h5, h6⟩ := oa
    cases ob
    have sq : SqT X.K H3 p xs := hK ▸ SqT.of (hd4.ex _ _ h5)
    refine ⟨i, rfl, p, xs, rfl, sq, ?_⟩
    have w5 : Wk Z (R.of S4 (if i = 1 then vT l else if i = -1 then vT l.reverse else none)) G4 α4 H3 (pRt Z Q) E0 := w4
    by_cases h1 : i = 1
    · rw [if_pos h1] at w5
      exact .inl ⟨h1, w5.here hd4 _ ⟨p, xs, rfl, h5, h6⟩⟩
    · rw [if_neg h1] at w5
      by_cases h2 : i = -1
      · rw [if_pos h2] at w5
        exact .inr ⟨h2, fun q hq => wT w5 hd4 h6.rev hq⟩
      · rw [if_neg h2] at w5
        exact w5.elim
  · have : gStep a b = none := by
      unfold gStep
      split
      · exact absurd ⟨_, _, rfl, rfl⟩ c
      · rfl
    rw [this] at w4
    exact w4.elim
end
end DN
namespace DN
open PySem PySem.Spec PyProof.Rows L2 Evl
def fKeep (fe : FE) : FE := fun env S => match fe env S with
  | .ok S1 (.new c) => .ok (S1 ++ [c]) (.val (.r S1.length))
  | r => r
section
variable {Z : Zx} {X : Cx} {Ew : L2.St → XK} {e : Expr} {fe : FE}
theorem pf_keep (ha : PF Z Ew X e fe) : PF Z Ew X e (fKeep fe) := by
  refine ⟨_, ha.pe, fun env σ G α S H Q hd oe w => ⟨env, G, α, S, hd, oe, ?_⟩⟩
  unfold fKeep at w
  cases q : fe env S with
  | no => rw [q] at w; exact w.elim
  | ex S1 x => rw [q] at w; exact w
  | ok S1 b =>
    rw [q] at w
    cases b with
    | val v => exact w
    | new c =>
      intro H2 G2 α2 f2 hd2 q n
      have hd3 := hd2.push n.g n.a n.c
      have f3 := f2.push n.h
      have hq : OnR Z G2 (α2 ++ [q]) (.r S1.length) (.ref q) := ⟨q, rfl, by rw [← hd2.len, List.getElem?_append_right (Nat.le_refl _), Nat.sub_self]; rfl⟩
      exact w _ _ _ f3 hd3 _ hq
end
end DN
namespace DB
open PySem PySem.Spec PyProof.Rows L2
def cyc : Nat → Nat
  | 0 => 0
  | b + 1 => 5 * cyc b + 1
theorem cyc_add (b : Nat) : ∀ a, cyc (a + b) = (4 * cyc a + 1) * cyc b + cyc a
  | 0 => by rw [Nat.zero_add]; show _ = (4 * 0 + 1) * cyc b + 0; omega
  | a + 1 => by
    rw [Nat.succ_add]
    show 5 * cyc (a + b) + 1 = (4 * (5 * cyc a + 1) + 1) * cyc b + (5 * cyc a + 1)
    rw [cyc_add b a]
    generalize cyc a = u
    generalize cyc b = v
    have e1 : (4 * (5 * u + 1) + 1) * v = 20 * (u * v) + 5 * v := by
      rw [Nat.add_mul, Nat.mul_assoc, Nat.add_mul, Nat.mul_assoc]; omega
    have e2 : (4 * u + 1) * v = 4 * (u * v) + v := by rw [Nat.add_mul, Nat.mul_assoc]; omega
    rw [e1, e2]
    omega
theorem cyc_two : ∀ k, ∃ q, cyc (2 ^ k) = 2 ^ k * (2 * q + 1)
  | 0 => ⟨0, rfl⟩
  | k + 1 => by
    obtain ⟨q, e⟩ := cyc_two k
    generalize hc : cyc (2 ^ k) = c at e
    have e2 : cyc (2 ^ (k + 1)) = (2 * c) * (2 * c + 1) := by
      rw [show 2 ^ (k + 1) = 2 ^ k + 2 ^ k by rw [Nat.pow_succ]; omega, cyc_add, hc]
      have : (4 * c + 1) * c = 4 * (c * c) + c := by rw [Nat.add_mul, Nat.mul_assoc]; omega
      rw [this, Nat.mul_add, Nat.mul_assoc, show c * (2 * c) = 2 * (c * c) by rw [Nat.mul_left_comm]]
      omega
    refine ⟨2 * (q * c) + q + c, ?_⟩
    have e3 : (2 * q + 1) * (2 * c + 1) = 2 * (2 * (q * c) + q + c) + 1 := by
      rw [Nat.add_mul, Nat.mul_add, Nat.mul_assoc, Nat.mul_left_comm q 2 c]; omega
    rw [e2, ← e3, ← Nat.mul_assoc, Nat.pow_succ]
    congr 1
    rw [e, Nat.mul_comm (2 ^ k) 2, Nat.mul_assoc]
theorem half_or {x j M : Nat} (hj : j < M * 2) (e : x % M = j % M) : x % (M * 2) = j ∨ (x + M) % (M * 2) = j := by
  have hM : 0 < M := by omega
  have h1 : x % (M * 2) % M = x % M := Nat.mod_mod_of_dvd _ ⟨2, rfl⟩
  have h2 : (x + M) % (M * 2) = (x % (M * 2) + M) % (M * 2) := by rw [Nat.mod_add_mod]
  have hr : x % (M * 2) < M * 2 := Nat.mod_lt _ (by omega)
  rw [h2]
  generalize x % (M * 2) = r at *
  rw [e] at h1
  rcases Nat.lt_or_ge r M with c | c <;> rcases Nat.lt_or_ge j M with d | d
  · rw [Nat.mod_eq_of_lt c, Nat.mod_eq_of_lt d] at h1; exact .inl h1
  · rw [Nat.mod_eq_of_lt c, Nat.mod_eq_sub_mod d, Nat.mod_eq_of_lt (by omega)] at h1
    right; rw [Nat.mod_eq_of_lt (by omega)]; omega
  · rw [Nat.mod_eq_of_lt d, Nat.mod_eq_sub_mod c, Nat.mod_eq_of_lt (by omega)] at h1
    right; rw [Nat.mod_eq_sub_mod (by omega), Nat.mod_eq_of_lt (by omega)]; omega
  · rw [Nat.mod_eq_sub_mod c, Nat.mod_eq_sub_mod d, Nat.mod_eq_of_lt (by omega), Nat.mod_eq_of_lt (by omega)] at h1
    left; omega
theorem cyc_hits : ∀ k j, j < 2 ^ k → ∃ b, b < 2 ^ k ∧ cyc b % 2 ^ k = j
  | 0, j, h => ⟨0, by decide, by have : j < 1 := h; omega⟩
  | k + 1, j, h => by
    obtain ⟨b, hb, e⟩ := cyc_hits k (j % 2 ^ k) (Nat.mod_lt _ (Nat.pow_pos (by decide)))
    rw [Nat.pow_succ] at h ⊢
    rcases half_or h e with c | c
    · exact ⟨b, by omega, c⟩
    · refine ⟨2 ^ k + b, by omega, ?_⟩
      obtain ⟨q, eq⟩ := cyc_two k
      rw [cyc_add, eq, ← c]
      generalize cyc b = v
      generalize 2 ^ k = M
      have : (4 * (M * (2 * q + 1)) + 1) * v + M * (2 * q + 1) = v + M + M * 2 * ((2 * (2 * q + 1)) * v + q) := by
        have e1 : M * 2 * (2 * (2 * q + 1) * v) = 2 * 2 * (M * (2 * q + 1)) * v := by ac_rfl
        have e2 : M * (2 * q + 1) = M * 2 * q + M := by rw [Nat.mul_add, Nat.mul_one, Nat.mul_assoc]
        rw [Nat.mul_add (M * 2), e1, Nat.add_mul (4 * _), Nat.one_mul, show 2 * 2 = 4 from rfl]
        omega
      rw [this, Nat.add_mul_mod_self_left]
theorem lcg_cyc (m : Nat) : ∀ b, lcgN m b = cyc b % (m + 1)
  | 0 => (Nat.zero_mod _).symm
  | b + 1 => by
    show (lcgN m b * 5 + 1) % (m + 1) = (5 * cyc b + 1) % (m + 1)
    rw [lcg_cyc m b, Nat.add_mod, Nat.mul_mod, Nat.mod_mod, ← Nat.mul_mod, ← Nat.add_mod, Nat.mul_comm]
/-- the masks up to 2047 -/
def Msk (m : Nat) : Prop := ∃ k, m + 1 = 2 ^ k ∧ 1 ≤ k ∧ k ≤ 11
theorem Msk.back {m : Nat} (h : Msk m) (b : Nat) : lcgN m (m + 1 + b) = lcgN m b := by
  obtain ⟨k, e, _⟩ := h
  obtain ⟨q, eq⟩ := cyc_two k
  rw [lcg_cyc, lcg_cyc, cyc_add, e, eq]
  generalize 2 ^ k = M
  generalize cyc b = v
  have : (4 * (M * (2 * q + 1)) + 1) * v + M * (2 * q + 1) = v + M * ((4 * (2 * q + 1)) * v + (2 * q + 1)) := by
    simp only [Nat.mul_add, Nat.add_mul, Nat.mul_one, Nat.one_mul, Nat.mul_assoc, Nat.mul_comm, Nat.mul_left_comm]
    omega
  rw [this, Nat.add_mul_mod_self_left]
theorem Msk.all {m : Nat} (h : Msk m) {i j : Nat} (hi : i ≤ m) (hj : j ≤ m) : ∃ n, n ≤ m ∧ lcgI m i n = j := by
  have hit : ∀ x, x ≤ m → ∃ b, b ≤ m ∧ lcgN m b = x := fun x hx => by
    obtain ⟨k, e, _⟩ := h
    obtain ⟨b, hb, eb⟩ := cyc_hits k x (by omega)
    exact ⟨b, by omega, by rw [lcg_cyc, e]; exact eb⟩
  obtain ⟨u, hu, rfl⟩ := hit i hi
  obtain ⟨v, hv, rfl⟩ := hit j hj
  by_cases c : u ≤ v
  · exact ⟨v - u, by omega, by rw [lcgN_add, Nat.add_sub_cancel' c]⟩
  · exact ⟨v + (m + 1) - u, by omega, by rw [lcgN_add, show u + (v + (m + 1) - u) = m + 1 + v by omega, h.back]⟩
theorem Msk.le {m : Nat} (h : Msk m) : m ≤ 2047 := by
  obtain ⟨k, e, _, hk⟩ := h
  have : 2 ^ k ≤ 2 ^ 11 := Nat.pow_le_pow_right (by decide) hk
  omega
theorem Msk.odd {m : Nat} (h : Msk m) : m % 2 = 1 := by
  obtain ⟨k, e, h1, _⟩ := h
  obtain ⟨q, rfl⟩ : ∃ q, k = q + 1 := ⟨k - 1, by omega⟩
  rw [Nat.pow_succ] at e
  omega
theorem Msk.runs {m : Nat} (h : Msk m) (x : Int) {j : Nat} (hj : j ≤ m) : ∃ n, n ≤ m + 12 ∧ runI m (SetTable.bits x) n = j := by
  obtain ⟨n, hn, e⟩ := h.all (runI_le m (SetTable.bits x) 12) hj
  exact ⟨12 + n, by omega, (runI_tail (bits_lt x) n).trans e⟩
theorem Msk.ways {m : Nat} (h : Msk m) (x : Int) {j : Nat} (hj : j ≤ m) : ∃ c, c < 10 * SetTable.turns m ∧ way m x c = j := by
  obtain ⟨n, hn, e⟩ := h.runs x hj
  obtain ⟨c, hc, e2⟩ := run_nth m (SetTable.bits x) n
  exact ⟨c, by unfold SetTable.turns; omega, (congrArg SetTable.Probe.j e2).trans e⟩
theorem way_in (m : Nat) (x : Int) (c : Nat) : way m x c ≤ m := by
  have hi : SetTable.bits x % (m + 1) ≤ m := Nat.le_of_lt_succ (Nat.mod_lt _ (Nat.succ_pos _))
  have r := runEnd_bd hi
  have q := nth_in c (runAt m (SetTable.bits x % (m + 1)) (SetTable.bits x)) (m := m) (by
    show SetTable.bits x % (m + 1) + (SetTable.runEnd m (SetTable.bits x % (m + 1)) - SetTable.bits x % (m + 1)) ≤ m
    omega)
  exact Nat.le_trans (Nat.le_add_right _ _) q
/-- each hash stands at its slot, all slots ahead of it on its way are taken -/
structure Tab (t : SetTable) (hs : List Int) : Prop where
  asc : Ris t.place.toList
  clean : t.dummies = #[]
  len : t.place.toList.length = hs.length
  msk : Msk t.mask
  top : ∀ j ∈ t.place.toList, j ≤ t.mask
  sits : ∀ p ∈ t.place.toList.zip hs, ∃ c, way t.mask p.2 c = p.1 ∧ ∀ d, d < c → way t.mask p.2 d ∈ t.place.toList
/-- the first hole on a way -/
theorem Tab.hole {t : SetTable} {hs : List Int} (T : Tab t hs) (hl : hs.length ≤ t.mask) (x : Int) : ∃ c, c < 10 * SetTable.turns t.mask ∧ way t.mask x c ∉ t.place.toList ∧ ∀ d, d < c → way t.mask x d ∈ t.place.toList := by
  obtain ⟨j, hj, no⟩ := st_missing t.place.toList (t.mask + 1) (by rw [T.len]; omega)
  obtain ⟨c, hc, e⟩ := T.msk.ways x (Nat.le_of_lt_succ hj)
  obtain ⟨c2, le, out, least⟩ := st_least (p := fun c => way t.mask x c ∉ t.place.toList) c (fun m => no (e ▸ m))
  exact ⟨c2, Nat.lt_of_le_of_lt le hc, out, fun d hd => Classical.byContradiction fun q => least d hd q⟩
theorem Tab.ahead {t : SetTable} {hs : List Int} (T : Tab t hs) {x : Int} {c i j : Nat} (out : way t.mask x c ∉ t.place.toList) (hi : hs[i]? = some x) (hj : t.place.toList[i]? = some j) : ∃ d, d < c ∧ way t.mask x d = j := by
  have hz : (j, x) ∈ t.place.toList.zip hs := List.mem_of_getElem? (i := i) (by rw [List.getElem?_zip_eq_some]; exact ⟨hj, hi⟩)
  obtain ⟨d, e, b⟩ := T.sits _ hz
  refine ⟨d, Classical.byContradiction fun q => out ?_, e⟩
  rcases Nat.lt_or_ge c d with z | z
  · exact b c z
  · rw [show c = d by omega]
    exact e ▸ List.mem_of_getElem? hj
abbrev put2 {α : Type} (l : List α) (p : Nat) (x : α) : List α := l.take p ++ x :: l.drop p
theorem put2_len {α : Type} {l : List α} {p : Nat} (h : p ≤ l.length) (x : α) : (put2 l p x).length = l.length + 1 := by
  simp only [put2, List.length_append, List.length_cons, List.length_take, List.length_drop]
  omega
theorem mem_put2 {α : Type} {l : List α} {p : Nat} {x y : α} : y ∈ put2 l p x ↔ y = x ∨ y ∈ l := by
  have h : y ∈ l ↔ y ∈ l.take p ++ l.drop p := by rw [List.take_append_drop]
  rw [h]
  simp only [put2, List.mem_append, List.mem_cons]
  constructor
  · rintro (h | h | h)
    · exact .inr (.inl h)
    · exact .inl h
    · exact .inr (.inr h)
  · rintro (h | h | h)
    · exact .inr (.inl h)
    · exact .inl h
    · exact .inr (.inr h)
theorem zip_put2 {α β : Type} {l : List α} {m : List β} (h : l.length = m.length) (p : Nat) (x : α) (y : β) : (put2 l p x).zip (put2 m p y) = put2 (l.zip m) p (x, y) := by
  simp only [put2]
  rw [List.zip_append (by simp [h]), List.zip_cons_cons]
  simp only [List.zip, List.take_zipWith, List.drop_zipWith]
theorem Tab.put {t : SetTable} {hs : List Int} (T : Tab t hs) {x : Int} {c : Nat} (out : way t.mask x c ∉ t.place.toList) (b : ∀ d, d < c → way t.mask x d ∈ t.place.toList) {j p : Nat} (hj : way t.mask x c = j) (hp : SetTable.below t.place j = p) :
    p ≤ hs.length ∧ (t.put j).2 = p ∧ Tab (t.put j).1 (put2 hs p x) ∧ (t.put j).1.mask = t.mask ∧ (t.put j).1.led = t.led ∧ (t.put j).1.plain = t.plain ∧ (t.put j).1.fill = hs.length + 1 := by
  have hin : p ≤ t.place.toList.length := by
    have := (below_cut T.asc j).1
    rw [hp] at this
    exact this
  have no : t.place[SetTable.below t.place j]? ≠ some j := fun e => out (hj ▸ List.mem_of_getElem? (by rw [Array.getElem?_toList]; exact e))
  have new : (t.put j).1.place.toList = put2 t.place.toList p j := by rw [← hp]; exact SetTable.toList_insertAt ..
  have old : ∀ {y : Nat}, y ∈ t.place.toList → y ∈ (t.put j).1.place.toList := fun h => new ▸ mem_put2.mpr (.inr h)
  have nd : (t.put j).1.dummies = #[] := by
    show (if _ then _ else t.dummies) = _
    rw [T.clean, L2.has_none]
    rfl
  have nl : (t.put j).1.place.toList.length = hs.length + 1 := by rw [new, put2_len hin, T.len]
  refine ⟨T.len ▸ hin, hp, ⟨ris_insert T.asc no, nd, by rw [nl, put2_len (T.len ▸ hin)], T.msk, fun y hy => ?_, fun q hq => ?_⟩, rfl, rfl, rfl, ?_⟩
  · rw [new] at hy
    rcases mem_put2.mp hy with rfl | hy
    · exact hj ▸ way_in t.mask x c
    · exact T.top y hy
  · rw [new, zip_put2 T.len] at hq
    rcases mem_put2.mp hq with rfl | hq
    · exact ⟨c, hj, fun d hd => old (b d hd)⟩
    · obtain ⟨d, e, z⟩ := T.sits q hq
      exact ⟨d, e, fun d' h => old (z d' h)⟩
  · show (t.put j).1.place.toList.length + (t.put j).1.dummies.size = _
    rw [nl, nd]
    rfl
/-- the first free place of the way, by the words of layClean -/
theorem free_way {m : Nat} (hm : Msk m) (ow : Array (Option Nat)) (x : Int) {j : Nat} (hj : j ≤ m) (hf : oAt ow j = none) :
    ∃ c, SetTable.layClean.free m ow (SetTable.turns m) (SetTable.bits x % (m + 1)) (SetTable.bits x) = some (way m x c) ∧ oAt ow (way m x c) = none ∧ ∀ d, d < c → oAt ow (way m x d) ≠ none := by
  obtain ⟨n, hn, e⟩ := hm.runs x hj
  have at_n : way m x (off m (SetTable.bits x % (m + 1)) (SetTable.bits x) n) = j := by
    refine (congrArg SetTable.Probe.j (nth_off m n _ _)).trans ?_
    rw [itL_run]
    exact e
  obtain ⟨c, le, free, least⟩ := st_least (p := fun c => oAt ow (way m x c) = none) _ (at_n.symm ▸ hf)
  refine ⟨c, free_spec m ow (SetTable.turns m) n _ _ c (by unfold SetTable.turns; omega) le (fun d hd => ?_) ?_, free, least⟩
  · cases q : oAt ow (way m x d) with
    | none => exact absurd q (least d hd)
    | some _ => rfl
  · exact (congrArg Option.isNone free).trans rfl
theorem own_next {m : Nat} (hm : Msk m) {dn : List Int} {ow : Array (Option Nat)} (W : Own m dn ow) (hl : dn.length ≤ m) (x : Int) :
    ∃ j, SetTable.layClean.free m ow (SetTable.turns m) (SetTable.bits x % (m + 1)) (SetTable.bits x) = some j ∧ Own m (dn ++ [x]) (ow.setIfInBounds j (some dn.length)) := by
  obtain ⟨ps, lp, all⟩ := W.ps
  obtain ⟨i, hi, no⟩ := st_missing ps (m + 1) (by omega)
  have fi : oAt ow i = none := Classical.byContradiction fun q => no (all i (Nat.le_of_lt_succ hi) q)
  obtain ⟨c, e, free, before⟩ := free_way hm ow x (Nat.le_of_lt_succ hi) fi
  have le := way_in m x c
  have me : oAt (ow.setIfInBounds (way m x c) (some dn.length)) (way m x c) = some dn.length := oAt_set_self _ (by rw [W.sz]; omega)
  have keep : ∀ {y : Nat}, oAt ow y ≠ none → oAt (ow.setIfInBounds (way m x c) (some dn.length)) y = oAt ow y := fun {y} h => oAt_set_ne _ fun q => h (q ▸ free)
  refine ⟨_, e, ⟨by rw [Array.size_setIfInBounds]; exact W.sz, fun j k hj hk => ?_, fun k hk => ?_, way m x c :: ps, by simp [lp], fun j hj h => ?_⟩⟩
  · by_cases q : j = way m x c
    · subst q
      rw [me] at hk
      cases hk
      exact ⟨x, c, by simp, rfl, fun d hd => by rw [keep (before d hd)]; exact before d hd⟩
    · rw [oAt_set_ne _ q] at hk
      obtain ⟨y, d, h1, h2, h3⟩ := W.at_ j k hj hk
      exact ⟨y, d, by rw [List.getElem?_append_left (List.getElem?_eq_some_iff.mp h1).1]; exact h1, h2, fun d' hd => by rw [keep (h3 d' hd)]; exact h3 d' hd⟩
  · by_cases q : k = dn.length
    · exact ⟨_, le, q ▸ me⟩
    · obtain ⟨j, hj, h⟩ := W.all k (by simp at hk; omega)
      exact ⟨j, hj, by rw [keep (by rw [h]; simp)]; exact h⟩
  · by_cases q : j = way m x c
    · exact q ▸ List.mem_cons_self
    · rw [oAt_set_ne _ q] at h
      exact List.mem_cons_of_mem _ (all j hj h)
theorem lay_fold {m : Nat} (hm : Msk m) : ∀ (todo dn : List Int) (ow : Array (Option Nat)), Own m dn ow → dn.length + todo.length ≤ m → ∃ ow2 k, todo.foldl (stepF m) (some (ow, dn.length)) = some (ow2, k) ∧ Own m (dn ++ todo) ow2
  | [], dn, ow, W, _ => ⟨ow, _, rfl, by rw [List.append_nil]; exact W⟩
  | x :: todo, dn, ow, W, hl => by
    rw [List.length_cons] at hl
    obtain ⟨j, e, W2⟩ := own_next hm W (by omega) x
    obtain ⟨ow2, k, f, W3⟩ := lay_fold hm todo _ _ W2 (by simp; omega)
    refine ⟨ow2, k, ?_, by simpa using W3⟩
    rw [List.foldl_cons, stepF_some e]
    simpa using f
theorem lay_all {m : Nat} (hm : Msk m) {hs : Array Int} (hn : hs.size ≤ m) : ∃ ow, SetTable.layClean m hs = some ow ∧ Own m hs.toList ow := by
  obtain ⟨ow, k, f, W⟩ := lay_fold hm hs.toList [] _ (Own.init m) (by simpa using hn)
  refine ⟨ow, ?_, W⟩
  have f2 : hs.toList.foldl (stepF m) (some (Array.replicate (m + 1) none, 0)) = some (ow, k) := f
  rw [layClean_eq, f2]
  rfl
theorem lay_table (t : SetTable) {hs : Array Int} {many M : Nat} (hw : SetTable.sizeAbove many - 1 = M) (hM : Msk M) (hn : hs.size ≤ M) :
    ∃ u order, t.relaid hs many = some (u, order) ∧ order.toList.Perm (List.range hs.size) ∧ Tab u (order.toList.map fun i => hs.getD i 0) ∧ u.mask = M ∧ u.led = t.led ∧ u.plain = t.plain := by
  obtain ⟨ow, e, W⟩ := lay_all hM hn
  have go : t.relaid hs many = some (tabOf t M ow, ((liveOf M ow).map (·.2)).toArray) := by rw [relaid_eq, hw, e]; rfl
  obtain ⟨up, inr⟩ := ris_live (fun j => ow.getD j none) (List.range (M + 1)) (by unfold Ris; exact List.pairwise_lt_range)
  replace up : Ris ((liveOf M ow).map (·.1)) := up
  have len : (liveOf M ow).length = hs.size := by
    obtain ⟨ps, lp, all⟩ := W.ps
    refine Nat.le_antisymm ?_ ?_
    · have := nat_nodup_len ((liveOf M ow).map (·.1)) ps (by unfold Ris at up; exact up.imp fun h => Nat.ne_of_lt h) fun y hy => by
        obtain ⟨⟨u, v⟩, hq, rfl⟩ := List.mem_map.mp hy
        have := (mem_live W.sz).mp hq
        exact all u this.1 (by rw [this.2]; simp)
      rw [List.length_map, lp] at this
      exact this
    · have := nat_nodup_len (List.range hs.size) ((liveOf M ow).map (·.2)) List.nodup_range fun k hk => by
        obtain ⟨j, hj, h⟩ := W.all k (List.mem_range.mp hk)
        exact List.mem_map.mpr ⟨(j, k), (mem_live W.sz).mpr ⟨hj, h⟩, rfl⟩
      rw [List.length_map, List.length_range] at this
      exact this
  refine ⟨_, _, go, perm_range hs.size _ (by simp [len]) fun k hk => ?_, ⟨up, rfl, by simp [tabOf], hM, fun j hj => ?_, fun p hp => ?_⟩, rfl, rfl, rfl⟩
  · obtain ⟨j, hj, h⟩ := W.all k hk
    exact List.mem_map.mpr ⟨(j, k), (mem_live W.sz).mpr ⟨hj, h⟩, rfl⟩
  · obtain ⟨⟨u, v⟩, hq, rfl⟩ := List.mem_map.mp hj
    exact ((mem_live W.sz).mp hq).1
  · have hz : p ∈ (liveOf M ow).map fun q => (q.1, hs.getD q.2 0) := by
      have : ((liveOf M ow).map (·.1)).zip (((liveOf M ow).map (·.2)).map fun i => hs.getD i 0) = (liveOf M ow).map fun q => (q.1, hs.getD q.2 0) := by
        generalize liveOf M ow = l
        induction l with
        | nil => rfl
        | cons q l ih => simp only [List.map_cons, List.zip_cons_cons, ih]
      rw [← this]
      exact hp
    obtain ⟨⟨u, v⟩, hq, rfl⟩ := List.mem_map.mp hz
    obtain ⟨hu, ho⟩ := (mem_live W.sz).mp hq
    obtain ⟨x, c, h1, h2, h3⟩ := W.at_ u v hu ho
    have hx : hs.getD v 0 = x := by rw [Array.getD_eq_getD_getElem?, ← Array.getElem?_toList, h1]; rfl
    refine ⟨c, by show way M (hs.getD v 0) c = u; rw [hx]; exact h2, fun d hd => ?_⟩
    show way M (hs.getD v 0) d ∈ (liveOf M ow).map (·.1)
    rw [hx]
    cases q : oAt ow (way M x d) with
    | none => exact absurd q (h3 d hd)
    | some y => exact List.mem_map.mpr ⟨(way M x d, y), (mem_live W.sz).mpr ⟨way_in M x d, q⟩, rfl⟩
/-- the sizes that come -/
theorem grow_to {n m : Nat} (hm : m = 7 ∨ m = 31 ∨ m = 127 ∨ m = 511 ∨ m = 2047) (h1 : (n - 1) * 5 < m * 3) (h2 : m * 3 ≤ n * 5) (h3 : n ≤ 1228) :
    ∃ M, SetTable.sizeAbove (SetTable.grown n) - 1 = M ∧ (M = 31 ∨ M = 127 ∨ M = 511 ∨ M = 2047) ∧ n * 5 < M * 3 := by
  have h : n = 5 ∨ n = 19 ∨ n = 77 ∨ n = 307 := by
    rcases hm with rfl | rfl | rfl | rfl | rfl <;> omega
  rcases h with rfl | rfl | rfl | rfl
  · exact ⟨31, by decide +kernel, by decide, by decide⟩
  · exact ⟨127, by decide +kernel, by decide, by decide⟩
  · exact ⟨511, by decide +kernel, by decide, by decide⟩
  · exact ⟨2047, by decide +kernel, by decide, by decide⟩
def Ms (m : Nat) : Prop := m = 7 ∨ m = 31 ∨ m = 127 ∨ m = 511 ∨ m = 2047
theorem Ms.msk {m : Nat} (h : Ms m) : Msk m := by
  rcases h with rfl | rfl | rfl | rfl | rfl
  · exact ⟨3, rfl, by decide, by decide⟩
  · exact ⟨5, rfl, by decide, by decide⟩
  · exact ⟨7, rfl, by decide, by decide⟩
  · exact ⟨9, rfl, by decide, by decide⟩
  · exact ⟨11, rfl, by decide, by decide⟩
end DB
namespace DB
open PySem PySem.Spec PyProof.Rows L2
/-- the c-th step of the way of a hash -/
abbrev Prb (m : Nat) (x : Int) (c : Nat) : SetTable.Probe := nth m (runAt m (SetTable.bits x % (m + 1)) (SetTable.bits x)) c
theorem no_dummy (m : Nat) : ∀ (c : Nat) (p : SetTable.Probe), p.dummy = none → (nth m p c).dummy = none
  | 0, _, h => h
  | c + 1, p, h => no_dummy m c (adv m p) (by unfold adv; split <;> exact h)
/-- what a probe answers from the c-th step on -/
theorem Tab.probe {t : SetTable} {hs : List Int} (T : Tab t hs) {x : Int} {K c : Nat} (hK : K < 10 * SetTable.turns t.mask) (out : way t.mask x K ∉ t.place.toList) (b : ∀ d, d < K → way t.mask x d ∈ t.place.toList) (hc : c ≤ K)
    (f : Nat → Int) (hf : ∀ (i : Nat) y, hs[i]? = some y → f i = y) :
    (∃ (d i : Nat), c ≤ d ∧ d < K ∧ t.place.toList[i]? = some (way t.mask x d) ∧ hs[i]? = some x ∧ (∀ (e i' : Nat), c ≤ e → e < d → t.place.toList[i']? = some (way t.mask x e) → hs[i']? ≠ some x) ∧ t.probe f x (Prb t.mask x c) = some (.candidate (way t.mask x d) i (Prb t.mask x (d + 1)))) ∨
    ((∀ (e i' : Nat), c ≤ e → e < K → t.place.toList[i']? = some (way t.mask x e) → hs[i']? ≠ some x) ∧ t.probe f x (Prb t.mask x c) = some (.empty (way t.mask x K) none)) := by
  have sh : ∀ q, nth t.mask (Prb t.mask x c) q = Prb t.mask x (c + q) := fun q => (nth_add t.mask c _ q).symm
  have lenT := T.len
  have at_i : ∀ {i j : Nat}, t.place.toList[i]? = some j → ∃ y, hs[i]? = some y := fun {i j} h => by
    have := (List.getElem?_eq_some_iff.mp h).1
    exact ⟨hs[i]'(by omega), List.getElem?_eq_getElem _⟩
  have ne_of : ∀ {i : Nat}, f i ≠ x → hs[i]? ≠ some x := fun {i} h e => h (hf i x e)
  rcases go_spec t T.asc T.clean f x (10 * SetTable.turns t.mask) (K - c) (Prb t.mask x c) (no_dummy _ c _ rfl) (by omega) (fun q hq => by rw [sh]; exact b _ (by omega)) (by rw [sh, Nat.add_sub_cancel' hc]; exact out) with
    ⟨q, i, h1, h2, h3, h4, h5⟩ | ⟨h4, h5⟩
  · left
    rw [sh] at h2
    obtain ⟨y, hy⟩ := at_i h2
    refine ⟨c + q, i, Nat.le_add_right _ _, by omega, h2, by rw [hy, ← hf i y hy, h3], fun e i' he1 he2 hp => ne_of (h4 (e - c) i' (by omega) (by rw [sh, Nat.add_sub_cancel' he1]; exact hp)), ?_⟩
    rw [sh, sh] at h5
    exact h5
  · right
    refine ⟨fun e i' he1 he2 hp => ne_of (h4 (e - c) i' (by omega) (by rw [sh, Nat.add_sub_cancel' he1]; exact hp)), ?_⟩
    rw [sh, Nat.add_sub_cancel' hc] at h5
    exact h5
section
variable {P : Program} {w : World} {A : Around} {E : Value → Shared → Prop} {s : Shared}
/-- the set of the tuples L at a -/
structure SB (P : Program) (w : World) (h : Heap) (a : Addr) (L : List (Addr × List Int)) (es : Array (Int × Value)) (ep : Nat) (t : SetTable) : Prop where
  obj : ∃ o, h.get? a = some o ∧ o.ExactSet ∧ o.data = .set es ep t
  row : es.toList = rowsOf P w L
  tab : Tab t (L.map fun p => thash P w p.2)
  uniq : (L.map (·.2)).Nodup
  tups : ∀ p ∈ L, IsT P w h p.2 p.1
  pln : t.plain = true
  ld : w.params.followText "set-order" = true ∨ t.led = true
  rm : L.length * 5 < t.mask * 3
  ms : Ms t.mask
  most : L.length ≤ 1228
variable {a : Addr} {L : List (Addr × List Int)} {es : Array (Int × Value)} {ep : Nat} {t : SetTable}
theorem rows_len {L : List (Addr × List Int)} {es : Array (Int × Value)} (h : es.toList = rowsOf P w L) : es.size = L.length := by
  rw [← Array.length_toList, h]
  exact List.length_map ..
theorem fits_of {t : SetTable} {n : Nat} {hs : List Int} (T : Tab t hs) (hn : hs.length = n) (hm : n ≤ t.mask) : t.fits n = true := by
  have h1 : t.place.size = n := by rw [← Array.length_toList, T.len, hn]
  unfold SetTable.fits SetTable.fill
  simp [h1, T.clean, hm]
theorem SB.fit (R : SB P w s.heap a L es ep t) : t.fits es.size = true := by
  rw [rows_len R.row]
  exact fits_of R.tab (List.length_map ..) (by have := R.rm; omega)
theorem SB.nth (R : SB P w s.heap a L es ep t) {i : Nat} {p : Addr × List Int} (h : L[i]? = some p) : es[i]? = some (thash P w p.2, Value.ref p.1) := by
  rw [← Array.getElem?_toList, R.row]
  simp [rowsOf, h]
theorem SB.here (R : SB P w s.heap a L es ep t) : ¬ t.gaveWay = true := by
  unfold SetTable.gaveWay
  simp [R.ms.msk.odd]
/-- the search of a tuple, from the c-th step of its way on -/
theorem SB.look (R : SB P w s.heap a L es ep t) {x : Addr} {k : List Int} (hx : IsT P w s.heap k x) (hu : A.units < cLine) {H : Int} (hH : thash P w k = H) {K : Nat} (hK : K < 10 * SetTable.turns t.mask)
    (out : way t.mask H K ∉ t.place.toList) (b : ∀ d, d < K → way t.mask H d ∈ t.place.toList) {Q : SetFound → Shared → Prop} (yes : k ∈ L.map (·.2) → Q (.there none) s) (no : k ∉ L.map (·.2) → Q (.free (way t.mask H K) false) s) :
    ∀ (f c : Nat) (st : Option SetTable.Probe), st.getD (t.probeStart H) = Prb t.mask H c → c ≤ K → K - c < f →
      (∀ (i : Nat) p, L[i]? = some p → p.2 = k → ∃ d, c ≤ d ∧ d < K ∧ t.place.toList[i]? = some (way t.mask H d)) → wpAny (model P w) A (setSearchFrom a (.ref x) H true f st) Q E s
  | 0, _, _, _, _, h, _ => absurd h (Nat.not_lt_zero _)
  | f + 1, c, st, hst, hc, hf, hk => by
    obtain ⟨o, ho, _, hd⟩ := R.obj
    have hsOf : ∀ {i : Nat} {p : Addr × List Int}, L[i]? = some p → (L.map fun p => thash P w p.2)[i]? = some (thash P w p.2) := fun h => by rw [List.getElem?_map, h]; rfl
    have hf' : ∀ (i : Nat) y, (L.map fun p => thash P w p.2)[i]? = some y → (es[i]?.map (·.1)).getD 0 = y := fun i y h => by
      rw [List.getElem?_map] at h
      obtain ⟨p, hp, rfl⟩ := Option.map_eq_some_iff.mp h
      rw [R.nth hp]
      rfl
    rw [setSearchFrom_succ]
    refine wpAny_bind (wpAny_setState_of ho hd R.fit ?_)
    dsimp only
    refine wp_if_neg R.here ?_
    try refine wpAny_bind (wpAny_pure ?_)
    rw [hst]
    rcases R.tab.probe hK out b hc (fun i => (es[i]?.map (·.1)).getD 0) hf' with ⟨d, i, h1, h2, h3, h4, h5, h6⟩ | ⟨h5, h6⟩
    · rw [h6]
      dsimp only
      obtain ⟨p, hp, hpH⟩ : ∃ p, L[i]? = some p ∧ thash P w p.2 = H := by
        rw [List.getElem?_map] at h4
        exact Option.map_eq_some_iff.mp h4
      have pin : p ∈ L := List.mem_of_getElem? hp
      have slot : t.slot (way t.mask H d) = .live i := slot_live R.tab.asc h3
      have go : wpAny (model P w) A (searchRest a (.ref x) H true f es t (way t.mask H d) i (Prb t.mask H (d + 1))) Q E s := by
        unfold searchRest
        rw [R.nth hp]
        dsimp only
        refine wpAny_bind (wpAny_holding (wpAny_eqBool_tuple hu (R.tups p pin) hx (wpAny_bind (wpAny_setState_of ho hd R.fit ?_))))
        dsimp only
        by_cases e : p.2 = k
        · exact wp_if_pos (by simp [e]) (wpAny_pure (yes (List.mem_map.mpr ⟨p, pin, e⟩)))
        · refine wp_if_neg (by simp [e]) ?_
          try refine wpAny_bind (wpAny_pure ?_)
          rw [sameMem]
          dsimp only
          simp only [if_true, slot, R.nth hp]
          refine wpAny_bind (wpAny_isSame_ref_self (wpAny_bind (wpAny_pure ?_)))
          simp only [if_true]
          refine wp_if_neg (by simp [e]) (SB.look R hx hu hH hK out b yes no f (d + 1) _ rfl h2 (by omega) fun i0 p0 hp0 hk0 => ?_)
          obtain ⟨d0, le, lt, at0⟩ := hk i0 p0 hp0 hk0
          refine ⟨d0, Classical.byContradiction fun q => ?_, lt, at0⟩
          rcases Nat.lt_or_ge d0 d with z | z
          · exact h5 d0 i0 le z at0 (by rw [hsOf hp0, hk0, hH])
          · have : d0 = d := by omega
            subst this
            have q2 := slot_live R.tab.asc at0
            rw [slot] at q2
            injection q2 with q2
            subst q2
            rw [hp] at hp0
            cases hp0
            exact e hk0
      by_cases l : t.led = true
      · refine wp_if_neg (by simp [l]) ?_
        try refine wpAny_bind (wpAny_pure ?_)
        exact go
      · refine wp_if_pos (by simp [l]) (wpAny_bind (seen_tup hx (fun y hy => ?_) (wp_if_neg (by decide) ?_)))
        · obtain ⟨e, he, rfl⟩ := List.mem_map.mp hy
          have he2 : e ∈ es.toList := by simp at he; simpa using he.1
          rw [R.row] at he2
          obtain ⟨p2, hp2, rfl⟩ := List.mem_map.mp he2
          exact ⟨p2.2, p2.1, rfl, R.tups p2 hp2⟩
        · try refine wpAny_bind (wpAny_pure ?_)
          exact go
    · rw [h6]
      refine wpAny_pure (no fun hm => ?_)
      obtain ⟨p0, hp0, hk0⟩ := List.mem_map.mp hm
      obtain ⟨i0, hi0⟩ := List.mem_iff_getElem?.mp hp0
      obtain ⟨d0, le, lt, at0⟩ := hk i0 p0 hi0 hk0
      exact h5 d0 i0 le lt at0 (by rw [hsOf hi0, hk0, hH])
theorem SB.seek (R : SB P w s.heap a L es ep t) {x : Addr} {k : List Int} (hx : IsT P w s.heap k x) (hu : A.units < cLine) {H : Int} (hH : thash P w k = H) {Q : SetFound → Shared → Prop} (yes : k ∈ L.map (·.2) → Q (.there none) s)
    (no : ∀ K, k ∉ L.map (·.2) → way t.mask H K ∉ t.place.toList → (∀ d, d < K → way t.mask H d ∈ t.place.toList) → Q (.free (way t.mask H K) false) s) : wpAny (model P w) A (setSearch a (.ref x) H true) Q E s := by
  obtain ⟨K, h1, h2, h3⟩ := R.tab.hole (by rw [List.length_map]; have := R.rm; omega) H
  have small := R.ms.msk.le
  unfold setSearch
  refine SB.look R hx hu hH h1 h2 h3 yes (fun n => no K n h2 h3) 100000 0 none rfl (Nat.zero_le _) (by unfold SetTable.turns at h1; omega) fun i p hp hk => ?_
  have hi : i < t.place.toList.length := by
    rw [R.tab.len, List.length_map]
    exact (List.getElem?_eq_some_iff.mp hp).1
  have hj := List.getElem?_eq_getElem hi
  obtain ⟨d, lt, e⟩ := R.tab.ahead h2 (i := i) (by rw [List.getElem?_map, hp]; show some (thash P w p.2) = _; rw [hk, hH]) hj
  exact ⟨d, Nat.zero_le _, lt, by rw [hj, e]⟩
end
end DB
namespace DB
open PySem PySem.Spec PyProof.Rows L2
section
variable {P : Program} {w : World} {A : Around} {E : Value → Shared → Prop} {s : Shared} {a : Addr} {L : List (Addr × List Int)} {es : Array (Int × Value)} {ep : Nat} {t : SetTable}
/-- all laid anew in a larger table -/
theorem lay_anew {o : Obj} (ho : s.heap.get? a = some o) (hex : o.ExactSet) (hd : o.data = .set es ep t) (row : es.toList = rowsOf P w L) (T : Tab t (L.map fun p => thash P w p.2)) (lm : L.length ≤ t.mask) (uniq : (L.map (·.2)).Nodup)
    (tups : ∀ p ∈ L, IsT P w s.heap p.2 p.1) (pln : t.plain = true) (ld : w.params.followText "set-order" = true ∨ t.led = true) (most : L.length ≤ 1228) {many M : Nat} (hw : SetTable.sizeAbove many - 1 = M) (hM : Ms M) (rm : L.length * 5 < M * 3) {Q : Unit → Shared → Prop}
    (q : ∀ h' L' es' ep' t', Heap.SameBut a s.heap h' → SB P w h' a L' es' ep' t' → L'.Perm L → Q () { s with heap := h' }) : wpAny (model P w) A (setRelay a many) Q E s := by
  have el := rows_len row
  have fit : t.fits es.size = true := el ▸ fits_of T (List.length_map ..) lm
  obtain ⟨u, order, e, pm, T2, um, ul, up⟩ := lay_table t (hs := es.map (·.1)) hw hM.msk (by rw [Array.size_map, el]; omega)
  rw [Array.size_map, el] at pm
  obtain ⟨L2, row2, pm2, hs2⟩ := order_rows L es order row pm
  rw [← hs2] at T2
  have sz : (order.filterMap (es[·]?)).size = es.size := by rw [rows_len row2, el, pm2.length_eq]
  have small := hM.msk.le
  rw [setRelay_eq]
  refine wpAny_bind (wpAny_setState_of ho hd fit ?_)
  dsimp only
  refine wp_if_neg (by rw [sizeLine_eq]; omega) ?_
  try refine wpAny_bind (wpAny_pure ?_)
  rw [e]
  refine wpAny_bind (wp_if_neg (by rw [sz]; simp) ?_)
  try refine wpAny_bind (wpAny_pure ?_)
  refine wpAny_pure ?_
  dsimp only
  have sb : Heap.SameBut a s.heap (s.heap.update a (Obj.putSet (order.filterMap (es[·]?)) u)) := Heap.SameBut.update ..
  refine wpAny_storeSet_of ho hd (q _ L2 _ (ep + 1) u sb ⟨⟨_, store_at ho hd, ⟨hex.1, hex.2.1, hex.2.2⟩, rfl⟩, row2, T2, (pm2.map (·.2)).nodup_iff.mpr uniq, fun p hp => isT_same (tups p (pm2.mem_iff.mp hp)) ho hd sb, up.trans pln, ul ▸ ld, by rw [pm2.length_eq, um]; exact rm, um ▸ hM, by rw [pm2.length_eq]; exact most⟩ pm2) (by rw [sz, el, sizeLine_eq]; omega)
/-- one more tuple -/
theorem SB.add (R : SB P w s.heap a L es ep t) {x : Addr} {k : List Int} (hx : IsT P w s.heap k x) (hu : A.units < cLine) (few : L.length + 1 ≤ 1228) {Q : Bool → Shared → Prop}
    (q : ∀ b h' L' es' ep' t', Heap.SameBut a s.heap h' → SB P w h' a L' es' ep' t' → (k ∈ L.map (·.2) → L' = L) → (k ∉ L.map (·.2) → L'.Perm ((x, k) :: L)) → Q b { s with heap := h' }) : wpAny (model P w) A (setAddHashed a (.ref x) (thash P w k)) Q E s := by
  obtain ⟨o, ho, hex, hd⟩ := R.obj
  have el := rows_len R.row
  unfold setAddHashed
  refine wpAny_holding ?_
  rw [show 100000 = 99999 + 1 from rfl, setAddHashedIn_succ]
  refine wpAny_bind (wpAny_setState_of ho hd R.fit ?_)
  dsimp only
  refine wp_if_neg (by simp [byScan, Value.scannable]) ?_
  try refine wpAny_bind (wpAny_pure ?_)
  refine wpAny_bind (R.seek hx hu rfl (fun hm => wpAny_pure (q false s.heap L es ep t (Heap.SameBut.refl a s.heap) R (fun _ => rfl) fun z => absurd hm z)) fun K hm out b => ?_)
  refine wpAny_bind (wpAny_setState_of ho hd R.fit ?_)
  dsimp only
  obtain ⟨q2, q1, T, q4, q5, q6, q9⟩ := R.tab.put out b rfl rfl
  have hp1 := q6.trans R.pln
  generalize hpt : t.put (way t.mask (thash P w k) K) = pt at q1 T q4 q5 q6 q9 hp1 ⊢
  obtain ⟨t1, p⟩ := pt
  dsimp only at q1 T q4 q5 q6 q9 hp1 ⊢
  subst q1
  first
    | (refine wpAny_bind ?_; refine wp_if_pos hp1 ?_; refine hashBy_tup hx ?_)
    | refine wp_if_pos hp1 (wpAny_bind (hashBy_tup hx ?_))
  simp only [if_true]
  have row1 : (SetTable.insertAt es (SetTable.below t.place (way t.mask (thash P w k) K)) (thash P w k, Value.ref x)).toList = rowsOf P w (put2 L (SetTable.below t.place (way t.mask (thash P w k) K)) (x, k)) := by
    rw [SetTable.toList_insertAt, rows_put, R.row]
  generalize SetTable.below t.place (way t.mask (thash P w k) K) = p at q2 T row1 ⊢
  rw [List.length_map] at q2 q9
  have pm : (put2 L p (x, k)).Perm ((x, k) :: L) := put_perm L p (x, k)
  have ln : (put2 L p (x, k)).length = L.length + 1 := pm.length_eq
  have T1 : Tab t1 ((put2 L p (x, k)).map fun p => thash P w p.2) := by
    have : (put2 L p (x, k)).map (fun p => thash P w p.2) = put2 (L.map fun p => thash P w p.2) p (thash P w k) := by simp only [put2, List.map_append, List.map_cons, List.map_take, List.map_drop]
    rw [this]
    exact T
  have uniq1 : ((put2 L p (x, k)).map (·.2)).Nodup := (pm.map (·.2)).nodup_iff.mpr (List.nodup_cons.mpr ⟨hm, R.uniq⟩)
  have es1 := rows_len row1
  generalize SetTable.insertAt es p (thash P w k, Value.ref x) = es' at row1 es1 ⊢
  generalize put2 L p (x, k) = L1 at pm ln T1 uniq1 row1 es1
  refine wpAny_bind (wpAny_storeSet_of ho hd ?_ (by rw [es1, sizeLine_eq]; omega))
  have sb : Heap.SameBut a s.heap (s.heap.update a (Obj.putSet es' t1)) := Heap.SameBut.update ..
  have ho1 := store_at (es' := es') (t' := t1) ho hd
  generalize s.heap.update a (Obj.putSet es' t1) = h1 at sb ho1 ⊢
  have tups1 : ∀ p ∈ L1, IsT P w h1 p.2 p.1 := fun p hp => by
    rcases List.mem_cons.mp (pm.mem_iff.mp hp) with rfl | hp
    · exact isT_same hx ho hd sb
    · exact isT_same (R.tups p hp) ho hd sb
  have ld1 := R.ld
  rw [← q5] at ld1
  have ms1 := R.ms
  rw [← q4] at ms1
  have rm0 := R.rm
  rw [← q4] at rm0
  have full : t1.tooFull = decide ((L.length + 1) * 5 ≥ t1.mask * 3) := by unfold SetTable.tooFull; rw [q9]
  by_cases c : (L.length + 1) * 5 ≥ t1.mask * 3
  · obtain ⟨M, g1, g2, g3⟩ := grow_to (n := L.length + 1) ms1 (by omega) c few
    first
      | (refine wpAny_bind ?_; refine wp_if_pos (by simp [full, c]) ?_)
      | (refine wp_if_pos (by simp [full, c]) ?_; refine wpAny_bind ?_)
    rw [el]
    exact lay_anew (s := { s with heap := h1 }) ho1 ⟨hex.1, hex.2.1, hex.2.2⟩ rfl row1 T1 (by rcases ms1 with z | z | z | z | z <;> omega) uniq1 tups1 hp1 ld1 (by omega) g1 (.inr g2) (by rw [ln]; exact g3) fun h2 L2 es2 ep2 t2 sb2 R2 pm2 =>
      wpAny_pure (q true h2 L2 es2 ep2 t2 (sb.trans sb2) R2 (fun z => absurd z hm) fun _ => pm2.trans pm)
  · first
      | refine wp_if_neg (by simp [full, c]) ?_
      | (refine wpAny_bind ?_; refine wp_if_neg (by simp [full, c]) ?_; refine wpAny_pure ?_)
    exact wpAny_pure (q true h1 L1 es' (ep + 1) t1 sb ⟨⟨_, ho1, ⟨hex.1, hex.2.1, hex.2.2⟩, rfl⟩, row1, T1, uniq1, tups1, hp1, ld1, by rw [ln]; omega, ms1, by omega⟩ (fun z => absurd z hm) fun _ => pm)
theorem SB.kept {h h' : Heap} (R : SB P w h a L es ep t) (ha : ∀ o, h.get? a = some o → h'.get? a = some o) (ht : ∀ p ∈ L, IsT P w h' p.2 p.1) : SB P w h' a L es ep t := by
  obtain ⟨⟨o, ho, q⟩, h1, h2, h3, _, h5, h6, h7, h8, h9⟩ := R
  exact ⟨⟨o, ha o ho, q⟩, h1, h2, h3, ht, h5, h6, h7, h8, h9⟩
theorem SB.new {h : Heap} (ho : h.get? a = some { cls := .type "set", dict := none, data := .set #[] 0 (.fresh 0 0 (!w.params.followText "set-order")) }) : SB P w h a [] #[] 0 (.fresh 0 0 (!w.params.followText "set-order")) := by
  refine ⟨⟨_, ho, ⟨rfl, rfl, rfl⟩, rfl⟩, rfl, ⟨List.Pairwise.nil, rfl, rfl, Ms.msk (.inl rfl), (fun _ h => nomatch h), (fun _ h => nomatch h)⟩, List.nodup_nil, (fun _ h => nomatch h), rfl, ?_, ?_, .inl rfl, Nat.zero_le _⟩
  · show _ ∨ (!w.params.followText "set-order") = true
    cases w.params.followText "set-order"
    · exact .inr rfl
    · exact .inl rfl
  · show 0 * 5 < 7 * 3
    decide
/-- the loop of set(..) -/
theorem set_loop {I : Addr} {fp wr : List Addr} {G : Array GenState → Array GenState → Prop} {n : Nat} {Pv : Nat → Value → Prop} {St : Nat → Shared → Prop} {R : Result → Shared → Prop} (W : WalksS P w A.in1 I fp wr G n Pv St) (S : Addr) (hS : S ∉ fp)
    (ks : List (Addr × List Int)) (hn : n = ks.length) (few : ks.length ≤ 1228) (val : ∀ i v, Pv i v → ∃ p, ks[i]? = some p ∧ v = .ref p.1) (h0 : Heap) (hk : ∀ p ∈ ks, IsT P w h0 p.2 p.1) (no : h0.get? S = none) (now : ∀ b ∈ wr, h0.get? b = none) (hu : A.in1.units < cLine) :
    ∀ (m i : Nat) (s : Shared), n - i = m → i ≤ n → St i s → (∀ b o, h0.get? b = some o → s.heap.get? b = some o) → (∃ L es ep t, SB P w s.heap S L es ep t ∧ L2.Got ks i L) →
      (∀ s' L es ep t, Moved (S :: wr) G s s' → SB P w s'.heap S L es ep t → L2.Got ks n L → (∀ b o, h0.get? b = some o → s'.heap.get? b = some o) → R (.ok (.ret .none)) s') → codeAny (model P w) A (.builtin "set.update.loop" ⟨[.ref S, .ref I], []⟩) R s := by
  have Sw : S ∉ wr := fun h => hS (W.sub _ h)
  have keep : ∀ {s s' : Shared}, Moved wr G s s' → (∀ b o, h0.get? b = some o → s.heap.get? b = some o) → ∀ b o, h0.get? b = some o → s'.heap.get? b = some o := fun mv old b o e =>
    mv.heap b o (fun z => by rw [now b z] at e; cases e) (old b o e)
  intro m
  induction m with
  | zero =>
    intro i s hm hi st old ⟨L, es, ep, t, B, g⟩ r
    obtain rfl : i = n := by omega
    refine codeAny_builtin F.entry_set_update_loop ?_
    rw [Around.under_plainId F.plain_set_update_loop _]
    show wpAny _ A.in1 (pyNext (.ref I) >>= _) _ _ s
    refine wpAny_bind (W.done s _ _ st fun s' mv => ?_)
    have old' := keep mv old
    exact wpAny_pure (r s' L es ep t (mv.mono fun b hb => List.mem_cons_of_mem _ hb) (B.kept (fun o e => mv.heap S o Sw e) fun p hp => isT_keep (hk p (List.mem_of_mem_take (g.sub p hp))) old') g old')
  | succ m ih =>
    intro i s hm hi st old ⟨L, es, ep, t, B, g⟩ r
    have lt : i < n := by omega
    refine codeAny_builtin F.entry_set_update_loop ?_
    rw [Around.under_plainId F.plain_set_update_loop _]
    show wpAny _ A.in1 (pyNext (.ref I) >>= _) _ _ s
    refine wpAny_bind (W.item i s _ _ lt st fun v s' hv st' mv => ?_)
    obtain ⟨p, hp, rfl⟩ := val i v hv
    have old' := keep mv old
    have B' : SB P w s'.heap S L es ep t := B.kept (fun o e => mv.heap S o Sw e) fun q hq => isT_keep (hk q (List.mem_of_mem_take (g.sub q hq))) old'
    have hx : IsT P w s'.heap p.2 p.1 := isT_keep (hk p (List.mem_of_getElem? hp)) old'
    show wpAny _ A.in1 (holding [Value.ref p.1] (setAdd S (.ref p.1)) >>= _) _ _ s'
    refine wpAny_bind (wpAny_holding ?_)
    unfold setAdd
    refine wpAny_holding (wpAny_bind (wpAny_pyHash_tuple hu hx ?_))
    refine SB.add (s := { s' with toks := s'.toks + (p.2.length + 1) }) B' hx hu (by have := g.len; omega) fun b h' L' es' ep' t' sb B2 c1 c2 => ?_
    have g' : L2.Got ks (i + 1) L' := by
      rcases Classical.em (p.2 ∈ L.map (·.2)) with c | c
      · exact c1 c ▸ g.same hp c
      · exact g.more hp (c2 c)
    have old2 : ∀ b o, h0.get? b = some o → h'.get? b = some o := fun b o e => (sb.2 b fun z => by rw [z, no] at e; cases e).trans (old' b o e)
    refine wpAny_pure ⟨plainId_quiet F.plain_set_update_loop _, ih (i + 1) _ (by omega) lt (W.frame _ s' _ _ st' (Nat.le_add_right _ _) fun b hb o e => (sb.2 b fun z => hS (z ▸ hb)).trans e) old2 ⟨L', es', ep', t', B2, g'⟩ fun s3 L3 es3 ep3 t3 mv3 B3 g3 old3 => ?_⟩
    exact r s3 L3 es3 ep3 t3 (Moved.trans W.gtrans ((mv.mono fun b hb => List.mem_cons_of_mem _ hb).then_heap (Nat.le_add_right _ _) fun b o hb e => (sb.2 b fun z => hb (z ▸ List.mem_cons_self)).trans e) mv3) B3 g3 old3
end
end DB
namespace DB
open PySem PySem.Spec PyProof.Rows L2
section
variable {P : Program} {w : World} {A : Around} {E : Value → Shared → Prop} {s : Shared}
/-- a set as it is made -/
abbrev setO (w : World) : Obj := { cls := .type "set", dict := none, data := .set #[] 0 (.fresh 0 0 (!w.params.followText "set-order")) }
/-- a list or a tuple: an object of class T with these items -/
def IsSeq (T : String) (h : Heap) (a : Addr) (items : Array Value) : Prop := ∃ o, h.get? a = some o ∧ o.cls = .type T ∧ ∃ n, o.data = .seq items n
set_option maxHeartbeats 4000000 in
theorem call_setS {T TI : String} {l : Addr} {items : Array Value} {St : Addr → Nat → Heap → Prop} (hsls : isSubtype (.type T) (.type "set") = pure false) (hslf : isSubtype (.type T) (.type "frozenset") = pure false) (hne : (Value.type T == Value.type "dict") = false)
    (hpi : ∀ {A : Around} {s : Shared} {E : Value → Shared → Prop} {Q : Value → Shared → Prop}, IsSeq T s.heap l items → Q (.ref s.heap.objs.size) { s with heap := s.heap.push { cls := .type TI, data := .fields #[.ref l, .int 0 0] } } → wpAny (model P w) A (pyIter (.ref l)) Q E s)
    (hwk : ∀ {A : Around} (I : Addr), A.handled = none → l ≠ I → Walks P w A I [I, l] [I] items.size (fun i v => items[i]? = some v) (St I))
    (hst : ∀ (h : Heap) (I : Addr), h.get? I = some { cls := .type TI, data := .fields #[.ref l, .int 0 0] } → IsSeq T h l items → St I 0 h)
    (ks : List (Addr × List Int)) {Q : Value → Shared → Prop} (hh : A.handled = none) (hl : IsSeq T s.heap l items) (hit : items.toList = ks.map fun p => Value.ref p.1)
    (hk : ∀ p ∈ ks, IsT P w s.heap p.2 p.1) (hfew : ks.length ≤ 1228) (hu : A.units + 3 < cLine)
    (h : ∀ (h' : Heap) (tk : Nat) L es ep t, SB P w h' s.heap.objs.size L es ep t → L2.Got ks ks.length L → (∀ b o, s.heap.get? b = some o → h'.get? b = some o) → Q (.ref s.heap.objs.size) { s with heap := h', toks := tk }) :
    wpAny (model P w) A (call (.type "set") [.ref l]) Q E s := by
  have hisz : items.size = ks.length := by rw [← Array.length_toList, hit, List.length_map]
  obtain ⟨c, tl, hmro⟩ := F.called_set.mro
  have hmade := F.called_set.made
  have hsub := F.called_set.sub
  refine wpAny_call (codeAny_of_tree ?_)
  show wpAny _ _ (callAny (.type "set") _) _ _ _
  refine wpAny_pure ⟨Code.quiet_builtin _ (by decide +kernel), codeAny_builtin F.entry_type_call ?_⟩
  rw [Around.under_plain (weight_type_call_type "set" [.ref l] []) rfl]
  have h1 := F.called_set.notType
  have h2 := F.called_set.canCreate
  have hct := F.typeCall_set_1 (.ref l)
  repeat (any_goals (first | assumption | wp_step))
  refine codeAny_mono (code_set_led1 (.ref l) (E := E) (Q₁ := fun obj s₁ => obj = .ref s.heap.objs.size ∧ s₁ = { s with heap := s.heap.push (setO w) }) ⟨rfl, rfl⟩) fun r s₁ hr => ?_
  cases r with
  | error e => exact hr
  | ok fl =>
    cases fl with
    | ret obj =>
      obtain ⟨rfl, rfl⟩ := hr
      have hS : (s.heap.push (setO w)).get? s.heap.objs.size = some (setO w) := Heap.get?_push_size _ rfl
      have hT : Shared.TypeIs { s with heap := s.heap.push (setO w) } (.ref s.heap.objs.size) "set" := ⟨_, hS, rfl⟩
      have hli := F.called_set.init.lookup
      have hbi := F.called_set.init.bind (.ref s.heap.objs.size)
      repeat (any_goals (first | assumption | wp_step))
      refine codeAny_mono (codeAny_call_builtin (R := wants (fun r s₂ => r = .none ∧ ∃ h' tk L es ep t, s₂ = { s with heap := h', toks := tk } ∧ SB P w h' s.heap.objs.size L es ep t ∧ L2.Got ks ks.length L ∧ (∀ b o, s.heap.get? b = some o → h'.get? b = some o)) E)
        F.called_set.init.plain F.entry_set_init (check_set_init_1 hT ?_)) fun r₂ s₂ hr₂ => ?_
      · obtain ⟨⟨ocls, odict, odata, oslots⟩, hol, hcl, nl, hdl⟩ := hl
        obtain rfl : ocls = .type T := hcl
        obtain rfl : odata = .seq items nl := hdl
        have hol' : (s.heap.push (setO w)).get? l = some { cls := .type T, dict := odict, data := .seq items nl, slots := oslots } := Heap.get?_push_of_some _ hol
        have hl1 : IsSeq T (s.heap.push (setO w)) l items := ⟨_, hol', rfl, nl, rfl⟩
        unfold Builtin.«set.__init__» noKeywords Builtin.Frozenset.updateFrom
        generalize hPI : pyIter = PI
        wp_walk
        subst hPI
        refine hpi hl1 (wpAny_bind (wpAny_runValue ?_))
        have hlS : l < s.heap.objs.size := Heap.lt_size hol
        have hh3 : A.in1.in1.in1.handled = none := by simp [hh]
        have hneI : l ≠ (s.heap.push (setO w)).objs.size := by
          rw [Heap.size_push]; exact Nat.ne_of_lt (Nat.lt_succ_of_lt hlS)
        have hSf : s.heap.objs.size ∉ [(s.heap.push (setO w)).objs.size, l] := by
          rw [Heap.size_push]
          intro hm
          rcases List.mem_cons.mp hm with q | q
          · exact absurd q (Nat.ne_of_lt (Nat.lt_succ_self _))
          · exact absurd (List.mem_singleton.mp q) (Nat.ne_of_gt hlS)
        have hval : ∀ (i : Nat) (v : Value), items[i]? = some v → ∃ p, ks[i]? = some p ∧ v = .ref p.1 := fun i v hv => by
          rw [← Array.getElem?_toList, hit, List.getElem?_map] at hv
          cases hq : ks[i]? with
          | none => rw [hq] at hv; cases hv
          | some p => rw [hq] at hv; exact ⟨p, rfl, (Option.some.inj hv).symm⟩
        have none_of : ∀ b, s.heap.objs.size ≤ b → s.heap.get? b = none := fun b hb => by
          cases q : s.heap.get? b with
          | none => rfl
          | some o => exact absurd (Nat.lt_of_lt_of_le (Heap.lt_size q) hb) (Nat.lt_irrefl _)
        refine set_loop ((hwk _ hh3 hneI).toS) s.heap.objs.size hSf ks hisz hfew hval s.heap hk (none_of _ (Nat.le_refl _))
          (fun b hb => none_of b (by rw [List.mem_singleton.mp hb, Heap.size_push]; exact Nat.le_succ _)) hu (items.size - 0) 0 _ (by omega) (Nat.zero_le _)
          (hst _ _ (Heap.get?_push_size _ rfl) ⟨_, Heap.get?_push_of_some _ hol', rfl, nl, rfl⟩) (fun b o e => Heap.get?_push_of_some _ (Heap.get?_push_of_some _ e)) ?hS0 ?hR
        case hS0 => exact ⟨[], #[], 0, _, SB.new (Heap.get?_push_of_some _ hS), L2.Got.zero ks⟩
        case hR =>
          intro s' L es ep t hm hS' g' hkp
          obtain ⟨h', g2, d', tk', os'⟩ := s'
          obtain rfl : g2 = s.gens := hm.gens
          obtain rfl : d' = s.drawn := hm.drawn
          obtain rfl : os' = s.os := hm.os
          show wpAny _ _ _ _ _ _
          refine wpAny_pure ?_
          show wpAny _ _ (ret Value.none) _ _ _
          rw [hisz] at g'
          exact wpAny_pure ⟨rfl, h', tk', L, es, ep, t, rfl, hS', g', hkp⟩
      · cases r₂ with
        | error e => exact hr₂
        | ok fl₂ =>
          cases fl₂ with
          | ret r =>
            obtain ⟨rfl, h', tk, L, es, ep, t, rfl, hS', g', hk'⟩ := hr₂
            repeat (any_goals (first | assumption | wp_step))
            exact h _ _ _ _ _ _ hS' g' hk'
          | _ => exact hr₂.elim
    | _ => exact hr.elim
theorem call_setBL {l : Addr} {items : Array Value} (ks : List (Addr × List Int)) {Q : Value → Shared → Prop} (hh : A.handled = none) (hl : s.heap.IsList l items) (hit : items.toList = ks.map fun p => Value.ref p.1) (hk : ∀ p ∈ ks, IsT P w s.heap p.2 p.1) (hfew : ks.length ≤ 1228) (hu : A.units + 3 < cLine)
    (h : ∀ (h' : Heap) (tk : Nat) L es ep t, SB P w h' s.heap.objs.size L es ep t → L2.Got ks ks.length L → (∀ b o, s.heap.get? b = some o → h'.get? b = some o) → Q (.ref s.heap.objs.size) { s with heap := h', toks := tk }) : wpAny (model P w) A (call (.type "set") [.ref l]) Q E s :=
  call_setS (T := "list") (TI := "list_iterator") (St := fun I i h => h.IsListIter I l i ∧ h.IsList l items) F.sub_list_set F.sub_list_frozenset (by decide) (fun hs q => wpAny_pyIter_list hs q) (fun I hA ne => Walks.list hA I l ne items) (fun h I e hs => ⟨⟨_, e, rfl, rfl⟩, hs⟩) ks hh hl hit hk hfew hu h
theorem call_setBT {l : Addr} {items : Array Value} (ks : List (Addr × List Int)) {Q : Value → Shared → Prop} (hh : A.handled = none) (hl : s.heap.IsTuple l items) (hit : items.toList = ks.map fun p => Value.ref p.1) (hk : ∀ p ∈ ks, IsT P w s.heap p.2 p.1) (hfew : ks.length ≤ 1228) (hu : A.units + 3 < cLine)
    (h : ∀ (h' : Heap) (tk : Nat) L es ep t, SB P w h' s.heap.objs.size L es ep t → L2.Got ks ks.length L → (∀ b o, s.heap.get? b = some o → h'.get? b = some o) → Q (.ref s.heap.objs.size) { s with heap := h', toks := tk }) : wpAny (model P w) A (call (.type "set") [.ref l]) Q E s :=
  call_setS (T := "tuple") (TI := "tuple_iterator") (St := fun I i h => h.IsTupleIter I l i ∧ h.IsTuple l items) F.sub_tuple_set F.sub_tuple_frozenset (by decide) (fun hs q => wpAny_pyIter_tuple hs q) (fun I hA ne => Walks.tuple hA I l ne items) (fun h I e hs => ⟨⟨_, e, rfl, rfl⟩, hs⟩) ks hh hl hit hk hfew hu h
def pairOf (h : Heap) (v : Value) : Int × Int := ((TS.intsOf h v).getD 0 0, (TS.intsOf h v).getD 1 0)
theorem pair_of {h : Heap} {v : Value} {x y : Int} (t : TS.TupInts h v [x, y]) : Srt.IsPair h v x y := by
  obtain ⟨b, items, rfl, ⟨o, ho, hc, n, hd⟩, hi⟩ := t
  obtain ⟨its⟩ := items
  cases hi with
  | cons _ t1 h2 =>
    cases h2 with
    | cons _ t2 h3 =>
      cases h3
      exact ⟨b, o, t1, t2, n, rfl, ho, hc, hd⟩
theorem two_of {h : Heap} {vs : List Value} (x : TS.TupsOk h 2 64 vs) {v : Value} (hv : v ∈ vs) : ∃ a b, TS.TupInts h v [a, b] ∧ pairOf h v = (a, b) ∧ TS.code 64 (TS.intsOf h v) = a * 64 + b ∧ 0 ≤ a ∧ a < 64 ∧ 0 ≤ b ∧ b < 64 := by
  obtain ⟨ns, t, l, bd⟩ := x v hv
  match ns, l with
  | [a, b], _ =>
    have h1 := bd a (by simp)
    have h2 := bd b (by simp)
    exact ⟨a, b, t, by unfold pairOf; rw [t.ints]; rfl, by rw [t.ints, code_pair], h1.1, h1.2, h2.1, h2.2⟩
theorem sort_pairs {a : Addr} {vs : List Value} {n : Nat} {R : PySem.Fin → Shared → Prop} (ho : s.heap.get? a = some (seqObj "list" vs.toArray n)) (hz : vs.length ≤ sizeLine) (x : TS.TupsOk s.heap 2 64 vs)
    (h : ∀ out : Array Value, out.toList.Perm vs → out.toList.Pairwise (fun u v => TS.code 64 (TS.intsOf s.heap u) ≤ TS.code 64 (TS.intsOf s.heap v)) → R (.done (.ret .none)) { s with heap := sortedHeap s.heap a vs out }) :
    wpAny (model P w) A (Builtin.«list.sort» ⟨[.ref a], []⟩) R E s := by
  refine SrtO.list_sort_ord (SrtO.swo_lex (pairOf s.heap)) ho hz (fun h2 => SrtO.pairs_sortableO (by omega) (fun v hv => ?_) fun o e => ?_) fun out h1 h2 => h out.toArray h2.perm ?_
  · obtain ⟨a, b, t, e, _⟩ := two_of x hv
    rw [e]
    exact pair_of t
  · rw [ho] at e
    cases e
    intro c
    exact absurd (Value.type.inj c) (by decide)
  · refine List.Pairwise.imp_of_mem (fun {u v} hu hv huv => ?_) h1
    obtain ⟨a, b, _, e1, e2, b1, b2, b3, b4⟩ := two_of x (h2.perm.mem_iff.mp hu)
    obtain ⟨c, d, _, f1, f2, b5, b6, b7, b8⟩ := two_of x (h2.perm.mem_iff.mp hv)
    have := SrtO.lexB_no.mp huv
    rw [e1, f1] at this
    rw [e2, f2]
    simp only at this
    omega
end
end DB
namespace DN
open PySem PySem.Spec PyProof.Rows L2 Evl OP
end DN
namespace DB
open PySem PySem.Spec PyProof.Rows L2
section
variable {P : Program} {w : World} {A : Around} {E : Value → Shared → Prop} {s : Shared}
theorem sorted_SB {a : Addr} {L : List (Addr × List Int)} {es : Array (Int × Value)} {ep : Nat} {t : SetTable} {Q : Value → Shared → Prop} (R : SB P w s.heap a L es ep t) (hh : A.handled = none) (hB : ∀ p ∈ L, p.2.length = 2 ∧ TS.Bd 64 p.2)
    (q : ∀ s' p (out : Array Value) (c : Nat) (L' : List (Addr × List Int)), (∀ b o, s.heap.get? b = some o → s'.heap.get? b = some o) → s'.gens = s.gens → s'.os = s.os → s.heap.objs.size ≤ p → s'.heap.get? p = some (seqObj "list" out c) →
      out.toList = L'.map (fun x => Value.ref x.1) → L'.Perm L → L'.Pairwise (fun x y => TS.code 64 x.2 ≤ TS.code 64 y.2) → Q (.ref p) s') : wpAny (model P w) A (call (.builtin "sorted") [.ref a]) Q E s := by
  obtain ⟨o, ho, hex, hd⟩ := R.obj
  have el := rows_len R.row
  have most := R.most
  refine Calls.call_function_entry kind_sorted plain_sorted entry_sorted (args_sorted1 _) ?_
  unfold Builtin.«sorted»
  refine wpAny_bind (m := checkCount "sorted" 1 1 _) (wpAny_pure ?_)
  refine wpAny_bind (collect_set (A := A.in1) hh ⟨o, ho, hex.1, hd⟩ R.fit (by unfold scanBound; omega) R.tab.asc R.ld fun s1 vs k1 hz g1 o1 pm => ?_)
  rw [R.row, show (rowsOf P w L).map (·.2) = L.map fun x => Value.ref x.1 by simp [rowsOf]] at pm
  obtain ⟨L1, e1, p1⟩ := DN.perm_map_inv pm _ rfl
  have lv : vs.length = L.length := by rw [pm.length_eq, List.length_map]
  refine wpAny_bind (wpAny_newList ?_ (by rw [sizeLine_eq]; omega))
  have at_l : (s1.heap.push (seqObj "list" vs.toArray 0)).get? s1.heap.objs.size = some (seqObj "list" vs.toArray 0) := Heap.get?_push_size _ rfl
  have raw : ∀ x ∈ L, TS.TupInts (s1.heap.push (seqObj "list" vs.toArray 0)) (.ref x.1) x.2 := fun x hx => tupInts_of (P := P) (w := w) (isT_keep (R.tups x hx) fun b u e => Heap.get?_push_of_some _ (k1 b u e))
  have all2 : TS.TupsOk (s1.heap.push (seqObj "list" vs.toArray 0)) 2 64 vs := fun v hv => by
    rw [e1] at hv
    obtain ⟨x, hx, rfl⟩ := List.mem_map.mp hv
    have hx := p1.mem_iff.mp hx
    exact ⟨x.2, raw x hx, hB x hx⟩
  refine wpAny_bind (wpAny_holding (wpAny_call_entry slot_list_sort ⟨_, at_l, rfl⟩ entry_list_sort (sort_pairs (s := { s1 with heap := s1.heap.push (seqObj "list" vs.toArray 0) }) at_l (by rw [lv, sizeLine_eq]; omega) all2 fun out a1 a2 => ⟨_, rfl, ?_⟩) (args_list_sort _)))
  obtain ⟨c, hc⟩ := sortedHeap_at (vs := vs) (out := out) at_l
  rw [e1] at a1
  obtain ⟨L', e', p'⟩ := DN.perm_map_inv a1 _ rfl
  have in_L : ∀ {x : Addr × List Int}, x ∈ L' → x ∈ L := fun hx => p1.mem_iff.mp (p'.mem_iff.mp hx)
  refine wpAny_pure ⟨_, rfl, q _ s1.heap.objs.size out c L' (fun b u e => ?_) g1 o1 hz hc e' (p'.trans p1) ?_⟩
  · have lt := Heap.lt_size (k1 b u e)
    refine (sortedHeap_old (Nat.ne_of_lt lt) (by rw [size_push']; exact Nat.lt_succ_of_lt lt)).trans ?_
    exact Heap.get?_push_of_some _ (k1 b u e)
  · rw [e', List.pairwise_map] at a2
    refine List.Pairwise.imp_of_mem (fun {x y} hx hy hxy => ?_) a2
    have r1 := (raw x (in_L hx)).ints
    have r2 := (raw y (in_L hy)).ints
    rw [← r1, ← r2]
    exact hxy
end
/-- the set at a, the tuples left out -/
structure SB0 (P : Program) (w : World) (h : Heap) (a : Addr) (L : List (Addr × List Int)) : Prop where
  ex : ∃ (es : Array (Int × Value)) (ep : Nat) (t : SetTable), (∃ o, h.get? a = some o ∧ o.ExactSet ∧ o.data = .set es ep t) ∧ es.toList = rowsOf P w L ∧ Tab t (L.map fun p => thash P w p.2) ∧ (L.map (·.2)).Nodup ∧ t.plain = true ∧
    (w.params.followText "set-order" = true ∨ t.led = true) ∧ L.length * 5 < t.mask * 3 ∧ Ms t.mask ∧ L.length ≤ 1228
def SBO (P : Program) (w : World) (a : Addr) (L : List (Addr × List Int)) : HO := .ext fun h => SB0 P w h a L
theorem SB.z {P : Program} {w : World} {h : Heap} {a : Addr} {L : List (Addr × List Int)} {es : Array (Int × Value)} {ep : Nat} {t : SetTable} (R : SB P w h a L es ep t) : SB0 P w h a L := ⟨es, ep, t, R.obj, R.row, R.tab, R.uniq, R.pln, R.ld, R.rm, R.ms, R.most⟩
theorem SB0.all {P : Program} {w : World} {h : Heap} {a : Addr} {L : List (Addr × List Int)} (R : SB0 P w h a L) (ht : ∀ p ∈ L, IsT P w h p.2 p.1) : ∃ es ep t, SB P w h a L es ep t := by
  obtain ⟨es, ep, t, h1, h2, h3, h4, h5, h6, h7, h8, h9⟩ := R.ex
  exact ⟨es, ep, t, h1, h2, h3, h4, ht, h5, h6, h7, h8, h9⟩
theorem sbo_new {P : Program} {w : World} {H : Hp} {h : Heap} {a : Addr} {L : List (Addr × List Int)} (R : SB0 P w h a L) : ObjOk P w H h a (SBO P w a L) := by
  have ⟨es, ep, t, ⟨o, ho, r⟩, q⟩ := R.ex
  refine ⟨R, ⟨o, ho⟩, fun h1 h2 p k => ?_⟩
  obtain ⟨es', ep', t', ⟨o', ho', r'⟩, q'⟩ := SB0.ex p
  exact ⟨es', ep', t', ⟨o', k o' ho', r'⟩, q'⟩
end DB
namespace DN
open PySem PySem.Spec PyProof.Rows L2 Evl
def sortSetTB (l : List Dv) : Option Rt := match pairs? l with
  | some ps => nL ((sortP ps).map pairD)
  | none => match ints? l with
    | some ns => if ns.length < 64 then nL ((sortU ns).map .int) else none
    | none => none
def gSortSetB : Dv → Option Rt
  | .lst l => if l.length ≤ 1228 then (match pairs? l with | some ps => nL ((sortP ps).map pairD) | none => none) else none
  | .tup l => if l.length ≤ 1228 then sortSetTB l else none
  | .ktp l => if l.length ≤ 1228 then (match pairs? l with | some ps => nL ((sortP ps).map pairD) | none => none) else none
  | _ => none
section
variable {Z : Zx} {X : Cx} {Ew : L2.St → XK} {S : Sto} {G H : Hp} {α : List Addr} {Q : VK} {E : XK}
def rSetBq (K : PySem.W.Frag) (P : Program) (w : World) : List V → Hp → VK → Prop := fun xs H Q => ∃ (l : Addr) (ks : List (Addr × List Int)), xs = [V.ref l] ∧ (SqL K H l (ks.map fun p => V.ref p.1) ∨ SqT K H l (ks.map fun p => V.ref p.1)) ∧ (∀ p ∈ ks, SqT K H p.1 (p.2.map V.int)) ∧ ks.length ≤ 1228 ∧
  ∀ a L, H a = none → (∀ p ∈ L, p ∈ ks) → (∀ p ∈ ks, p.2 ∈ L.map (·.2)) → Q (.ref a) (upd H a (DB.SBO P w a L))
theorem cr_setBq (hc : X.calm = true) (hu : X.A.units + 64 < cLine) : CallR X (.type "set") (rSetBq X.K X.prog X.w) := by
  intro pins s σ H xs us Q I r h
  obtain ⟨l, ks, rfl, hl, hk, hf, q⟩ := h
  rw [Vals.ref1 r]
  have hn : H s.heap.objs.size = none := I.hok.fresh (Nat.le_refl _)
  have fin : ∀ (h' : Heap) (tk : Nat) L es ep t, DB.SB X.prog X.w h' s.heap.objs.size L es ep t → L2.Got ks ks.length L → (∀ b o, s.heap.get? b = some o → h'.get? b = some o) → ∃ (y : V) (H' : Hp), Inv X pins σ H' { s with heap := h', toks := tk } ∧ RelV y (.ref s.heap.objs.size) ∧ Q y H' := fun h' tk L es ep t R g k =>
    ⟨.ref s.heap.objs.size, upd H s.heap.objs.size (DB.SBO X.prog X.w s.heap.objs.size L), I.laid (t' := tk) k (Nat.le_refl _) (DB.sbo_new R.z), rfl,
      q _ L hn (fun p hp => List.mem_of_mem_take (g.sub p hp)) fun p hp => g.all p (by rw [List.take_length]; exact hp)⟩
  rcases hl with hl | hl
  · obtain ⟨its, rv, pt, hz⟩ := I.list hl
    exact DB.call_setBL (P := X.prog) (w := X.w) ks (I.ok.hd hc) pt.isList (by simpa using refs_of_vals rv) (fun p hp => I.isT (hk p hp)) hf (by omega) fun h' tk L es ep t R g k => fin h' tk L es ep t R g k
  · obtain ⟨its, rv, pt, hz⟩ := I.tuple hl
    exact DB.call_setBT (P := X.prog) (w := X.w) ks (I.ok.hd hc) pt (by simpa using refs_of_vals rv) (fun p hp => I.isT (hk p hp)) hf (by omega) fun h' tk L es ep t R g k => fin h' tk L es ep t R g k
/-- sorted(set), pairs of small numbers -/
def rSortedB (K : PySem.W.Frag) (P : Program) (w : World) : List V → Hp → VK → Prop := fun vs H Q => ∃ (a : Addr) (L : List (Addr × List Int)), vs = [V.ref a] ∧ H a = some (DB.SBO P w a L) ∧ (∀ p ∈ L, SqT K H p.1 (p.2.map V.int)) ∧ (∀ p ∈ L, p.2.length = 2 ∧ TS.Bd 64 p.2) ∧
  ∀ (L' : List (Addr × List Int)) (p : Addr), L'.Perm L → (L'.map (·.2)).Nodup → L'.Pairwise (fun x y => TS.code 64 x.2 ≤ TS.code 64 y.2) → H p = none → Q (.ref p) (upd H p (.lst (L'.map fun x => V.ref x.1)))
theorem cr_sortedB (hc : X.calm = true) : CallR X (.builtin "sorted") (rSortedB X.K X.prog X.w) := by
  intro pins s σ H vs us Q I r h
  obtain ⟨a, L, rfl, ha, hk, hB, q⟩ := h
  have R0 : DB.SB0 X.prog X.w s.heap a L := (I.hok a _ ha).1
  obtain ⟨es, ep, t, R⟩ := R0.all fun p hp => I.isT (hk p hp)
  rw [Vals.ref1 r]
  refine DB.sorted_SB R (I.ok.hd hc) hB fun s' p out c L' k g o hp hg hout pm pw => ?_
  have most := R.most
  have len : (L'.map fun x => V.ref x.1).length ≤ sizeLine := by rw [List.length_map, pm.length_eq, sizeLine_eq]; omega
  have hn : H p = none := I.hok.fresh hp
  have J : Inv X pins σ (upd H p (.lst (L'.map fun x => V.ref x.1))) { s with heap := s'.heap, gens := s'.gens, drawn := s'.drawn, toks := s'.toks } :=
    I.call (ch := []) (Un.laid k hp hn) (I.hok.laid k hp ⟨len, out.toList, c, by rw [hout]; exact vals_of_refs L', hg⟩) (by rw [g]; exact I.bare) (fun _ z => nomatch z)
  have e : s' = { s with heap := s'.heap, gens := s'.gens, drawn := s'.drawn, toks := s'.toks } := by
    obtain ⟨h1, g1, d1, t1, o1⟩ := s'
    obtain ⟨h2, g2, d2, t2, o2⟩ := s
    obtain rfl : o1 = o2 := o
    rfl
  rw [e]
  exact ⟨.ref p, _, J, rfl, q L' p pm ((pm.map (·.2)).nodup_iff.mpr R.uniq) pw hn⟩
theorem setB_sorted {l : List Dv} {xs : List V} {ps : List (Int × Int)} {a : Addr} (hc : X.calm = true) (hK : X.K = Z.K) (hd : Hd Z G α S H) (ho : OnL Z G l xs) (hs : SqL X.K H a xs ∨ SqT X.K H a xs) (q : pairs? l = some ps) (h64 : l.length ≤ 1228)
    (w : Wk Z (R.of S (nL ((sortP ps).map pairD))) G α H (pRt Z Q) E) : rSetBq X.K X.prog X.w [.ref a] H fun v H1 => rSortedB X.K X.prog X.w [v] H1 Q := by
  obtain ⟨ks, rfl, h2, h3⟩ := pairs_on q ho
  obtain ⟨_, hsm⟩ := pairs_small q
  have klen : ks.length ≤ 1228 := by
    have := ho.len
    rw [List.length_map] at this
    omega
  refine ⟨a, ks, rfl, hs, fun p hp => SqT.of (hd.ex _ _ (h3 p hp)), klen, fun b L hb hL hk => ?_⟩
  have ex : Ex H (upd H b (DB.SBO X.prog X.w b L)) := Ex.new hb
  have hd' := hd.grow ex
  have w' := w.later (Fr.grow hd ex)
  have two : ∀ p ∈ ks, ∃ u : Int × Int, u ∈ ps ∧ p.2 = [u.1, u.2] := fun p hp => by
    have : p.2 ∈ ks.map (·.2) := List.mem_map.mpr ⟨p, hp, rfl⟩
    rw [h2] at this
    obtain ⟨u, hu, e⟩ := List.mem_map.mp this
    exact ⟨u, hu, e.symm⟩
  refine ⟨b, L, rfl, upd_same, fun p hp => SqT.of (hd'.ex _ _ (h3 p (hL p hp))), fun p hp => ?_, fun L' p hp nd pw hn => ?_⟩
  · obtain ⟨u, hu, e⟩ := two p (hL p hp)
    obtain ⟨s1, s2, s3, s4⟩ := hsm u hu
    rw [e]
    refine ⟨rfl, fun m hm => ?_⟩
    rcases List.mem_cons.mp hm with rfl | hm
    · exact ⟨s1, s2⟩
    · rw [List.mem_singleton.mp hm]; exact ⟨s3, s4⟩
  · have memL : ∀ x, x ∈ L'.map (·.2) ↔ x ∈ (sortP ps).map fun p => [p.1, p.2] := fun x => by
      have e1 : x ∈ (sortP ps).map (fun p => [p.1, p.2]) ↔ x ∈ ks.map (·.2) := by
        rw [h2]
        constructor
        · rintro h
          obtain ⟨u, hu, rfl⟩ := List.mem_map.mp h
          exact List.mem_map.mpr ⟨u, (mem_sortP hsm).mp hu, rfl⟩
        · rintro h
          obtain ⟨u, hu, rfl⟩ := List.mem_map.mp h
          exact List.mem_map.mpr ⟨u, (mem_sortP hsm).mpr hu, rfl⟩
      rw [e1]
      constructor
      · rintro h
        obtain ⟨u, hu, rfl⟩ := List.mem_map.mp h
        exact List.mem_map.mpr ⟨u, hL u (hp.mem_iff.mp hu), rfl⟩
      · rintro h
        obtain ⟨u, hu, rfl⟩ := List.mem_map.mp h
        exact (hp.map (·.2)).mem_iff.mpr (hk u hu)
    have asc : (L'.map (·.2)).Pairwise (fun x y => TS.code 64 x < TS.code 64 y) := by
      have both := (List.pairwise_map.mpr pw : (L'.map (·.2)).Pairwise (fun x y => TS.code 64 x ≤ TS.code 64 y)).and nd
      refine List.Pairwise.imp_of_mem (fun {x y} hx hy hxy => ?_) both
      obtain ⟨u, hu, rfl⟩ := List.mem_map.mp ((memL x).mp hx)
      obtain ⟨v, hv, rfl⟩ := List.mem_map.mp ((memL y).mp hy)
      have su := hsm u ((mem_sortP hsm).mp hu)
      have sv := hsm v ((mem_sortP hsm).mp hv)
      have h1 := hxy.1
      rw [code_pair, code_pair] at h1 ⊢
      rcases Int.lt_or_eq_of_le h1 with h | h
      · exact h
      · exact absurd (by rw [cd2_inj su sv h]) hxy.2
    have asc2 : ((sortP ps).map fun p => [p.1, p.2]).Pairwise (fun x y => TS.code 64 x < TS.code 64 y) := by
      rw [List.pairwise_map]
      refine (sortP_pw ps).imp fun {x y} h => ?_
      rw [code_pair, code_pair]
      exact h
    have e := ascend_unique (TS.code 64) asc asc2 memL
    exact wL w' hd' (on_pairs e fun q hq => h3 q (hL q (hp.mem_iff.mp hq))) hn
def rSetBa (K : PySem.W.Frag) (P : Program) (w : World) : List V → Hp → VK → Prop := fun xs H Q => rSetBq K P w xs H Q ∨ rSetI K w xs H Q
theorem cr_setBa (hc : X.calm = true) (hu : X.A.units + 64 < cLine) : CallR X (.type "set") (rSetBa X.K X.prog X.w) := by
  intro pins s σ H xs us Q I r h
  rcases h with h | ⟨l, ns, rfl, hl, hf, q⟩
  · exact cr_setBq hc hu pins s σ H xs us Q I r h
  · rw [Vals.ref1 r]
    obtain ⟨its, rv, pt, hz⟩ := I.tuple hl
    have hn : H s.heap.objs.size = none := I.hok.fresh (Nat.le_refl _)
    refine call_set_tupI (P := X.prog) (w := X.w) ns (I.ok.hd hc) pt (by simpa using rv.ints) (by unfold scanBound; omega) fun h' tk c R hc' k => ?_
    exact ⟨.ref s.heap.objs.size, upd H s.heap.objs.size (SetO X.w s.heap.objs.size (fun j => decide (j ∈ ns)) c), I.laid (t' := tk) k (Nat.le_refl _) (setO_new R), rfl, q _ c hn hc'⟩
def rSortBa (K : PySem.W.Frag) (P : Program) (w : World) : List V → Hp → VK → Prop := fun xs H Q => rSortedB K P w xs H Q ∨ rSortedSet w xs H Q
theorem cr_sortBa (hc : X.calm = true) : CallR X (.builtin "sorted") (rSortBa X.K X.prog X.w) := by
  intro pins s σ H xs us Q I r h
  rcases h with h | h
  · exact cr_sortedB hc pins s σ H xs us Q I r h
  · exact cr_sortedSet hc pins s σ H xs us Q I r h
theorem rSetBq.imp {xs : List V} {Q Q' : VK} {K : PySem.W.Frag} {P : Program} {w : World} (h : rSetBq K P w xs H Q) (k : ∀ v H, Q v H → Q' v H) : rSetBq K P w xs H Q' := by
  obtain ⟨l, ks, h1, h2, h3, h4, h5⟩ := h
  exact ⟨l, ks, h1, h2, h3, h4, fun a L x y z => k _ _ (h5 a L x y z)⟩
/-- sorted(set(xs)), xs a list or a tuple of pairs of small ints, or a tuple of ints -/
def fSortSetB (fa : FE) : FE := fun env S => (fa env S).bindV fun S1 a => g1 S1 a gSortSetB
theorem se_sortSetB {ta : TE} {fa : FE} (hc : X.calm = true) (hK : X.K = Z.K) (ha : SE Z Ew ta fa) : SE Z Ew (tCB (rSortBa X.K X.prog X.w) (tCons (tCB (rSetBa X.K X.prog X.w) (tCons ta tNil)) tNil)) (fSortSetB fa) := fun env σ G α S H Q hd oe w =>
  ha.bind hd oe w fun S2 a x H2 G2 α2 f2 hd2 oe2 ox w2 => by
    cases e : snap S2 a with
    | none => unfold g1 at w2; rw [e] at w2; exact w2.elim
    | some d =>
      have oh := snap_on hd2 ox e
      unfold g1 at w2
      rw [e] at w2
      have go : ∀ {l : List Dv} {p : Addr} {xs : List V} {ps : List (Int × Int)}, OnL Z G2 l xs → (SqL X.K H2 p xs ∨ SqT X.K H2 p xs) → l.length ≤ 1228 → pairs? l = some ps → Wk Z (R.of S2 (nL ((sortP ps).map pairD))) G2 α2 H2 (pRt Z Q) (Ew σ) →
          rSetBa X.K X.prog X.w [.ref p] H2 fun v H1 => rSortBa X.K X.prog X.w [v] H1 Q := fun {l p xs ps} o sq h64 q w => .inl ((setB_sorted hc hK hd2 o sq q h64 w).imp fun _ _ h => .inl h)
      cases d with
      | lst l =>
        obtain ⟨p, xs, rfl, h1, h2⟩ := oh
        have w3 : Wk Z (R.of S2 (if l.length ≤ 1228 then (match pairs? l with | some ps => nL ((sortP ps).map pairD) | none => none) else none)) G2 α2 H2 (pRt Z Q) (Ew σ) := w2
        by_cases h64 : l.length ≤ 1228
        · rw [if_pos h64] at w3
          cases q : pairs? l with
          | none => rw [q] at w3; exact w3.elim
          | some ps => rw [q] at w3; exact go h2 (.inl (SqL.of h1)) h64 q w3
        · rw [if_neg h64] at w3; exact w3.elim
      | ktp l =>
        obtain ⟨p, xs, rfl, h1, h2⟩ := oh
        have w3 : Wk Z (R.of S2 (if l.length ≤ 1228 then (match pairs? l with | some ps => nL ((sortP ps).map pairD) | none => none) else none)) G2 α2 H2 (pRt Z Q) (Ew σ) := w2
        by_cases h64 : l.length ≤ 1228
        · rw [if_pos h64] at w3
          cases q : pairs? l with
          | none => rw [q] at w3; exact w3.elim
          | some ps => rw [q] at w3; exact go h2 (.inr (hK ▸ h1.sq hd2.ex)) h64 q w3
        · rw [if_neg h64] at w3; exact w3.elim
      | tup l =>
        obtain ⟨p, xs, rfl, h1, h2⟩ := oh
        have w3 : Wk Z (R.of S2 (if l.length ≤ 1228 then sortSetTB l else none)) G2 α2 H2 (pRt Z Q) (Ew σ) := w2
        have sq : SqT X.K H2 p xs := SqT.of (hd2.ex _ _ h1)
        by_cases h64 : l.length ≤ 1228
        · rw [if_pos h64] at w3
          unfold sortSetTB at w3
          cases q : pairs? l with
          | some ps => rw [q] at w3; exact go h2 (.inr sq) h64 q w3
          | none =>
            rw [q] at w3
            cases q2 : ints? l with
            | none => rw [q2] at w3; exact w3.elim
            | some ns =>
              have ex := ints_on q2 h2
              subst ex
              by_cases hl : ns.length < 64
              · have w3 : Wk Z (R.of S2 (if ns.length < 64 then nL ((sortU ns).map .int) else none)) G2 α2 H2 (pRt Z Q) (Ew σ) := by rw [q2] at w3; exact w3
                rw [if_pos hl] at w3
                refine .inr ⟨p, ns, rfl, sq, hl, fun b c hb hcl => .inr ⟨b, _, c, rfl, upd_same, by omega, fun ms p' pw hm hlen hn => ?_⟩⟩
                have exn : Ex H2 (upd H2 b (SetO X.w b (fun j => decide (j ∈ ns)) c)) := Ex.new hb
                have em : ms = sortU ns := ascend_unique (fun i : Int => i) pw (sortU_pw ns) fun k => by
                  rw [hm, mem_sortU]
                  simp
                subst em
                exact wL (w3.later (Fr.grow hd2 exn)) (hd2.grow exn) (on_ints _) hn
              · have w3 : Wk Z (R.of S2 (if ns.length < 64 then nL ((sortU ns).map .int) else none)) G2 α2 H2 (pRt Z Q) (Ew σ) := by rw [q2] at w3; exact w3
                rw [if_neg hl] at w3
                exact w3.elim
        · rw [if_neg h64] at w3; exact w3.elim
      | _ => exact w2.elim
theorem pf_sortSetB {e : Expr} {fa : FE} {p p2 pos pos2 : Pos} (hc : X.calm = true) (hu : X.A.units + 64 < cLine) (hK : X.K = Z.K) (hg : Gl X "sorted") (hm : X.mg "sorted" = none) (hg2 : Gl X "set") (hm2 : X.mg "set" = none) (ha : PF Z Ew X e fa)
    (hs : starEach [.Call (.Name "set" p2) [e] [] pos2] X.env = [(false, eval (.Call (.Name "set" p2) [e] [] pos2) X.env)] := by rfl) (hs2 : starEach [e] X.env = [(false, eval e X.env)] := by rfl) :
    PF Z Ew X (.Call (.Name "sorted" p) [.Call (.Name "set" p2) [e] [] pos2] [] pos) (fSortSetB fa) := by
  obtain ⟨te, h1, h2⟩ := ha.ex
  exact ⟨_, pe_callB (cr_sortBa hc) hg hm (by decide +kernel) (pa_cons (pe_callTy (cr_setBa hc hu) hg2 hm2 (by decide +kernel) (pa_cons h1 pa_nil hs2) (he := hs2)) pa_nil hs) (he := hs), se_sortSetB hc hK h2⟩
end
end DN
namespace DN
open PySem PySem.Spec PyProof.Rows L2 Evl
end DN
namespace DN
open PySem PySem.Spec PyProof.Rows L2
/-- a clause: its class, the slot of its name, its suite -/
abbrev ClA := Value × Option Nat × (Addr → Value → Option Addr → TS)
/-- behind the suite the name is gone -/
def goneE (D : Ends) (i : Nat) : Ends := { nx := fun σ' H' => D.nx (σ'.set i none) H', rt := D.rt, bk := fun σ' H' => D.bk (σ'.set i none) H', ct := fun σ' H' => D.ct (σ'.set i none) H' }
def wClA (D : Ends) (o : Option Nat) (ts : Addr → Value → Option Addr → TS) : WX := fun cls d σ H => ∀ a, H a = none → match o with
  | none => ts a cls d D σ H
  | some i => ts a cls d (goneE D i) (σ.set i (some (.ref a))) H
def wManyA (K : PySem.W.Frag) (Wout : WX) (D : Ends) : List ClA → WX
  | [] => Wout
  | (c, o, ts) :: r => fun cls d σ H => ∃ b, PySem.W.exmOne K cls c = some b ∧ (b = true → wClA D o ts cls d σ H) ∧ (b = false → wManyA K Wout D r cls d σ H)
/-- the clause's name -/
inductive NameA (X : Cx) : Option Str → Option Nat → Prop
  | no : NameA X none none
  | as {n : Str} {i : Nat} (hi : X.N[i]? = some n) (hln : X.env.kindOf n = some .local) : NameA X (some n) (some i)
inductive HdsA (X : Cx) : List ExceptHandler → List ClA → Prop
  | nil : HdsA X [] []
  | cons {x : Str} {c : Value} {nm : Option Str} {o : Option Nat} {ts : Addr → Value → Option Addr → TS} {b₀ : Stmt} {suite : List Stmt} {np pos' : Pos} {hds : List ExceptHandler} {l : List ClA} (hc : Names X x c) (hn : NameA X nm o)
      (hsu : ∀ (a : Addr) (oe : Obj) (cls : Value) (d : Option Addr) (pn : List (Addr × Obj)), Zc cls d oe → (∃ vs, oe.data = .fields vs) → PSs (X.suite a ((a, oe) :: pn)) (b₀ :: suite) (ts a cls d)) (r : HdsA X hds l) :
      HdsA X (.ExceptHandler (some (.Name x np)) nm (b₀ :: suite) pos' :: hds) ((c, o, ts) :: l)
section
variable {X : Cx} {body : List Stmt} {h₀ : ExceptHandler} {hds : List ExceptHandler} {l : List ClA} {pos : Pos} {tb : WX → TS} {Wout : WX}
theorem ps_try_manyA (hs : X.stack = X.env :: X.outer) (hf : X.env.frame = some X.env.locals) (hN : X.N.Nodup) (tk : Takes X Wout)
    (hb : ∀ (W : WX) (pn : List (Addr × Obj)) (xe : Value → Shared → Prop), Takes (X.tr pn xe) W → PassesOwn (model X.prog X.w) X.A X.env xe → PSs (X.tr pn xe) body (tb W))
    (hh : HdsA X (h₀ :: hds) l) : PS X (.Try body (h₀ :: hds) [] [] pos) (fun D σ H => tb (wManyA X.K Wout D l) D σ H) := by
  refine ⟨fun pins s σ H D I h => ?_⟩
  have ok := I.ok
  have hfr : X.A.frames = some (X.env :: X.outer) := by rw [ok.frames, hs]
  refine wpAny_Try_except ?_
  refine wpAny_mono ((hb (wManyA X.K Wout D l) (X.pn ++ pins) (fun e s₁ => wpAny (model X.prog X.w) X.A (noteFrame e X.env) (fun _ s₂ => wpAny (model X.prog X.w) X.A (setFlight e none) (fun _ s₃ =>
    wpAny (model X.prog X.w) X.A (handleBy e X.env (h₀ :: hds)) (SP X pins D) X.xe s₃) X.xe s₂) X.xe s₁) (fun u s' xx => ?_) PassesOwn.looking).run [] s σ H D (I.toTry _) h) (fun f s1 hsp => ?_) (fun e s1 he => he)
  · obtain ⟨a, B, sI, pins', σ', H', cls, d, rfl, J', nb, up, sky, na, os, ag, w⟩ := xx
    have J : Inv X pins σ' H' sI := J'.ofTry ok
    have sky' : Sky B (X.env :: X.outer) a (Zc cls d) X.env.locals s'.heap := by rw [← hs]; exact sky
    show wpAny (model X.prog X.w) X.A (noteFrame (.ref a) X.env) _ _ _
    refine Sky.land Zc.steady hfr hf sky' fun h3 fl3 up3 => ?_
    have J3 : Inv X pins σ' H' { s' with heap := h3 } := J.landed nb fl3.1 (up.trans up3) os ag
    obtain ⟨oe3, vs3, he3, hz3, hd3⟩ := fl3.there
    have nfr : a ∉ frs (X.env :: X.outer) := fun hm => by
      obtain ⟨_, o', e', hnf⟩ := fl3.2.2.1.mem hm
      rw [he3] at e'; cases e'
      exact hnf _ hd3
    have nL : a ≠ X.env.locals := fun z => nfr (List.mem_filterMap.mpr ⟨X.env, List.mem_cons_self, by rw [hf, z]⟩)
    have nF : a ∉ X.fs := fun hm => by
      obtain ⟨e, he, q⟩ := List.mem_filterMap.mp hm
      exact nfr (List.mem_filterMap.mpr ⟨e, List.mem_cons_of_mem _ he, q⟩)
    have S3 := J3.suite he3 hd3 na nL nF
    have go : ∀ {hds' : List ExceptHandler} {l' : List ClA}, HdsA X hds' l' → wManyA X.K Wout D l' cls d σ' H' →
        wpAny (model X.prog X.w) X.A (handleBy (.ref a) X.env hds') (SP X pins D) X.xe { s' with heap := h3 } := by
      intro hds' l' hk
      induction hk with
      | nil =>
        intro w
        refine wpAny_handleBy_nil ?_
        obtain ⟨k1, k2, k3, oe, vs, T, oT, ts', he, hz, hd, h1, hr⟩ := id fl3
        unfold PySem.passOn
        refine wpAny_bind (wpAny_field he hd h1 ?_)
        rw [if_neg (show ¬ ((Value.ref T == Value.none) = true) from by simp)]
        have fin : wpAny (model X.prog X.w) X.A (setFlight (.ref a) X.env.frame) (fun _ s4 => wpAny (model X.prog X.w) X.A (throw (.ref a) : Sem Flow) (SP X pins D) X.xe s4) X.xe { s' with heap := h3 } := by
          rw [hf]
          refine HandSPX.setFlight_upZ fl3 fun h4 hh4 up4 => wpAny_throw (tk _ _ ?_)
          exact ⟨a, B, sI, pins, σ', H', cls, d, rfl, J, nb, (up.trans up3).trans up4, .inr (.inr (by rw [hs]; exact hh4)), na, os, ag, w⟩
        first
          | exact wpAny_bind (wpAny_pure (wpAny_bind fin))
          | exact wpAny_bind fin
      | @cons x c nm o ts b₀ suite np pos' hds2 l2 hc hn hsu r ih =>
        intro w
        obtain ⟨b, hb1, hyes, hno⟩ := w
        refine wpAny_handleBy_cons (codeAny_handlers_test ?_) (by intro q; cases q)
        have LT : PySem.W.Looks (model X.prog X.w) h3 (typeOf (.ref a)) cls := fun A Q E s k q => wpAny_typeOf_ref (k _ _ he3) (by rw [hz3.1]; exact q)
        have LM := PySem.W.exm_one (M := model X.prog X.w) (J3.kIn) LT hb1
        have test : ∀ {Q : Value → Shared → Prop} {E : Value → Shared → Prop}, Q c { s' with heap := h3 } → wpAny (model X.prog X.w) (X.A.mark (some (.ref a))) (eval (.Name x np) X.env) Q E { s' with heap := h3 } := fun {Q E} q => by
          obtain ⟨hg, hdbg, hm | ⟨hm, hv, hnn⟩⟩ := hc
          · exact ld_glob (X := X.suite a ((a, oe3) :: (X.pn ++ pins))) S3 hg hm q hdbg
          · exact ld_blt (X := X.suite a ((a, oe3) :: (X.pn ++ pins))) S3 hg hm hv q hnn hdbg
        refine test (LM.here ?_)
        cases b with
        | true =>
          have wy := hyes rfl a na
          cases hn with
          | no =>
            refine codeAny_handlers_suite ?_
            refine HandSPX.lands_againZ fl3 fun h4 fl4 up4 => ?_
            have J4 : Inv X pins σ' H' { s' with heap := h4 } := J.landed nb fl4.1 ((up.trans up3).trans up4) os ag
            obtain ⟨oe4, vs4, he4, hz4, hd4⟩ := fl4.there
            have S4 := J4.suite he4 hd4 na nL nF
            refine wpAny_mono ((hsu a oe4 cls d (X.pn ++ pins) hz4 ⟨_, hd4⟩).run [] _ _ H' _ S4 wy) (fun f s6 hsp => ?_) (fun _ _ z => False.elim z)
            cases f with
            | next =>
              obtain ⟨σ6, H6, S6, q6⟩ := hsp
              exact ⟨_, _, S6.unsuite ok, q6⟩
            | brk =>
              obtain ⟨σ6, H6, S6, q6⟩ := hsp
              exact ⟨_, _, S6.unsuite ok, q6⟩
            | cont =>
              obtain ⟨σ6, H6, S6, q6⟩ := hsp
              exact ⟨_, _, S6.unsuite ok, q6⟩
            | ret u =>
              obtain ⟨v6, σ6, H6, S6, r6, q6⟩ := hsp
              exact ⟨_, _, _, S6.unsuite ok, r6, q6⟩
          | @as n i hi hln =>
            refine codeAny_handlers_suite_as ?_
            refine HandSPX.lands_againZ fl3 fun h4 fl4 up4 => ?_
            have J4 : Inv X pins σ' H' { s' with heap := h4 } := J.landed nb fl4.1 ((up.trans up3).trans up4) os ag
            obtain ⟨oe4, vs4, he4, hz4, hd4⟩ := fl4.there
            have S4 := J4.suite he4 hd4 na nL nF
            refine store_ok (X := X.suite a ((a, oe4) :: (X.pn ++ pins))) (v := .ref a) S4 hN hi (.inl hln) rfl (fun s5 S5 => ?_) (.inr hln)
            refine wpAny_mono ((hsu a oe4 cls d (X.pn ++ pins) hz4 ⟨_, hd4⟩).run [] s5 _ H' _ S5 wy) (fun f s6 hsp => ?_) (fun _ _ z => False.elim z)
            have end_ : ∀ {σ6 : L2.St} {H6 : Hp} {Q : Shared → Prop}, Inv (X.suite a ((a, oe4) :: (X.pn ++ pins))) [] σ6 H6 s6 → (∀ s7, Inv X pins (σ6.set i none) H6 s7 → Q s7) →
                wpAny (model X.prog X.w) X.A (do bindName X.env n .none; unbindBehindTheSuite X.env n pos') (fun _ s7 => Q s7) X.xe s6 := fun {σ6 H6 Q} S6 hq => gone_ok (S6.unsuite ok) hN hi hln hq
            cases f with
            | next =>
              obtain ⟨σ6, H6, S6, q6⟩ := hsp
              exact end_ S6 fun s7 J7 => ⟨_, _, J7, q6⟩
            | brk =>
              obtain ⟨σ6, H6, S6, q6⟩ := hsp
              exact end_ S6 fun s7 J7 => ⟨_, _, J7, q6⟩
            | cont =>
              obtain ⟨σ6, H6, S6, q6⟩ := hsp
              exact end_ S6 fun s7 J7 => ⟨_, _, J7, q6⟩
            | ret u =>
              obtain ⟨v6, σ6, H6, S6, r6, q6⟩ := hsp
              exact end_ S6 fun s7 J7 => ⟨_, _, _, J7, r6, q6⟩
        | false =>
          show wpAny _ X.A (handleBy (.ref a) X.env hds2) _ _ _
          exact ih (hno rfl)
    exact go hh w
  · cases f with
    | next =>
      obtain ⟨σ', H', J', q⟩ := hsp
      exact wpAny_execs_nil ⟨σ', H', J'.ofTry ok, q⟩
    | brk =>
      obtain ⟨σ', H', J', q⟩ := hsp
      exact ⟨σ', H', J'.ofTry ok, q⟩
    | cont =>
      obtain ⟨σ', H', J', q⟩ := hsp
      exact ⟨σ', H', J'.ofTry ok, q⟩
    | ret u =>
      obtain ⟨v, σ', H', J', r, q⟩ := hsp
      exact ⟨v, σ', H', J'.ofTry ok, r, q⟩
end
end DN
namespace DN
open PySem PySem.Spec PyProof.Rows L2 Evl
section
variable {Z : Zx} {W : WX} {X : Cx} {S : Sto} {G H : Hp} {α : List Addr} {e : Expr} {fe : FE} {pos pos' p : Pos}
def kRaise (c : String) (fe : FE) : FS := fun env S => sV env (fe env S) fun S1 v => .ex env S1 (.own c v)
theorem psf_raise {b : Bool} {x : Str} {c : String} {fI D : Addr} {k : Nat} {fd : FuncData} {ps : List Str} (hc : X.calm = true) (tk : Takes X W) (O : OP.OpenC X.K D (Z.cm c)) (iC : PySem.W.findIn X.K (.ref (Z.cm c)) "__init__" = some (some (.ref fI))) (tI : PySem.W.typeIn X.K (.ref fI) = some (.type "function"))
    (F1 : FnOk X.prog X.w X.K X.mg X.base (L2.CX X.prog X.w) k fI fd ps (OP.spInit X.K D)) (hr : RoomG b (k + 1) X.A) (hb : Binds X.K fd ps []) (hg : Gl X x) (hm : X.mg x = some (.ref (Z.cm c))) (h : PF Z (WE W) X e fe)
    (hdb : (x == ("__debug__" : Str)) = false := by decide) (he : starEach [e] X.env = [(false, eval e X.env)] := by rfl) (hpl : (backTo pos (starEach ([] : List Expr) X.env)).any (·.1) = false := by rfl) :
    PSF Z W X (.Raise (some (.Call (.Name x p) [e] [] pos)) none pos') (kRaise c fe) := by
  refine .of (ps_raise hc tk (pmk_oex O.ox iC tI F1 hr.toRoom hb .nil (passes_call tk fun _ _ _ _ z => z.elim) hg hm (pa_cons h.pe pa_nil he) hdb he hpl)) fun env σ G α S H D' hd oe w => ?_
  refine se_tF.bindS hd oe w fun S2 d v H2 G2 α2 _ f2 hd2 oe2 ov w2 => ?_
  refine ⟨by simp, fun a ha => ⟨a, Z.cm c, v, rfl, O, upd_same, fun dx hdx hne => ⟨rfl, dx, [("value", v)], upd_same, ?_, ?_, ?_⟩⟩⟩
  · rw [upd_ne hne, upd_same]
  · rw [upd_ne hne] at hdx
    exact hdx
  · rw [upd_ne hne] at hdx
    have e1 : upd (del (upd (upd (upd H2 a (exo a (Z.cm c) none)) dx (exd dx [("value", v)])) a (exo a (Z.cm c) (some dx))) a) dx (.xd [("value", v)]) = upd H2 dx (.xd [("value", v)]) := by
      funext b
      by_cases h1 : b = dx
      · subst h1
        rw [upd_same, upd_same]
      · rw [upd_ne h1, upd_ne h1]
        by_cases h2 : b = a
        · subst h2
          rw [del_same, ha]
        · rw [del_ne h2, upd_ne h2, upd_ne h1, upd_ne h2]
    rw [e1]
    obtain ⟨h1, h2⟩ := hd2.know (o := .xd [("value", v)]) hdx
    exact w2 σ _ _ _ _ _ h2 h1 (oe2.up h2.g h2.a) ⟨rfl, dx, v, rfl, upd_same, ov.up h2.g h2.a⟩
end
end DN
namespace DN
open PySem PySem.Spec PyProof.Rows L2 Evl
section
variable {Z : Zx} {W : WX} {X : Cx} {S : Sto} {G H : Hp} {α : List Addr} {e : Expr} {fe : FE} {pos pos' p : Pos} {env : Env} {σ : L2.St} {D : Ends}
/-- in a suite nothing is raised -/
abbrev W0 : WX := fun _ _ _ _ => False
abbrev Zx.at (Z : Zx) (a : Addr) (cls : Value) (d : Option Addr) : Zx := ⟨Z.toZt, some (a, cls, d)⟩
def noX (env : Env) : Bool := env.all fun s => match s with | .x _ _ => false | _ => true
theorem noX_at {i : Nat} {c : String} {r : Vr} (h : noX env = true) : env[i]? ≠ some (.x c r) := fun e => by
  have := List.all_eq_true.mp h _ (List.mem_of_getElem? e)
  cases this
theorem OnE.plain {a : Addr} {cls : Value} {d : Option Addr} (h : OnE (Z.at a cls d) G α env σ) (hn : noX env = true) : OnE Z G α env σ := ⟨h.len, h.at_, fun i c r e => absurd e (noX_at hn)⟩
theorem OnE.hot {a : Addr} {cls : Value} {d : Option Addr} (h : OnE Z G α env σ) (hz : Z.xc = none) : OnE (Z.at a cls d) G α env σ := ⟨h.len, h.at_, fun i c r e => by
  obtain ⟨_, _, _, q, _⟩ := h.xs i c r e
  rw [hz] at q
  cases q⟩
theorem OnE.hotSet {a dd : Addr} {c : String} {v : Vr} {w : V} (i : Nat) (h : OnE Z G α env σ) (hz : Z.xc = none) (hd : G dd = some (.xd [(("value" : Str), w)])) (hv : OnR Z G α v w) : OnE (Z.at a (.ref (Z.cm c)) (some dd)) G α (env.set i (.x c v)) (σ.set i (some (.ref a))) := by
  refine ⟨by rw [List.length_set, List.length_set]; exact h.len, fun j e he => ?_, fun j c' r he => ?_⟩
  · by_cases q : i = j
    · subst q
      by_cases hl : i < env.length
      · rw [List.getElem?_set_self hl] at he
        cases he
      · rw [List.getElem?_eq_none (by rw [List.length_set]; omega)] at he
        cases he
    · rw [List.getElem?_set_ne q] at he ⊢
      exact h.at_ j e he
  · by_cases q : i = j
    · subst q
      by_cases hl : i < env.length
      · rw [List.getElem?_set_self hl] at he
        cases he
        exact ⟨a, dd, w, rfl, List.getElem?_set_self (by rw [← h.len]; exact hl), hd, hv⟩
      · rw [List.getElem?_eq_none (by rw [List.length_set]; omega)] at he
        cases he
    · rw [List.getElem?_set_ne q] at he
      obtain ⟨_, _, _, q2, _⟩ := h.xs j c' r he
      rw [hz] at q2
      cases q2
theorem AllC.imp {P Q : String → Prop} (h : ∀ c, P c → Q c) : ∀ {cs : List String}, AllC P cs → AllC Q cs
  | [], _ => trivial
  | _ :: _, ⟨h1, h2⟩ => ⟨h _ h1, AllC.imp h h2⟩
theorem CsOk.hot {cs : List String} {a : Addr} {cls : Value} {d : Option Addr} (h : CsOk Z cs) : CsOk (Z.at a cls d) cs := ⟨h.all.imp fun c x => ⟨x.cl, x.it, x.kc, x.kb⟩, h.two⟩
def fXv (errs : List String) (i : Nat) : FE := fun env S => match env[i]? with
  | some (.x c r) => if errs.contains c then .ok S (.val r) else .no
  | _ => .no
theorem pf_xv {errs : List String} {i : Nat} {x : Str} {a : Addr} {oe : Obj} {cls : Value} {d : Option Addr} {pn : List (Addr × Obj)} {Ew : L2.St → XK} (T : AllC (fun c => XfC X.K (Z.cm c) ∧ PySem.W.findIn X.K (.ref (Z.cm c)) "value" = some none) errs) (hz : Zc cls d oe) (hf : ∃ vs, oe.data = .fields vs)
    (hN : X.N[i]? = some x := by rfl) (hv : Vis X.env.scope x := by first | exact Or.inl rfl | exact Or.inr (Or.inl rfl) | exact Or.inr (Or.inr rfl)) (hd : (x == ("__debug__" : Str)) = false := by decide)
    (hcd : (x == ("__classdict__" : Str)) = false := by decide) (hb : attributeBase (.Name x p) "value" X.env (eval (.Name x p) X.env) = eval (.Name x p) X.env := by rfl) : PF (Z.at a cls d) Ew (X.suite a ((a, oe) :: pn)) (.Attribute (.Name x p) "value" pos) (fXv errs i) := by
  refine ⟨fun σ H Q => ∃ c ∈ errs, tXf a cls d (Z.cm c) "value" (tVar i) σ H Q, ⟨fun pins s σ H Q I h => ?_⟩, fun env σ G α S H Q hd oe w => ?_⟩
  · obtain ⟨c, hc, h⟩ := h
    obtain ⟨t1, t2⟩ := T.mem (by simpa using hc)
    exact (pe_xf (X := X) t1 t2 hz hf (pe_var (X := X.suite a ((a, oe) :: pn)) hN hv hd hcd) hb).run pins s σ H Q I h
  · unfold fXv at w
    cases q : env[i]? with
    | none => rw [q] at w; exact w.elim
    | some s =>
      rw [q] at w
      cases s with
      | u => exact w.elim
      | v r => exact w.elim
      | x c r =>
        simp only at w
        by_cases hc : errs.contains c = true
        · rw [if_pos hc] at w
          obtain ⟨a', dd, v, h1, h2, h3, h4⟩ := oe.xs i c r q
          have h1 : some (a, cls, d) = some (a', Value.ref (Z.cm c), some dd) := h1
          simp only [Option.some.injEq, Prod.mk.injEq] at h1
          obtain ⟨rfl, rfl, rfl⟩ := h1
          exact ⟨c, by simpa using hc, _, h2, rfl, rfl, dd, _, v, rfl, hd.ex _ _ h3, by simp [List.lookup], w H G α (Fr.refl _ _ _) hd v h4⟩
        · rw [if_neg hc] at w
          exact w.elim
abbrev Cl := String × Option Nat × FS
def pick (b : String) (cl : List Cl) (c : String) : Option (Option Nat × FS) := (cl.find? fun k => k.1 == c || k.1 == b).map (·.2)
def ckX (r : RS) : RS := match r with
  | .nx env S => if noX env then .nx env S else .no
  | .bk env S => if noX env then .bk env S else .no
  | .ct env S => if noX env then .ct env S else .no
  | .rt S r => .rt S r
  | _ => .no
def goneS (i : Nat) (r : RS) : RS := match r with
  | .nx env S => .nx (env.set i .u) S
  | .bk env S => .bk (env.set i .u) S
  | .ct env S => .ct (env.set i .u) S
  | r => r
def goneR (i : Nat) (r : RS) : RS := ckX (goneS i r)
def runCl (o : Option (Option Nat × FS)) (c : String) (v : Vr) (env : Env) (S : Sto) : RS := match o with
  | none => .ex env S (.own c v)
  | some (none, f) => ckX (f env S)
  | some (some i, f) => goneR i (f (env.set i (.x c v)) S)
def kTry (b : String) (errs : List String) (cl : List Cl) (fb : FS) : FS := fun env S => match fb env S with
  | .ex e2 S2 (.own c v) => if errs.contains c then runCl (pick b cl c) c v e2 S2 else .no
  | .ex _ _ (.blt _) => .no
  | r => r
theorem ckX_ok {r : RS} {a : Addr} {cls : Value} {d : Option Addr} (w : WkS Z (ckX r) G α H D W) : WkS (Z.at a cls d) r G α H D W0 := by
  cases r with
  | nx env S =>
    unfold ckX at w
    by_cases h : noX env = true
    · simp only [h, if_true] at w
      exact fun σ2 H2 G2 α2 f hd oe => w σ2 H2 G2 α2 f hd (oe.plain h)
    · simp only [h, if_false] at w
      exact w.elim
  | bk env S =>
    unfold ckX at w
    by_cases h : noX env = true
    · simp only [h, if_true] at w
      exact fun σ2 H2 G2 α2 f hd oe => w σ2 H2 G2 α2 f hd (oe.plain h)
    · simp only [h, if_false] at w
      exact w.elim
  | ct env S =>
    unfold ckX at w
    by_cases h : noX env = true
    · simp only [h, if_true] at w
      exact fun σ2 H2 G2 α2 f hd oe => w σ2 H2 G2 α2 f hd (oe.plain h)
    · simp only [h, if_false] at w
      exact w.elim
  | rt S r =>
    have w : Wk Z (.ok S r) G α H (pRt Z D.rt) E0 := w
    show Wk (Z.at a cls d) (.ok S r) G α H (pRt (Z.at a cls d) D.rt) E0
    intro H2 G2 α2 f hd
    have := w H2 G2 α2 f hd
    cases r with
    | val v => exact this
    | new c => exact fun p n => this p ⟨n.h, n.g, n.a, n.c⟩
  | ex env S x => exact w.elim
  | no => exact w.elim
theorem goneR_ok {r : RS} {i : Nat} {a : Addr} {cls : Value} {d : Option Addr} (w : WkS Z (goneR i r) G α H D W) : WkS (Z.at a cls d) r G α H (goneE D i) W0 := by
  have w' : WkS (Z.at a cls d) (goneS i r) G α H D W0 := ckX_ok w
  cases r with
  | nx env S => exact fun σ2 H2 G2 α2 f hd oe => w' (σ2.set i none) H2 G2 α2 f hd (oe.forget i)
  | bk env S => exact fun σ2 H2 G2 α2 f hd oe => w' (σ2.set i none) H2 G2 α2 f hd (oe.forget i)
  | ct env S => exact fun σ2 H2 G2 α2 f hd oe => w' (σ2.set i none) H2 G2 α2 f hd (oe.forget i)
  | rt S r => exact w'
  | ex env S x => exact w'
  | no => exact w'.elim
inductive HdF (Z : Zx) (X : Cx) : List ExceptHandler → List Cl → Prop
  | nil : HdF Z X [] []
  | cons {x : Str} {c : String} {nm : Option Str} {o : Option Nat} {f : FS} {b₀ : Stmt} {suite : List Stmt} {np pos' : Pos} {hds : List ExceptHandler} {l : List Cl} (hc : Names X x (.ref (Z.cm c))) (hn : NameA X nm o)
      (hsu : ∀ (a : Addr) (oe : Obj) (cls : Value) (d : Option Addr) (pn : List (Addr × Obj)), Zc cls d oe → (∃ vs, oe.data = .fields vs) → PSsF (Z.at a cls d) W0 (X.suite a ((a, oe) :: pn)) (b₀ :: suite) f) (r : HdF Z X hds l) :
      HdF Z X (.ExceptHandler (some (.Name x np)) nm (b₀ :: suite) pos' :: hds) ((c, o, f) :: l)
abbrev clA (Z : Zx) (k : Cl) : ClA := (.ref (Z.cm k.1), k.2.1, fun a cls d => tS (Z.at a cls d) W0 k.2.2)
theorem HdF.a : ∀ {hds : List ExceptHandler} {l : List Cl}, HdF Z X hds l → HdsA X hds (l.map (clA Z))
  | _, _, .nil => .nil
  | _, _, .cons hc hn hsu r => .cons hc hn (fun a oe cls d pn h1 h2 => (hsu a oe cls d pn h1 h2).ps) r.a
theorem many_ok {K : PySem.W.Frag} {b c : String} {v : Vr} {e2 : Env} {S2 : Sto} {dd : Addr} {w0 : V} (hz : Z.xc = none) (hd : Hd Z G α S2 H) (oe : OnE Z G α e2 σ) (h1 : G dd = some (.xd [(("value" : Str), w0)])) (h2 : OnR Z G α v w0) : ∀ {cl : List Cl},
    (∀ k ∈ cl, PySem.W.exmOne K (.ref (Z.cm c)) (.ref (Z.cm k.1)) = some (k.1 == c || k.1 == b)) → WkS Z (runCl (pick b cl c) c v e2 S2) G α H D W → wManyA K W D (cl.map (clA Z)) (.ref (Z.cm c)) (some dd) σ H
  | [], _, w => w σ _ _ H G α (Fr.refl _ _ _) hd oe ⟨rfl, dd, w0, rfl, h1, h2⟩
  | k :: cl, hx, w => by
    refine ⟨_, hx k (by simp), fun hb => ?_, fun hb => ?_⟩
    · have e : pick b (k :: cl) c = some k.2 := by unfold pick; rw [List.find?_cons_of_pos (by simpa using hb)]; rfl
      rw [e] at w
      obtain ⟨kc, ko, kf⟩ := k
      intro a ha
      cases ko with
      | none => exact ⟨e2, G, α, S2, hd, oe.hot hz, ckX_ok w⟩
      | some i => exact ⟨e2.set i (.x c v), G, α, S2, hd, oe.hotSet i hz h1 h2, goneR_ok w⟩
    · have e : pick b (k :: cl) c = pick b cl c := by unfold pick; rw [List.find?_cons_of_neg (by rw [hb]; decide)]
      rw [e] at w
      exact many_ok hz hd oe h1 h2 (fun k hk => hx k (List.mem_cons_of_mem _ hk)) w
theorem psf_try {b : String} {errs : List String} {cl : List Cl} {fb : FS} {body : List Stmt} {h₀ : ExceptHandler} {hds : List ExceptHandler} (hz : Z.xc = none) (hs : X.stack = X.env :: X.outer) (hf : X.env.frame = some X.env.locals) (hN : X.N.Nodup) (tk : Takes X W)
    (hb : ∀ (W' : WX) (pn : List (Addr × Obj)) (xe : Value → Shared → Prop), Takes (X.tr pn xe) W' → PassesOwn (model X.prog X.w) X.A X.env xe → PSsF Z W' (X.tr pn xe) body fb)
    (hx : AllC (fun c => AllC (fun n => PySem.W.exmOne X.K (.ref (Z.cm c)) (.ref (Z.cm n)) = some (n == c || n == b)) (cl.map (·.1))) errs)
    (hh : HdF Z X (h₀ :: hds) cl) : PSF Z W X (.Try body (h₀ :: hds) [] [] pos) (kTry b errs cl fb) := by
  refine .of (ps_try_manyA (tb := fun W' => tS Z W' fb) hs hf hN tk (fun W' pn xe t1 t2 => (hb W' pn xe t1 t2).ps) hh.a) fun env σ G α S H D hd oe w => ⟨env, G, α, S, hd, oe, ?_⟩
  unfold kTry at w
  cases q : fb env S with
  | nx e2 S2 => rw [q] at w; exact w
  | bk e2 S2 => rw [q] at w; exact w
  | ct e2 S2 => rw [q] at w; exact w
  | rt S2 r => rw [q] at w; exact w
  | no => rw [q] at w; exact w.elim
  | ex e2 S2 x =>
    rw [q] at w
    cases x with
    | blt n => exact w.elim
    | own c v =>
      simp only at w
      by_cases hc : errs.contains c = true
      · rw [if_pos hc] at w
        intro σ2 cls d H2 G2 α2 f2 hd2 oe2 ox
        obtain ⟨rfl, dd, w0, rfl, h1, h2⟩ := ox
        exact many_ok hz hd2 oe2 h1 h2 (fun k hk => (hx.mem hc).mem (by simp only [List.contains_eq_mem, decide_eq_true_eq]; exact List.mem_map.mpr ⟨k, hk, rfl⟩)) (w.later f2)
      · rw [if_neg hc] at w
        exact w.elim
end
end DN
namespace DN
open PySem PySem.Spec PyProof.Rows L2 Evl
/-- the library's datum -/
def kpd : Key → PyData
  | .inl i => .int i
  | .inr s => .str s
mutual
def pd : Dv → Option PyData
  | .non => some .none
  | .bl b => some (.bool b)
  | .int i => some (.int i)
  | .str s => some (.str s)
  | .lst l => match pds l with | some m => some (.list m) | none => none
  | .tup l => match pds l with | some m => some (.tuple m) | none => none
  | .ktp l => match pds l with | some m => some (.tuple m) | none => none
  | .dic false ks vs => match ks.mapM key?, pds vs with | some a, some b => some (.dict ((a.map kpd).zip b)) | _, _ => none
  | .dic true ks vs => match ks.mapM tkey?, pds vs with | some a, some b => some (.dict ((a.map fun k => PyData.tuple (k.map kpd)).zip b)) | _, _ => none
  | _ => none
def pds : List Dv → Option (List PyData)
  | [] => some []
  | d :: l => match pd d, pds l with | some a, some b => some (a :: b) | _, _ => none
end
theorem mapM_some {α β : Type} {f : α → Option β} : ∀ {l : List α} {m : List β}, l.map f = m.map some → l.mapM f = some m
  | [], [], _ => rfl
  | [], b :: m, h => by cases h
  | a :: l, [], h => by cases h
  | a :: l, b :: m, h => by
    injection h with h1 h2
    rw [List.mapM_cons, h1, mapM_some h2]
    rfl
theorem rel_key {k : Key} {u : Value} (h : keyIs k u = true) {h0 : Heap} : Reads h0 u (kpd k) [] := by
  rcases keyIs_shape h with ⟨i, t, rfl, rfl⟩ | ⟨x, t, rfl, rfl⟩
  · exact .int i t
  · exact .str x t
theorem kV_reads {k : Key} {u : Value} (h : RelV (kV k) u) {h0 : Heap} : Reads h0 u (kpd k) [] := by
  cases k with
  | inl i => obtain ⟨t, rfl⟩ := h; exact .int i t
  | inr x => obtain ⟨t, rfl⟩ := h; exact .str x t
theorem kVs_reads {h0 : Heap} : ∀ {k : List Key} {us : List Value}, Vals (k.map kV) us → ReadsAll h0 us (k.map kpd) []
  | [], _, h => by cases h; exact .nil
  | a :: k, _, h => by
    cases h with
    | cons h1 h2 => exact .cons (as := []) (kV_reads h1) (kVs_reads h2)
section
variable {X : Cx} {Z : Zt} {pins : List (Addr × Obj)} {σ : L2.St} {G H : Hp} {s : Shared}
theorem pairs_read {P : Program} {w : World} {h0 : Heap} : ∀ {es : List DictEntry} {kvs : List (Key × Value)}, Pairs (mixKind P w) es kvs → ReadsAll h0 (es.map (·.key)) ((kvs.map (·.1)).map kpd) [] ∧ es.map (·.val) = kvs.map (·.2)
  | _, _, .nil => ⟨.nil, rfl⟩
  | _, _, .cons h1 h2 h3 => by
    obtain ⟨a, b⟩ := pairs_read h3
    exact ⟨.cons (as := []) (rel_key h1) a, by rw [List.map_cons, List.map_cons, h2, b]⟩
theorem kv_split {κ : Type} : ∀ {kvs : List (κ × V)} {vs : List (κ × Value)}, KV kvs vs → kvs.map (·.1) = vs.map (·.1) ∧ Vals (kvs.map (·.2)) (vs.map (·.2))
  | _, _, .nil => ⟨rfl, .nil⟩
  | _, _, .cons h t => by
    obtain ⟨a, b⟩ := kv_split t
    exact ⟨by rw [List.map_cons, List.map_cons, h.1, a], .cons h.2 b⟩
theorem zip_fst {α β : Type} : ∀ {l : List α} {m : List β}, l.length = m.length → (l.zip m).map (·.1) = l
  | [], _, _ => by simp
  | a :: l, [], h => by cases h
  | a :: l, b :: m, h => by rw [List.zip_cons_cons, List.map_cons, zip_fst (by simpa using h)]
theorem zip_snd {α β : Type} : ∀ {l : List α} {m : List β}, l.length = m.length → (l.zip m).map (·.2) = m
  | [], m, h => by cases m with | nil => rfl | cons b m => cases h
  | a :: l, [], h => by cases h
  | a :: l, b :: m, h => by rw [List.zip_cons_cons, List.map_cons, zip_snd (by simpa using h)]
theorem readsAll_len {h0 : Heap} : ∀ {us : List Value} {ps : List PyData} {as : List Addr}, ReadsAll h0 us ps as → us.length = ps.length
  | _, _, _, .nil => rfl
  | _, _, _, .cons _ h => by rw [List.length_cons, List.length_cons, readsAll_len h]
theorem tkeys_read {P : Program} {w : World} (I : Inv X pins σ H s) : ∀ {kvs : List (List Key × V)} {xs : List (List Key × Addr × Value)},
    Paired (fun (p : List Key × V) (q : List Key × Addr × Value) => p.1 = q.1 ∧ H q.2.1 = some (.tup (p.1.map kV)) ∧ RelV p.2 q.2.2) kvs xs →
      ReadsAll s.heap ((xs.map (entryOfKey (tupleKind (mixKind P w)))).map (·.key)) ((kvs.map (·.1)).map fun k => PyData.tuple (k.map kpd)) [] ∧ Vals (kvs.map (·.2)) ((xs.map (entryOfKey (tupleKind (mixKind P w)))).map (·.val))
  | _, _, .nil => ⟨.nil, .nil⟩
  | _, _, .cons (a := p) (b := q) h t => by
    obtain ⟨a, b⟩ := tkeys_read I t
    obtain ⟨its, rv, ⟨o, ho, hc, n, hd⟩, _⟩ := I.tuple (SqT.of h.2.1)
    exact ⟨.cons (as := []) (.tuple ho hc hd (kVs_reads rv)) a, .cons h.2.2 b⟩
mutual
/-- what stands for d is read as the datum -/
theorem on_reads (I : Inv X pins σ H s) (hK : Z.K = X.K) (e : Ex G H) : ∀ {d : Dv} {v : V} {u : Value} {p : PyData}, On Z G d v → pd d = some p → RelV v u → ∃ as, Reads s.heap u p as ∧ ∀ b ∈ as, H b ≠ none
  | .non, v, u, p, h, q, r => by
    unfold On at h
    unfold pd at q
    cases q
    subst h
    cases r
    exact ⟨_, .none, fun b hb => absurd hb (by simp)⟩
  | .bl c, v, u, p, h, q, r => by
    unfold On at h
    unfold pd at q
    cases q
    subst h
    cases r
    exact ⟨_, .bool c, fun b hb => absurd hb (by simp)⟩
  | .int i, v, u, p, h, q, r => by
    unfold On at h
    unfold pd at q
    cases q
    subst h
    obtain ⟨t, rfl⟩ := r
    exact ⟨_, .int i t, fun b hb => absurd hb (by simp)⟩
  | .str x, v, u, p, h, q, r => by
    unfold On at h
    unfold pd at q
    cases q
    subst h
    obtain ⟨t, rfl⟩ := r
    exact ⟨_, .str x t, fun b hb => absurd hb (by simp)⟩
  | .lst l, v, u, p, h, q, r => by
    unfold On at h
    unfold pd at q
    obtain ⟨a, xs, rfl, h2, h3⟩ := h
    cases z : pds l with
    | none => rw [z] at q; cases q
    | some m =>
      rw [z] at q
      cases q
      cases r
      have hH := e _ _ h2
      obtain ⟨its, rv, ⟨o, n, ho, hc, _, hd⟩, _⟩ := I.list (SqL.of hH)
      obtain ⟨as, ra, ia⟩ := onL_reads I hK e h3 z rv
      refine ⟨_, .list ho hc hd ra, fun b hb => ?_⟩
      rcases List.mem_cons.mp hb with rfl | hb
      · rw [hH]; exact fun z => nomatch z
      · exact ia b hb
  | .tup l, v, u, p, h, q, r => by
    unfold On at h
    unfold pd at q
    obtain ⟨a, xs, rfl, h2, h3⟩ := h
    cases z : pds l with
    | none => rw [z] at q; cases q
    | some m =>
      rw [z] at q
      cases q
      cases r
      obtain ⟨its, rv, ⟨o, ho, hc, n, hd⟩, _⟩ := I.tuple (SqT.of (e _ _ h2))
      obtain ⟨as, ra, ia⟩ := onL_reads I hK e h3 z rv
      exact ⟨_, .tuple ho hc hd ra, ia⟩
  | .ktp l, v, u, p, h, q, r => by
    unfold On at h
    unfold pd at q
    obtain ⟨a, xs, rfl, h2, h3⟩ := h
    cases z : pds l with
    | none => rw [z] at q; cases q
    | some m =>
      rw [z] at q
      cases q
      cases r
      rw [hK] at h2
      have h4 : SqT X.K H a xs := h2.sq e
      obtain ⟨its, rv, ⟨o, ho, hc, n, hd⟩, _⟩ := I.tuple h4
      obtain ⟨as, ra, ia⟩ := onL_reads I hK e h3 z rv
      exact ⟨_, .tuple ho hc hd ra, ia⟩
  | .dic false ks vs, v, u, p, h, q, r => by
    unfold On at h
    obtain ⟨a, ws, rfl, ⟨kk, hk, hg⟩, hl, h3⟩ := h
    unfold pd at q
    rw [mapM_some hk] at q
    cases z : pds vs with
    | none => simp only [z] at q; cases q
    | some m =>
      simp only [z] at q
      cases q
      cases r
      have hH := e _ _ hg
      obtain ⟨_, _, us, rel, o, es, ep, ho, hx, hd, _, pr, _⟩ := dk_of I.hok hH
      obtain ⟨e1, e2⟩ := kv_split rel
      have n1 : kk.length = ws.length := by
        have := congrArg List.length hk
        rw [List.length_map, List.length_map] at this
        rw [← this]; exact hl
      rw [zip_fst n1] at e1
      rw [zip_snd n1] at e2
      obtain ⟨r1, r2⟩ := pairs_read (h0 := s.heap) pr
      rw [← e1] at r1
      rw [← r2] at e2
      obtain ⟨as, ra, ia⟩ := onL_reads I hK e h3 z e2
      have n2 : (kk.map kpd).length = m.length := by
        rw [← readsAll_len r1, ← readsAll_len ra, List.length_map, List.length_map]
      refine ⟨_, .dict (kvs := (kk.map kpd).zip m) ho hx.1 hd (by rw [zip_fst n2]; exact r1) (by rw [zip_snd n2]; exact ra), fun b hb => ?_⟩
      rcases List.mem_cons.mp hb with rfl | hb
      · rw [hH]; exact fun z => nomatch z
      · exact ia b (by simpa using hb)
  | .dic true ks vs, v, u, p, h, q, r => by
    unfold On at h
    obtain ⟨a, ws, rfl, ⟨kk, hk, hg⟩, hl, h3⟩ := h
    unfold pd at q
    rw [mapM_some hk] at q
    cases z : pds vs with
    | none => simp only [z] at q; cases q
    | some m =>
      simp only [z] at q
      cases q
      cases r
      have hH := e _ _ hg
      obtain ⟨_, _, xs, rel, o, es, ep, ho, hx, hd, he, _⟩ := dt_of I.hok hH
      obtain ⟨r1, e2⟩ := tkeys_read I rel
      have n1 : kk.length = ws.length := by
        have := congrArg List.length hk
        rw [List.length_map, List.length_map] at this
        rw [← this]; exact hl
      rw [zip_fst n1] at r1
      rw [zip_snd n1] at e2
      rw [← he] at r1 e2
      obtain ⟨as, ra, ia⟩ := onL_reads I hK e h3 z e2
      have n2 : (kk.map fun k => PyData.tuple (k.map kpd)).length = m.length := by
        rw [← readsAll_len r1, ← readsAll_len ra, List.length_map, List.length_map]
      refine ⟨_, .dict (kvs := (kk.map fun k => PyData.tuple (k.map kpd)).zip m) ho hx.1 hd (by rw [zip_fst n2]; exact r1) (by rw [zip_snd n2]; exact ra), fun b hb => ?_⟩
      rcases List.mem_cons.mp hb with rfl | hb
      · rw [hH]; exact fun z => nomatch z
      · exact ia b (by simpa using hb)
  | .ty _, _, _, _, _, q, _ => by unfold pd at q; cases q
  | .cls _, _, _, _, _, q, _ => by unfold pd at q; cases q
  | .obj _ _, _, _, _, _, q, _ => by unfold pd at q; cases q
  | .scr _, _, _, _, _, q, _ => by unfold pd at q; cases q
theorem onL_reads (I : Inv X pins σ H s) (hK : Z.K = X.K) (e : Ex G H) : ∀ {l : List Dv} {vs : List V} {us : List Value} {ps : List PyData}, OnL Z G l vs → pds l = some ps → Vals vs us → ∃ as, ReadsAll s.heap us ps as ∧ ∀ b ∈ as, H b ≠ none
  | [], vs, us, ps, h, q, r => by
    unfold OnL at h
    unfold pds at q
    cases q
    subst h
    cases r
    exact ⟨_, .nil, fun b hb => absurd hb (by simp)⟩
  | d :: l, vs, us, ps, h, q, r => by
    unfold OnL at h
    obtain ⟨y, ys, rfl, h1, h2⟩ := h
    unfold pds at q
    cases z1 : pd d with
    | none => simp only [z1] at q; cases q
    | some a =>
      cases z2 : pds l with
      | none => simp only [z1, z2] at q; cases q
      | some m =>
        simp only [z1, z2] at q
        cases q
        cases r with
        | cons r1 r2 =>
          obtain ⟨as, ra, ia⟩ := on_reads I hK e h1 z1 r1
          obtain ⟨bs, rb, ib⟩ := onL_reads I hK e h2 z2 r2
          exact ⟨_, .cons ra rb, fun b hb => (List.mem_append.mp hb).elim (ia b) (ib b)⟩
end
end
/-- what may be shown: the text and the depth are small -/
def okShow (p : PyData) : Bool := p.showable && (decide (p.shown.length ≤ sizeLine) && decide (p.depth ≤ 40))
def gShow1 (d : Dv) : Option Rt := match pd d with
  | some p => if okShow p then vS p.shown else none
  | none => none
def gShow : List Dv → Option Rt := arg1 gShow1
section
variable {Z : Zx} {X : Cx} {Ew : L2.St → XK} {S : Sto} {G H : Hp} {α : List Addr} {Q : VK} {E : XK}
/-- sys.modules is known, by the text's objects or by the base -/
def SmX (X : Cx) : Prop := (X.K.lookup sysModules).isSome = true ∨ (X.base.get? sysModules).isSome = true
theorem sm_out {pins : List (Addr × Obj)} {σ : L2.St} {s : Shared} (sm : SmX X) (I : Inv X pins σ H s) {as : List Addr} (h : ∀ b ∈ as, H b ≠ none) : sysModules ∉ as := fun hm => by
  rcases sm with sm | sm
  · obtain ⟨o, ho⟩ := Option.isSome_iff_exists.mp sm
    exact h _ hm (I.bs _ _ (I.ok.mod.kin _ _ ho)).2
  · obtain ⟨o, ho⟩ := Option.isSome_iff_exists.mp sm
    exact h _ hm (I.bs _ _ ho).2
theorem cd_show (hr : X.A.guards = some [] ∧ X.A.units + 64 < cLine) (hK : Z.K = X.K) (sm : SmX X) : CallR X (.builtin "repr") (rA Z gShow) := by
  intro pins s σ H xs us Q I r h
  obtain ⟨G, α, S, l, hd, hl, w⟩ := h
  obtain ⟨x, y, rfl, hx, w⟩ := arg1_ok hl w
  obtain ⟨u, rfl, ru⟩ := vals1 r
  unfold gShow1 at w
  cases z : pd x with
  | none => rw [z] at w; exact w.elim
  | some p =>
    simp only [z] at w
    cases zs : okShow p with
    | false => rw [zs] at w; exact w.elim
    | true =>
      rw [zs, if_pos rfl] at w
      obtain ⟨h1, h2⟩ := Bool.and_eq_true_iff.mp zs
      obtain ⟨h2, h3⟩ := Bool.and_eq_true_iff.mp h2
      have h2 := of_decide_eq_true h2
      have h3 := of_decide_eq_true h3
      have hon : On Z.toZt H x y := hx.on hd.ex
      obtain ⟨as, ra, ia⟩ := on_reads I hK (Ex.refl H) hon z ru
      have wq := wS w hd
      have fin : ∀ h' (t : Tok) tk, (∀ b o, s.heap.get? b = some o → h'.get? b = some o) → EP X pins σ Q (.str p.shown t) { s with heap := h', toks := tk } := fun h' t tk k => ⟨.str p.shown, H, I.kept k, ⟨t, rfl⟩, wq⟩
      have fin0 : EP X pins σ Q (.str p.shown s.toks) { s with toks := s.toks + 1 } := ⟨.str p.shown, H, I.tok _, ⟨_, rfl⟩, wq⟩
      cases ra with
      | none => exact PySem.P.repr_of_none (by simpa [PyData.shown] using fin0)
      | bool b => exact PySem.P.repr_of_bool (by simpa [PyData.shown] using fin0)
      | int i t => exact PySem.P.repr_of_int (by simpa [PyData.showable] using h1) (by simpa [PyData.shown] using fin0)
      | str v t => exact PySem.P.repr_of_str (by simpa [PyData.shown] using fin0) (by simpa [PyData.shown] using h2)
      | list a1 a2 a3 a4 => exact repr_of_reads' (.list a1 a2 a3 a4) h1 (fun _ => sm_out sm I ia) hr.1 (by have := hr.2; omega) (fun _ _ e => e) fin h2
      | tuple a1 a2 a3 a4 => exact repr_of_reads' (.tuple a1 a2 a3 a4) h1 (fun _ => sm_out sm I ia) hr.1 (by have := hr.2; omega) (fun _ _ e => e) fin h2
      | dict a1 a2 a3 a4 a5 => exact repr_of_reads' (.dict a1 a2 a3 a4 a5) h1 (fun _ => sm_out sm I ia) hr.1 (by have := hr.2; omega) (fun _ _ e => e) fin h2
variable {e : Expr} {fe : FE} {pos : Pos}
end
end DN
namespace DN
open PySem PySem.Spec PyProof.Rows L2 Evl
section
variable {Z : Zx} {X : Cx} {Ew : L2.St → XK} {S : Sto} {G H : Hp} {α : List Addr} {Q : VK} {E : XK} {e : Expr} {fe : FE} {p pos : Pos}
/-- the items of a list, a tuple, a list in a cell -/
def starD (S : Sto) (a : Vr) : Option (List Dv) := match a with
  | .d (.lst l) => some l
  | .d (.tup l) => some l
  | .d (.ktp l) => some l
  | .r n => match S[n]? with
    | some (.lst l) => some l
    | _ => none
  | _ => none
def fStar (fa : FE) (fr : FA) : FA := fun env S => (fa env S).bindV fun S1 a => match starD S1 a with
  | some l => (fr env S1).bind fun S2 r => .ok S2 (l.map .d ++ r)
  | none => .no
theorem onA_apS : ∀ {l : List Dv} {r : List Vr} {xs ys : List V}, OnL Z G l xs → OnA Z G α r ys → OnA Z G α (l.map .d ++ r) (xs ++ ys)
  | [], r, xs, ys, h, h2 => by
    rw [OnL.nil.mp h]
    exact h2
  | d :: l, r, xs, ys, h, h2 => by
    obtain ⟨y, zs, rfl, h3, h4⟩ := OnL.cons.mp h
    exact ⟨y, zs ++ ys, rfl, h3, onA_apS h4 h2⟩
theorem starD_ok {a : Vr} {x : V} {l : List Dv} (hd : Hd Z G α S H) (hx : OnR Z G α a x) (h : starD S a = some l) : ∃ p xs, x = .ref p ∧ (SqT Z.K H p xs ∨ SqL Z.K H p xs) ∧ OnL Z G l xs := by
  cases a with
  | r n =>
    obtain ⟨b, rfl, hb⟩ := hx
    unfold starD at h
    cases q : S[n]? with
    | none => simp only [q] at h; cases h
    | some c =>
      simp only [q] at h
      cases c with
      | lst l' =>
        cases h
        obtain ⟨xs, e1, e2⟩ := (hd.at_ n b _ hb q).2
        exact ⟨b, xs, rfl, .inr (SqL.of e1), e2⟩
      | _ => cases h
  | d d =>
    have hx : On Z G d x := hx
    cases d with
    | lst l' =>
      cases h
      unfold On at hx
      obtain ⟨b, xs, rfl, e1, e2⟩ := hx
      exact ⟨b, xs, rfl, .inr (SqL.of (hd.ex _ _ e1)), e2⟩
    | tup l' =>
      cases h
      unfold On at hx
      obtain ⟨b, xs, rfl, e1, e2⟩ := hx
      exact ⟨b, xs, rfl, .inl (SqT.of (hd.ex _ _ e1)), e2⟩
    | ktp l' =>
      cases h
      unfold On at hx
      obtain ⟨b, xs, rfl, e1, e2⟩ := hx
      exact ⟨b, xs, rfl, .inl (e1.sq hd.ex), e2⟩
    | _ => cases h
theorem paf_star {es : List Expr} {fr : FA} (hK : X.K = Z.K) (ha : PF Z Ew X e fe) (hr : PAF Z Ew X es fr) (hs : starEach (.Starred e p :: es) X.env = (true, eval e X.env) :: starEach es X.env := by rfl) : PAF Z Ew X (.Starred e p :: es) (fStar fe fr) := by
  obtain ⟨ta, h1, h2⟩ := ha.ex
  obtain ⟨tb, h3, h4⟩ := hr.ex
  refine ⟨_, StX.pa_star h1 h3 hs, fun env σ G α S H Q hd oe w => h2.bind hd oe w fun S2 d v H2 G2 α2 f2 hd2 oe2 ox w2 => ?_⟩
  cases q : starD S2 d with
  | none => simp only [q] at w2; exact w2.elim
  | some l =>
    simp only [q] at w2
    obtain ⟨p, xs, e1, e2, e3⟩ := starD_ok hd2 ox q
    exact ⟨p, xs, e1, hK ▸ e2, h4.bind hd2 oe2 w2 fun S4 l4 vs H4 G4 α4 f4 hd4 oe4 ol w4 => w4.here hd4 _ (onA_apS (e3.up f4.g) ol)⟩
end
end DN
namespace Q05
open DN
abbrev errs : List String := ["InvalidNumber", "InvalidTies", "InvalidHouse", "InvalidTie"]
abbrev B_is_integer : FS :=
  (kRet (fAnd (fCall (arg2 (gIsi ["Web"])) (fCons (fVar 0) (fCons (fC (.ty "int")) fNil))) (fNot (fCall (arg2 (gIsi ["Web"])) (fCons (fVar 0) (fCons (fC (.ty "bool")) fNil))))))
def D_is_integer : FD := defD 1 B_is_integer
abbrev B_check_number : FS :=
  (kIf (kOr (kNot (kVal (fCallD 1 D_is_integer (fCons (fVar 0) fNil)))) (kNot (kVal (fChain gLe gLe (fC (.int 1)) (fVar 0) (fC (.int 40)))))) (kRaise "InvalidNumber" (fVar 0)) kNext)
def D_check_number : FD := defD 1 B_check_number
abbrev B_Web_len : FS :=
  (kRet (fCall gLen (fCons (fUn (gFld ["Web"] "ties") (fVar 0)) fNil)))
def D_Web_len : FD := defD 1 B_Web_len
abbrev B_is_house : FS :=
  (kRet (fAnd (fCallD 1 D_is_integer (fCons (fVar 1) fNil)) (fChain gLe gLt (fC (.int 0)) (fVar 1) (fVar 0))))
def D_is_house : FD := defD 2 B_is_house
abbrev B_is_tie : FS :=
  (kSeq (kIf (kOr (kNot (kVal (fCall (arg2 (gIsi ["Web"])) (fCons (fVar 1) (fCons (fC (.ty "tuple")) fNil))))) (kVal (fOp gNe (fLenD [("Web", 1, D_Web_len)] (fCons (fVar 1) fNil)) (fC (.int 2))))) (kRet (fC (.bl false))) kNext)
    (kRet (fAnd (fCallD 2 D_is_house (fCons (fVar 0) (fCons (fOp gIx (fVar 1) (fC (.int 0))) fNil))) (fAnd (fCallD 2 D_is_house (fCons (fVar 0) (fCons (fOp gIx (fVar 1) (fC (.int 1))) fNil))) (fOp gLt (fOp gIx (fVar 1) (fC (.int 0))) (fOp gIx (fVar 1) (fC (.int 1))))))))
def D_is_tie : FD := defD 2 B_is_tie
abbrev B_tie_of : FS :=
  (kRet (fTup (fCons (fCall gMin (fCons (fVar 0) (fCons (fVar 1) fNil))) (fCons (fCall gMax (fCons (fVar 0) (fCons (fVar 1) fNil))) fNil))))
def D_tie_of : FD := defD 2 B_tie_of
abbrev B_beside_of : FS :=
  (kRet (fLc (iRange1 (fCons (fVar 0) fNil)) (tgN 3) (kVal (fOp gIn2 (fCallD 2 D_tie_of (fCons (fVar 2) (fCons (fVar 3) fNil))) (fVar 1))) (fVar 3) [3]))
def D_beside_of : FD := defD 4 B_beside_of
abbrev B_Web_init : FS :=
  (kSeq (kExpr (fCallD 1 D_check_number (fCons (fVar 1) fNil)))
    (kSeq (kIf (kOr (kNot (kVal (fCall (arg2 (gIsi ["Web"])) (fCons (fVar 2) (fCons (fTup (fCons (fC (.ty "list")) (fCons (fC (.ty "tuple")) fNil))) fNil))))) (kNot (kVal (fCall gAll (fCons (fLc (iVal (fVar 2)) (tgN 3) kYes (fCallD 2 D_is_tie (fCons (fVar 1) (fCons (fVar 3) fNil))) [3]) fNil))))) (kRaise "InvalidTies" (fVar 2)) kNext)
    (kSeq (kFld ["Web"] "houses" (fVar 0) (fVar 1))
    (kSeq (kFld ["Web"] "ties" (fVar 0) (fCall gTuple (fCons (fSortSetB (fVar 2)) fNil)))
    (kSeq (kFld ["Web"] "known" (fVar 0) (fDc (iVal (fUn (gFld ["Web"] "ties") (fVar 0))) (tgN 3) (fVar 3) (fC (.bl true)) [3]))
    (kFld ["Web"] "beside" (fVar 0) (fLc (iRange1 (fCons (fVar 1) fNil)) (tgN 4) kYes (fCallD 3 D_beside_of (fCons (fVar 1) (fCons (fUn (gFld ["Web"] "known") (fVar 0)) (fCons (fVar 4) fNil)))) [4])))))))
def D_Web_init : FD := defD 5 B_Web_init
abbrev B_Web_eq : FS :=
  (kRet (fAnd (fCall (arg2 (gIsi ["Web"])) (fCons (fVar 1) (fCons (fC (.cls "Web")) fNil))) (fAnd (fOp gEq (fUn (gFld ["Web"] "houses") (fVar 0)) (fUn (gFld ["Web"] "houses") (fVar 1))) (fOp gEq (fUn (gFld ["Web"] "ties") (fVar 0)) (fUn (gFld ["Web"] "ties") (fVar 1))))))
def D_Web_eq : FD := defD 2 B_Web_eq
abbrev B_law_box : FS :=
  (kRet (fLst (fCons (fCall gMax (fCons (fC (.int 0)) (fCons (fOp gSub (fVar 0) (fOp gPow (fC (.int 10)) (fC (.int 18)))) fNil))) (fCons (fOp gMod (fVar 0) (fC (.int 2147483579))) (fCons (fC (.int 0)) fNil)))))
def D_law_box : FD := defD 1 B_law_box
abbrev B_law_take : FS :=
  (kSeq (kIf (kVal (fOp gGt (fOp gIx (fVar 0) (fC (.int 0))) (fC (.int 0)))) (kSeq (kSet 2 (fOp gMod (fOp gIx (fVar 0) (fC (.int 0))) (fVar 1)))
    (kSeq (kSub (fVar 0) (fC (.int 0)) (fOp gDiv (fOp gIx (fVar 0) (fC (.int 0))) (fVar 1)))
    (kRet (fVar 2)))) kNext)
    (kSeq (kSub (fVar 0) (fC (.int 2)) (fOp gAdd (fOp gIx (fVar 0) (fC (.int 2))) (fC (.int 1))))
    (kSeq (kSet 3 (fOp gMod (fOp gPow (fOp gAdd (fOp gAdd (fOp gIx (fVar 0) (fC (.int 1))) (fOp gMul (fC (.int 70142)) (fOp gIx (fVar 0) (fC (.int 2))))) (fC (.int 30606))) (fC (.int 5))) (fC (.int 2147483647))))
    (kSeq (kSet 3 (fOp gMod (fOp gPow (fOp gAdd (fVar 3) (fOp gMul (fC (.int 228187)) (fOp gIx (fVar 0) (fC (.int 2))))) (fC (.int 3))) (fC (.int 2147483587))))
    (kRet (fOp gMod (fOp gDiv (fVar 3) (fC (.int 16))) (fVar 1)))))))
def D_law_take : FD := defD 4 B_law_take
abbrev B_law_ties : FS :=
  (kSeq (kAsg (tgT (tgCons (tgN 2) (tgCons (tgN 3) tgNil))) (fTup (fCons (fOp gAdd (fC (.int 1)) (fCallD 2 D_law_take (fCons (fVar 0) (fCons (fC (.int 5)) fNil)))) (fCons (fLst fNil) fNil))))
    (kSeq (kFor (iRange1 (fCons (fVar 1) fNil)) (tgN 4)
      (kSet 3 (fOp gAdd (fVar 3) (fLc (iRange2 (fCons (fOp gAdd (fVar 4) (fC (.int 1))) (fCons (fVar 1) fNil))) (tgN 5) (kVal (fOp gLt (fCallD 2 D_law_take (fCons (fVar 0) (fCons (fC (.int 6)) fNil))) (fVar 2))) (fTup (fCons (fVar 4) (fCons (fVar 5) fNil))) [5]))))
    (kRet (fVar 3))))
def D_law_ties : FD := defD 6 B_law_ties
abbrev B_law_cell_at : FS :=
  (kRet (fIf (kVal (fOp gLt (fVar 1) (fLenD [("Web", 1, D_Web_len)] (fCons (fVar 0) fNil)))) (fOp gIx (fVar 0) (fVar 1)) (fOp gAdd (fOp gMul (fC (.int 28806)) (fVar 1)) (fC (.int 19116)))))
def D_law_cell_at : FD := defD 2 B_law_cell_at
abbrev B_Web_check_house : FS :=
  (kIf (kNot (kVal (fCallD 2 D_is_house (fCons (fUn (gFld ["Web"] "houses") (fVar 0)) (fCons (fVar 1) fNil))))) (kRaise "InvalidHouse" (fVar 1)) kNext)
def D_Web_check_house : FD := defD 2 B_Web_check_house
abbrev B_Web_untied : FS :=
  (kSeq (kExpr (fMethD [("Web", 2, D_Web_check_house)] (fVar 0) (fCons (fVar 1) fNil)))
    (kSeq (kExpr (fMethD [("Web", 2, D_Web_check_house)] (fVar 0) (fCons (fVar 2) fNil)))
    (kSeq (kIf (kVal (fOp gNotIn2 (fCallD 2 D_tie_of (fCons (fVar 1) (fCons (fVar 2) fNil))) (fUn (gFld ["Web"] "known") (fVar 0)))) (kRaise "InvalidTie" (fTup (fCons (fVar 1) (fCons (fVar 2) fNil)))) kNext)
    (kRet (fMakeD "Web" [] 3 D_Web_init (fCons (fUn (gFld ["Web"] "houses") (fVar 0)) (fCons (fLc (iVal (fUn (gFld ["Web"] "ties") (fVar 0))) (tgN 3) (kVal (fOp gNe (fVar 3) (fCallD 2 D_tie_of (fCons (fVar 1) (fCons (fVar 2) fNil))))) (fVar 3) [3]) fNil)))))))
def D_Web_untied : FD := defD 4 B_Web_untied
abbrev B_Web_tied : FS :=
  (kSeq (kExpr (fMethD [("Web", 2, D_Web_check_house)] (fVar 0) (fCons (fVar 1) fNil)))
    (kSeq (kExpr (fMethD [("Web", 2, D_Web_check_house)] (fVar 0) (fCons (fVar 2) fNil)))
    (kSeq (kIf (kOr (kVal (fOp gEq (fVar 1) (fVar 2))) (kVal (fOp gIn2 (fCallD 2 D_tie_of (fCons (fVar 1) (fCons (fVar 2) fNil))) (fUn (gFld ["Web"] "known") (fVar 0))))) (kRaise "InvalidTie" (fTup (fCons (fVar 1) (fCons (fVar 2) fNil)))) kNext)
    (kRet (fMakeD "Web" [] 3 D_Web_init (fCons (fUn (gFld ["Web"] "houses") (fVar 0)) (fCons (fTup (fStar (fUn (gFld ["Web"] "ties") (fVar 0)) (fCons (fCallD 2 D_tie_of (fCons (fVar 1) (fCons (fVar 2) fNil))) fNil))) fNil)))))))
def D_Web_tied : FD := defD 3 B_Web_tied
abbrev B_Web_neighbors : FS :=
  (kSeq (kExpr (fMethD [("Web", 2, D_Web_check_house)] (fVar 0) (fCons (fVar 1) fNil)))
    (kRet (fCall gList (fCons (fOp gIx (fUn (gFld ["Web"] "beside") (fVar 0)) (fVar 1)) fNil))))
def D_Web_neighbors : FD := defD 2 B_Web_neighbors
abbrev B_law_caught : FS :=
  (kTry "OpenpostsError" errs [("InvalidHouse", (some 4), (kRet (fLst (fCons (fC (.str "house")) (fCons (fCall gShow (fCons (fXv errs 4) fNil)) fNil))))), ("InvalidTie", (some 4), (kRet (fLst (fCons (fC (.str "tie")) (fCons (fCall gShow (fCons (fXv errs 4) fNil)) fNil))))), ("OpenpostsError", none, (kRet (fLst (fCons (fC (.str "other")) (fCons (fC (.str "")) fNil)))))]
      (kSeq (kIf (kVal (fEqD ["Web"] [("Web", 2, D_Web_eq)] false (fVar 0) (fC (.int 0)))) (kRet (fLst (fCons (fC (.str "told")) (fCons (fCall gShow (fCons (fMethD [("Web", 2, D_Web_neighbors)] (fVar 1) (fCons (fVar 2) fNil)) fNil)) fNil)))) kNext)
    (kSeq (kIf (kVal (fEqD ["Web"] [("Web", 2, D_Web_eq)] false (fVar 0) (fC (.int 1)))) (kRet (fLst (fCons (fC (.str "told")) (fCons (fCall gShow (fCons (fUn (gFld ["Web"] "ties") (fMethD [("Web", 3, D_Web_tied)] (fVar 1) (fCons (fVar 2) (fCons (fVar 3) fNil)))) fNil)) fNil)))) kNext)
    (kRet (fLst (fCons (fC (.str "told")) (fCons (fCall gShow (fCons (fUn (gFld ["Web"] "ties") (fMethD [("Web", 3, D_Web_untied)] (fVar 1) (fCons (fVar 2) (fCons (fVar 3) fNil)))) fNil)) fNil)))))))
def D_law_caught : FD := defD 5 B_law_caught
abbrev B_law_due : FS :=
  (kSeq (kFor (iVal (fSl (fLst (fCons (fVar 3) (fCons (fVar 4) fNil))) fNoPart (fPart (fOp gSub (fC (.int 2)) (fCall gInt (fCons (fEqD ["Web"] [("Web", 2, D_Web_eq)] false (fVar 0) (fC (.int 0))) fNil)))))) (tgN 5)
      (kIf (kVal (fOp gNotIn (fCall gShow (fCons (fVar 5) fNil)) (fLc (iRange1 (fCons (fVar 1) fNil)) (tgN 6) kYes (fCall gShow (fCons (fVar 6) fNil)) [6]))) (kRet (fLst (fCons (fC (.str "house")) (fCons (fCall gShow (fCons (fVar 5) fNil)) fNil)))) kNext))
    (kSeq (kIf (kVal (fEqD ["Web"] [("Web", 2, D_Web_eq)] false (fVar 0) (fC (.int 0)))) (kRet (fLst (fCons (fC (.str "told")) (fCons (fCall gShow (fCons (fLc (iRange1 (fCons (fVar 1) fNil)) (tgN 6) (kOr (kVal (fOp gIn (fTup (fCons (fVar 3) (fCons (fVar 6) fNil))) (fVar 2))) (kVal (fOp gIn (fTup (fCons (fVar 6) (fCons (fVar 3) fNil))) (fVar 2)))) (fVar 6) [6]) fNil)) fNil)))) kNext)
    (kSeq (kSet 7 (fCall gTuple (fCons (fCall gSortedX (fCons (fLst (fCons (fVar 3) (fCons (fVar 4) fNil))) fNil)) fNil)))
    (kSeq (kIf (kVal (fEqD ["Web"] [("Web", 2, D_Web_eq)] false (fVar 0) (fC (.int 1)))) (kSeq (kIf (kOr (kVal (fEqD ["Web"] [("Web", 2, D_Web_eq)] false (fVar 3) (fVar 4))) (kVal (fOp gIn (fVar 7) (fVar 2)))) (kRet (fLst (fCons (fC (.str "tie")) (fCons (fCall gShow (fCons (fTup (fCons (fVar 3) (fCons (fVar 4) fNil))) fNil)) fNil)))) kNext)
    (kRet (fLst (fCons (fC (.str "told")) (fCons (fCall gShow (fCons (fCall gTuple (fCons (fCall gSortedX (fCons (fOp gAdd (fVar 2) (fLst (fCons (fVar 7) fNil))) fNil)) fNil)) fNil)) fNil))))) kNext)
    (kSeq (kIf (kVal (fOp gNotIn (fVar 7) (fVar 2))) (kRet (fLst (fCons (fC (.str "tie")) (fCons (fCall gShow (fCons (fTup (fCons (fVar 3) (fCons (fVar 4) fNil))) fNil)) fNil)))) kNext)
    (kRet (fLst (fCons (fC (.str "told")) (fCons (fCall gShow (fCons (fCall gTuple (fCons (fLc (iVal (fVar 2)) (tgN 8) (kVal (fEqD ["Web"] [("Web", 2, D_Web_eq)] true (fVar 8) (fVar 7))) (fVar 8) [8]) fNil)) fNil)) fNil)))))))))
def D_law_due : FD := defD 9 B_law_due
abbrev B_law : FS :=
  (kSeq (kFor (iRange1 (fCons (fCall gMax (fCons (fC (.int 2)) (fCons (fCall gMin (fCons (fC (.int 8)) (fCons (fLenD [("Web", 1, D_Web_len)] (fCons (fVar 0) fNil)) fNil))) fNil))) fNil)) (tgN 1)
      (kSeq (kSetC 2 (fCallD 1 D_law_box (fCons (fCallD 2 D_law_cell_at (fCons (fVar 0) (fCons (fVar 1) fNil))) fNil)))
    (kSeq (kSet 3 (fOp gIx (fLst (fCons (fOp gAdd (fC (.int 1)) (fCallD 2 D_law_take (fCons (fVar 2) (fCons (fC (.int 12)) fNil)))) (fCons (fOp gAdd (fC (.int 31)) (fCallD 2 D_law_take (fCons (fVar 2) (fCons (fC (.int 10)) fNil)))) fNil))) (fCall gInt (fCons (fEqD ["Web"] [("Web", 2, D_Web_eq)] false (fCallD 2 D_law_take (fCons (fVar 2) (fCons (fC (.int 8)) fNil))) (fC (.int 0))) fNil))))
    (kSeq (kSet 4 (fCallD 2 D_law_ties (fCons (fVar 2) (fCons (fVar 3) fNil))))
    (kSeq (kSet 5 (fMakeD "Web" [] 3 D_Web_init (fCons (fVar 3) (fCons (fCall gList (fCons (fVar 4) fNil)) fNil))))
    (kSeq (kFor (iRange1 (fCons (fVar 3) fNil)) (tgN 6)
      (kSeq (kIf (kVal (fEqD ["Web"] [("Web", 2, D_Web_eq)] true (fCallD 4 D_law_caught (fCons (fC (.int 0)) (fCons (fVar 5) (fCons (fVar 6) (fCons (fC .non) fNil))))) (fCallD 5 D_law_due (fCons (fC (.int 0)) (fCons (fVar 3) (fCons (fVar 4) (fCons (fVar 6) (fCons (fC .non) fNil)))))))) (kRet (fC (.bl false))) kNext)
    (kExpr (fMut gAppend (fKeep (fMethD [("Web", 2, D_Web_neighbors)] (fVar 5) (fCons (fVar 6) fNil))) (fCons (fC (.int 99)) fNil)))))
    (kSeq (kSet 7 (fOp gAdd (fLst (fCons (fC .non) (fCons (fC (.bl true)) (fCons (fC (.bl false)) (fCons (fUn gNeg (fC (.int 1))) (fCons (fVar 3) (fCons (fC (.str "0")) (fCons (fLst (fCons (fC (.int 0)) fNil)) (fCons (fTup (fCons (fC (.int 0)) fNil)) (fCons (fDNew false) (fCons (fOp gPow (fC (.int 10)) (fC (.int 29))) fNil))))))))))) (fRg1 (fVar 3))))
    (kSeq (kFor (iRange1 (fCons (fC (.int 16)) fNil)) (tgN 8)
      (kSeq (kPar 9 10 (fCons (fOp gIx (fVar 7) (fCallD 2 D_law_take (fCons (fVar 2) (fCons (fLenD [("Web", 1, D_Web_len)] (fCons (fVar 7) fNil)) fNil)))) (fCons (fOp gIx (fVar 7) (fCallD 2 D_law_take (fCons (fVar 2) (fCons (fLenD [("Web", 1, D_Web_len)] (fCons (fVar 7) fNil)) fNil)))) fNil)))
    (kSeq (kIf (kAnd (kVal (fEqD ["Web"] [("Web", 2, D_Web_eq)] false (fCallD 2 D_law_take (fCons (fVar 2) (fCons (fC (.int 3)) fNil))) (fC (.int 0)))) (kVal (fEqD ["Web"] [("Web", 2, D_Web_eq)] true (fVar 4) (fLst fNil)))) (kAsg (tgT (tgCons (tgN 9) (tgCons (tgN 10) tgNil))) (fStep (fOp gIx (fVar 4) (fCallD 2 D_law_take (fCons (fVar 2) (fCons (fLenD [("Web", 1, D_Web_len)] (fCons (fVar 4) fNil)) fNil)))) (fOp gIx (fLst (fCons (fC (.int 1)) (fCons (fUn gNeg (fC (.int 1))) fNil))) (fCallD 2 D_law_take (fCons (fVar 2) (fCons (fC (.int 2)) fNil)))))) kNext)
    (kFor (iRange1 (fCons (fC (.int 3)) fNil)) (tgN 11)
      (kIf (kVal (fEqD ["Web"] [("Web", 2, D_Web_eq)] true (fCallD 4 D_law_caught (fCons (fVar 11) (fCons (fVar 5) (fCons (fVar 9) (fCons (fVar 10) fNil))))) (fCallD 5 D_law_due (fCons (fVar 11) (fCons (fVar 3) (fCons (fVar 4) (fCons (fVar 9) (fCons (fVar 10) fNil)))))))) (kRet (fC (.bl false))) kNext)))))
    (kSeq (kIf (kOr (kVal (fOp gNe (fUn (gFld ["Web"] "ties") (fVar 5)) (fCall gTuple (fCons (fVar 4) fNil)))) (kVal (fOp gNe (fUn (gFld ["Web"] "houses") (fVar 5)) (fVar 3)))) (kRet (fC (.bl false))) kNext)
    (kSeq (kSet 10 (fVar 5))
    (kSeq (kFor (iVal (fSl (fVar 4) fNoPart (fPart (fC (.int 4))))) (tgT (tgCons (tgN 9) (tgCons (tgN 6) tgNil)))
      (kSet 10 (fMethD [("Web", 3, D_Web_untied)] (fVar 10) (fCons (fVar 6) (fCons (fVar 9) fNil)))))
    (kSeq (kFor (iVal (fSl (fVar 4) fNoPart (fPart (fC (.int 4))))) (tgT (tgCons (tgN 9) (tgCons (tgN 6) tgNil)))
      (kSet 10 (fMethD [("Web", 3, D_Web_tied)] (fVar 10) (fCons (fVar 6) (fCons (fVar 9) fNil)))))
    (kSeq (kIf (kVal (fEqD ["Web"] [("Web", 2, D_Web_eq)] true (fVar 10) (fVar 5))) (kRet (fC (.bl false))) kNext)
    (kFor (iRange1 (fCons (fVar 3) fNil)) (tgN 6)
      (kIf (kVal (fEqD ["Web"] [("Web", 2, D_Web_eq)] true (fMethD [("Web", 2, D_Web_neighbors)] (fVar 5) (fCons (fVar 6) fNil)) (fMethD [("Web", 2, D_Web_neighbors)] (fVar 10) (fCons (fVar 6) fNil)))) (kRet (fC (.bl false))) kNext)))))))))))))))
    (kRet (fC (.bl true))))
def D_law : FD := defD 12 B_law
end Q05
namespace Q05
open PySem PySem.Spec PyProof.Rows L2 OP Evl
def topS (i : Nat) : Stmt := PySem.Challenge.pw_openposts_k05_neighbors_and_ties.main.body.getD i (.Pass ⟨0, 0, 0, 0⟩)
abbrev PP : Program := PySem.Challenge.pw_openposts_k05_neighbors_and_ties
abbrev s_init : Stmt := inClass (topS 2) 0
def initArg : Arg := (defArgs s_init).args.headD { arg := "self", annotation := none, pos := ⟨0, 0, 0, 0⟩ }
abbrev s_is_integer : Stmt := topS 10
abbrev N_is_integer : List Str := ["value"]
theorem sc_is_integer : FnScope N_is_integer ["value"] (defScope s_is_integer) := ⟨rfl, rfl, rfl, by decide +kernel, rfl, by decide +kernel, by decide +kernel⟩
abbrev s_check_number : Stmt := topS 15
abbrev N_check_number : List Str := ["houses"]
theorem sc_check_number : FnScope N_check_number ["houses"] (defScope s_check_number) := ⟨rfl, rfl, rfl, by decide +kernel, rfl, by decide +kernel, by decide +kernel⟩
abbrev s_Web_len : Stmt := inClass (topS 18) 1
abbrev N_Web_len : List Str := ["self"]
theorem sc_Web_len : FnScope N_Web_len ["self"] (defScope s_Web_len) := ⟨rfl, rfl, rfl, by decide +kernel, rfl, by decide +kernel, by decide +kernel⟩
abbrev s_is_house : Stmt := topS 13
abbrev N_is_house : List Str := ["houses", "value"]
theorem sc_is_house : FnScope N_is_house ["houses", "value"] (defScope s_is_house) := ⟨rfl, rfl, rfl, by decide +kernel, rfl, by decide +kernel, by decide +kernel⟩
abbrev s_is_tie : Stmt := topS 14
abbrev N_is_tie : List Str := ["houses", "value"]
theorem sc_is_tie : FnScope N_is_tie ["houses", "value"] (defScope s_is_tie) := ⟨rfl, rfl, rfl, by decide +kernel, rfl, by decide +kernel, by decide +kernel⟩
abbrev s_tie_of : Stmt := topS 16
abbrev N_tie_of : List Str := ["one", "other"]
theorem sc_tie_of : FnScope N_tie_of ["one", "other"] (defScope s_tie_of) := ⟨rfl, rfl, rfl, by decide +kernel, rfl, by decide +kernel, by decide +kernel⟩
abbrev s_beside_of : Stmt := topS 17
abbrev N_beside_of : List Str := ["houses", "known", "house", "other"]
theorem sc_beside_of : FnScope N_beside_of ["houses", "known", "house"] (defScope s_beside_of) := ⟨rfl, rfl, rfl, by decide +kernel, rfl, by decide +kernel, by decide +kernel⟩
abbrev s_Web_init : Stmt := inClass (topS 18) 0
abbrev N_Web_init : List Str := ["self", "houses", "ties", "tie", "house"]
theorem sc_Web_init : FnScope N_Web_init ["self", "houses", "ties"] (defScope s_Web_init) := ⟨rfl, rfl, rfl, by decide +kernel, rfl, by decide +kernel, by decide +kernel⟩
abbrev s_Web_eq : Stmt := inClass (topS 18) 3
abbrev N_Web_eq : List Str := ["self", "other"]
theorem sc_Web_eq : FnScope N_Web_eq ["self", "other"] (defScope s_Web_eq) := ⟨rfl, rfl, rfl, by decide +kernel, rfl, by decide +kernel, by decide +kernel⟩
abbrev s_law_box : Stmt := topS 24
abbrev N_law_box : List Str := ["_law_number"]
theorem sc_law_box : FnScope N_law_box ["_law_number"] (defScope s_law_box) := ⟨rfl, rfl, rfl, by decide +kernel, rfl, by decide +kernel, by decide +kernel⟩
abbrev s_law_take : Stmt := topS 25
abbrev N_law_take : List Str := ["_law_box_here", "_law_many", "_law_digit", "_law_number"]
theorem sc_law_take : FnScope N_law_take ["_law_box_here", "_law_many"] (defScope s_law_take) := ⟨rfl, rfl, rfl, by decide +kernel, rfl, by decide +kernel, by decide +kernel⟩
abbrev s_law_ties : Stmt := topS 26
abbrev N_law_ties : List Str := ["_law_box_here", "_law_many", "_law_share", "_law_found", "_law_one", "_law_other"]
theorem sc_law_ties : FnScope N_law_ties ["_law_box_here", "_law_many"] (defScope s_law_ties) := ⟨rfl, rfl, rfl, by decide +kernel, rfl, by decide +kernel, by decide +kernel⟩
abbrev s_law_cell_at : Stmt := topS 23
abbrev N_law_cell_at : List Str := ["_law_script", "_law_k"]
theorem sc_law_cell_at : FnScope N_law_cell_at ["_law_script", "_law_k"] (defScope s_law_cell_at) := ⟨rfl, rfl, rfl, by decide +kernel, rfl, by decide +kernel, by decide +kernel⟩
abbrev s_Web_check_house : Stmt := inClass (topS 18) 9
abbrev N_Web_check_house : List Str := ["self", "house"]
theorem sc_Web_check_house : FnScope N_Web_check_house ["self", "house"] (defScope s_Web_check_house) := ⟨rfl, rfl, rfl, by decide +kernel, rfl, by decide +kernel, by decide +kernel⟩
abbrev s_Web_untied : Stmt := inClass (topS 18) 12
abbrev N_Web_untied : List Str := ["self", "one", "other", "tie"]
theorem sc_Web_untied : FnScope N_Web_untied ["self", "one", "other"] (defScope s_Web_untied) := ⟨rfl, rfl, rfl, by decide +kernel, rfl, by decide +kernel, by decide +kernel⟩
abbrev s_Web_tied : Stmt := inClass (topS 18) 11
abbrev N_Web_tied : List Str := ["self", "one", "other"]
theorem sc_Web_tied : FnScope N_Web_tied ["self", "one", "other"] (defScope s_Web_tied) := ⟨rfl, rfl, rfl, by decide +kernel, rfl, by decide +kernel, by decide +kernel⟩
abbrev s_Web_neighbors : Stmt := inClass (topS 18) 10
abbrev N_Web_neighbors : List Str := ["self", "house"]
theorem sc_Web_neighbors : FnScope N_Web_neighbors ["self", "house"] (defScope s_Web_neighbors) := ⟨rfl, rfl, rfl, by decide +kernel, rfl, by decide +kernel, by decide +kernel⟩
abbrev s_law_caught : Stmt := topS 27
abbrev N_law_caught : List Str := ["_law_kind", "_law_web", "_law_one", "_law_other", "e"]
theorem sc_law_caught : FnScope N_law_caught ["_law_kind", "_law_web", "_law_one", "_law_other"] (defScope s_law_caught) := ⟨rfl, rfl, rfl, by decide +kernel, rfl, by decide +kernel, by decide +kernel⟩
abbrev s_law_due : Stmt := topS 28
abbrev N_law_due : List Str := ["_law_kind", "_law_many", "_law_ties_here", "_law_one", "_law_other", "_law_value", "_law_house", "_law_tie", "_law_row"]
theorem sc_law_due : FnScope N_law_due ["_law_kind", "_law_many", "_law_ties_here", "_law_one", "_law_other"] (defScope s_law_due) := ⟨rfl, rfl, rfl, by decide +kernel, rfl, by decide +kernel, by decide +kernel⟩
abbrev s_law : Stmt := topS 29
abbrev N_law : List Str := ["_law_script", "_law_k", "_law_box_here", "_law_many", "_law_ties_here", "_law_web", "_law_house", "_law_odd", "_law_turn", "_law_one", "_law_other", "_law_kind"]
theorem sc_law : FnScope N_law ["_law_script"] (defScope s_law) := ⟨rfl, rfl, rfl, by decide +kernel, rfl, by decide +kernel, by decide +kernel⟩
structure TX (K : PySem.W.Frag) (mg : Str → Option Value) : Type where
  C_Web : Addr
  gC_Web : mg "Web" = some (.ref C_Web)
  cl_Web : Cls K C_Web
  it_Web : InsT K C_Web
  kk_Web : PySem.W.kitOne K (.ref C_Web) (.ref C_Web) = some true
  na_Web_houses : NoAttr K C_Web "houses"
  na_Web_ties : NoAttr K C_Web "ties"
  na_Web_known : NoAttr K C_Web "known"
  na_Web_beside : NoAttr K C_Web "beside"
  f_is_integer : Addr
  d_is_integer : FuncData
  F_is_integer : Fun K "is_integer" "is_integer" s_is_integer f_is_integer d_is_integer
  b_is_integer : Binds K d_is_integer ["value"] []
  g_is_integer : mg "is_integer" = some (.ref f_is_integer)
  f_check_number : Addr
  d_check_number : FuncData
  F_check_number : Fun K "check_number" "check_number" s_check_number f_check_number d_check_number
  b_check_number : Binds K d_check_number ["houses"] []
  g_check_number : mg "check_number" = some (.ref f_check_number)
  f_Web_len : Addr
  d_Web_len : FuncData
  F_Web_len : Fun K "__len__" "Web.__len__" s_Web_len f_Web_len d_Web_len
  b_Web_len : Binds K d_Web_len ["self"] []
  o_Web_len : OwnM K C_Web "__len__" f_Web_len
  f_is_house : Addr
  d_is_house : FuncData
  F_is_house : Fun K "is_house" "is_house" s_is_house f_is_house d_is_house
  b_is_house : Binds K d_is_house ["houses", "value"] []
  g_is_house : mg "is_house" = some (.ref f_is_house)
  f_is_tie : Addr
  d_is_tie : FuncData
  F_is_tie : Fun K "is_tie" "is_tie" s_is_tie f_is_tie d_is_tie
  b_is_tie : Binds K d_is_tie ["houses", "value"] []
  g_is_tie : mg "is_tie" = some (.ref f_is_tie)
  f_tie_of : Addr
  d_tie_of : FuncData
  F_tie_of : Fun K "tie_of" "tie_of" s_tie_of f_tie_of d_tie_of
  b_tie_of : Binds K d_tie_of ["one", "other"] []
  g_tie_of : mg "tie_of" = some (.ref f_tie_of)
  f_beside_of : Addr
  d_beside_of : FuncData
  F_beside_of : Fun K "beside_of" "beside_of" s_beside_of f_beside_of d_beside_of
  b_beside_of : Binds K d_beside_of ["houses", "known", "house"] []
  g_beside_of : mg "beside_of" = some (.ref f_beside_of)
  f_Web_init : Addr
  d_Web_init : FuncData
  F_Web_init : DN.FunD K "__init__" "Web.__init__" s_Web_init f_Web_init d_Web_init
  e_Web_init : Addr
  bd_Web_init : Binds K d_Web_init ["self", "houses", "ties"] [.ref e_Web_init]
  on_Web_init : ∀ (Z : DN.Zt) (G : Hp), Z.K = K → DN.On Z G (.ktp []) (.ref e_Web_init)
  b_Web_init : Binds K d_Web_init ["self", "houses", "ties"] []
  mk_Web : Mk K C_Web f_Web_init
  f_Web_eq : Addr
  d_Web_eq : FuncData
  F_Web_eq : Fun K "__eq__" "Web.__eq__" s_Web_eq f_Web_eq d_Web_eq
  b_Web_eq : Binds K d_Web_eq ["self", "other"] []
  oe_Web : OwnE K C_Web f_Web_eq
  f_law_box : Addr
  d_law_box : FuncData
  F_law_box : Fun K "_law_box" "_law_box" s_law_box f_law_box d_law_box
  b_law_box : Binds K d_law_box ["_law_number"] []
  g_law_box : mg "_law_box" = some (.ref f_law_box)
  f_law_take : Addr
  d_law_take : FuncData
  F_law_take : Fun K "_law_take" "_law_take" s_law_take f_law_take d_law_take
  b_law_take : Binds K d_law_take ["_law_box_here", "_law_many"] []
  g_law_take : mg "_law_take" = some (.ref f_law_take)
  f_law_ties : Addr
  d_law_ties : FuncData
  F_law_ties : Fun K "_law_ties" "_law_ties" s_law_ties f_law_ties d_law_ties
  b_law_ties : Binds K d_law_ties ["_law_box_here", "_law_many"] []
  g_law_ties : mg "_law_ties" = some (.ref f_law_ties)
  f_law_cell_at : Addr
  d_law_cell_at : FuncData
  F_law_cell_at : Fun K "_law_cell_at" "_law_cell_at" s_law_cell_at f_law_cell_at d_law_cell_at
  b_law_cell_at : Binds K d_law_cell_at ["_law_script", "_law_k"] []
  g_law_cell_at : mg "_law_cell_at" = some (.ref f_law_cell_at)
  f_Web_check_house : Addr
  d_Web_check_house : FuncData
  F_Web_check_house : Fun K "check_house" "Web.check_house" s_Web_check_house f_Web_check_house d_Web_check_house
  b_Web_check_house : Binds K d_Web_check_house ["self", "house"] []
  m_Web_check_house : Meth K C_Web "check_house" f_Web_check_house
  f_Web_untied : Addr
  d_Web_untied : FuncData
  F_Web_untied : Fun K "untied" "Web.untied" s_Web_untied f_Web_untied d_Web_untied
  b_Web_untied : Binds K d_Web_untied ["self", "one", "other"] []
  m_Web_untied : Meth K C_Web "untied" f_Web_untied
  f_Web_tied : Addr
  d_Web_tied : FuncData
  F_Web_tied : Fun K "tied" "Web.tied" s_Web_tied f_Web_tied d_Web_tied
  b_Web_tied : Binds K d_Web_tied ["self", "one", "other"] []
  m_Web_tied : Meth K C_Web "tied" f_Web_tied
  f_Web_neighbors : Addr
  d_Web_neighbors : FuncData
  F_Web_neighbors : Fun K "neighbors" "Web.neighbors" s_Web_neighbors f_Web_neighbors d_Web_neighbors
  b_Web_neighbors : Binds K d_Web_neighbors ["self", "house"] []
  m_Web_neighbors : Meth K C_Web "neighbors" f_Web_neighbors
  f_law_caught : Addr
  d_law_caught : FuncData
  F_law_caught : Fun K "_law_caught" "_law_caught" s_law_caught f_law_caught d_law_caught
  b_law_caught : Binds K d_law_caught ["_law_kind", "_law_web", "_law_one", "_law_other"] []
  g_law_caught : mg "_law_caught" = some (.ref f_law_caught)
  f_law_due : Addr
  d_law_due : FuncData
  F_law_due : Fun K "_law_due" "_law_due" s_law_due f_law_due d_law_due
  b_law_due : Binds K d_law_due ["_law_kind", "_law_many", "_law_ties_here", "_law_one", "_law_other"] []
  g_law_due : mg "_law_due" = some (.ref f_law_due)
  f_law : Addr
  d_law : FuncData
  F_law : Fun K "law" "law" s_law f_law d_law
  b_law : Binds K d_law ["_law_script"] []
  g_law : mg "law" = some (.ref f_law)
  z_isinstance : mg "isinstance" = none
  z_int : mg "int" = none
  z_bool : mg "bool" = none
  z_len : mg "len" = none
  z_tuple : mg "tuple" = none
  z_min : mg "min" = none
  z_max : mg "max" = none
  z_range : mg "range" = none
  z_sorted : mg "sorted" = none
  z_all : mg "all" = none
  z_set : mg "set" = none
  z_list : mg "list" = none
  z_repr : mg "repr" = none
  t_MOST_HOUSES : Tok
  c_MOST_HOUSES : mg "MOST_HOUSES" = some (.int 40 t_MOST_HOUSES)
  kc_Web : PySem.W.kitOne K (.type "int") (.ref C_Web) = some false
  kb_Web_bool : PySem.W.kitOne K (.ref C_Web) (.type "bool") = some false
  kb_Web_int : PySem.W.kitOne K (.ref C_Web) (.type "int") = some false
  kb_Web_str : PySem.W.kitOne K (.ref C_Web) (.type "str") = some false
  kb_Web_list : PySem.W.kitOne K (.ref C_Web) (.type "list") = some false
  kb_Web_tuple : PySem.W.kitOne K (.ref C_Web) (.type "tuple") = some false
  kb_Web_dict : PySem.W.kitOne K (.ref C_Web) (.type "dict") = some false
  sm : (K.lookup sysModules).isSome = true
  D0 : Addr
  gD0 : mg "OpenpostsError" = some (.ref D0)
  fI : Addr
  dI : FuncData
  bI : Binds K dI ["self", "value"] []
  tI : PySem.W.typeIn K (.ref fI) = some (.type "function")
  okI : ∀ (w : World) (base : Heap) (CX : CXT), FnOk PP w K mg base CX 1 fI dI ["self", "value"] (spInit K D0)
  C_InvalidNumber : Addr
  gC_InvalidNumber : mg "InvalidNumber" = some (.ref C_InvalidNumber)
  oC_InvalidNumber : OpenC K D0 C_InvalidNumber
  eC_InvalidNumber : ExcC K C_InvalidNumber
  iC_InvalidNumber : PySem.W.findIn K (.ref C_InvalidNumber) "__init__" = some (some (.ref fI))
  C_InvalidTies : Addr
  gC_InvalidTies : mg "InvalidTies" = some (.ref C_InvalidTies)
  oC_InvalidTies : OpenC K D0 C_InvalidTies
  eC_InvalidTies : ExcC K C_InvalidTies
  iC_InvalidTies : PySem.W.findIn K (.ref C_InvalidTies) "__init__" = some (some (.ref fI))
  C_InvalidHouse : Addr
  gC_InvalidHouse : mg "InvalidHouse" = some (.ref C_InvalidHouse)
  oC_InvalidHouse : OpenC K D0 C_InvalidHouse
  eC_InvalidHouse : ExcC K C_InvalidHouse
  iC_InvalidHouse : PySem.W.findIn K (.ref C_InvalidHouse) "__init__" = some (some (.ref fI))
  C_InvalidTie : Addr
  gC_InvalidTie : mg "InvalidTie" = some (.ref C_InvalidTie)
  oC_InvalidTie : OpenC K D0 C_InvalidTie
  eC_InvalidTie : ExcC K C_InvalidTie
  iC_InvalidTie : PySem.W.findIn K (.ref C_InvalidTie) "__init__" = some (some (.ref fI))
  xm_InvalidNumber_InvalidHouse : PySem.W.exmOne K (.ref C_InvalidNumber) (.ref C_InvalidHouse) = some false
  xm_InvalidNumber_InvalidTie : PySem.W.exmOne K (.ref C_InvalidNumber) (.ref C_InvalidTie) = some false
  xm_InvalidNumber_OpenpostsError : PySem.W.exmOne K (.ref C_InvalidNumber) (.ref D0) = some true
  xm_InvalidTies_InvalidHouse : PySem.W.exmOne K (.ref C_InvalidTies) (.ref C_InvalidHouse) = some false
  xm_InvalidTies_InvalidTie : PySem.W.exmOne K (.ref C_InvalidTies) (.ref C_InvalidTie) = some false
  xm_InvalidTies_OpenpostsError : PySem.W.exmOne K (.ref C_InvalidTies) (.ref D0) = some true
  xm_InvalidHouse_InvalidHouse : PySem.W.exmOne K (.ref C_InvalidHouse) (.ref C_InvalidHouse) = some true
  xm_InvalidHouse_InvalidTie : PySem.W.exmOne K (.ref C_InvalidHouse) (.ref C_InvalidTie) = some false
  xm_InvalidHouse_OpenpostsError : PySem.W.exmOne K (.ref C_InvalidHouse) (.ref D0) = some true
  xm_InvalidTie_InvalidHouse : PySem.W.exmOne K (.ref C_InvalidTie) (.ref C_InvalidHouse) = some false
  xm_InvalidTie_InvalidTie : PySem.W.exmOne K (.ref C_InvalidTie) (.ref C_InvalidTie) = some true
  xm_InvalidTie_OpenpostsError : PySem.W.exmOne K (.ref C_InvalidTie) (.ref D0) = some true
open DN
def zt {K : PySem.W.Frag} {mg : Str → Option Value} (T : TX K mg) : Zx := ⟨⟨K, fun c => if c = "Web" then T.C_Web else if c = "InvalidNumber" then T.C_InvalidNumber else if c = "InvalidTies" then T.C_InvalidTies else if c = "InvalidHouse" then T.C_InvalidHouse else if c = "InvalidTie" then T.C_InvalidTie else if c = "OpenpostsError" then T.D0 else 0⟩, none⟩
section
variable {K : PySem.W.Frag} {mg : Str → Option Value}
theorem cm_Web (T : TX K mg) : (zt T).cm "Web" = T.C_Web := by simp [zt]
theorem gZ_Web (T : TX K mg) : mg "Web" = some (.ref ((zt T).cm "Web")) := by rw [cm_Web]; exact T.gC_Web
theorem clZ_Web (T : TX K mg) : Cls K ((zt T).cm "Web") := by rw [cm_Web]; exact T.cl_Web
theorem fd_Web_houses (T : TX K mg) : Fd (zt T) "houses" "Web" := ⟨clZ_Web T, by rw [cm_Web]; exact T.na_Web_houses⟩
theorem fd_Web_ties (T : TX K mg) : Fd (zt T) "ties" "Web" := ⟨clZ_Web T, by rw [cm_Web]; exact T.na_Web_ties⟩
theorem fd_Web_known (T : TX K mg) : Fd (zt T) "known" "Web" := ⟨clZ_Web T, by rw [cm_Web]; exact T.na_Web_known⟩
theorem fd_Web_beside (T : TX K mg) : Fd (zt T) "beside" "Web" := ⟨clZ_Web T, by rw [cm_Web]; exact T.na_Web_beside⟩
theorem oZ_Web_len (T : TX K mg) : OP.OwnM K ((zt T).cm "Web") "__len__" T.f_Web_len := by rw [cm_Web]; exact T.o_Web_len
theorem mkZ_Web (T : TX K mg) : Mk K ((zt T).cm "Web") T.f_Web_init := by rw [cm_Web]; exact T.mk_Web
theorem oeZ_Web (T : TX K mg) : OP.OwnE K ((zt T).cm "Web") T.f_Web_eq := by rw [cm_Web]; exact T.oe_Web
theorem mZ_Web_check_house (T : TX K mg) : Meth K ((zt T).cm "Web") "check_house" T.f_Web_check_house := by rw [cm_Web]; exact T.m_Web_check_house
theorem mZ_Web_untied (T : TX K mg) : Meth K ((zt T).cm "Web") "untied" T.f_Web_untied := by rw [cm_Web]; exact T.m_Web_untied
theorem mZ_Web_tied (T : TX K mg) : Meth K ((zt T).cm "Web") "tied" T.f_Web_tied := by rw [cm_Web]; exact T.m_Web_tied
theorem mZ_Web_neighbors (T : TX K mg) : Meth K ((zt T).cm "Web") "neighbors" T.f_Web_neighbors := by rw [cm_Web]; exact T.m_Web_neighbors
theorem cm_OpenpostsError (T : TX K mg) : (zt T).cm "OpenpostsError" = T.D0 := by simp [zt]
theorem gE_OpenpostsError (T : TX K mg) : mg "OpenpostsError" = some (.ref ((zt T).cm "OpenpostsError")) := by rw [cm_OpenpostsError]; exact T.gD0
theorem cm_InvalidNumber (T : TX K mg) : (zt T).cm "InvalidNumber" = T.C_InvalidNumber := by simp [zt]
theorem oE_InvalidNumber (T : TX K mg) : OpenC K T.D0 ((zt T).cm "InvalidNumber") := by rw [cm_InvalidNumber]; exact T.oC_InvalidNumber
theorem iE_InvalidNumber (T : TX K mg) : PySem.W.findIn K (.ref ((zt T).cm "InvalidNumber")) "__init__" = some (some (.ref T.fI)) := by rw [cm_InvalidNumber]; exact T.iC_InvalidNumber
theorem gE_InvalidNumber (T : TX K mg) : mg "InvalidNumber" = some (.ref ((zt T).cm "InvalidNumber")) := by rw [cm_InvalidNumber]; exact T.gC_InvalidNumber
theorem cm_InvalidTies (T : TX K mg) : (zt T).cm "InvalidTies" = T.C_InvalidTies := by simp [zt]
theorem oE_InvalidTies (T : TX K mg) : OpenC K T.D0 ((zt T).cm "InvalidTies") := by rw [cm_InvalidTies]; exact T.oC_InvalidTies
theorem iE_InvalidTies (T : TX K mg) : PySem.W.findIn K (.ref ((zt T).cm "InvalidTies")) "__init__" = some (some (.ref T.fI)) := by rw [cm_InvalidTies]; exact T.iC_InvalidTies
theorem gE_InvalidTies (T : TX K mg) : mg "InvalidTies" = some (.ref ((zt T).cm "InvalidTies")) := by rw [cm_InvalidTies]; exact T.gC_InvalidTies
theorem cm_InvalidHouse (T : TX K mg) : (zt T).cm "InvalidHouse" = T.C_InvalidHouse := by simp [zt]
theorem oE_InvalidHouse (T : TX K mg) : OpenC K T.D0 ((zt T).cm "InvalidHouse") := by rw [cm_InvalidHouse]; exact T.oC_InvalidHouse
theorem iE_InvalidHouse (T : TX K mg) : PySem.W.findIn K (.ref ((zt T).cm "InvalidHouse")) "__init__" = some (some (.ref T.fI)) := by rw [cm_InvalidHouse]; exact T.iC_InvalidHouse
theorem gE_InvalidHouse (T : TX K mg) : mg "InvalidHouse" = some (.ref ((zt T).cm "InvalidHouse")) := by rw [cm_InvalidHouse]; exact T.gC_InvalidHouse
theorem cm_InvalidTie (T : TX K mg) : (zt T).cm "InvalidTie" = T.C_InvalidTie := by simp [zt]
theorem oE_InvalidTie (T : TX K mg) : OpenC K T.D0 ((zt T).cm "InvalidTie") := by rw [cm_InvalidTie]; exact T.oC_InvalidTie
theorem iE_InvalidTie (T : TX K mg) : PySem.W.findIn K (.ref ((zt T).cm "InvalidTie")) "__init__" = some (some (.ref T.fI)) := by rw [cm_InvalidTie]; exact T.iC_InvalidTie
theorem gE_InvalidTie (T : TX K mg) : mg "InvalidTie" = some (.ref ((zt T).cm "InvalidTie")) := by rw [cm_InvalidTie]; exact T.gC_InvalidTie
theorem xfall (T : TX K mg) : AllC (fun c => XfC K ((zt T).cm c) ∧ PySem.W.findIn K (.ref ((zt T).cm c)) "value" = some none) errs := (AllC.cons (by rw [cm_InvalidNumber]; exact ⟨⟨T.eC_InvalidNumber.hg, T.eC_InvalidNumber.hk, T.eC_InvalidNumber.hs, T.eC_InvalidNumber.hd⟩, T.oC_InvalidNumber.nov⟩) (AllC.cons (by rw [cm_InvalidTies]; exact ⟨⟨T.eC_InvalidTies.hg, T.eC_InvalidTies.hk, T.eC_InvalidTies.hs, T.eC_InvalidTies.hd⟩, T.oC_InvalidTies.nov⟩) (AllC.cons (by rw [cm_InvalidHouse]; exact ⟨⟨T.eC_InvalidHouse.hg, T.eC_InvalidHouse.hk, T.eC_InvalidHouse.hs, T.eC_InvalidHouse.hd⟩, T.oC_InvalidHouse.nov⟩) (AllC.cons (by rw [cm_InvalidTie]; exact ⟨⟨T.eC_InvalidTie.hg, T.eC_InvalidTie.hk, T.eC_InvalidTie.hs, T.eC_InvalidTie.hd⟩, T.oC_InvalidTie.nov⟩) AllC.nil))))
theorem xall_0 (T : TX K mg) : AllC (fun c => AllC (fun n => PySem.W.exmOne K (.ref ((zt T).cm c)) (.ref ((zt T).cm n)) = some (n == c || n == "OpenpostsError")) ["InvalidHouse", "InvalidTie", "OpenpostsError"]) errs := (AllC.cons (AllC.cons (by simp only [cm_InvalidNumber, cm_InvalidHouse]; exact T.xm_InvalidNumber_InvalidHouse.trans (by decide)) (AllC.cons (by simp only [cm_InvalidNumber, cm_InvalidTie]; exact T.xm_InvalidNumber_InvalidTie.trans (by decide)) (AllC.cons (by simp only [cm_InvalidNumber, cm_OpenpostsError]; exact T.xm_InvalidNumber_OpenpostsError.trans (by decide)) AllC.nil))) (AllC.cons (AllC.cons (by simp only [cm_InvalidTies, cm_InvalidHouse]; exact T.xm_InvalidTies_InvalidHouse.trans (by decide)) (AllC.cons (by simp only [cm_InvalidTies, cm_InvalidTie]; exact T.xm_InvalidTies_InvalidTie.trans (by decide)) (AllC.cons (by simp only [cm_InvalidTies, cm_OpenpostsError]; exact T.xm_InvalidTies_OpenpostsError.trans (by decide)) AllC.nil))) (AllC.cons (AllC.cons (by simp only [cm_InvalidHouse, cm_InvalidHouse]; exact T.xm_InvalidHouse_InvalidHouse.trans (by decide)) (AllC.cons (by simp only [cm_InvalidHouse, cm_InvalidTie]; exact T.xm_InvalidHouse_InvalidTie.trans (by decide)) (AllC.cons (by simp only [cm_InvalidHouse, cm_OpenpostsError]; exact T.xm_InvalidHouse_OpenpostsError.trans (by decide)) AllC.nil))) (AllC.cons (AllC.cons (by simp only [cm_InvalidTie, cm_InvalidHouse]; exact T.xm_InvalidTie_InvalidHouse.trans (by decide)) (AllC.cons (by simp only [cm_InvalidTie, cm_InvalidTie]; exact T.xm_InvalidTie_InvalidTie.trans (by decide)) (AllC.cons (by simp only [cm_InvalidTie, cm_OpenpostsError]; exact T.xm_InvalidTie_OpenpostsError.trans (by decide)) AllC.nil))) AllC.nil))))
theorem csok (T : TX K mg) : CsOk (zt T) ["Web"] := ⟨(AllC.cons ⟨clZ_Web T, by rw [cm_Web]; exact T.it_Web, by rw [cm_Web]; exact T.kc_Web, (AllC.cons (by rw [cm_Web]; exact T.kb_Web_bool) (AllC.cons (by rw [cm_Web]; exact T.kb_Web_int) (AllC.cons (by rw [cm_Web]; exact T.kb_Web_str) (AllC.cons (by rw [cm_Web]; exact T.kb_Web_list) (AllC.cons (by rw [cm_Web]; exact T.kb_Web_tuple) (AllC.cons (by rw [cm_Web]; exact T.kb_Web_dict) AllC.nil))))))⟩ AllC.nil), (AllC.cons (AllC.cons (.inl rfl) AllC.nil) AllC.nil)⟩
end
section
variable {w : World} {K : PySem.W.Frag} {mg : Str → Option Value} {base : Heap}
theorem G_is_integer {b : Bool} (T : TX K mg) : FnG b PP w K mg base (L2.CX PP w) 1 T.f_is_integer T.d_is_integer ["value"] (spD (zt T) 1 D_is_integer) :=
  fn_d (Z := zt T) (K := K) (N := N_is_integer) (fb := B_is_integer) (DN.Fun.d T.F_is_integer) sc_is_integer fun cdv A outer s H E hr =>
    (psf_one (psf_ret (pf_and (pf_callB (cd_isi (csok T) rfl) (by rfl) T.z_isinstance (by decide +kernel) (paf_cons (pf_var 0) (paf_cons (pf_bltn (v := .ty "int") (u := .type "int") (by rfl) T.z_int (by decide +kernel) rfl (fun _ => on_ty)) paf_nil))) (pf_one (pf_not (pf_callB (cd_isi (csok T) rfl) (by rfl) T.z_isinstance (by decide +kernel) (paf_cons (pf_var 0) (paf_cons (pf_bltn (v := .ty "bool") (u := .type "bool") (by rfl) T.z_bool (by decide +kernel) rfl (fun _ => on_ty)) paf_nil))))))))
theorem G_check_number {b : Bool} (T : TX K mg) : FnG b PP w K mg base (L2.CX PP w) 3 T.f_check_number T.d_check_number ["houses"] (spD (zt T) 1 D_check_number) :=
  fn_d (Z := zt T) (K := K) (N := N_check_number) (fb := B_check_number) (DN.Fun.d T.F_check_number) sc_check_number fun cdv A outer s H E hr =>
    (psf_one (psf_if (ptf_w (pwf_or (ptf_not (ptf_val (pf_call (G_is_integer T) (hr.mono (by decide)) tkd (by rfl) T.g_is_integer T.F_is_integer.kp T.b_is_integer (paf_cons (pf_var 0) paf_nil)))) (pwf_one (ptf_not (ptf_chain od_le od_le pf_int (pf_var 0) (pf_glob (v := .int 40) rfl T.c_MOST_HOUSES ⟨_, rfl⟩ (fun _ => on_int))))))) (psf_one (psf_raise rfl tkd (oE_InvalidNumber T) (iE_InvalidNumber T) T.tI (T.okI _ _ _) (hr.mono (by decide)) T.bI (by rfl) (gE_InvalidNumber T) (pf_var 0))) psf_nil))
theorem G_Web_len {b : Bool} (T : TX K mg) : FnG b PP w K mg base (L2.CX PP w) 1 T.f_Web_len T.d_Web_len ["self"] (spD (zt T) 1 D_Web_len) :=
  fn_d (Z := zt T) (K := K) (N := N_Web_len) (fb := B_Web_len) (DN.Fun.d T.F_Web_len) sc_Web_len fun cdv A outer s H E hr =>
    (psf_one (psf_ret (pf_callB (cd_len rfl) (by rfl) T.z_len (by decide +kernel) (paf_cons (pf_fld ["Web"] rfl (AllC.cons (fd_Web_ties T) AllC.nil) (pf_var 0)) paf_nil))))
theorem G_is_house {b : Bool} (T : TX K mg) : FnG b PP w K mg base (L2.CX PP w) 2 T.f_is_house T.d_is_house ["houses", "value"] (spD (zt T) 2 D_is_house) :=
  fn_d (Z := zt T) (K := K) (N := N_is_house) (fb := B_is_house) (DN.Fun.d T.F_is_house) sc_is_house fun cdv A outer s H E hr =>
    (psf_one (psf_ret (pf_and (pf_call (G_is_integer T) (hr.mono (by decide)) tkd (by rfl) T.g_is_integer T.F_is_integer.kp T.b_is_integer (paf_cons (pf_var 1) paf_nil)) (pf_one (pf_chain od_le od_lt pf_int (pf_var 1) (pf_var 0))))))
theorem G_is_tie {b : Bool} (T : TX K mg) : FnG b PP w K mg base (L2.CX PP w) 4 T.f_is_tie T.d_is_tie ["houses", "value"] (spD (zt T) 2 D_is_tie) :=
  fn_d (Z := zt T) (K := K) (N := N_is_tie) (fb := B_is_tie) (DN.Fun.d T.F_is_tie) sc_is_tie fun cdv A outer s H E hr =>
    (psf_cons (psf_if (ptf_w (pwf_or (ptf_not (ptf_val (pf_callB (cd_isi (csok T) rfl) (by rfl) T.z_isinstance (by decide +kernel) (paf_cons (pf_var 1) (paf_cons (pf_bltn (v := .ty "tuple") (u := .type "tuple") (by rfl) T.z_tuple (by decide +kernel) rfl (fun _ => on_ty)) paf_nil))))) (pwf_one (ptf_cmp (od_ne hr.u64 rfl) (pf_lenO (AllM.cons ⟨⟨⟨_, _, _, _, _, hr.mono (by decide), oZ_Web_len T, G_Web_len T, T.b_Web_len⟩⟩⟩ AllM.nil) rfl (by rfl) T.z_len (paf_cons (pf_var 1) paf_nil)) pf_int (nomark _))))) (psf_one (psf_ret pf_bl)) psf_nil)
    (psf_one (psf_ret (pf_and (pf_call (G_is_house T) (hr.mono (by decide)) tkd (by rfl) T.g_is_house T.F_is_house.kp T.b_is_house (paf_cons (pf_var 0) (paf_cons (pf_ix (ix_d hr.u1 rfl) (pf_var 1) pf_int) paf_nil))) (pf_and (pf_call (G_is_house T) (hr.mono (by decide)) tkd (by rfl) T.g_is_house T.F_is_house.kp T.b_is_house (paf_cons (pf_var 0) (paf_cons (pf_ix (ix_d hr.u1 rfl) (pf_var 1) pf_int) paf_nil))) (pf_one (pf_cmp od_lt (pf_ix (ix_d hr.u1 rfl) (pf_var 1) pf_int) (pf_ix (ix_d hr.u1 rfl) (pf_var 1) pf_int) (nomark _))))))))
theorem G_tie_of {b : Bool} (T : TX K mg) : FnG b PP w K mg base (L2.CX PP w) 1 T.f_tie_of T.d_tie_of ["one", "other"] (spD (zt T) 2 D_tie_of) :=
  fn_d (Z := zt T) (K := K) (N := N_tie_of) (fb := B_tie_of) (DN.Fun.d T.F_tie_of) sc_tie_of fun cdv A outer s H E hr =>
    (psf_one (psf_ret (pf_tup (paf_cons (pf_callB (cd_min rfl rfl) (by rfl) T.z_min (by decide +kernel) (paf_cons (pf_var 0) (paf_cons (pf_var 1) paf_nil))) (paf_cons (pf_callB (cd_max rfl rfl) (by rfl) T.z_max (by decide +kernel) (paf_cons (pf_var 0) (paf_cons (pf_var 1) paf_nil))) paf_nil)))))
theorem G_beside_of {b : Bool} (T : TX K mg) : FnG b PP w K mg base (L2.CX PP w) 2 T.f_beside_of T.d_beside_of ["houses", "known", "house"] (spD (zt T) 3 D_beside_of) :=
  fn_d (Z := zt T) (K := K) (N := N_beside_of) (fb := B_beside_of) (DN.Fun.d T.F_beside_of) sc_beside_of fun cdv A outer s H E hr =>
    (psf_one (psf_ret (pf_lc (own := [("other", 3)]) rfl sc_beside_of.nd (pif_range1 (by rfl) T.z_range (paf_cons (pf_var 0) paf_nil)) (blkOk_by (N := N_beside_of) (sc := defScope s_beside_of) (by decide +kernel)) (fun _ _ _ _ _ => (pgf_name 3 sc_beside_of.nd rfl (by first | exact .inl rfl | exact .inr rfl))) (fun _ _ _ _ _ => (ptsf_one (ptf_cmp (od_in2 hr.u65 rfl) (pf_call (G_tie_of T) (hr.mono (by decide)) tk0 (by rfl) T.g_tie_of T.F_tie_of.kp T.b_tie_of (paf_cons (pf_var 2) (paf_cons (pf_var 3) paf_nil))) (pf_var 1) (by rfl)))) (fun _ _ _ _ _ => (pf_var 3)))))
theorem G_Web_init {b : Bool} (T : TX K mg) : FnG b PP w K mg base (L2.CX PP w) 5 T.f_Web_init T.d_Web_init ["self", "houses", "ties"] (spD (zt T) 3 D_Web_init) :=
  fn_d (Z := zt T) (K := K) (N := N_Web_init) (fb := B_Web_init) T.F_Web_init sc_Web_init fun cdv A outer s H E hr =>
    (psf_cons (psf_expr (pf_call (G_check_number T) (hr.mono (by decide)) tkd (by rfl) T.g_check_number T.F_check_number.kp T.b_check_number (paf_cons (pf_var 1) paf_nil)))
    (psf_cons (psf_if (ptf_w (pwf_or (ptf_not (ptf_val (pf_callB (cd_isi (csok T) rfl) (by rfl) T.z_isinstance (by decide +kernel) (paf_cons (pf_var 2) (paf_cons (pf_tup (paf_cons (pf_bltn (v := .ty "list") (u := .type "list") (by rfl) T.z_list (by decide +kernel) rfl (fun _ => on_ty)) (paf_cons (pf_bltn (v := .ty "tuple") (u := .type "tuple") (by rfl) T.z_tuple (by decide +kernel) rfl (fun _ => on_ty)) paf_nil))) paf_nil))))) (pwf_one (ptf_not (ptf_val (pf_callB (cd_all rfl) (by rfl) T.z_all (by decide +kernel) (paf_cons (pf_lc (own := [("tie", 3)]) rfl sc_Web_init.nd (pif_val rfl (pf_var 2)) (blkOk_by (N := N_Web_init) (sc := defScope s_Web_init) (by decide +kernel)) (fun _ _ _ _ _ => (pgf_name 3 sc_Web_init.nd rfl (by first | exact .inl rfl | exact .inr rfl))) (fun _ _ _ _ _ => ptsf_nil) (fun _ _ _ _ _ => (pf_call (G_is_tie T) (hr.mono (by decide)) tk0 (by rfl) T.g_is_tie T.F_is_tie.kp T.b_is_tie (paf_cons (pf_var 1) (paf_cons (pf_var 3) paf_nil))))) paf_nil))))))) (psf_one (psf_raise rfl tkd (oE_InvalidTies T) (iE_InvalidTies T) T.tI (T.okI _ _ _) (hr.mono (by decide)) T.bI (by rfl) (gE_InvalidTies T) (pf_var 2))) psf_nil)
    (psf_cons (psf_fld ["Web"] rfl (AllC.cons (fd_Web_houses T) AllC.nil) (pf_var 0) (pf_var 1))
    (psf_cons (psf_fld ["Web"] rfl (AllC.cons (fd_Web_ties T) AllC.nil) (pf_var 0) (pf_callT cd_tuple (by rfl) T.z_tuple (by decide +kernel) (paf_cons (pf_sortSetB rfl hr.u64 rfl (by rfl) T.z_sorted (by rfl) T.z_set (pf_var 2)) paf_nil)))
    (psf_cons (psf_fld ["Web"] rfl (AllC.cons (fd_Web_known T) AllC.nil) (pf_var 0) (pf_dc (own := [("tie", 3)]) rfl hr.u0 sc_Web_init.nd (pif_val rfl (pf_fld ["Web"] rfl (AllC.cons (fd_Web_ties T) AllC.nil) (pf_var 0))) (blkOk_by (N := N_Web_init) (sc := defScope s_Web_init) (by decide +kernel)) (fun _ _ _ _ _ => (pgf_name 3 sc_Web_init.nd rfl (by first | exact .inl rfl | exact .inr rfl))) (fun _ _ _ _ _ => (pf_var 3)) (fun _ _ _ _ _ => pf_bl)))
    (psf_one (psf_fld ["Web"] rfl (AllC.cons (fd_Web_beside T) AllC.nil) (pf_var 0) (pf_lc (own := [("house", 4)]) rfl sc_Web_init.nd (pif_range1 (by rfl) T.z_range (paf_cons (pf_var 1) paf_nil)) (blkOk_by (N := N_Web_init) (sc := defScope s_Web_init) (by decide +kernel)) (fun _ _ _ _ _ => (pgf_name 4 sc_Web_init.nd rfl (by first | exact .inl rfl | exact .inr rfl))) (fun _ _ _ _ _ => ptsf_nil) (fun _ _ _ _ _ => (pf_call (G_beside_of T) (hr.mono (by decide)) tk0 (by rfl) T.g_beside_of T.F_beside_of.kp T.b_beside_of (paf_cons (pf_var 1) (paf_cons (pf_fld ["Web"] rfl (AllC.cons (fd_Web_known T) AllC.nil) (pf_var 0)) (paf_cons (pf_var 4) paf_nil)))))))))))))
theorem G_Web_eq {b : Bool} (T : TX K mg) : FnG b PP w K mg base (L2.CX PP w) 1 T.f_Web_eq T.d_Web_eq ["self", "other"] (spD (zt T) 2 D_Web_eq) :=
  fn_d (Z := zt T) (K := K) (N := N_Web_eq) (fb := B_Web_eq) (DN.Fun.d T.F_Web_eq) sc_Web_eq fun cdv A outer s H E hr =>
    (psf_one (psf_ret (pf_and (pf_callB (cd_isi (csok T) rfl) (by rfl) T.z_isinstance (by decide +kernel) (paf_cons (pf_var 1) (paf_cons (pf_glob (v := .ref _) rfl (gZ_Web T) rfl (fun _ => on_cls)) paf_nil))) (pf_and (pf_cmp (od_eq hr.u64 rfl) (pf_fld ["Web"] rfl (AllC.cons (fd_Web_houses T) AllC.nil) (pf_var 0)) (pf_fld ["Web"] rfl (AllC.cons (fd_Web_houses T) AllC.nil) (pf_var 1)) (nomark _)) (pf_one (pf_cmp (od_eq hr.u64 rfl) (pf_fld ["Web"] rfl (AllC.cons (fd_Web_ties T) AllC.nil) (pf_var 0)) (pf_fld ["Web"] rfl (AllC.cons (fd_Web_ties T) AllC.nil) (pf_var 1)) (nomark _)))))))
theorem G_law_box {b : Bool} (T : TX K mg) : FnG b PP w K mg base (L2.CX PP w) 1 T.f_law_box T.d_law_box ["_law_number"] (spD (zt T) 1 D_law_box) :=
  fn_d (Z := zt T) (K := K) (N := N_law_box) (fb := B_law_box) (DN.Fun.d T.F_law_box) sc_law_box fun cdv A outer s H E hr =>
    (psf_one (psf_ret (pf_lst (paf_cons (pf_callB (cd_max rfl rfl) (by rfl) T.z_max (by decide +kernel) (paf_cons pf_int (paf_cons (pf_op od_sub (pf_var 0) (pf_op od_pow pf_int pf_int)) paf_nil))) (paf_cons (pf_op od_mod (pf_var 0) pf_int) (paf_cons pf_int paf_nil))))))
theorem G_law_take {b : Bool} (T : TX K mg) : FnG b PP w K mg base (L2.CX PP w) 1 T.f_law_take T.d_law_take ["_law_box_here", "_law_many"] (spD (zt T) 2 D_law_take) :=
  fn_d (Z := zt T) (K := K) (N := N_law_take) (fb := B_law_take) (DN.Fun.d T.F_law_take) sc_law_take fun cdv A outer s H E hr =>
    (psf_cons (psf_if (ptf_cmp od_gt (pf_ix (ix_d hr.u1 rfl) (pf_var 0) pf_int) pf_int (nomark _)) (psf_cons (psf_set 2 sc_law_take.nd rfl (.inl rfl) (pf_op od_mod (pf_ix (ix_d hr.u1 rfl) (pf_var 0) pf_int) (pf_var 1)))
    (psf_cons (psf_sub (pf_var 0) pf_int (pf_op od_div (pf_ix (ix_d hr.u1 rfl) (pf_var 0) pf_int) (pf_var 1)))
    (psf_one (psf_ret (pf_var 2))))) psf_nil)
    (psf_cons (psf_sub (pf_var 0) pf_int (pf_op (od_add rfl) (pf_ix (ix_d hr.u1 rfl) (pf_var 0) pf_int) pf_int))
    (psf_cons (psf_set 3 sc_law_take.nd rfl (.inl rfl) (pf_op od_mod (pf_op od_pow (pf_op (od_add rfl) (pf_op (od_add rfl) (pf_ix (ix_d hr.u1 rfl) (pf_var 0) pf_int) (pf_op od_mul pf_int (pf_ix (ix_d hr.u1 rfl) (pf_var 0) pf_int))) pf_int) pf_int) pf_int))
    (psf_cons (psf_set 3 sc_law_take.nd rfl (.inl rfl) (pf_op od_mod (pf_op od_pow (pf_op (od_add rfl) (pf_var 3) (pf_op od_mul pf_int (pf_ix (ix_d hr.u1 rfl) (pf_var 0) pf_int))) pf_int) pf_int))
    (psf_one (psf_ret (pf_op od_mod (pf_op od_div (pf_var 3) pf_int) (pf_var 1))))))))
theorem G_law_ties {b : Bool} (T : TX K mg) : FnG b PP w K mg base (L2.CX PP w) 2 T.f_law_ties T.d_law_ties ["_law_box_here", "_law_many"] (spD (zt T) 2 D_law_ties) :=
  fn_d (Z := zt T) (K := K) (N := N_law_ties) (fb := B_law_ties) (DN.Fun.d T.F_law_ties) sc_law_ties fun cdv A outer s H E hr =>
    (psf_cons (psf_asg (pf_tup (paf_cons (pf_op (od_add rfl) pf_int (pf_call (G_law_take T) (hr.mono (by decide)) tkd (by rfl) T.g_law_take T.F_law_take.kp T.b_law_take (paf_cons (pf_var 0) (paf_cons pf_int paf_nil)))) (paf_cons (pf_lst paf_nil) paf_nil))) (pgf_tup rfl rfl (pgfs_cons (pgf_name 2 sc_law_ties.nd rfl (.inr rfl)) (pgfs_cons (pgf_name 3 sc_law_ties.nd rfl (.inl rfl)) pgfs_nil))))
    (psf_cons (psf_for pod rfl (pif_range1 (by rfl) T.z_range (paf_cons (pf_var 1) paf_nil)) (pgf_name 4 sc_law_ties.nd rfl (.inr rfl))
      (psf_one (psf_set 3 sc_law_ties.nd rfl (.inl rfl) (pf_op (od_add rfl) (pf_var 3) (pf_lc (own := [("_law_other", 5)]) rfl sc_law_ties.nd (pif_range2 (by rfl) T.z_range (paf_cons (pf_op (od_add rfl) (pf_var 4) pf_int) (paf_cons (pf_var 1) paf_nil))) (blkOk_by (N := N_law_ties) (sc := defScope s_law_ties) (by decide +kernel)) (fun _ _ _ _ _ => (pgf_name 5 sc_law_ties.nd rfl (by first | exact .inl rfl | exact .inr rfl))) (fun _ _ _ _ _ => (ptsf_one (ptf_cmp od_lt (pf_call (G_law_take T) (hr.mono (by decide)) tk0 (by rfl) T.g_law_take T.F_law_take.kp T.b_law_take (paf_cons (pf_var 0) (paf_cons pf_int paf_nil))) (pf_var 2) (nomark _)))) (fun _ _ _ _ _ => (pf_tup (paf_cons (pf_var 4) (paf_cons (pf_var 5) paf_nil)))))))))
    (psf_one (psf_ret (pf_var 3)))))
theorem G_law_cell_at {b : Bool} (T : TX K mg) : FnG b PP w K mg base (L2.CX PP w) 4 T.f_law_cell_at T.d_law_cell_at ["_law_script", "_law_k"] (spD (zt T) 2 D_law_cell_at) :=
  fn_d (Z := zt T) (K := K) (N := N_law_cell_at) (fb := B_law_cell_at) (DN.Fun.d T.F_law_cell_at) sc_law_cell_at fun cdv A outer s H E hr =>
    (psf_one (psf_ret (pf_if (ptf_cmp od_lt (pf_var 1) (pf_lenO (AllM.cons ⟨⟨⟨_, _, _, _, _, hr.mono (by decide), oZ_Web_len T, G_Web_len T, T.b_Web_len⟩⟩⟩ AllM.nil) rfl (by rfl) T.z_len (paf_cons (pf_var 0) paf_nil)) (nomark _)) (pf_ix (ix_d hr.u1 rfl) (pf_var 0) (pf_var 1)) (pf_op (od_add rfl) (pf_op od_mul pf_int (pf_var 1)) pf_int))))
theorem G_Web_check_house {b : Bool} (T : TX K mg) : FnG b PP w K mg base (L2.CX PP w) 3 T.f_Web_check_house T.d_Web_check_house ["self", "house"] (spD (zt T) 2 D_Web_check_house) :=
  fn_d (Z := zt T) (K := K) (N := N_Web_check_house) (fb := B_Web_check_house) (DN.Fun.d T.F_Web_check_house) sc_Web_check_house fun cdv A outer s H E hr =>
    (psf_one (psf_if (ptf_not (ptf_val (pf_call (G_is_house T) (hr.mono (by decide)) tkd (by rfl) T.g_is_house T.F_is_house.kp T.b_is_house (paf_cons (pf_fld ["Web"] rfl (AllC.cons (fd_Web_houses T) AllC.nil) (pf_var 0)) (paf_cons (pf_var 1) paf_nil))))) (psf_one (psf_raise rfl tkd (oE_InvalidHouse T) (iE_InvalidHouse T) T.tI (T.okI _ _ _) (hr.mono (by decide)) T.bI (by rfl) (gE_InvalidHouse T) (pf_var 1))) psf_nil))
theorem G_Web_untied {b : Bool} (T : TX K mg) : FnG b PP w K mg base (L2.CX PP w) 7 T.f_Web_untied T.d_Web_untied ["self", "one", "other"] (spD (zt T) 3 D_Web_untied) :=
  fn_d (Z := zt T) (K := K) (N := N_Web_untied) (fb := B_Web_untied) (DN.Fun.d T.F_Web_untied) sc_Web_untied fun cdv A outer s H E hr =>
    (psf_cons (psf_expr (pf_methD tkd (AllM.cons ⟨⟨⟨_, _, _, _, _, hr.mono (by decide), clZ_Web T, mZ_Web_check_house T, G_Web_check_house T, T.b_Web_check_house⟩⟩, by decide⟩ AllM.nil) (pf_var 0) (paf_cons (pf_var 1) paf_nil)))
    (psf_cons (psf_expr (pf_methD tkd (AllM.cons ⟨⟨⟨_, _, _, _, _, hr.mono (by decide), clZ_Web T, mZ_Web_check_house T, G_Web_check_house T, T.b_Web_check_house⟩⟩, by decide⟩ AllM.nil) (pf_var 0) (paf_cons (pf_var 2) paf_nil)))
    (psf_cons (psf_if (ptf_cmp (od_notin2 hr.u65 rfl) (pf_call (G_tie_of T) (hr.mono (by decide)) tkd (by rfl) T.g_tie_of T.F_tie_of.kp T.b_tie_of (paf_cons (pf_var 1) (paf_cons (pf_var 2) paf_nil))) (pf_fld ["Web"] rfl (AllC.cons (fd_Web_known T) AllC.nil) (pf_var 0)) (by rfl)) (psf_one (psf_raise rfl tkd (oE_InvalidTie T) (iE_InvalidTie T) T.tI (T.okI _ _ _) (hr.mono (by decide)) T.bI (by rfl) (gE_InvalidTie T) (pf_tup (paf_cons (pf_var 1) (paf_cons (pf_var 2) paf_nil))))) psf_nil)
    (psf_one (psf_ret (pf_make ⟨⟨_, _, _, _, _, _, _, hr.mono (by decide), mkZ_Web T, G_Web_init T, T.b_Web_init, .nil, fun _ => OnL.nil'⟩⟩ tkd (by rfl) (gZ_Web T) (paf_cons (pf_fld ["Web"] rfl (AllC.cons (fd_Web_houses T) AllC.nil) (pf_var 0)) (paf_cons (pf_lc (own := [("tie", 3)]) rfl sc_Web_untied.nd (pif_val rfl (pf_fld ["Web"] rfl (AllC.cons (fd_Web_ties T) AllC.nil) (pf_var 0))) (blkOk_by (N := N_Web_untied) (sc := defScope s_Web_untied) (by decide +kernel)) (fun _ _ _ _ _ => (pgf_name 3 sc_Web_untied.nd rfl (by first | exact .inl rfl | exact .inr rfl))) (fun _ _ _ _ _ => (ptsf_one (ptf_cmp (od_ne hr.u64 rfl) (pf_var 3) (pf_call (G_tie_of T) (hr.mono (by decide)) tk0 (by rfl) T.g_tie_of T.F_tie_of.kp T.b_tie_of (paf_cons (pf_var 1) (paf_cons (pf_var 2) paf_nil))) (nomark _)))) (fun _ _ _ _ _ => (pf_var 3))) paf_nil))))))))
theorem G_Web_tied {b : Bool} (T : TX K mg) : FnG b PP w K mg base (L2.CX PP w) 7 T.f_Web_tied T.d_Web_tied ["self", "one", "other"] (spD (zt T) 3 D_Web_tied) :=
  fn_d (Z := zt T) (K := K) (N := N_Web_tied) (fb := B_Web_tied) (DN.Fun.d T.F_Web_tied) sc_Web_tied fun cdv A outer s H E hr =>
    (psf_cons (psf_expr (pf_methD tkd (AllM.cons ⟨⟨⟨_, _, _, _, _, hr.mono (by decide), clZ_Web T, mZ_Web_check_house T, G_Web_check_house T, T.b_Web_check_house⟩⟩, by decide⟩ AllM.nil) (pf_var 0) (paf_cons (pf_var 1) paf_nil)))
    (psf_cons (psf_expr (pf_methD tkd (AllM.cons ⟨⟨⟨_, _, _, _, _, hr.mono (by decide), clZ_Web T, mZ_Web_check_house T, G_Web_check_house T, T.b_Web_check_house⟩⟩, by decide⟩ AllM.nil) (pf_var 0) (paf_cons (pf_var 2) paf_nil)))
    (psf_cons (psf_if (ptf_w (pwf_or (ptf_cmp (od_eq hr.u64 rfl) (pf_var 1) (pf_var 2) (nomark _)) (pwf_one (ptf_cmp (od_in2 hr.u65 rfl) (pf_call (G_tie_of T) (hr.mono (by decide)) tkd (by rfl) T.g_tie_of T.F_tie_of.kp T.b_tie_of (paf_cons (pf_var 1) (paf_cons (pf_var 2) paf_nil))) (pf_fld ["Web"] rfl (AllC.cons (fd_Web_known T) AllC.nil) (pf_var 0)) (by rfl))))) (psf_one (psf_raise rfl tkd (oE_InvalidTie T) (iE_InvalidTie T) T.tI (T.okI _ _ _) (hr.mono (by decide)) T.bI (by rfl) (gE_InvalidTie T) (pf_tup (paf_cons (pf_var 1) (paf_cons (pf_var 2) paf_nil))))) psf_nil)
    (psf_one (psf_ret (pf_make ⟨⟨_, _, _, _, _, _, _, hr.mono (by decide), mkZ_Web T, G_Web_init T, T.b_Web_init, .nil, fun _ => OnL.nil'⟩⟩ tkd (by rfl) (gZ_Web T) (paf_cons (pf_fld ["Web"] rfl (AllC.cons (fd_Web_houses T) AllC.nil) (pf_var 0)) (paf_cons (pf_tup (paf_star rfl (pf_fld ["Web"] rfl (AllC.cons (fd_Web_ties T) AllC.nil) (pf_var 0)) (paf_cons (pf_call (G_tie_of T) (hr.mono (by decide)) tkd (by rfl) T.g_tie_of T.F_tie_of.kp T.b_tie_of (paf_cons (pf_var 1) (paf_cons (pf_var 2) paf_nil))) paf_nil))) paf_nil))))))))
theorem G_Web_neighbors {b : Bool} (T : TX K mg) : FnG b PP w K mg base (L2.CX PP w) 4 T.f_Web_neighbors T.d_Web_neighbors ["self", "house"] (spD (zt T) 2 D_Web_neighbors) :=
  fn_d (Z := zt T) (K := K) (N := N_Web_neighbors) (fb := B_Web_neighbors) (DN.Fun.d T.F_Web_neighbors) sc_Web_neighbors fun cdv A outer s H E hr =>
    (psf_cons (psf_expr (pf_methD tkd (AllM.cons ⟨⟨⟨_, _, _, _, _, hr.mono (by decide), clZ_Web T, mZ_Web_check_house T, G_Web_check_house T, T.b_Web_check_house⟩⟩, by decide⟩ AllM.nil) (pf_var 0) (paf_cons (pf_var 1) paf_nil)))
    (psf_one (psf_ret (pf_callT (cd_list rfl rfl) (by rfl) T.z_list (by decide +kernel) (paf_cons (pf_ix (ix_d hr.u1 rfl) (pf_fld ["Web"] rfl (AllC.cons (fd_Web_beside T) AllC.nil) (pf_var 0)) (pf_var 1)) paf_nil)))))
theorem G_law_caught (T : TX K mg) : FnG true PP w K mg base (L2.CX PP w) 8 T.f_law_caught T.d_law_caught ["_law_kind", "_law_web", "_law_one", "_law_other"] (spD (zt T) 4 D_law_caught) :=
  fn_d (Z := zt T) (K := K) (N := N_law_caught) (fb := B_law_caught) (DN.Fun.d T.F_law_caught) sc_law_caught fun cdv A outer s H E hr =>
    (psf_one (psf_try rfl rfl rfl sc_law_caught.nd tkd (fun W2 pn xe tk2 po2 => (psf_cons (psf_if (ptf_eqO (csok T) (AllM.cons ⟨⟨⟨_, _, _, _, _, hr.mono (by decide), oeZ_Web T, G_Web_eq T, T.b_Web_eq⟩⟩⟩ AllM.nil) hr.u64 rfl (pf_var 0) pf_int (nomark _)) (psf_one (psf_ret (pf_lst (paf_cons pf_str (paf_cons (pf_callB (cd_show ⟨hr.gd rfl, hr.u64⟩ rfl (.inl T.sm)) (by rfl) T.z_repr (by decide +kernel) (paf_cons (pf_methD tk2 (AllM.cons ⟨⟨⟨_, _, _, _, _, hr.mono (by decide), clZ_Web T, mZ_Web_neighbors T, G_Web_neighbors T, T.b_Web_neighbors⟩⟩, by decide⟩ AllM.nil) (pf_var 1) (paf_cons (pf_var 2) paf_nil)) paf_nil)) paf_nil))))) psf_nil)
    (psf_cons (psf_if (ptf_eqO (csok T) (AllM.cons ⟨⟨⟨_, _, _, _, _, hr.mono (by decide), oeZ_Web T, G_Web_eq T, T.b_Web_eq⟩⟩⟩ AllM.nil) hr.u64 rfl (pf_var 0) pf_int (nomark _)) (psf_one (psf_ret (pf_lst (paf_cons pf_str (paf_cons (pf_callB (cd_show ⟨hr.gd rfl, hr.u64⟩ rfl (.inl T.sm)) (by rfl) T.z_repr (by decide +kernel) (paf_cons (pf_fld ["Web"] rfl (AllC.cons (fd_Web_ties T) AllC.nil) (pf_methD tk2 (AllM.cons ⟨⟨⟨_, _, _, _, _, hr.mono (by decide), clZ_Web T, mZ_Web_tied T, G_Web_tied T, T.b_Web_tied⟩⟩, by decide⟩ AllM.nil) (pf_var 1) (paf_cons (pf_var 2) (paf_cons (pf_var 3) paf_nil)))) paf_nil)) paf_nil))))) psf_nil)
    (psf_one (psf_ret (pf_lst (paf_cons pf_str (paf_cons (pf_callB (cd_show ⟨hr.gd rfl, hr.u64⟩ rfl (.inl T.sm)) (by rfl) T.z_repr (by decide +kernel) (paf_cons (pf_fld ["Web"] rfl (AllC.cons (fd_Web_ties T) AllC.nil) (pf_methD tk2 (AllM.cons ⟨⟨⟨_, _, _, _, _, hr.mono (by decide), clZ_Web T, mZ_Web_untied T, G_Web_untied T, T.b_Web_untied⟩⟩, by decide⟩ AllM.nil) (pf_var 1) (paf_cons (pf_var 2) (paf_cons (pf_var 3) paf_nil)))) paf_nil)) paf_nil))))))))
      (xall_0 T) (HdF.cons (c := "InvalidHouse") ⟨by rfl, by decide, .inl (gE_InvalidHouse T)⟩ (.as rfl rfl) (fun a oe cls d0 pn hz hf => (psf_one (psf_ret (pf_lst (paf_cons pf_str (paf_cons (pf_callB (cd_show ⟨hr.gd rfl, hr.u64⟩ rfl (.inl T.sm)) (by rfl) T.z_repr (by decide +kernel) (paf_cons (pf_xv (xfall T) hz hf) paf_nil)) paf_nil)))))) (HdF.cons (c := "InvalidTie") ⟨by rfl, by decide, .inl (gE_InvalidTie T)⟩ (.as rfl rfl) (fun a oe cls d0 pn hz hf => (psf_one (psf_ret (pf_lst (paf_cons pf_str (paf_cons (pf_callB (cd_show ⟨hr.gd rfl, hr.u64⟩ rfl (.inl T.sm)) (by rfl) T.z_repr (by decide +kernel) (paf_cons (pf_xv (xfall T) hz hf) paf_nil)) paf_nil)))))) (HdF.cons (c := "OpenpostsError") ⟨by rfl, by decide, .inl (gE_OpenpostsError T)⟩ .no (fun a oe cls d0 pn hz hf => (psf_one (psf_ret (pf_lst (paf_cons pf_str (paf_cons pf_str paf_nil)))))) HdF.nil)))))
theorem G_law_due (T : TX K mg) : FnG true PP w K mg base (L2.CX PP w) 3 T.f_law_due T.d_law_due ["_law_kind", "_law_many", "_law_ties_here", "_law_one", "_law_other"] (spD (zt T) 5 D_law_due) :=
  fn_d (Z := zt T) (K := K) (N := N_law_due) (fb := B_law_due) (DN.Fun.d T.F_law_due) sc_law_due fun cdv A outer s H E hr =>
    (psf_cons (psf_for pod rfl (pif_val rfl (pf_slice rfl (pf_lst (paf_cons (pf_var 3) (paf_cons (pf_var 4) paf_nil))) pof_none (pof_some (pf_op od_sub pf_int (pf_callT cd_int (by rfl) T.z_int (by decide +kernel) (paf_cons (pf_eqO (csok T) (AllM.cons ⟨⟨⟨_, _, _, _, _, hr.mono (by decide), oeZ_Web T, G_Web_eq T, T.b_Web_eq⟩⟩⟩ AllM.nil) hr.u64 rfl (pf_var 0) pf_int (nomark _)) paf_nil)))))) (pgf_name 5 sc_law_due.nd rfl (.inl rfl))
      (psf_one (psf_if (ptf_cmp (od_notin hr.u65 rfl) (pf_callB (cd_show ⟨hr.gd rfl, hr.u64⟩ rfl (.inl T.sm)) (by rfl) T.z_repr (by decide +kernel) (paf_cons (pf_var 5) paf_nil)) (pf_lc (own := [("_law_house", 6)]) rfl sc_law_due.nd (pif_range1 (by rfl) T.z_range (paf_cons (pf_var 1) paf_nil)) (blkOk_by (N := N_law_due) (sc := defScope s_law_due) (by decide +kernel)) (fun _ _ _ _ _ => (pgf_name 6 sc_law_due.nd rfl (by first | exact .inl rfl | exact .inr rfl))) (fun _ _ _ _ _ => ptsf_nil) (fun _ _ _ _ _ => (pf_callB (cd_show ⟨hr.gd rfl, hr.u64⟩ rfl (.inl T.sm)) (by rfl) T.z_repr (by decide +kernel) (paf_cons (pf_var 6) paf_nil)))) (by rfl)) (psf_one (psf_ret (pf_lst (paf_cons pf_str (paf_cons (pf_callB (cd_show ⟨hr.gd rfl, hr.u64⟩ rfl (.inl T.sm)) (by rfl) T.z_repr (by decide +kernel) (paf_cons (pf_var 5) paf_nil)) paf_nil))))) psf_nil)))
    (psf_cons (psf_if (ptf_eqO (csok T) (AllM.cons ⟨⟨⟨_, _, _, _, _, hr.mono (by decide), oeZ_Web T, G_Web_eq T, T.b_Web_eq⟩⟩⟩ AllM.nil) hr.u64 rfl (pf_var 0) pf_int (nomark _)) (psf_one (psf_ret (pf_lst (paf_cons pf_str (paf_cons (pf_callB (cd_show ⟨hr.gd rfl, hr.u64⟩ rfl (.inl T.sm)) (by rfl) T.z_repr (by decide +kernel) (paf_cons (pf_lc (own := [("_law_house", 6)]) rfl sc_law_due.nd (pif_range1 (by rfl) T.z_range (paf_cons (pf_var 1) paf_nil)) (blkOk_by (N := N_law_due) (sc := defScope s_law_due) (by decide +kernel)) (fun _ _ _ _ _ => (pgf_name 6 sc_law_due.nd rfl (by first | exact .inl rfl | exact .inr rfl))) (fun _ _ _ _ _ => (ptsf_one (ptf_w (pwf_or (ptf_cmp (od_in hr.u65 rfl) (pf_tup (paf_cons (pf_var 3) (paf_cons (pf_var 6) paf_nil))) (pf_var 2) (by rfl)) (pwf_one (ptf_cmp (od_in hr.u65 rfl) (pf_tup (paf_cons (pf_var 6) (paf_cons (pf_var 3) paf_nil))) (pf_var 2) (by rfl))))))) (fun _ _ _ _ _ => (pf_var 6))) paf_nil)) paf_nil))))) psf_nil)
    (psf_cons (psf_set 7 sc_law_due.nd rfl (.inr rfl) (pf_callT cd_tuple (by rfl) T.z_tuple (by decide +kernel) (paf_cons (pf_callB (cd_sortedX rfl) (by rfl) T.z_sorted (by decide +kernel) (paf_cons (pf_lst (paf_cons (pf_var 3) (paf_cons (pf_var 4) paf_nil))) paf_nil)) paf_nil)))
    (psf_cons (psf_if (ptf_eqO (csok T) (AllM.cons ⟨⟨⟨_, _, _, _, _, hr.mono (by decide), oeZ_Web T, G_Web_eq T, T.b_Web_eq⟩⟩⟩ AllM.nil) hr.u64 rfl (pf_var 0) pf_int (nomark _)) (psf_cons (psf_if (ptf_w (pwf_or (ptf_eqO (csok T) (AllM.cons ⟨⟨⟨_, _, _, _, _, hr.mono (by decide), oeZ_Web T, G_Web_eq T, T.b_Web_eq⟩⟩⟩ AllM.nil) hr.u64 rfl (pf_var 3) (pf_var 4) (nomark _)) (pwf_one (ptf_cmp (od_in hr.u65 rfl) (pf_var 7) (pf_var 2) (by rfl))))) (psf_one (psf_ret (pf_lst (paf_cons pf_str (paf_cons (pf_callB (cd_show ⟨hr.gd rfl, hr.u64⟩ rfl (.inl T.sm)) (by rfl) T.z_repr (by decide +kernel) (paf_cons (pf_tup (paf_cons (pf_var 3) (paf_cons (pf_var 4) paf_nil))) paf_nil)) paf_nil))))) psf_nil)
    (psf_one (psf_ret (pf_lst (paf_cons pf_str (paf_cons (pf_callB (cd_show ⟨hr.gd rfl, hr.u64⟩ rfl (.inl T.sm)) (by rfl) T.z_repr (by decide +kernel) (paf_cons (pf_callT cd_tuple (by rfl) T.z_tuple (by decide +kernel) (paf_cons (pf_callB (cd_sortedX rfl) (by rfl) T.z_sorted (by decide +kernel) (paf_cons (pf_op (od_add rfl) (pf_var 2) (pf_lst (paf_cons (pf_var 7) paf_nil))) paf_nil)) paf_nil)) paf_nil)) paf_nil)))))) psf_nil)
    (psf_cons (psf_if (ptf_cmp (od_notin hr.u65 rfl) (pf_var 7) (pf_var 2) (by rfl)) (psf_one (psf_ret (pf_lst (paf_cons pf_str (paf_cons (pf_callB (cd_show ⟨hr.gd rfl, hr.u64⟩ rfl (.inl T.sm)) (by rfl) T.z_repr (by decide +kernel) (paf_cons (pf_tup (paf_cons (pf_var 3) (paf_cons (pf_var 4) paf_nil))) paf_nil)) paf_nil))))) psf_nil)
    (psf_one (psf_ret (pf_lst (paf_cons pf_str (paf_cons (pf_callB (cd_show ⟨hr.gd rfl, hr.u64⟩ rfl (.inl T.sm)) (by rfl) T.z_repr (by decide +kernel) (paf_cons (pf_callT cd_tuple (by rfl) T.z_tuple (by decide +kernel) (paf_cons (pf_lc (own := [("_law_row", 8)]) rfl sc_law_due.nd (pif_val rfl (pf_var 2)) (blkOk_by (N := N_law_due) (sc := defScope s_law_due) (by decide +kernel)) (fun _ _ _ _ _ => (pgf_name 8 sc_law_due.nd rfl (by first | exact .inl rfl | exact .inr rfl))) (fun _ _ _ _ _ => (ptsf_one (ptf_neO (csok T) (AllM.cons ⟨⟨⟨_, _, _, _, _, hr.mono (by decide), oeZ_Web T, G_Web_eq T, T.b_Web_eq⟩⟩⟩ AllM.nil) hr.u64 rfl (pf_var 8) (pf_var 7) (nomark _)))) (fun _ _ _ _ _ => (pf_var 8))) paf_nil)) paf_nil)) paf_nil))))))))))
theorem G_law_end (T : TX K mg) {f : Addr} {fd : FuncData} (F : Fun K "law" "law" s_law f fd) : FnG true PP w K mg base (L2.CX PP w) 9 f fd ["_law_script"] (spD (zt T) 1 D_law) :=
  fn_d (Z := zt T) (K := K) (N := N_law) (fb := B_law) (DN.Fun.d F) sc_law fun cdv A outer s H E hr =>
    (psf_cons (psf_for pod rfl (pif_range1 (by rfl) T.z_range (paf_cons (pf_callB (cd_max rfl rfl) (by rfl) T.z_max (by decide +kernel) (paf_cons pf_int (paf_cons (pf_callB (cd_min rfl rfl) (by rfl) T.z_min (by decide +kernel) (paf_cons pf_int (paf_cons (pf_lenO (AllM.cons ⟨⟨⟨_, _, _, _, _, hr.mono (by decide), oZ_Web_len T, G_Web_len T, T.b_Web_len⟩⟩⟩ AllM.nil) rfl (by rfl) T.z_len (paf_cons (pf_var 0) paf_nil)) paf_nil))) paf_nil))) paf_nil)) (pgf_name 1 sc_law.nd rfl (.inl rfl))
      (psf_cons (psf_setC 2 sc_law.nd rfl (.inl rfl) (pf_call (G_law_box T) (hr.mono (by decide)) tkd (by rfl) T.g_law_box T.F_law_box.kp T.b_law_box (paf_cons (pf_call (G_law_cell_at T) (hr.mono (by decide)) tkd (by rfl) T.g_law_cell_at T.F_law_cell_at.kp T.b_law_cell_at (paf_cons (pf_var 0) (paf_cons (pf_var 1) paf_nil))) paf_nil)))
    (psf_cons (psf_set 3 sc_law.nd rfl (.inl rfl) (pf_ix (ix_d hr.u1 rfl) (pf_lst (paf_cons (pf_op (od_add rfl) pf_int (pf_call (G_law_take T) (hr.mono (by decide)) tkd (by rfl) T.g_law_take T.F_law_take.kp T.b_law_take (paf_cons (pf_var 2) (paf_cons pf_int paf_nil)))) (paf_cons (pf_op (od_add rfl) pf_int (pf_call (G_law_take T) (hr.mono (by decide)) tkd (by rfl) T.g_law_take T.F_law_take.kp T.b_law_take (paf_cons (pf_var 2) (paf_cons pf_int paf_nil)))) paf_nil))) (pf_callT cd_int (by rfl) T.z_int (by decide +kernel) (paf_cons (pf_eqO (csok T) (AllM.cons ⟨⟨⟨_, _, _, _, _, hr.mono (by decide), oeZ_Web T, G_Web_eq T, T.b_Web_eq⟩⟩⟩ AllM.nil) hr.u64 rfl (pf_call (G_law_take T) (hr.mono (by decide)) tkd (by rfl) T.g_law_take T.F_law_take.kp T.b_law_take (paf_cons (pf_var 2) (paf_cons pf_int paf_nil))) pf_int (nomark _)) paf_nil))))
    (psf_cons (psf_set 4 sc_law.nd rfl (.inl rfl) (pf_call (G_law_ties T) (hr.mono (by decide)) tkd (by rfl) T.g_law_ties T.F_law_ties.kp T.b_law_ties (paf_cons (pf_var 2) (paf_cons (pf_var 3) paf_nil))))
    (psf_cons (psf_set 5 sc_law.nd rfl (.inl rfl) (pf_make ⟨⟨_, _, _, _, _, _, _, hr.mono (by decide), mkZ_Web T, G_Web_init T, T.b_Web_init, .nil, fun _ => OnL.nil'⟩⟩ tkd (by rfl) (gZ_Web T) (paf_cons (pf_var 3) (paf_cons (pf_callT (cd_list rfl rfl) (by rfl) T.z_list (by decide +kernel) (paf_cons (pf_var 4) paf_nil)) paf_nil))))
    (psf_cons (psf_for pod rfl (pif_range1 (by rfl) T.z_range (paf_cons (pf_var 3) paf_nil)) (pgf_name 6 sc_law.nd rfl (.inl rfl))
      (psf_cons (psf_if (ptf_neO (csok T) (AllM.cons ⟨⟨⟨_, _, _, _, _, hr.mono (by decide), oeZ_Web T, G_Web_eq T, T.b_Web_eq⟩⟩⟩ AllM.nil) hr.u64 rfl (pf_call (G_law_caught T) (hr.mono (by decide)) tkd (by rfl) T.g_law_caught T.F_law_caught.kp T.b_law_caught (paf_cons pf_int (paf_cons (pf_var 5) (paf_cons (pf_var 6) (paf_cons pf_non paf_nil))))) (pf_call (G_law_due T) (hr.mono (by decide)) tkd (by rfl) T.g_law_due T.F_law_due.kp T.b_law_due (paf_cons pf_int (paf_cons (pf_var 3) (paf_cons (pf_var 4) (paf_cons (pf_var 6) (paf_cons pf_non paf_nil)))))) (nomark _)) (psf_one (psf_ret pf_bl)) psf_nil)
    (psf_one (psf_expr (pf_mut md_append PySem.F.slot_list_append PySem.F.type_list_append rfl (pf_keep (pf_methD tkd (AllM.cons ⟨⟨⟨_, _, _, _, _, hr.mono (by decide), clZ_Web T, mZ_Web_neighbors T, G_Web_neighbors T, T.b_Web_neighbors⟩⟩, by decide⟩ AllM.nil) (pf_var 5) (paf_cons (pf_var 6) paf_nil))) (paf_cons pf_int paf_nil))))))
    (psf_cons (psf_set 7 sc_law.nd rfl (.inl rfl) (pf_op (od_add rfl) (pf_lst (paf_cons pf_non (paf_cons pf_bl (paf_cons pf_bl (paf_cons (pf_un ud_neg pf_int) (paf_cons (pf_var 3) (paf_cons pf_str (paf_cons (pf_lst (paf_cons pf_int paf_nil)) (paf_cons (pf_tup (paf_cons pf_int paf_nil)) (paf_cons pf_dnewK (paf_cons (pf_op od_pow pf_int pf_int) paf_nil))))))))))) (pf_listRg1 rfl (by rfl) T.z_list (by rfl) T.z_range (pf_var 3))))
    (psf_cons (psf_for pod rfl (pif_range1 (by rfl) T.z_range (paf_cons pf_int paf_nil)) (pgf_name 8 sc_law.nd rfl (.inl rfl))
      (psf_cons (psf_par 9 10 (by rfl) sc_law.nd rfl rfl (by decide) rfl rfl (paf_cons (pf_ix (ix_d hr.u1 rfl) (pf_var 7) (pf_call (G_law_take T) (hr.mono (by decide)) tkd (by rfl) T.g_law_take T.F_law_take.kp T.b_law_take (paf_cons (pf_var 2) (paf_cons (pf_lenO (AllM.cons ⟨⟨⟨_, _, _, _, _, hr.mono (by decide), oZ_Web_len T, G_Web_len T, T.b_Web_len⟩⟩⟩ AllM.nil) rfl (by rfl) T.z_len (paf_cons (pf_var 7) paf_nil)) paf_nil)))) (paf_cons (pf_ix (ix_d hr.u1 rfl) (pf_var 7) (pf_call (G_law_take T) (hr.mono (by decide)) tkd (by rfl) T.g_law_take T.F_law_take.kp T.b_law_take (paf_cons (pf_var 2) (paf_cons (pf_lenO (AllM.cons ⟨⟨⟨_, _, _, _, _, hr.mono (by decide), oZ_Web_len T, G_Web_len T, T.b_Web_len⟩⟩⟩ AllM.nil) rfl (by rfl) T.z_len (paf_cons (pf_var 7) paf_nil)) paf_nil)))) paf_nil)) (by rfl))
    (psf_cons (psf_if (ptf_w (pwf_and (ptf_eqO (csok T) (AllM.cons ⟨⟨⟨_, _, _, _, _, hr.mono (by decide), oeZ_Web T, G_Web_eq T, T.b_Web_eq⟩⟩⟩ AllM.nil) hr.u64 rfl (pf_call (G_law_take T) (hr.mono (by decide)) tkd (by rfl) T.g_law_take T.F_law_take.kp T.b_law_take (paf_cons (pf_var 2) (paf_cons pf_int paf_nil))) pf_int (nomark _)) (pwf_one (ptf_neO (csok T) (AllM.cons ⟨⟨⟨_, _, _, _, _, hr.mono (by decide), oeZ_Web T, G_Web_eq T, T.b_Web_eq⟩⟩⟩ AllM.nil) hr.u64 rfl (pf_var 4) (pf_lst paf_nil) (nomark _))))) (psf_one (psf_asg (pf_step rfl (pf_ix (ix_d hr.u1 rfl) (pf_var 4) (pf_call (G_law_take T) (hr.mono (by decide)) tkd (by rfl) T.g_law_take T.F_law_take.kp T.b_law_take (paf_cons (pf_var 2) (paf_cons (pf_lenO (AllM.cons ⟨⟨⟨_, _, _, _, _, hr.mono (by decide), oZ_Web_len T, G_Web_len T, T.b_Web_len⟩⟩⟩ AllM.nil) rfl (by rfl) T.z_len (paf_cons (pf_var 4) paf_nil)) paf_nil)))) (pf_ix (ix_d hr.u1 rfl) (pf_lst (paf_cons pf_int (paf_cons (pf_un ud_neg pf_int) paf_nil))) (pf_call (G_law_take T) (hr.mono (by decide)) tkd (by rfl) T.g_law_take T.F_law_take.kp T.b_law_take (paf_cons (pf_var 2) (paf_cons pf_int paf_nil))))) (pgf_tup rfl rfl (pgfs_cons (pgf_name 9 sc_law.nd rfl (.inl rfl)) (pgfs_cons (pgf_name 10 sc_law.nd rfl (.inl rfl)) pgfs_nil))))) psf_nil)
    (psf_one (psf_for pod rfl (pif_range1 (by rfl) T.z_range (paf_cons pf_int paf_nil)) (pgf_name 11 sc_law.nd rfl (.inl rfl))
      (psf_one (psf_if (ptf_neO (csok T) (AllM.cons ⟨⟨⟨_, _, _, _, _, hr.mono (by decide), oeZ_Web T, G_Web_eq T, T.b_Web_eq⟩⟩⟩ AllM.nil) hr.u64 rfl (pf_call (G_law_caught T) (hr.mono (by decide)) tkd (by rfl) T.g_law_caught T.F_law_caught.kp T.b_law_caught (paf_cons (pf_var 11) (paf_cons (pf_var 5) (paf_cons (pf_var 9) (paf_cons (pf_var 10) paf_nil))))) (pf_call (G_law_due T) (hr.mono (by decide)) tkd (by rfl) T.g_law_due T.F_law_due.kp T.b_law_due (paf_cons (pf_var 11) (paf_cons (pf_var 3) (paf_cons (pf_var 4) (paf_cons (pf_var 9) (paf_cons (pf_var 10) paf_nil)))))) (nomark _)) (psf_one (psf_ret pf_bl)) psf_nil)))))))
    (psf_cons (psf_if (ptf_w (pwf_or (ptf_cmp (od_ne hr.u64 rfl) (pf_fld ["Web"] rfl (AllC.cons (fd_Web_ties T) AllC.nil) (pf_var 5)) (pf_callT cd_tuple (by rfl) T.z_tuple (by decide +kernel) (paf_cons (pf_var 4) paf_nil)) (nomark _)) (pwf_one (ptf_cmp (od_ne hr.u64 rfl) (pf_fld ["Web"] rfl (AllC.cons (fd_Web_houses T) AllC.nil) (pf_var 5)) (pf_var 3) (nomark _))))) (psf_one (psf_ret pf_bl)) psf_nil)
    (psf_cons (psf_set 10 sc_law.nd rfl (.inl rfl) (pf_var 5))
    (psf_cons (psf_for pod rfl (pif_val rfl (pf_slice rfl (pf_var 4) pof_none (pof_some pf_int))) (pgf_tup rfl rfl (pgfs_cons (pgf_name 9 sc_law.nd rfl (.inl rfl)) (pgfs_cons (pgf_name 6 sc_law.nd rfl (.inl rfl)) pgfs_nil)))
      (psf_one (psf_set 10 sc_law.nd rfl (.inl rfl) (pf_methD tkd (AllM.cons ⟨⟨⟨_, _, _, _, _, hr.mono (by decide), clZ_Web T, mZ_Web_untied T, G_Web_untied T, T.b_Web_untied⟩⟩, by decide⟩ AllM.nil) (pf_var 10) (paf_cons (pf_var 6) (paf_cons (pf_var 9) paf_nil))))))
    (psf_cons (psf_for pod rfl (pif_val rfl (pf_slice rfl (pf_var 4) pof_none (pof_some pf_int))) (pgf_tup rfl rfl (pgfs_cons (pgf_name 9 sc_law.nd rfl (.inl rfl)) (pgfs_cons (pgf_name 6 sc_law.nd rfl (.inl rfl)) pgfs_nil)))
      (psf_one (psf_set 10 sc_law.nd rfl (.inl rfl) (pf_methD tkd (AllM.cons ⟨⟨⟨_, _, _, _, _, hr.mono (by decide), clZ_Web T, mZ_Web_tied T, G_Web_tied T, T.b_Web_tied⟩⟩, by decide⟩ AllM.nil) (pf_var 10) (paf_cons (pf_var 6) (paf_cons (pf_var 9) paf_nil))))))
    (psf_cons (psf_if (ptf_neO (csok T) (AllM.cons ⟨⟨⟨_, _, _, _, _, hr.mono (by decide), oeZ_Web T, G_Web_eq T, T.b_Web_eq⟩⟩⟩ AllM.nil) hr.u64 rfl (pf_var 10) (pf_var 5) (nomark _)) (psf_one (psf_ret pf_bl)) psf_nil)
    (psf_one (psf_for pod rfl (pif_range1 (by rfl) T.z_range (paf_cons (pf_var 3) paf_nil)) (pgf_name 6 sc_law.nd rfl (.inl rfl))
      (psf_one (psf_if (ptf_neO (csok T) (AllM.cons ⟨⟨⟨_, _, _, _, _, hr.mono (by decide), oeZ_Web T, G_Web_eq T, T.b_Web_eq⟩⟩⟩ AllM.nil) hr.u64 rfl (pf_methD tkd (AllM.cons ⟨⟨⟨_, _, _, _, _, hr.mono (by decide), clZ_Web T, mZ_Web_neighbors T, G_Web_neighbors T, T.b_Web_neighbors⟩⟩, by decide⟩ AllM.nil) (pf_var 5) (paf_cons (pf_var 6) paf_nil)) (pf_methD tkd (AllM.cons ⟨⟨⟨_, _, _, _, _, hr.mono (by decide), clZ_Web T, mZ_Web_neighbors T, G_Web_neighbors T, T.b_Web_neighbors⟩⟩, by decide⟩ AllM.nil) (pf_var 10) (paf_cons (pf_var 6) paf_nil)) (nomark _)) (psf_one (psf_ret pf_bl)) psf_nil)))))))))))))))))
    (psf_one (psf_ret pf_bl)))
end
end Q05
namespace Q05
open DN PySem
theorem take_pos {n : Nat} {a b c m : Int} {T : Sto} (h : T[n]? = some (box a b c)) (ha : 0 < a) (hm : 0 < m) (hm2 : m < 1073741824) : D_law_take [.r n, .d (.int m)] T = .ok (T.set n (box (a.fdiv m) b c)) (.val (.d (.int (a.fmod m)))) := by
  unfold D_law_take defD
  simp_arith [gInt_, h, ix_0, ix_1, ix_2, gMod_ hm, gDiv_ hm hm2, gGt_, decide_eq_true ha, gt_iff_lt, set_ix0 h, exit_d, take_set]
theorem take_neg {n : Nat} {a b c m : Int} {T : Sto} (h : T[n]? = some (box a b c)) (ha : ¬ 0 < a) (hm : 0 < m) (hb : 0 ≤ b) (hb2 : b < 2147483579) (hc : 0 ≤ c) (hc2 : c < 1000000000) : 
    D_law_take [.r n, .d (.int m)] T = .ok (T.set n (box a b (c + 1))) (.val (.d (.int (((((b + 70142 * (c + 1) + 30606) ^ 5).fmod 2147483647 + 228187 * (c + 1)) ^ 3).fmod 2147483587 |>.fdiv 16 |>.fmod m)))) := by
  have q1 : 0 ≤ ((b + 70142 * (c + 1) + 30606) ^ 5).fmod 2147483647 := Int.fmod_nonneg_of_pos _ (by decide)
  have q2 : ((b + 70142 * (c + 1) + 30606) ^ 5).fmod 2147483647 < 2147483647 := Int.fmod_lt_of_pos _ (by decide)
  unfold D_law_take defD
  have h' : (T.set n (.lst [Dv.int a, .int b, .int (c + 1)]))[n]? = some (box a b (c + 1)) := get_set h
  simp_arith [gInt_, h, ix_0, ix_1, ix_2, gGt_, decide_eq_false ha, gt_iff_lt, gAdd_, set_ix2 h, h', gMul_ (show -(2 ^ 64) < (70142 : Int) by decide) (show (70142 : Int) < 2 ^ 64 by decide)]
  rw [show (Dv.int 5) = Dv.int ((5 : Nat) : Int) from rfl, gPow_ (i := b + 70142 * (c + 1) + 30606) (j := 5) (by omega) (by decide)]
  simp_arith [gInt_, h', gMod_ (show (0 : Int) < 2147483647 by decide), ix_2, gAdd_, gMul_ (show -(2 ^ 64) < (228187 : Int) by decide) (show (228187 : Int) < 2 ^ 64 by decide)]
  rw [show (Dv.int 3) = Dv.int ((3 : Nat) : Int) from rfl, gPow_ (j := 3) (by omega) (by decide)]
  simp_arith [gInt_, gMod_ hm, gMod_ (show (0 : Int) < 2147483587 by decide), gDiv_ (show (0 : Int) < 16 by decide) (show (16 : Int) < 1073741824 by decide), exit_d, take_set]
/-- the box at cell n -/
abbrev Bx (n : Nat) (k : Cell) : Prop := BxC 2147483579 n k
theorem take_ok {k : Cell} {n j : Nat} {m : Int} {T : Sto} (h : Bx j k) (hn : n < T.length) (hj : j < 1000000000) (hm : 0 < m) (hm2 : m < 1073741824) : ∃ (d : Nat) (k' : Cell), (d : Int) < m ∧ Bx (j + 1) k' ∧
    D_law_take [.r n, .d (.int m)] (T.set n k) = .ok (T.set n k') (.val (.d (.int d))) := by
  obtain ⟨a, b, c, rfl, h1, h2, h3, h4⟩ := h
  have hT : (T.set n (box a b c))[n]? = some (box a b c) := List.getElem?_set_self hn
  by_cases ha : 0 < a
  · refine ⟨(a.fmod m).toNat, box (a.fdiv m) b c, ?_, ⟨_, b, c, rfl, h1, h2, h3, by omega⟩, ?_⟩
    · have := Int.fmod_nonneg_of_pos a hm; have := Int.fmod_lt_of_pos a hm; omega
    · rw [take_pos hT ha hm hm2, List.set_set, Int.toNat_of_nonneg (Int.fmod_nonneg_of_pos _ hm)]
  · refine ⟨_, box a b (c + 1), ?_, ⟨a, b, c + 1, rfl, h1, h2, by omega, by omega⟩, by rw [take_neg hT ha hm h1 h2 h3 (by omega), List.set_set, ← Int.toNat_of_nonneg (Int.fmod_nonneg_of_pos _ hm)]⟩
    rw [Int.toNat_of_nonneg (Int.fmod_nonneg_of_pos _ hm)]
    exact Int.fmod_lt_of_pos _ hm
theorem cell_at_ok {ns : List Int} {k : Nat} {S : Sto} (hn : ns.length ≤ 63) : ∃ v : Int, D_law_cell_at [.d (.scr ns), .d (.int k)] S = .ok S (.val (.d (.int v))) := by
  by_cases h : k < ns.length
  · refine ⟨ns[k], def_pure ?_⟩
    simp_arith [gLen_scr, gLt_, decide_eq_true (show (k : Int) < (ns.length : Int) by omega), gIx_scr (List.getElem?_eq_getElem h)]
  · refine ⟨28806 * k + 19116, def_pure ?_⟩
    simp_arith [gLen_scr, gLt_, decide_eq_false (show ¬ (k : Int) < (ns.length : Int) by omega), gMul_ (show -(2 ^ 64) < (28806 : Int) by decide) (show (28806 : Int) < 2 ^ 64 by decide), gAdd_]
theorem box_ok {v : Int} {S : Sto} : ∃ k, Bx 0 k ∧ D_law_box [.d (.int v)] S = .ok S (.new k) := by
  refine ⟨box (max 0 (v - 10 ^ 18)) (v.fmod 2147483579) 0, ⟨_, _, _, rfl, Int.fmod_nonneg_of_pos _ (by decide), Int.fmod_lt_of_pos _ (by decide), by omega, by omega⟩, def_new ?_⟩
  have e : (if v - 10 ^ 18 > 0 then v - 10 ^ 18 else 0) = max 0 (v - 10 ^ 18) := by omega
  simp_arith [gInt_, gMax2_, gMod_ (show (0 : Int) < 2147483579 by decide), gSub_]
  rw [show (Dv.int 18) = Dv.int ((18 : Nat) : Int) from rfl, gPow_ (j := 18) (by decide) (by decide)]
  simp_arith [gInt_, gMax2_, gMax2, gMod_ (show (0 : Int) < 2147483579 by decide), gSub_]
  rw [e]
end Q05
namespace Q05
open DN PySem
/-- a tie among n houses -/
structure Tie (n : Nat) (p : Int × Int) : Prop where
  lo : 0 ≤ p.1
  lt : p.1 < p.2
  hi : p.2 < n
theorem Tie.small {n : Nat} {p : Int × Int} (h : Tie n p) (hn : n ≤ 40) : Small p := by
  obtain ⟨h1, h2, h3⟩ := h
  exact ⟨by omega, by omega, by omega, by omega⟩
section
variable {n : Nat} {S : Sto}
theorem is_integer_ok {i : Int} : D_is_integer [.d (.int i)] S = .ok S (.val (.d (.bl true))) := by
  refine def_pure ?_
  simp_arith []
theorem check_number_ok (h1 : 1 ≤ n) (h2 : n ≤ 40) : D_check_number [.d (.int n)] S = .ok S (.val (.d .non)) := by
  refine def_pure ?_
  simp_arith [is_integer_ok, gLe_, decide_eq_true (show (1 : Int) ≤ (n : Int) by omega), decide_eq_true (show (n : Int) ≤ 40 by omega)]
theorem is_house_ok {i : Int} (h : 0 ≤ i) (h2 : i < n) : D_is_house [.d (.int n), .d (.int i)] S = .ok S (.val (.d (.bl true))) := by
  refine def_pure ?_
  simp_arith [is_integer_ok, gLe_, gLt_, decide_eq_true h, decide_eq_true h2]
theorem tx_0 {x : Dv} {l : List Dv} : gIx (.tup (x :: l)) (.int 0) = vD x := gIx_tup (i := 0) rfl
theorem tx_1 {x y : Dv} {l : List Dv} : gIx (.tup (x :: y :: l)) (.int 1) = vD y := gIx_tup (i := 1) rfl
theorem gLen2 {a b : Dv} : gLen [.tup [a, b]] = vI 2 := rfl
theorem gNe22 : gNe (.int 2) (.int 2) = vB false := gNe_int
theorem fSortSetB_ {fa : FE} {env : DN.Env} : fSortSetB fa env S = (bindW (fa env S) (fun S1 a => g1 S1 a gSortSetB) ⟨⟩) := rfl
theorem insP_len {p : Int × Int} : ∀ {l : List (Int × Int)}, (insP p l).length ≤ l.length + 1
  | [] => by simp [insP]
  | q :: l => by
    unfold insP
    split
    · simp
    · split
      · simp
      · have := insP_len (p := p) (l := l)
        simp
        omega
theorem sortP_len : ∀ {l : List (Int × Int)}, (sortP l).length ≤ l.length
  | [] => by simp [sortP]
  | q :: l => by
    unfold sortP
    have := insP_len (p := q) (l := sortP l)
    have := sortP_len (l := l)
    simp
    omega
theorem is_tie_ok {p : Int × Int} (h : Tie n p) : D_is_tie [.d (.int n), .d (pairD p)] S = .ok S (.val (.d (.bl true))) := by
  obtain ⟨h1, h2, h3⟩ := h
  refine def_pure ?_
  unfold pairD
  simp_arith [gLen2, gNe22, tx_0, tx_1, is_house_ok h1 (show p.1 < (n : Int) by omega), is_house_ok (show 0 ≤ p.2 by omega) h3, gLt_, decide_eq_true h2, isi_tup_tup]
/-- the tie of two houses -/
def tieOf (a b : Int) : Int × Int := (if b < a then b else a, if b > a then b else a)
theorem tie_of_ok {a b : Int} : D_tie_of [.d (.int a), .d (.int b)] S = .ok S (.val (.d (pairD (tieOf a b)))) := by
  refine def_pure ?_
  simp_arith [gMin2_, gMin2, gMax2_, gMax2]
  rfl
theorem tkey_pair (p : Int × Int) : tkey? (pairD p) = some [.inl p.1, .inl p.2] := by
  simp [tkey?, pairD, key?, List.mapM_cons]
theorem hit_pair (p q : Int × Int) : kHit true (pairD p) (pairD q) = decide (p = q) := by
  unfold kHit
  simp only [tkey_pair]
  rw [decide_eq_decide]
  obtain ⟨a, b⟩ := p
  obtain ⟨c, d⟩ := q
  simp [Prod.ext_iff]
theorem look_pair (p : Int × Int) : ∀ (T : List (Int × Int)), (dLook true (pairD p) (T.map pairD) (T.map fun _ => Dv.bl true)).isSome = decide (p ∈ T)
  | [] => rfl
  | q :: T => by
    have ih := look_pair p T
    unfold dLook at ih ⊢
    rw [List.map_cons, List.map_cons]
    unfold dLookG
    rw [hit_pair]
    by_cases h : q = p
    · subst h; simp
    · rw [decide_eq_false h]
      have h' : ¬ p = q := fun e => h e.symm
      simp only [Bool.false_eq_true, if_false]
      rw [ih]
      simp [h']
theorem look_no {p : Int × Int} {T : List (Int × Int)} (h : p ∉ T) : dLook true (pairD p) (T.map pairD) (T.map fun _ => Dv.bl true) = none := by
  have := look_pair p T
  rw [decide_eq_false h] at this
  cases q : dLook true (pairD p) (T.map pairD) (T.map fun _ => Dv.bl true) with
  | none => rfl
  | some x => rw [q] at this; cases this
theorem in_pair {p : Int × Int} {T : List (Int × Int)} : gIn2 (pairD p) (.dic true (T.map pairD) (T.map fun _ => Dv.bl true)) = vB (decide (p ∈ T)) := by
  unfold gIn2
  simp only [isKey, tkey_pair, Option.isSome_some, onlyIf_t, look_pair]
/-- the dict of the ties -/
theorem dc_go {t : Its} (ht : t.2 = none) {env : DN.Env} {i : Nat} (hi : i < env.length) : ∀ (l acc : List (Int × Int)), (acc ++ l).Nodup → acc.length + l.length ≤ 1000 →
    dcGo t (tgN i) (fVar i) (fC (.bl true)) env (l.map pairD) S (acc.map pairD) (acc.map fun _ => Dv.bl true) = .ok S ((acc ++ l).map pairD, (acc ++ l).map fun _ => Dv.bl true)
  | [], acc, _, _ => by
    have : lockOk t S = true := by unfold lockOk; rw [ht]
    simp only [List.map_nil, dcGo, this, if_true, List.append_nil]
  | p :: l, acc, nd, hl => by
    have hk : lockOk t S = true := by unfold lockOk; rw [ht]
    have nd' : (acc ++ [p] ++ l).Nodup := by simpa using nd
    have hp : p ∉ acc := by
      rw [List.append_assoc] at nd'
      intro hm
      have := (List.nodup_append.mp nd').2.2 p hm p (by simp)
      exact this rfl
    have ih := dc_go (t := t) ht (env := env) (i := i) hi l (acc ++ [p]) nd' (by simp at hl ⊢; omega)
    have e1 : fVar i (env.set i (.v (.d (pairD p)))) S = .ok S (.val (.d (pairD p))) := by
      rw [fVar_, List.getElem?_set_self hi]; rfl
    rw [List.map_cons]
    unfold dcGo
    simp only [hk, if_true, tgN_, e1, fC_, noex_ok, R.bindV, onD]
    simp only [List.length_cons] at hl
    rw [if_pos ⟨by rw [List.length_map]; omega, by rw [tkey_pair]; rfl, look_no hp⟩]
    rw [show acc.map pairD ++ [pairD p] = (acc ++ [p]).map pairD by simp, show (acc.map fun _ => Dv.bl true) ++ [Dv.bl true] = (acc ++ [p]).map fun _ => Dv.bl true by simp, ih]
    simp
/-- what is given as ties -/
structure Tv (x : Dv) (L : List (Int × Int)) : Prop where
  it : iterD x = some (L.map pairD)
  so : gSortSetB x = nL ((sortP L).map pairD)
  is : ∀ cs, gIsi cs x (.tup [.ty "list", .ty "tuple"]) = vB true
theorem pairs_map : ∀ {L : List (Int × Int)}, (∀ p ∈ L, Small p) → pairs? (L.map pairD) = some L
  | [], _ => rfl
  | p :: L, h => by
    have e : pair? (pairD p) = some p := by
      have := h p (by simp)
      unfold Small at this
      simp only [pair?, pairD]
      rw [if_pos (by omega)]
    rw [List.map_cons]
    unfold pairs?
    rw [e, pairs_map fun q hq => h q (List.mem_cons_of_mem _ hq)]
theorem Tv.lst {L : List (Int × Int)} (h : ∀ p ∈ L, Small p) (hl : L.length ≤ 1000) : Tv (.lst (L.map pairD)) L := by
  refine ⟨rfl, ?_, fun _ => rfl⟩
  unfold gSortSetB
  simp only [List.length_map, pairs_map h]
  rw [if_pos (by omega)]
theorem Tv.tup {L : List (Int × Int)} (h : ∀ p ∈ L, Small p) (hl : L.length ≤ 1000) : Tv (.tup (L.map pairD)) L := by
  refine ⟨rfl, ?_, fun _ => rfl⟩
  unfold gSortSetB sortSetTB
  simp only [List.length_map, pairs_map h]
  rw [if_pos (by omega)]
theorem Tv.ktp : Tv (.ktp []) [] := ⟨rfl, rfl, fun _ => rfl⟩
/-- the houses beside i -/
def bes (n : Nat) (T : List (Int × Int)) (i : Nat) : List Nat := (List.range n).filter fun j => decide (tieOf i j ∈ T)
abbrev dicT (T : List (Int × Int)) : Dv := .dic true (T.map pairD) (T.map fun _ => Dv.bl true)
abbrev besD (n : Nat) (T : List (Int × Int)) : Dv := .lst ((List.range n).map fun i => .lst ((bes n T i).map fun j : Nat => Dv.int j))
abbrev wbF (n : Nat) (T : List (Int × Int)) : List Dv := [.int n, .tup (T.map pairD), dicT T, besD n T]
abbrev Wb (n : Nat) (T : List (Int × Int)) : Dv := .obj "Web" (wbF n T)
theorem beside_ok {T : List (Int × Int)} {i : Nat} (hn : n ≤ 40) : D_beside_of [.d (.int n), .d (dicT T), .d (.int i)] S = .ok S (.new (.lst ((bes n T i).map fun j : Nat => Dv.int j))) := by
  refine def_new ?_
  have e := fLc_rgF (fl := fCons (fVar 0) fNil) (ft := kVal (fOp gIn2 (fCallD 2 D_tie_of (fCons (fVar 2) (fCons (fVar 3) fNil))) (fVar 1))) (fe := fVar 3) (vs := [3]) (env := [.v (.d (.int n)), .v (.d (dicT T)), .v (.d (.int i)), .u]) (S := S) (i := 3) (n := n)
    (fun j => decide (tieOf i j ∈ T)) (fun j => .int j) (by simp_arith []) (by omega) (fun k hk => by simp_arith [wipeE, tie_of_ok, in_pair]) (fun k hk _ => by simp_arith [wipeE]; exact got_val)
  simp_arith [e]
  rfl
theorem set_fd {l : List Dv} {v : Dv} {f : Str} {env : DN.Env} (h : putFd "Web" f l v = some (l ++ [v])) : setFd ["Web"] f env (S ++ [.ob "Web" l]) (.r S.length) (.d v) = .nx env (S ++ [.ob "Web" (l ++ [v])]) := by
  have e1 : (S ++ [Cell.ob "Web" l])[S.length]? = some (.ob "Web" l) := by simp
  unfold setFd
  simp only [e1, h]
  rw [set_last]
  rfl
theorem init_ok {x : Dv} {L : List (Int × Int)} (h1 : 1 ≤ n) (h2 : n ≤ 40) (q : Tv x L) (ht : ∀ p ∈ L, Tie n p) (hl : L.length ≤ 1000) : D_Web_init [.r S.length, .d (.int n), .d x] (S ++ [.ob "Web" []]) = .ok (S ++ [.ob "Web" (wbF n (sortP L))]) (.val (.d .non)) := by
  have hs : ∀ p ∈ L, Small p := fun p hp => (ht p hp).small h2
  have e1 : ∀ U : Sto, fLc (iVal (fVar 2)) (tgN 3) kYes (fCallD 2 D_is_tie (fCons (fVar 1) (fCons (fVar 3) fNil))) [3] [.v (.r S.length), .v (.d (.int n)), .v (.d x), .u, .u] U = .ok U (.new (.lst ((L.map pairD).map fun _ => Dv.bl true))) := fun U =>
    fLc_it (fa := fVar 2) (d := x) (fun _ => Dv.bl true) rfl q.it (by simp; omega) (fun y hy => by
      obtain ⟨p, hp, rfl⟩ := List.mem_map.mp hy
      simp_arith [wipeE, is_tie_ok (ht p hp)]
      exact got_val)
  unfold D_Web_init defD
  have f1 : ∀ env, setFd ["Web"] "houses" env (S ++ [.ob "Web" []]) (.r S.length) (.d (.int n)) = .nx env (S ++ [.ob "Web" [.int n]]) := fun env => set_fd (l := []) rfl
  have f2 : ∀ env, setFd ["Web"] "ties" env (S ++ [.ob "Web" [.int n]]) (.r S.length) (.d (.tup ((sortP L).map pairD))) = .nx env (S ++ [.ob "Web" [.int n, .tup ((sortP L).map pairD)]]) := fun env => set_fd (l := [.int n]) rfl
  have f3 : ∀ env, setFd ["Web"] "known" env (S ++ [.ob "Web" [.int n, .tup ((sortP L).map pairD)]]) (.r S.length) (.d (dicT (sortP L))) = .nx env (S ++ [.ob "Web" [.int n, .tup ((sortP L).map pairD), dicT (sortP L)]]) := fun env => set_fd (l := [.int n, .tup ((sortP L).map pairD)]) rfl
  have f4 : ∀ env, setFd ["Web"] "beside" env (S ++ [.ob "Web" [.int n, .tup ((sortP L).map pairD), dicT (sortP L)]]) (.r S.length) (.d (besD n (sortP L))) = .nx env (S ++ [.ob "Web" (wbF n (sortP L))]) := fun env => set_fd (l := [.int n, .tup ((sortP L).map pairD), dicT (sortP L)]) rfl
  have lp : (sortP L).length ≤ L.length := sortP_len
  have g1 : (S ++ [Cell.ob "Web" [.int n, .tup ((sortP L).map pairD)]])[S.length]? = some (.ob "Web" [.int n, .tup ((sortP L).map pairD)]) := by simp
  have g2 : (S ++ [Cell.ob "Web" [.int n, .tup ((sortP L).map pairD), dicT (sortP L)]])[S.length]? = some (.ob "Web" [.int n, .tup ((sortP L).map pairD), dicT (sortP L)]) := by simp
  have k1 : gFld ["Web"] "ties" (.obj "Web" [.int n, .tup ((sortP L).map pairD)]) = vT ((sortP L).map pairD) := rfl
  have k2 : gFld ["Web"] "known" (.obj "Web" [.int n, .tup ((sortP L).map pairD), dicT (sortP L)]) = vD (dicT (sortP L)) := rfl
  have e2 : fDc (iVal (fUn (gFld ["Web"] "ties") (fVar 0))) (tgN 3) (fVar 3) (fC (.bl true)) [3] [.v (.r S.length), .v (.d (.int n)), .v (.d x), .u, .u] (S ++ [.ob "Web" [.int n, .tup ((sortP L).map pairD)]]) = .ok (S ++ [.ob "Web" [.int n, .tup ((sortP L).map pairD)]]) (.new (.dc true ((sortP L).map pairD) ((sortP L).map fun _ => Dv.bl true))) := by
    have i1 : iVal (fUn (gFld ["Web"] "ties") (fVar 0)) [.v (.r S.length), .v (.d (.int n)), .v (.d x), .u, .u] (S ++ [.ob "Web" [.int n, .tup ((sortP L).map pairD)]]) = .ok (S ++ [.ob "Web" [.int n, .tup ((sortP L).map pairD)]]) ((sortP L).map pairD, none) := by
      simp_arith [g1, k1]
    have nd : (sortP L).Nodup := (sortP_pw L).imp fun h e => by subst e; exact absurd h (by omega)
    unfold fDc
    rw [i1]
    simp only [R.bind]
    have := dc_go (S := S ++ [.ob "Web" [.int n, .tup ((sortP L).map pairD)]]) (t := ((sortP L).map pairD, none)) rfl (env := wipeE [.v (.r S.length), .v (.d (.int n)), .v (.d x), .u, .u] [3]) (i := 3) (by simp [wipeE]) (sortP L) [] (by simpa using nd) (by simp; omega)
    simp only [List.map_nil, List.nil_append] at this
    rw [this]
  have e3 : fLc (iRange1 (fCons (fVar 1) fNil)) (tgN 4) kYes (fCallD 3 D_beside_of (fCons (fVar 1) (fCons (fUn (gFld ["Web"] "known") (fVar 0)) (fCons (fVar 4) fNil)))) [4] [.v (.r S.length), .v (.d (.int n)), .v (.d x), .u, .u] (S ++ [.ob "Web" [.int n, .tup ((sortP L).map pairD), dicT (sortP L)]]) = .ok (S ++ [.ob "Web" [.int n, .tup ((sortP L).map pairD), dicT (sortP L)]]) (.new (.lst ((List.range n).map fun i => .lst ((bes n (sortP L) i).map fun j : Nat => Dv.int j)))) :=
    fLc_rg (n := n) (fun i => .lst ((bes n (sortP L) i).map fun j : Nat => Dv.int j)) (by simp_arith []) (by omega) (fun k hk => by
      simp_arith [wipeE, g2, k2, beside_ok h2]
      exact .new _ _ _ rfl)
  simp_arith [check_number_ok h1 h2, q.is, e1, gAll_true, f1, fSortSetB_, q.so, gTuple_lst, f2, e2, f3, e3, f4]
  rw [exit_d, List.take_of_length_le (by simp)]
end
end Q05
namespace Q05
open DN PySem
section
variable {n : Nat} {S S' : Sto} {T U L : List (Int × Int)} {env : DN.Env} {fa : FA} {x : Dv}
theorem make_ok (h1 : 1 ≤ n) (h2 : n ≤ 40) (q : Tv x L) (ht : ∀ p ∈ L, Tie n p) (hl : L.length ≤ 1000) (e : fa env S = .ok S' [.d (.int n), .d x]) : fMakeD "Web" [] 3 D_Web_init fa env S = .ok S' (.new (.ob "Web" (wbF n (sortP L)))) := by
  simp_arith [e, List.map_nil, List.append_nil, init_ok h1 h2 q ht hl]
/-- w is the web of n houses with the ties T -/
def IsW (w : Dv) (n : Nat) (T : List (Int × Int)) : Prop := w = Wb n T
variable {w v : Dv} {cs : List String}
theorem IsW.mk : IsW (Wb n T) n T := rfl
theorem IsW.cls (h : IsW w n T) : clsV S (.d w) = some "Web" := by rw [h]; rfl
theorem IsW.houses (h : IsW w n T) : gFld ["Web"] "houses" w = vI n := by rw [h]; rfl
theorem IsW.ties (h : IsW w n T) : gFld ["Web"] "ties" w = vT (T.map pairD) := by rw [h]; rfl
theorem IsW.known (h : IsW w n T) : gFld ["Web"] "known" w = vD (dicT T) := by rw [h]; rfl
theorem IsW.beside (h : IsW w n T) : gFld ["Web"] "beside" w = vD (besD n T) := by rw [h]; rfl
theorem IsW.isi (h : IsW w n T) : gIsi ["Web"] w (.cls "Web") = vB true := by rw [h]; rfl
theorem okN_pair {m : Nat} {p : Int × Int} : okN (m + 1) (pairD p) = true := by
  unfold pairD
  rw [okN_tup]
  exact okNs_all fun d hd => by
    simp only [List.mem_cons, List.not_mem_nil, or_false] at hd
    rcases hd with rfl | rfl <;> exact okN_int
theorem ok_ties {m : Nat} : okNs (m + 1) (T.map pairD) = true := okNs_all fun d hd => by
  obtain ⟨p, _, rfl⟩ := List.mem_map.mp hd
  exact okN_pair
theorem web_eq_ok (h : IsW w n T) (g : IsW v n T) : D_Web_eq [.d w, .d v] S = .ok S (.val (.d (.bl true))) := by
  refine def_pure ?_
  simp_arith [h.ties, h.houses, g.ties, g.houses, g.isi, gEq_int, decide_true, gEq_refl (show okN 60 (.tup (T.map pairD)) = true from ok_ties)]
end
end Q05
namespace Q05
open DN PySem L2
section
variable {S : Sto}
theorem op_ok {g : Dv → Dv → Option Rt} {fa fb : FE} {env : DN.Env} {a b c : Dv} (ha : fa env S = .ok S (.val (.d a))) (hb : fb env S = .ok S (.val (.d b))) (hg : g a b = vD c) : fOp g fa fb env S = .ok S (.val (.d c)) := by
  simp_arith [ha, hb, hg]
theorem op_okL {g : Dv → Dv → Option Rt} {fa fb : FE} {env : DN.Env} {a c : Dv} {l : List Dv} (ha : fa env S = .ok S (.val (.d a))) (hb : fb env S = .ok S (.new (.lst l))) (hg : g a (.lst l) = vD c) : fOp g fa fb env S = .ok S (.val (.d c)) := by
  simp_arith [ha, hb, hg]
theorem call_ok {g : List Dv → Option Rt} {fa : FE} {env : DN.Env} {a c : Dv} (ha : fa env S = .ok S (.val (.d a))) (hg : g [a] = vD c) : fCall g (fCons fa fNil) env S = .ok S (.val (.d c)) := by
  simp_arith [ha, hg]
theorem call_okL {g : List Dv → Option Rt} {fa : FE} {env : DN.Env} {c : Dv} {l : List Dv} (ha : fa env S = .ok S (.new (.lst l))) (hg : g [.lst l] = vD c) : fCall g (fCons fa fNil) env S = .ok S (.val (.d c)) := by
  simp_arith [ha, hg]
theorem var_ok {i : Nat} {env : DN.Env} {a : Dv} (h : env[i]? = some (.v (.d a))) : fVar i env S = .ok S (.val (.d a)) := by
  simp_arith [h]
theorem c_ok {a : Dv} {env : DN.Env} : fC a env S = .ok S (.val (.d a)) := rfl
theorem sl_toL {fa fb : FE} {env : DN.Env} {a : Dv} {l : List Dv} {i : Int} (ha : fa env S = .ok S (.val (.d a))) (hb : fb env S = .ok S (.val (.d (.int i)))) (hg : gSl none (some i) a = nL l) : fSl fa fNoPart (fPart fb) env S = .ok S (.new (.lst l)) := by
  simp_arith [ha, hb, hg]
theorem st_set {i : Nat} {fe : FE} {env env' : DN.Env} {S S' : Sto} {v : Vr} (h : fe env S = .ok S' (.val v)) (he : env.set i (.v v) = env') : kSet i fe env S = .nx env' S' := by
  rw [kSet_, h, ← he]
  rfl
theorem st_setL {i : Nat} {fe : FE} {env env' : DN.Env} {S S' : Sto} {l : List Dv} (h : fe env S = .ok S' (.new (.lst l))) (he : env.set i (.v (.d (.lst l))) = env') : kSet i fe env S = .nx env' S' := by
  rw [kSet_, h, ← he]
  rfl
theorem seq_nx {a b : FS} {env env' : DN.Env} {S S' : Sto} {r : RS} (h1 : a env S = .nx env' S') (h2 : b env' S' = r) : kSeq a b env S = r := by
  rw [kSeq_, h1]
  exact h2
theorem seq_rt {a b : FS} {env : DN.Env} {S S' : Sto} {r : Rt} (h1 : a env S = .rt S' r) : kSeq a b env S = .rt S' r := by
  rw [kSeq_, h1]
  rfl
theorem seq_ex {a b : FS} {env env' : DN.Env} {S S' : Sto} {x : Xn} (h1 : a env S = .ex env' S' x) : kSeq a b env S = .ex env' S' x := by
  rw [kSeq_, h1]
  rfl
theorem st_ifB {ft : FT} {a b : FS} {env : DN.Env} {S S' : Sto} {t : Bool} (h : ft env S = .ok S' t) : kIf ft a b env S = if t then a env S' else b env S' := by
  rw [kIf_, h, sB_ok]
theorem if_yes {ft : FT} {a b : FS} {env : DN.Env} {S S' : Sto} {r : RS} (h : ft env S = .ok S' true) (h2 : a env S' = r) : kIf ft a b env S = r := by
  rw [st_ifB h, if_pos rfl, h2]
theorem if_no {ft : FT} {a b : FS} {env : DN.Env} {S S' : Sto} {r : RS} (h : ft env S = .ok S' false) (h2 : b env S' = r) : kIf ft a b env S = r := by
  rw [st_ifB h, if_neg (by decide), h2]
theorem orB {t1 t2 : FT} {env : DN.Env} {S : Sto} {b1 b2 : Bool} (h1 : t1 env S = .ok S b1) (h2 : b1 = false → t2 env S = .ok S b2) : kOr t1 t2 env S = .ok S (b1 || b2) := by
  cases b1 with
  | true => rw [Bool.true_or]; simp_arith [h1]
  | false => have := h2 rfl; rw [Bool.false_or]; simp_arith [h1, this]
theorem notB {t1 : FT} {env : DN.Env} {S : Sto} {b1 : Bool} (h1 : t1 env S = .ok S b1) : kNot t1 env S = .ok S (!b1) := by
  simp_arith [h1]
theorem ret_ok {fe : FE} {env : DN.Env} {S S' : Sto} {r : Rt} (h : fe env S = .ok S' r) : kRet fe env S = .rt S' r := by
  rw [kRet_, h]
  rfl
theorem callD {m : Nat} {D : FD} {fa : FA} {env : DN.Env} {S S1 : Sto} {l : List Vr} {r : R Rt} (h1 : fa env S = .ok S1 l) (hm : l.length = m) (h2 : D l S1 = r) : fCallD m D fa env S = r := by
  show (fa env S).bind (fun S1 l => if l.length = m then D l S1 else .no) = r
  rw [h1]
  show (if l.length = m then D l S1 else .no) = r
  rw [if_pos hm, h2]
theorem args1 {fa : FE} {env : DN.Env} {a : Dv} (h1 : fa env S = .ok S (.val (.d a))) : fCons fa fNil env S = .ok S [.d a] := by
  simp_arith [h1]
theorem args2 {fa fb : FE} {env : DN.Env} {S : Sto} {a b : Dv} (h1 : fa env S = .ok S (.val (.d a))) (h2 : fb env S = .ok S (.val (.d b))) : fCons fa (fCons fb fNil) env S = .ok S [.d a, .d b] := by
  simp_arith [h1, h2]
end
theorem tup2_ok {fa fb : FE} {env : DN.Env} {S : Sto} {a b : Dv} (h1 : fa env S = .ok S (.val (.d a))) (h2 : fb env S = .ok S (.val (.d b))) : fTup (fCons fa (fCons fb fNil)) env S = .ok S (.val (.d (.tup [a, b]))) := by
  simp_arith [h1, h2]
theorem eqDs_pairs : ∀ {T U : List (Int × Int)}, eqDs (T.map pairD) (U.map pairD) = decide (T = U)
  | [], [] => rfl
  | [], _ :: _ => by simp [eqDs]
  | _ :: _, [] => by simp [eqDs]
  | p :: T, q :: U => by
    rw [List.map_cons, List.map_cons, eqDs, eqDs_pairs]
    have : eqD (pairD p) (pairD q) = decide (p = q) := by
      obtain ⟨a, b⟩ := p
      obtain ⟨x, y⟩ := q
      show (eqD (.int a) (.int x) && (eqD (.int b) (.int y) && true)) = _
      have e : ∀ i j : Int, eqD (.int i) (.int j) = decide (i = j) := fun i j => by
        show (i == j) = _
        by_cases h : i = j <;> simp [h]
      rw [e, e]
      by_cases h : a = x <;> by_cases g : b = y <;> simp [h, g]
    rw [this]
    by_cases h : p = q <;> by_cases g : T = U <;> simp [h, g]
theorem ok_lst {T : List (Int × Int)} : okN 60 (.lst (T.map pairD)) = true := by rw [okN_lst]; exact ok_ties
theorem got_of {S : Sto} {r : R Rt} {d : Dv} (h : r = .ok S (.val (.d d))) : DN.Got r S (.d d) := h ▸ .val _ _
theorem def_ex {m : Nat} {body : FS} {args : List Vr} {S : Sto} {c : String} {d : Dv} (h : outS (body (startE m args) S) = .ex S (.own c (.d d))) : defD m body args S = .ex S (.own c (.d d)) := by
  unfold defD
  rw [h]
  show DN.R.ex (S.take S.length) _ = _
  rw [take_len]
theorem raise_ok {S : Sto} {env : DN.Env} {fe : FE} {c : String} {v : Vr} (h : fe env S = .ok S (.val v)) : kRaise c fe env S = .ex env S (.own c v) := by
  unfold kRaise
  rw [h]
  rfl
section
variable {S : Sto} {m : Nat} {env : DN.Env}
theorem op_s {g : Dv → Dv → Option Rt} {fa fb : FE} {S S1 S2 : Sto} {a b c : Dv} (ha : fa env S = .ok S1 (.val (.d a))) (hb : fb env S1 = .ok S2 (.val (.d b))) (hg : g a b = vD c) : fOp g fa fb env S = .ok S2 (.val (.d c)) := by
  simp_arith [ha, hb, hg]
theorem take_at {i : Nat} {c : Cell} {j : Nat} {fe : FE} {a : Int} (hm : m < S.length) (hB : Bx j c) (hj : j ≤ 100000000) (h0 : env[i]? = some (.v (.r m))) (he : fe env (S.set m c) = .ok (S.set m c) (.val (.d (.int a)))) (ha : 0 < a) (ha2 : a < 1000000) :
    ∃ (d : Nat) (c' : Cell), (d : Int) < a ∧ Bx (j + 1) c' ∧ fCallD 2 D_law_take (fCons (fVar i) (fCons fe fNil)) env (S.set m c) = .ok (S.set m c') (.val (.d (.int d))) := by
  obtain ⟨d, c', h1, h2, h3⟩ := take_ok (T := S) (m := a) hB hm (by omega) ha (by omega)
  exact ⟨d, c', h1, h2, callD (l := [.r m, .d (.int a)]) (by simp_arith [h0, he]) rfl h3⟩
theorem st_par {i j : Nat} {f1 f2 : FE} {S S1 S2 : Sto} {a b : Vr} (h1 : f1 env S = .ok S1 (.val a)) (h2 : f2 env S1 = .ok S2 (.val b)) : kPar i j (fCons f1 (fCons f2 fNil)) env S = .nx ((env.set i (.v a)).set j (.v b)) S2 := by
  simp_arith [h1, h2]
theorem un_ok {g : Dv → Option Rt} {fa : FE} {a c : Dv} (ha : fa env S = .ok S (.val (.d a))) (hg : g a = vD c) : fUn g fa env S = .ok S (.val (.d c)) := by
  simp_arith [ha, hg]
theorem lst2_ok {fa fb : FE} {env : DN.Env} {a b : Dv} (h1 : fa env S = .ok S (.val (.d a))) (h2 : fb env S = .ok S (.val (.d b))) : fLst (fCons fa (fCons fb fNil)) env S = .ok S (.new (.lst [a, b])) := by
  simp_arith [h1, h2]
end
structure Vd (n : Nat) (T : List (Int × Int)) : Prop where
  lo : 1 ≤ n
  hi : n ≤ 40
  ti : ∀ p ∈ T, Tie n p
  pw : T.Pairwise fun x y => cd2 x < cd2 y
theorem Vd.small {n : Nat} {T : List (Int × Int)} (v : Vd n T) : ∀ p ∈ T, Small p := fun p hp => (v.ti p hp).small v.hi
theorem sortP_id {T : List (Int × Int)} (hs : ∀ p ∈ T, Small p) (h : T.Pairwise fun x y => cd2 x < cd2 y) : sortP T = T :=
  ascend_unique cd2 (sortP_pw T) h fun x => mem_sortP hs
theorem Vd.sort {n : Nat} {T : List (Int × Int)} (v : Vd n T) : sortP T = T := sortP_id v.small v.pw
theorem Vd.of {n : Nat} {L : List (Int × Int)} (lo : 1 ≤ n) (hi : n ≤ 40) (h : ∀ p ∈ L, Tie n p) : Vd n (sortP L) :=
  ⟨lo, hi, fun p hp => h p ((mem_sortP fun q hq => (h q hq).small hi).mp hp), sortP_pw L⟩
/-- a comprehension that draws whether an item is kept -/
theorem lc_fs {t : Its} {i : Nat} {ft : FT} {fe : FE} {env : DN.Env} (I : Nat → Sto → Prop) (g : Nat → Dv) (ht : t.2 = none) : ∀ {l : List Nat} {acc : List Dv} {j : Nat} {S : Sto}, I j S →
    (∀ k ∈ l, ∀ j S, I j S → j < 1000 → ∃ S' b, ft (env.set i (.v (.d (.int (k : Int))))) S = .ok S' b ∧ I (j + 1) S' ∧ fe (env.set i (.v (.d (.int (k : Int))))) S' = .ok S' (.val (.d (g k)))) → acc.length + l.length ≤ 1000 → j + l.length ≤ 1000 →
    ∃ (S' : Sto) (ks : List Nat), lcGo t (tgN i) ft fe env (l.map fun k : Nat => .int (k : Int)) S acc = .ok S' (acc ++ ks.map g) ∧ I (j + l.length) S' ∧ ks.Sublist l
  | [], acc, j, S, hI, h, hl, _ => ⟨S, [], by
      have : lockOk t S = true := by unfold lockOk; rw [ht]
      simp [lcGo, this], hI, List.Sublist.refl _⟩
  | k :: l, acc, j, S, hI, h, hl, hj => by
    have hk : lockOk t S = true := by unfold lockOk; rw [ht]
    simp only [List.length_cons] at hl hj
    obtain ⟨S1, b, e1, I1, e2⟩ := h k List.mem_cons_self j S hI (by omega)
    have et : tgN i (.int (k : Int)) env = some (env.set i (.v (.d (.int (k : Int))))) := rfl
    cases b with
    | true =>
      obtain ⟨S2, ks, e3, I2, s2⟩ := lc_fs I g ht (l := l) (acc := acc ++ [g k]) (j := j + 1) I1 (fun x hx => h x (List.mem_cons_of_mem _ hx)) (by simp; omega) (by omega)
      refine ⟨S2, k :: ks, ?_, by rw [List.length_cons, show j + (l.length + 1) = j + 1 + l.length by omega]; exact I2, s2.cons₂ k⟩
      simp only [List.map_cons, lcGo, hk, if_true, et, e1, noex_ok, R.bind, e2, R.bindV, onD]
      rw [if_pos (by omega), e3]
      simp
    | false =>
      obtain ⟨S2, ks, e3, I2, s2⟩ := lc_fs I g ht (l := l) (acc := acc) (j := j + 1) I1 (fun x hx => h x (List.mem_cons_of_mem _ hx)) (by omega) (by omega)
      refine ⟨S2, ks, ?_, by rw [List.length_cons, show j + (l.length + 1) = j + 1 + l.length by omega]; exact I2, s2.cons k⟩
      simp only [List.map_cons, lcGo, hk, if_true, et, e1, noex_ok, R.bind]
      exact e3
def bnd (n : Nat) : Nat → Nat
  | 0 => 0
  | k + 1 => bnd n k + (n - 1 - k)
theorem bnd_40 : ∀ n : Fin 41, bnd n n ≤ 780 := by decide +kernel
/-- the ties below house k -/
structure Pt (n k : Nat) (T : List (Int × Int)) : Prop where
  ti : ∀ p ∈ T, Tie n p
  lt : ∀ p ∈ T, p.1 < k
  pw : T.Pairwise fun x y => cd2 x < cd2 y
  le : T.length ≤ bnd n k
theorem Pt.step {n k : Nat} {T : List (Int × Int)} {ks : List Nat} (h : Pt n k T) (hn : n ≤ 40) (hk : k < n) (hs : ks.Sublist ((List.range (n - (k + 1))).map (k + 1 + ·))) : Pt n (k + 1) (T ++ ks.map fun j : Nat => ((k : Int), (j : Int))) := by
  have hm : ∀ j ∈ ks, k < j ∧ j < n := fun j hj => by
    have := hs.subset hj
    simp at this
    omega
  have hp : ks.Pairwise (· < ·) := by
    refine List.Pairwise.sublist hs ?_
    rw [List.pairwise_map]
    exact List.pairwise_lt_range.imp fun h => by omega
  refine ⟨fun p hp => ?_, fun p hp => ?_, ?_, ?_⟩
  · rcases List.mem_append.mp hp with hp | hp
    · exact h.ti p hp
    · obtain ⟨j, hj, rfl⟩ := List.mem_map.mp hp
      have := hm j hj
      exact ⟨by simp, by simp; omega, by simp; omega⟩
  · rcases List.mem_append.mp hp with hp | hp
    · have := h.lt p hp; omega
    · obtain ⟨j, hj, rfl⟩ := List.mem_map.mp hp
      show (k : Int) < ((k + 1 : Nat) : Int)
      omega
  · refine List.pairwise_append.mpr ⟨h.pw, ?_, fun a ha b hb => ?_⟩
    · rw [List.pairwise_map]
      refine hp.imp fun {a b} hab => ?_
      show cd2 ((k : Int), (a : Int)) < cd2 ((k : Int), (b : Int))
      unfold cd2
      simp
      omega
    · obtain ⟨j, hj, rfl⟩ := List.mem_map.mp hb
      have h1 := h.lt a ha
      obtain ⟨q1, q2, q3⟩ := h.ti a ha
      have := hm j hj
      unfold cd2
      simp
      omega
  · have := hs.length_le
    have := h.le
    simp at this ⊢
    unfold bnd
    have := hs.length_le
    simp at this
    omega
theorem Pt.vd {n : Nat} {T : List (Int × Int)} (h : Pt n n T) (h1 : 1 ≤ n) (h2 : n ≤ 40) : Vd n T ∧ T.length ≤ 780 := ⟨⟨h1, h2, h.ti, h.pw⟩, Nat.le_trans h.le (bnd_40 ⟨n, by omega⟩)⟩
abbrev tlC : FE := (fLc (iRange2 (fCons (fOp gAdd (fVar 4) (fC (.int 1))) (fCons (fVar 1) fNil))) (tgN 5) (kVal (fOp gLt (fCallD 2 D_law_take (fCons (fVar 0) (fCons (fC (.int 6)) fNil))) (fVar 2))) (fTup (fCons (fVar 4) (fCons (fVar 5) fNil))) [5])
abbrev ET (m n s : Nat) (T : List (Int × Int)) (u4 u5 : Sl) : DN.Env := [.v (.r m), .v (.d (.int n)), .v (.d (.int s)), .v (.d (.lst (T.map pairD))), u4, u5]
section
variable {S : Sto} {m n s : Nat} {T : List (Int × Int)}
theorem tlC_ok {k j : Nat} {c : Cell} {u5 : Sl} (hm : m < S.length) (hB : Bx j c) (hj : j ≤ 100000000) (hn : n ≤ 40) (hk : k < n) :
    ∃ (c' : Cell) (ks : List Nat), Bx (j + 40) c' ∧ ks.Sublist ((List.range (n - (k + 1))).map (k + 1 + ·)) ∧ tlC (ET m n s T (.v (.d (.int k))) u5) (S.set m c) = .ok (S.set m c') (.new (.lst (ks.map fun j : Nat => pairD ((k : Int), (j : Int))))) := by
  have r := range_2 (fl := fCons (fOp gAdd (fVar 4) (fC (.int 1))) (fCons (fVar 1) fNil)) (env := ET m n s T (.v (.d (.int k))) u5) (S := S.set m c) (a := k + 1) (b := n) (args2 (op_ok (var_ok rfl) c_ok rfl) (var_ok rfl)) (by omega) (by omega)
  have el : ((List.range (n - (k + 1))).map fun i : Nat => Dv.int ((k + 1 + i : Nat) : Int)) = ((List.range (n - (k + 1))).map (k + 1 + ·)).map fun x : Nat => .int (x : Int) := by rw [List.map_map]; rfl
  rw [el] at r
  obtain ⟨S', ks, e1, ⟨c', b', e2⟩, e3⟩ := lc_fs (t := (((List.range (n - (k + 1))).map (k + 1 + ·)).map fun x : Nat => .int (x : Int), none)) (i := 5) (ft := kVal (fOp gLt (fCallD 2 D_law_take (fCons (fVar 0) (fCons (fC (.int 6)) fNil))) (fVar 2))) (fe := fTup (fCons (fVar 4) (fCons (fVar 5) fNil)))
    (env := ET m n s T (.v (.d (.int k))) .u) (fun i U => ∃ c', Bx (j + i) c' ∧ U = S.set m c') (fun j : Nat => pairD ((k : Int), (j : Int))) rfl (l := (List.range (n - (k + 1))).map (k + 1 + ·)) (acc := []) (j := 0) (S := S.set m c) ⟨c, hB, rfl⟩ (fun x _ i U hI hi => by
      obtain ⟨c1, b1, rfl⟩ := hI
      obtain ⟨d, c2, h1, h2, h3⟩ := take_ok (T := S) (m := 6) b1 hm (by omega) (by omega) (by omega)
      refine ⟨S.set m c2, decide ((d : Int) < (s : Int)), ?_, ⟨c2, h2, rfl⟩, tup2_ok (var_ok rfl) (var_ok rfl)⟩
      have e : fCallD 2 D_law_take (fCons (fVar 0) (fCons (fC (.int 6)) fNil)) (ET m n s T (.v (.d (.int k))) (.v (.d (.int (x : Int))))) (S.set m c1) = .ok (S.set m c2) (.val (.d (.int d))) := by
        refine callD (l := [.r m, .d (.int 6)]) ?_ rfl h3
        rfl
      show kVal (fOp gLt _ (fVar 2)) (ET m n s T (.v (.d (.int k))) (.v (.d (.int (x : Int))))) (S.set m c1) = _
      have e5 : fVar 2 (ET m n s T (.v (.d (.int k))) (.v (.d (.int (x : Int))))) (S.set m c2) = .ok (S.set m c2) (.val (.d (.int s))) := rfl
      generalize fCallD 2 D_law_take (fCons (fVar 0) (fCons (fC (.int 6)) fNil)) = F at e
      simp_arith [e, gLt_]) (by simp; omega) (by simp; omega)
  refine ⟨c', ks, b'.le (by simp; omega), e3, ?_⟩
  unfold tlC fLc
  rw [r]
  simp only [R.bind]
  rw [show wipeE (ET m n s T (.v (.d (.int k))) u5) [5] = ET m n s T (.v (.d (.int k))) .u from rfl, e1, e2]
  rfl
theorem asgT2 {i j : Nat} {fa fb : FE} {env : DN.Env} {S S' : Sto} {a : Dv} {l : List Dv} (h1 : fa env S = .ok S' (.val (.d a))) (h2 : fb env S' = .ok S' (.new (.lst l))) : kAsg (tgT (tgCons (tgN i) (tgCons (tgN j) tgNil))) (fTup (fCons fa (fCons fb fNil))) env S = .nx ((env.set i (.v (.d a))).set j (.v (.d (.lst l)))) S' := by
  simp_arith [h1, h2]
theorem callT {i k : Nat} {d : Dv} {env : DN.Env} {S S' : Sto} {a : Int} (h0 : env[i]? = some (.v (.r m))) (h : D_law_take [.r m, .d (.int a)] S = .ok S' (.val (.d d))) : fCallD 2 D_law_take (fCons (fVar i) (fCons (fC (.int a)) fNil)) env S = .ok S' (.val (.d d)) :=
  callD (by simp_arith [h0]) rfl h
theorem ties_0 {c c1 : Cell} (s3 : D_law_take [.r m, .d (.int 5)] (S.set m c) = .ok (S.set m c1) (.val (.d (.int s)))) :
    kAsg (tgT (tgCons (tgN 2) (tgCons (tgN 3) tgNil))) (fTup (fCons (fOp gAdd (fC (.int 1)) (fCallD 2 D_law_take (fCons (fVar 0) (fCons (fC (.int 5)) fNil)))) (fCons (fLst fNil) fNil))) [.v (.r m), .v (.d (.int n)), .u, .u, .u, .u] (S.set m c) = .nx (ET m n (1 + s) [] .u .u) (S.set m c1) := by
  have e : fOp gAdd (fC (.int 1)) (fCallD 2 D_law_take (fCons (fVar 0) (fCons (fC (.int 5)) fNil))) [.v (.r m), .v (.d (.int n)), .u, .u, .u, .u] (S.set m c) = .ok (S.set m c1) (.val (.d (.int ((1 + s : Nat) : Int)))) :=
    op_s c_ok (callT (k := 0) rfl s3) (by show vI (1 + (s : Int)) = vI _; congr 1)
  rw [asgT2 e (show fLst fNil _ (S.set m c1) = .ok (S.set m c1) (.new (.lst [])) from rfl)]
  rfl
theorem add_ok {i : Nat} {F : FE} {env : DN.Env} {S S' : Sto} {a b ab : List Dv} (h1 : env[i]? = some (.v (.d (.lst a)))) (h2 : F env S = .ok S' (.new (.lst b))) (h3 : gAdd (.lst a) (.lst b) = nL ab) : kSet i (fOp gAdd (fVar i) F) env S = .nx (env.set i (.v (.d (.lst ab)))) S' := by
  have e : fOp gAdd (fVar i) F env S = .ok S' (.new (.lst ab)) := by
    simp_arith [h1, h2, h3]
  rw [kSet_, e]
  rfl
theorem ties_1 {j : Nat} {c1 : Cell} (hm : m < S.length) (s2 : Bx (j + 1) c1) (hj : j ≤ 10000000) (hn : n ≤ 40) :
    ∃ (T : List (Int × Int)) (c' : Cell) (u4 u5 : Sl), Bx (j + 1 + n * 40) c' ∧ Pt n n T ∧ kFor (iRange1 (fCons (fVar 1) fNil)) (tgN 4) (kSet 3 (fOp gAdd (fVar 3) tlC)) (ET m n s [] .u .u) (S.set m c1) = .nx (ET m n s T u4 u5) (S.set m c') := by
  obtain ⟨env', S', e2, T, c', u4, u5, b', rfl, rfl, pt⟩ := for_rg (fl := fCons (fVar 1) fNil) (body := kSet 3 (fOp gAdd (fVar 3) tlC)) (env := ET m n s [] .u .u) (S := S.set m c1) (i := 4) (n := n)
    (fun k env U => ∃ T c' u4 u5, Bx (j + 1 + k * 40) c' ∧ env = ET m n s T u4 u5 ∧ U = S.set m c' ∧ Pt n k T) (args1 (var_ok rfl)) (by omega) ⟨[], c1, .u, .u, by simpa using s2, rfl, rfl, ⟨by simp, by simp, .nil, by simp⟩⟩ (fun k env U hk ⟨T, c', u4, u5, b', e1, e2, pt⟩ => by
      subst e1 e2
      obtain ⟨c2, ks, q1, q2, q3⟩ := tlC_ok (s := s) (T := T) (u5 := u5) hm b' (by omega) hn hk
      have pt2 := pt.step hn hk q2
      refine ⟨ET m n s (T ++ ks.map fun j : Nat => ((k : Int), (j : Int))) (.v (.d (.int k))) u5, S.set m c2, ?_, _, c2, _, _, q1.le (by omega), rfl, rfl, pt2⟩
      have lT : T.length ≤ 1600 := by
        have h1 := pt.le
        have : ∀ k, bnd n k ≤ k * 40 := fun k => by
          induction k with
          | zero => simp [bnd]
          | succ k ih => unfold bnd; omega
        have := this k
        omega
      have e4 : gAdd (.lst (T.map pairD)) (.lst (ks.map fun j : Nat => pairD ((k : Int), (j : Int)))) = nL ((T ++ ks.map fun j : Nat => ((k : Int), (j : Int))).map pairD) := by
        have := q2.length_le
        show onlyIf (decide ((T.map pairD).length + (ks.map fun j : Nat => pairD ((k : Int), (j : Int))).length ≤ 100000)) (nL _) = _
        rw [decide_eq_true (by simp at this ⊢; omega)]
        show nL _ = nL _
        rw [List.map_append, List.map_map]
        rfl
      have v3 : (ET m n s T (.v (.d (.int k))) u5)[3]? = some (.v (.d (.lst (T.map pairD)))) := rfl
      have e5 := add_ok v3 q3 e4
      have e6 : (ET m n s T u4 u5).set 4 (.v (.d (.int k))) = ET m n s T (.v (.d (.int k))) u5 := rfl
      rw [e6, e5]
      rfl)
  exact ⟨T, c', u4, u5, b', pt, e2⟩
theorem ties_ok {j : Nat} {c : Cell} (hm : m < S.length) (hB : Bx j c) (hj : j ≤ 10000000) (h1 : 1 ≤ n) (hn : n ≤ 40) :
    ∃ (c' : Cell) (T : List (Int × Int)), Bx (j + 2000) c' ∧ Vd n T ∧ T.length ≤ 780 ∧ D_law_ties [.r m, .d (.int n)] (S.set m c) = .ok (S.set m c') (.val (.d (.lst (T.map pairD)))) := by
  obtain ⟨s, c1, s1, s2, s3⟩ := take_ok (T := S) (m := 5) hB hm (by omega) (by omega) (by omega)
  obtain ⟨T, c', u4, u5, b', pt, e2⟩ := ties_1 (n := n) (s := 1 + s) hm s2 hj hn
  obtain ⟨v, lT⟩ := pt.vd h1 hn
  have e : B_law_ties [.v (.r m), .v (.d (.int n)), .u, .u, .u, .u] (S.set m c) = .rt (S.set m c') (.val (.d (.lst (T.map pairD)))) := seq_nx (ties_0 s3) (seq_nx e2 (ret_ok (var_ok rfl)))
  exact ⟨c', T, b'.le (by omega), v, lT, def_set ((congrArg outS e).trans rfl)⟩
end
end Q05
namespace Q05
open DN PySem L2
def Asc (l : List Nat) : Prop := ∀ c ∈ l, c < 128
theorem asc_ok {s : Str} (h : Asc s.cps.toList) : PyData.strOk s = true := by
  unfold PyData.strOk
  rw [← Array.all_toList]
  simp only [List.all_eq_true, decide_eq_true_eq]
  exact fun c hc => Nat.lt_trans (h c hc) (by decide)
theorem app_asc {a b : Str} (ha : Asc a.cps.toList) (hb : Asc b.cps.toList) : Asc (a ++ b).cps.toList := by
  rw [app_tl]
  intro c hc
  rcases List.mem_append.mp hc with hc | hc
  · exact ha c hc
  · exact hb c hc
theorem app_len (a b : Str) : (a ++ b).length = a.length + b.length := by
  rw [TL.len_tl, TL.tl_append, List.length_append, ← TL.len_tl, ← TL.len_tl]
theorem asc_lit {l : List Nat} (h : (l.all fun c => decide (c < 128)) = true) : Asc l := fun c hc => by
  simp only [List.all_eq_true, decide_eq_true_eq] at h
  exact h c hc
/-- a datum whose text is plain and not longer than k -/
structure ShP (p : PyData) (k : Nat) : Prop where
  a : Asc p.shown.cps.toList
  n : p.shown.length ≤ k
  s : p.showable = true
  d : p.depth ≤ 10
theorem ShP.le {p : PyData} {k m : Nat} (h : ShP p k) (l : k ≤ m) : ShP p m := ⟨h.a, Nat.le_trans h.n l, h.s, h.d⟩
theorem textFrom_p {m : Nat} : ∀ (ts : List Str) (k : Nat) (acc : Str), Asc acc.cps.toList → (∀ t ∈ ts, Asc t.cps.toList ∧ t.length ≤ m) → Asc (textFrom k acc ts).cps.toList ∧ (textFrom k acc ts).length ≤ acc.length + ts.length * (m + 2)
  | [], k, acc, ha, _ => ⟨ha, by show acc.length ≤ _; omega⟩
  | t :: ts, k, acc, ha, h => by
    obtain ⟨h1, h2⟩ := h t List.mem_cons_self
    have hs : Asc (Str.ofString (if k > 0 then ", " else "")).cps.toList ∧ (Str.ofString (if k > 0 then ", " else "")).length ≤ 2 := by
      by_cases q : k > 0
      · rw [if_pos q]; exact ⟨show Asc [44, 32] from asc_lit (by decide), show 2 ≤ 2 by omega⟩
      · rw [if_neg q]; exact ⟨show Asc [] from asc_lit (by decide), show 0 ≤ 2 by omega⟩
    obtain ⟨i1, i2⟩ := textFrom_p (m := m) ts (k + 1) (acc ++ (if k > 0 then ", " else "" : String) ++ t) (app_asc (app_asc ha hs.1) h1) fun x hx => h x (List.mem_cons_of_mem _ hx)
    refine ⟨i1, Nat.le_trans i2 ?_⟩
    rw [app_len, app_len, List.length_cons, Nat.add_mul]
    have := hs.2
    omega
theorem shownAll_map : ∀ ps : List PyData, PyData.shownAll ps = ps.map PyData.shown
  | [] => rfl
  | p :: ps => by
    show PyData.shown p :: PyData.shownAll ps = _
    rw [shownAll_map ps]
    rfl
theorem all_show : ∀ {ps : List PyData}, (∀ p ∈ ps, p.showable = true) → PyData.showableAll ps = true
  | [], _ => rfl
  | p :: ps, h => by
    show (PyData.showable p && PyData.showableAll ps) = true
    rw [h p List.mem_cons_self, all_show fun q hq => h q (List.mem_cons_of_mem _ hq)]
    rfl
theorem all_depth {m : Nat} : ∀ {ps : List PyData}, (∀ p ∈ ps, p.depth ≤ m) → PyData.depthAll ps ≤ m
  | [], _ => Nat.zero_le _
  | p :: ps, h => by
    show max (PyData.depth p) (PyData.depthAll ps) ≤ m
    have h1 := h p List.mem_cons_self
    have h2 := all_depth (ps := ps) fun q hq => h q (List.mem_cons_of_mem _ hq)
    omega
theorem sh_list {ps : List PyData} {m : Nat} (h : ∀ p ∈ ps, ShP p m ∧ p.depth ≤ 9) : ShP (.list ps) (2 + ps.length * (m + 2)) := by
  obtain ⟨i1, i2⟩ := textFrom_p (m := m) (PyData.shownAll ps) 0 "[" (show Asc [91] from asc_lit (by decide)) fun t ht => by
    rw [shownAll_map] at ht
    obtain ⟨p, hp, rfl⟩ := List.mem_map.mp ht
    exact ⟨(h p hp).1.a, (h p hp).1.n⟩
  have hl : (PyData.shownAll ps).length = ps.length := by rw [shownAll_map, List.length_map]
  refine ⟨app_asc i1 (show Asc [93] from asc_lit (by decide)), ?_, all_show fun p hp => (h p hp).1.s, ?_⟩
  · show (textFrom 0 "[" (PyData.shownAll ps) ++ ("]" : Str)).length ≤ _
    rw [app_len, ← hl]
    have e : ("[" : Str).length = 1 := rfl
    have e2 : ("]" : Str).length = 1 := rfl
    omega
  · have := all_depth (m := 9) fun p hp => (h p hp).2
    show PyData.depthAll ps + 1 ≤ 10
    omega
theorem join_p {m : Nat} : ∀ (ts : List Str), (∀ t ∈ ts, Asc t.cps.toList ∧ t.length ≤ m) → Asc (Str.join ", " ts).cps.toList ∧ (Str.join ", " ts).length ≤ ts.length * (m + 2)
  | [], _ => ⟨show Asc [] from asc_lit (by decide), Nat.zero_le _⟩
  | [t], h => by
    obtain ⟨h1, h2⟩ := h t List.mem_cons_self
    refine ⟨h1, ?_⟩
    show t.length ≤ _
    simp
    omega
  | t :: u :: r, h => by
    obtain ⟨h1, h2⟩ := h t List.mem_cons_self
    obtain ⟨i1, i2⟩ := join_p (m := m) (u :: r) fun x hx => h x (List.mem_cons_of_mem _ hx)
    refine ⟨app_asc (app_asc h1 (show Asc [44, 32] from asc_lit (by decide))) i1, ?_⟩
    show (t ++ (", " : Str) ++ Str.join ", " (u :: r)).length ≤ _
    rw [app_len, app_len]
    have e : (", " : Str).length = 2 := rfl
    simp only [List.length_cons, Nat.add_mul, Nat.one_mul] at i2 ⊢
    omega
theorem sh_tuple {ps : List PyData} {m : Nat} (h : ∀ p ∈ ps, ShP p m ∧ p.depth ≤ 9) : ShP (.tuple ps) (3 + ps.length * (m + 2)) := by
  obtain ⟨i1, i2⟩ := join_p (m := m) (PyData.shownAll ps) fun t ht => by
    rw [shownAll_map] at ht
    obtain ⟨p, hp, rfl⟩ := List.mem_map.mp ht
    exact ⟨(h p hp).1.a, (h p hp).1.n⟩
  have hl : (PyData.shownAll ps).length = ps.length := by rw [shownAll_map, List.length_map]
  have he : Asc (Str.ofString (if (PyData.shownAll ps).length == 1 then ",)" else ")")).cps.toList ∧ (Str.ofString (if (PyData.shownAll ps).length == 1 then ",)" else ")")).length ≤ 2 := by
    cases (PyData.shownAll ps).length == 1
    · exact ⟨show Asc [41] from asc_lit (by decide), show 1 ≤ 2 by omega⟩
    · exact ⟨show Asc [44, 41] from asc_lit (by decide), show 2 ≤ 2 by omega⟩
  refine ⟨app_asc (app_asc (show Asc [40] from asc_lit (by decide)) i1) he.1, ?_, all_show fun p hp => (h p hp).1.s, ?_⟩
  · show (("(" : Str) ++ Str.join ", " (PyData.shownAll ps) ++ (if (PyData.shownAll ps).length == 1 then ",)" else ")" : String)).length ≤ _
    rw [app_len, app_len]
    rw [hl] at i2
    have e : ("(" : Str).length = 1 := rfl
    have := he.2
    omega
  · have := all_depth (m := 9) fun p hp => (h p hp).2
    show PyData.depthAll ps + 1 ≤ 10
    omega
theorem int_p : ∀ k : Fin 1000, ((PyData.int (k : Nat)).shown.cps.toList.all fun c => decide (c < 128)) = true ∧ (PyData.int (k : Nat)).shown.length ≤ 4 ∧ (PyData.int (k : Nat)).showable = true := by decide +kernel
theorem sh_int {k : Nat} (h : k < 1000) : ShP (.int k) 4 := by
  obtain ⟨a, b, c⟩ := int_p ⟨k, h⟩
  exact ⟨asc_lit a, b, c, show 0 ≤ 10 by omega⟩
/-- what is shown of a value, and that it may be compared -/
def Sh (x : Dv) : Prop := ∃ s : Str, gShow [x] = vS s ∧ PyData.strOk s = true
theorem sh_of {x : Dv} {p : PyData} {k : Nat} (h : pd x = some p) (hp : ShP p k) (hk : k ≤ 1000000) : Sh x := by
  refine ⟨p.shown, ?_, asc_ok hp.a⟩
  show gShow1 x = _
  unfold gShow1
  rw [h]
  show (if okShow p then vS p.shown else none) = _
  unfold okShow
  rw [hp.s, decide_eq_true (Nat.le_trans hp.n (Nat.le_trans hk (by decide))), decide_eq_true (Nat.le_trans hp.d (by decide))]
  rfl
theorem pds_map {f : α → Dv} {g : α → PyData} : ∀ {l : List α}, (∀ a ∈ l, pd (f a) = some (g a)) → pds (l.map f) = some (l.map g)
  | [], _ => rfl
  | a :: l, h => by
    rw [List.map_cons]
    unfold pds
    rw [h a List.mem_cons_self, pds_map fun b hb => h b (List.mem_cons_of_mem _ hb)]
    rfl
def pairP (p : Int × Int) : PyData := .tuple [.int p.1, .int p.2]
theorem sh_pair {n : Nat} {p : Int × Int} (h : Tie n p) (hn : n ≤ 40) : ShP (pairP p) 15 ∧ (pairP p).depth ≤ 9 := by
  obtain ⟨h1, h2, h3⟩ := h
  have a := sh_int (k := p.1.toNat) (by omega)
  have b := sh_int (k := p.2.toNat) (by omega)
  rw [Int.toNat_of_nonneg h1] at a
  rw [Int.toNat_of_nonneg (by omega)] at b
  exact ⟨show ShP (.tuple [.int p.1, .int p.2]) (3 + 2 * (4 + 2)) from sh_tuple (m := 4) (ps := [.int p.1, .int p.2]) fun q hq => by
    simp only [List.mem_cons, List.not_mem_nil, or_false] at hq
    rcases hq with rfl | rfl
    · exact ⟨a, show 0 ≤ 9 by omega⟩
    · exact ⟨b, show 0 ≤ 9 by omega⟩, show 1 ≤ 9 by omega⟩
theorem sh_ties {n : Nat} {T : List (Int × Int)} (ht : ∀ p ∈ T, Tie n p) (hn : n ≤ 40) (hl : T.length ≤ 1000) : Sh (.tup (T.map pairD)) := by
  refine sh_of (p := .tuple (T.map pairP)) ?_ (sh_tuple (m := 15) fun q hq => ?_) (by simp; omega)
  · show (match pds (T.map pairD) with | some m => some (PyData.tuple m) | none => none) = _
    rw [pds_map (g := pairP) fun p _ => rfl]
  · obtain ⟨p, hp, rfl⟩ := List.mem_map.mp hq
    exact sh_pair (ht p hp) hn
end Q05
namespace Q05
open DN PySem L2
section
variable {S S1 S2 S' T : Sto} {env env' : DN.Env} {fa fb fe : FE} {fl : FA} {l : List Vr} {a b c v : Dv} {x : Xn} {m j n : Nat}
theorem call_new {g : List Dv → Option Rt} {k : List Dv} (ha : fa env S = .ok S (.val (.d a))) (hg : g [a] = nL k) : fCall g (fCons fa fNil) env S = .ok S (.new (.lst k)) := by
  simp_arith [ha, hg]
theorem nil_ok : fNil env S = .ok S [] := rfl
theorem cons_v {v : Vr} (h : fa env S = .ok S1 (.val v)) (hl : fl env S1 = .ok S2 l) : fCons fa fl env S = .ok S2 (v :: l) := by
  unfold fCons
  rw [h]
  show R.bind (fl env S1) _ = _
  rw [hl]
  rfl
theorem cons_d (h : fa env S = .ok S1 (.val (.d a))) (hl : fl env S1 = .ok S2 l) : fCons fa fl env S = .ok S2 (.d a :: l) := cons_v h hl
theorem cons_L {k : List Dv} (h : fa env S = .ok S1 (.new (.lst k))) (hl : fl env S1 = .ok S2 l) : fCons fa fl env S = .ok S2 (.d (.lst k) :: l) := by
  unfold fCons
  rw [h]
  show R.bind (fl env S1) _ = _
  rw [hl]
  rfl
theorem cons_x (h : fa env S = .ex S1 x) : fCons fa fl env S = .ex S1 x := by
  unfold fCons
  rw [h]
  rfl
theorem cons_x2 {v : Vr} (h : fa env S = .ok S1 (.val v)) (hl : fl env S1 = .ex S2 x) : fCons fa fl env S = .ex S2 x := by
  unfold fCons
  rw [h]
  show R.bind (fl env S1) _ = _
  rw [hl]
  rfl
theorem tup_ok {m : List Dv} (hl : fl env S = .ok S1 l) (hg : gTupD l = vT m) : fTup fl env S = .ok S1 (.val (.d (.tup m))) := by
  unfold fTup
  rw [hl]
  show R.of S1 (gTupD l) = _
  rw [hg]
  rfl
theorem lst_ok {m : List Dv} (hl : fl env S = .ok S1 l) (hg : gLstD l = nL m) : fLst fl env S = .ok S1 (.new (.lst m)) := by
  unfold fLst
  rw [hl]
  show R.of S1 (gLstD l) = _
  rw [hg]
  rfl
theorem st_setO {i : Nat} {o : String} {k : List Dv} (h : fe env S = .ok S1 (.new (.ob o k))) (he : env.set i (.v (.d (.obj o k))) = env') : kSet i fe env S = .nx env' S1 := by
  rw [kSet_, h, ← he]
  rfl
theorem val_s {t : Bool} (h : fe env S = .ok S1 (.val (.d (.bl t)))) : kVal fe env S = .ok S1 t := by
  simp_arith [h]
theorem ret_x (h : fe env S = .ex S1 x) : kRet fe env S = .ex env S1 x := by
  rw [kRet_, h]
  rfl
theorem exp_ok {v : Vr} (h : fe env S = .ok S1 (.val v)) : kExpr fe env S = .nx env S1 := by
  rw [kExpr_, h]
  cases v <;> rfl
theorem exp_x (h : fe env S = .ex S1 x) : kExpr fe env S = .ex env S1 x := by
  rw [kExpr_, h]
  rfl
theorem var_v {i : Nat} {v : Vr} (h : env[i]? = some (.v v)) : fVar i env S = .ok S (.val v) := by
  simp_arith [h]
theorem op_S {g : Dv → Dv → Option Rt} (ha : fa env S = .ok S1 (.val (.d a))) (hb : fb env S1 = .ok S2 (.val (.d b))) (hg : g a b = vD c) : fOp g fa fb env S = .ok S2 (.val (.d c)) := by
  simp_arith [ha, hb, hg]
theorem op_L {g : Dv → Dv → Option Rt} {m : List Dv} (ha : fa env S = .ok S1 (.new (.lst m))) (hb : fb env S1 = .ok S2 (.val (.d b))) (hg : g (.lst m) b = vD c) : fOp g fa fb env S = .ok S2 (.val (.d c)) := by
  simp_arith [ha, hb, hg]
end
section
variable {S S1 S2 : Sto} {env : DN.Env} {fa fb fe : FE} {fl : FA} {m j n : Nat} {a b v : Vr} {d c : Dv} {s t u : Str} {x : Xn}
theorem orYes {t1 t2 : FT} (h : t1 env S = .ok S true) : kOr t1 t2 env S = .ok S true := by
  simp_arith [h]
theorem lc_mp {β : Type} {t : Its} {tg : FG} {ft : FT} {fe : FE} (f : β → Dv) (p : β → Bool) (g : β → Dv) (hk : lockOk t S = true) : ∀ {l : List β} {acc : List Dv},
    (∀ x ∈ l, ∃ env', tg (f x) env = some env' ∧ ft env' S = .ok S (p x) ∧ (p x = true → Got (fe env' S) S (.d (g x)))) → acc.length + l.length ≤ 100000 → lcGo t tg ft fe env (l.map f) S acc = .ok S (acc ++ (l.filter p).map g)
  | [], acc, h, hl => by simp [lcGo, hk]
  | d :: l, acc, h, hl => by
    obtain ⟨env', h1, h2, h3⟩ := h d List.mem_cons_self
    have ih := fun acc => lc_mp (t := t) (tg := tg) (ft := ft) (fe := fe) f p g hk (l := l) (acc := acc) fun x hx => h x (List.mem_cons_of_mem _ hx)
    have hl' : acc.length + l.length + 1 ≤ 100000 := by simpa [Nat.add_assoc] using hl
    simp only [List.map_cons, lcGo, hk, if_true, h1, h2, noex_ok, R.bind]
    cases q : p d with
    | false =>
      simp only [Bool.false_eq_true, if_false]
      rw [ih acc (by omega), List.filter_cons, q]
      rfl
    | true =>
      have g3 := h3 q
      simp only [if_true]
      have e : (fe env' S).noex.bindV (fun S2 v => onD v fun y => if acc.length < 100000 then lcGo t tg ft fe env (l.map f) S2 (acc ++ [y]) else .no) = lcGo t tg ft fe env (l.map f) S (acc ++ [g d]) := by
        generalize fe env' S = r at g3
        cases g3 with
        | val =>
          simp only [noex_ok, R.bindV, onD]
          rw [if_pos (by omega)]
        | new S c d' hc => rw [noex_ok, bindV_new hc]; simp only [onD]; rw [if_pos (by omega)]
      rw [e, ih (acc ++ [g d]) (by simp; omega), List.filter_cons, q]
      simp
theorem fLc_mp {β : Type} {fi : FI} {tg : FG} {ft : FT} {fe : FE} {vs : List Nat} (f : β → Dv) (l : List β) (p : β → Bool) (g : β → Dv) (hi : fi env S = .ok S (l.map f, none)) (hl : l.length ≤ 100000)
    (h : ∀ x ∈ l, ∃ env', tg (f x) (wipeE env vs) = some env' ∧ ft env' S = .ok S (p x) ∧ (p x = true → Got (fe env' S) S (.d (g x)))) : fLc fi tg ft fe vs env S = .ok S (.new (.lst ((l.filter p).map g))) := by
  unfold fLc
  rw [hi]
  simp only [R.bind]
  rw [lc_mp f p g rfl h (by simpa using hl)]
  rfl
theorem orNo {t1 t2 : FT} {r : Bool} (h : t1 env S = .ok S false) (h2 : t2 env S = .ok S r) : kOr t1 t2 env S = .ok S r := by
  simp_arith [h, h2]
end
end Q05
set_option maxHeartbeats 1000000
namespace Q05
open DN PySem L2
abbrev EQt : MT := [("Web", 2, D_Web_eq)]
section
variable {S S1 S2 : Sto} {env env' : DN.Env} {fa fb fe : FE} {fl : FA} {n i j k q p : Nat} {T U L : List (Int × Int)} {w x y z v : Dv} {a b : Int} {s t : Str}
theorem int_dec : D_is_house [.d (.int n), .d (.int a)] S = .ok S (.val (.d (.bl (decide (0 ≤ a ∧ a < n))))) := by
  refine def_pure ?_
  by_cases h1 : 0 ≤ a
  · by_cases h2 : a < n
    · simp_arith [is_integer_ok, gLe_, gLt_, decide_eq_true h1, decide_eq_true h2, decide_eq_true (show 0 ≤ a ∧ a < n from ⟨h1, h2⟩)]
    · simp_arith [is_integer_ok, gLe_, gLt_, decide_eq_true h1, decide_eq_false h2, decide_eq_false (show ¬ (0 ≤ a ∧ a < n) from fun h => h2 h.2)]
  · simp_arith [is_integer_ok, gLe_, gLt_, decide_eq_false h1, decide_eq_false (show ¬ (0 ≤ a ∧ a < n) from fun h => h1 h.1)]
/-- x is no integer -/
def NoI (x : Dv) : Prop := ∀ S : Sto, D_is_integer [.d x] S = .ok S (.val (.d (.bl false)))
theorem noI_of (h : gIsi ["Web"] x (.ty "int") = vB false) : NoI x := fun S => by
  refine def_pure ?_
  simp_arith [h]
theorem noI_bl {c : Bool} : NoI (.bl c) := fun S => by
  refine def_pure ?_
  simp_arith [show gIsi ["Web"] (.bl c) (.ty "int") = vB true from rfl, show gIsi ["Web"] (.bl c) (.ty "bool") = vB true from rfl]
theorem hou_no (h : NoI x) : D_is_house [.d (.int n), .d x] S = .ok S (.val (.d (.bl false))) := by
  refine def_pure ?_
  have := h S
  simp_arith [this]
/-- x is no house among n -/
def NoH (n : Nat) (x : Dv) : Prop := ∀ S : Sto, D_is_house [.d (.int n), .d x] S = .ok S (.val (.d (.bl false)))
theorem houses_at (hw : IsW w n T) (h : env[q]? = some (.v (.d w))) : fUn (gFld ["Web"] "houses") (fVar q) env S = .ok S (.val (.d (.int n))) := un_ok (var_ok h) hw.houses
theorem ties_at (hw : IsW w n T) (h : env[q]? = some (.v (.d w))) : fUn (gFld ["Web"] "ties") (fVar q) env S = .ok S (.val (.d (.tup (T.map pairD)))) := un_ok (var_ok h) hw.ties
theorem known_at (hw : IsW w n T) (h : env[q]? = some (.v (.d w))) : fUn (gFld ["Web"] "known") (fVar q) env S = .ok S (.val (.d (dicT T))) := un_ok (var_ok h) hw.known
theorem ch_ok (hw : IsW w n T) (hk : k < n) : D_Web_check_house [.d w, .d (.int k)] S = .ok S (.val (.d .non)) := by
  refine def_pure ?_
  have e := int_dec (S := S) (n := n) (a := k)
  rw [decide_eq_true (by omega)] at e
  exact congrArg outS (show B_Web_check_house [.v (.d w), .v (.d (.int k))] S = .nx [.v (.d w), .v (.d (.int k))] S from if_no (notB (b1 := true) (val_s (callD (l := [.d (.int n), .d (.int k)]) (cons_v (houses_at hw rfl) (cons_v (var_v rfl) nil_ok)) rfl e))) rfl)
theorem ch_no (hw : IsW w n T) (h : NoH n x) : D_Web_check_house [.d w, .d x] S = .ex S (.own "InvalidHouse" (.d x)) := by
  refine def_ex ?_
  exact congrArg outS (show B_Web_check_house [.v (.d w), .v (.d x)] S = _ from if_yes (notB (b1 := false) (val_s (callD (l := [.d (.int n), .d x]) (cons_v (houses_at hw rfl) (cons_v (var_v rfl) nil_ok)) rfl (h S)))) (raise_ok (var_v rfl)))
theorem meth {t : MT} {o : Vr} {c : String} {m : Nat} {D : FD} {r : R Rt} {l : List Vr} (h0 : fa env S = .ok S1 (.val o)) (hc : clsV S1 o = some c) (ht : t.at c = some (m, D)) (h1 : fl env S1 = .ok S2 l) (hm : (o :: l).length = m) (h2 : D (o :: l) S2 = r) : fMethD t fa fl env S = r := by
  unfold fMethD
  rw [h0]
  show (match clsV S1 o with
    | some c => match t.at c with
      | some (n, D) => (fl env S1).bind fun S2 l => if (o :: l).length = n then D (o :: l) S2 else R.no
      | none => R.no
    | none => R.no) = r
  rw [hc]
  show (match t.at c with
      | some (n, D) => (fl env S1).bind fun S2 l => if (o :: l).length = n then D (o :: l) S2 else R.no
      | none => R.no) = r
  rw [ht]
  show ((fl env S1).bind fun S2 l => if (o :: l).length = m then D (o :: l) S2 else R.no) = r
  rw [h1]
  show (if (o :: l).length = m then D (o :: l) S2 else R.no) = r
  rw [if_pos hm, h2]
abbrev CHE (p : Nat) : FS := kExpr (fMethD [("Web", 2, D_Web_check_house)] (fVar 0) (fCons (fVar p) fNil))
theorem che_ok (hw : IsW w n T) (h0 : env[0]? = some (.v (.d w))) (hp : env[p]? = some (.v (.d (.int k)))) (hk : k < n) : CHE p env S = .nx env S := exp_ok (meth (m := 2) (D := D_Web_check_house) (l := [.d (.int k)]) (var_v h0) hw.cls rfl (cons_v (var_v hp) nil_ok) rfl (ch_ok hw hk))
theorem che_no (hw : IsW w n T) (h0 : env[0]? = some (.v (.d w))) (hp : env[p]? = some (.v (.d x))) (h : NoH n x) : CHE p env S = .ex env S (.own "InvalidHouse" (.d x)) := exp_x (meth (m := 2) (D := D_Web_check_house) (l := [.d x]) (var_v h0) hw.cls rfl (cons_v (var_v hp) nil_ok) rfl (ch_no hw h))
theorem star_ok {d : Dv} {l : List Dv} {fr : FA} {r : List Vr} (h : fa env S = .ok S (.val (.d d))) (hd : starD S (.d d) = some l) (hr : fr env S = .ok S r) : fStar fa fr env S = .ok S (l.map Vr.d ++ r) := by
  unfold fStar
  rw [h]
  show (match starD S (.d d) with | some l => (fr env S).bind fun S2 r => R.ok S2 (l.map Vr.d ++ r) | none => .no) = _
  rw [hd]
  show (fr env S).bind _ = _
  rw [hr]
  rfl
abbrev bsD (n : Nat) (T : List (Int × Int)) (k : Nat) : List Dv := (bes n T k).map fun j : Nat => Dv.int j
theorem nb_ok (hw : IsW w n T) (hk : k < n) : D_Web_neighbors [.d w, .d (.int k)] S = .ok S (.new (.lst (bsD n T k))) := by
  refine def_new ?_
  have e2 : gIx (besD n T) (.int k) = vD (.lst (bsD n T k)) := gIx_lst (by simp [hk])
  exact congrArg outS (show B_Web_neighbors [.v (.d w), .v (.d (.int k))] S = .rt S (.new (.lst (bsD n T k))) from seq_nx (che_ok hw rfl rfl hk) (ret_ok (call_new (op_ok (un_ok (var_ok rfl) hw.beside) (var_ok (a := .int k) rfl) e2) rfl)))
theorem nb_no (hw : IsW w n T) (h : NoH n x) : D_Web_neighbors [.d w, .d x] S = .ex S (.own "InvalidHouse" (.d x)) := def_ex (congrArg outS (show B_Web_neighbors [.v (.d w), .v (.d x)] S = _ from seq_ex (che_no hw rfl rfl h)))
abbrev E3 (w x y : Dv) : DN.Env := [.v (.d w), .v (.d x), .v (.d y)]
abbrev E4 (w x y : Dv) (u : Sl) : DN.Env := [.v (.d w), .v (.d x), .v (.d y), u]
/-- the tie of two houses -/
abbrev tij (i j : Nat) : Int × Int := tieOf (i : Int) (j : Int)
theorem tij_tie (hi : i < n) (hj : j < n) (h : i ≠ j) : Tie n (tij i j) := by
  unfold tij tieOf
  by_cases c : (j : Int) < i
  · rw [if_pos c, if_neg (by omega)]
    exact ⟨by show (0 : Int) ≤ j; omega, by show (j : Int) < i; omega, by show (i : Int) < n; omega⟩
  · rw [if_neg c, if_pos (by omega)]
    exact ⟨by show (0 : Int) ≤ i; omega, by show (i : Int) < j; omega, by show (j : Int) < n; omega⟩
abbrev TOF : FE := fCallD 2 D_tie_of (fCons (fVar 1) (fCons (fVar 2) fNil))
theorem tof_ok (h1 : env[1]? = some (.v (.d (.int i)))) (h2 : env[2]? = some (.v (.d (.int j)))) : TOF env S = .ok S (.val (.d (pairD (tij i j)))) := callD (l := [.d (.int i), .d (.int j)]) (cons_v (var_v h1) (cons_v (var_v h2) nil_ok)) rfl tie_of_ok
theorem notin_pair {p : Int × Int} : gNotIn2 (pairD p) (dicT T) = vB (!decide (p ∈ T)) := by
  unfold gNotIn2
  simp only [isKey, tkey_pair, Option.isSome_some, onlyIf_t, look_pair]
theorem tied_1 (hw : IsW w n T) (h : NoH n x) : D_Web_tied [.d w, .d x, .d y] S = .ex S (.own "InvalidHouse" (.d x)) := def_ex (congrArg outS (show B_Web_tied (E3 w x y) S = _ from seq_ex (che_no hw rfl rfl h)))
theorem tied_2 (hw : IsW w n T) (hi : i < n) (h : NoH n y) : D_Web_tied [.d w, .d (.int i), .d y] S = .ex S (.own "InvalidHouse" (.d y)) := def_ex (congrArg outS (show B_Web_tied (E3 w (.int i) y) S = _ from seq_nx (che_ok hw rfl rfl hi) (seq_ex (che_no hw rfl rfl h))))
abbrev ijD (i j : Nat) : Dv := .tup [.int i, .int j]
theorem tied_3 (hw : IsW w n T) (hi : i < n) (hj : j < n) (h : i = j ∨ tij i j ∈ T) : D_Web_tied [.d w, .d (.int i), .d (.int j)] S = .ex S (.own "InvalidTie" (.d (ijD i j))) := by
  refine def_ex (congrArg outS (show B_Web_tied (E3 w (.int i) (.int j)) S = _ from seq_nx (che_ok hw rfl rfl hi) (seq_nx (che_ok hw rfl rfl hj) (seq_ex (if_yes ?_ (raise_ok (tup_ok (m := [.int i, .int j]) (cons_v (var_v rfl) (cons_v (var_v rfl) nil_ok)) rfl)))))))
  by_cases c : i = j
  · exact orYes (val_s (op_ok (a := .int i) (b := .int j) (var_ok rfl) (var_ok rfl) (by rw [gEq_int, decide_eq_true (by omega)]; rfl)))
  · have hm : tij i j ∈ T := h.resolve_left c
    exact orNo (val_s (op_ok (a := .int i) (b := .int j) (c := .bl false) (var_ok rfl) (var_ok rfl) (by rw [gEq_int, decide_eq_false (by omega)]; rfl))) (val_s (op_ok (tof_ok rfl rfl) (known_at hw rfl) (by rw [in_pair, decide_eq_true hm]; rfl)))
theorem tied_ok (hw : IsW w n T) (V : Vd n T) (lT : T.length ≤ 900) (hi : i < n) (hj : j < n) (hne : i ≠ j) (hm : tij i j ∉ T) : D_Web_tied [.d w, .d (.int i), .d (.int j)] S = .ok S (.new (.ob "Web" (wbF n (sortP (T ++ [tij i j]))))) := by
  let E := E3 w (.int i) (.int j)
  have ht : ∀ p ∈ T ++ [tij i j], Tie n p := fun p hp => by
    rcases List.mem_append.mp hp with hp | hp
    · exact V.ti p hp
    · rw [List.mem_singleton.mp hp]; exact tij_tie hi hj hne
  have e4 : fTup (fStar (fUn (gFld ["Web"] "ties") (fVar 0)) (fCons TOF fNil)) E S = .ok S (.val (.d (.tup ((T ++ [tij i j]).map pairD)))) := by
    have star : fStar (fUn (gFld ["Web"] "ties") (fVar 0)) (fCons TOF fNil) E S = .ok S ((T.map pairD).map Vr.d ++ [.d (pairD (tij i j))]) := by
      exact star_ok (ties_at hw rfl) rfl (cons_v (tof_ok rfl rfl) nil_ok)
    refine tup_ok star ?_
    rw [show ((T.map pairD).map Vr.d ++ [Vr.d (pairD (tij i j))]) = ((T ++ [tij i j]).map pairD).map Vr.d by simp]
    have key : ∀ m : List Dv, allD (m.map Vr.d) = some m := fun m => by
      induction m with
      | nil => rfl
      | cons x m ih => rw [List.map_cons]; simp only [allD, ih]
    unfold gTupD
    rw [key]
    show (if ((T ++ [tij i j]).map pairD).length ≤ 100000 then vT _ else none) = _
    rw [if_pos (by simp; omega)]
  have e5 := make_ok (S := S) (S' := S) (env := E) (fa := fCons (fUn (gFld ["Web"] "houses") (fVar 0)) (fCons (fTup (fStar (fUn (gFld ["Web"] "ties") (fVar 0)) (fCons TOF fNil))) fNil)) V.lo V.hi (Tv.tup (fun p hp => (ht p hp).small V.hi) (by simp; omega)) ht (by simp; omega) (cons_v (houses_at hw rfl) (cons_v e4 nil_ok))
  refine def_new (congrArg outS (show B_Web_tied E S = _ from seq_nx (che_ok hw rfl rfl hi) (seq_nx (che_ok hw rfl rfl hj) (seq_nx (if_no ?_ rfl) (ret_ok e5)))))
  exact orNo (val_s (op_ok (a := .int i) (b := .int j) (c := .bl false) (var_ok rfl) (var_ok rfl) (by rw [gEq_int, decide_eq_false (by omega)]; rfl))) (val_s (op_ok (tof_ok rfl rfl) (known_at hw rfl) (by rw [in_pair, decide_eq_false hm]; rfl)))
theorem unti_1 (hw : IsW w n T) (h : NoH n x) : D_Web_untied [.d w, .d x, .d y] S = .ex S (.own "InvalidHouse" (.d x)) := def_ex (congrArg outS (show B_Web_untied (E4 w x y .u) S = _ from seq_ex (che_no hw rfl rfl h)))
theorem unti_2 (hw : IsW w n T) (hi : i < n) (h : NoH n y) : D_Web_untied [.d w, .d (.int i), .d y] S = .ex S (.own "InvalidHouse" (.d y)) := def_ex (congrArg outS (show B_Web_untied (E4 w (.int i) y .u) S = _ from seq_nx (che_ok hw rfl rfl hi) (seq_ex (che_no hw rfl rfl h))))
theorem unti_3 (hw : IsW w n T) (hi : i < n) (hj : j < n) (h : tij i j ∉ T) : D_Web_untied [.d w, .d (.int i), .d (.int j)] S = .ex S (.own "InvalidTie" (.d (ijD i j))) :=
  def_ex (congrArg outS (show B_Web_untied (E4 w (.int i) (.int j) .u) S = _ from seq_nx (che_ok hw rfl rfl hi) (seq_nx (che_ok hw rfl rfl hj) (seq_ex (if_yes (val_s (op_ok (tof_ok rfl rfl) (known_at hw rfl) (by rw [notin_pair, decide_eq_false h]; rfl))) (raise_ok (tup_ok (m := [.int i, .int j]) (cons_v (var_v rfl) (cons_v (var_v rfl) nil_ok)) rfl)))))))
theorem eqD_pr (p q : Int × Int) : eqD (pairD p) (pairD q) = decide (p = q) := by
  have := eqDs_pairs (T := [p]) (U := [q])
  simp only [List.map_cons, List.map_nil, eqDs, Bool.and_true] at this
  rw [this]
  exact decide_eq_decide.mpr (by simp)
theorem gNe_pair {p r : Int × Int} : gNe (pairD p) (pairD r) = vB (!decide (p = r)) := by
  unfold gNe
  rw [okN_pair, okN_pair]
  show vB (!eqD (pairD p) (pairD r)) = _
  rw [eqD_pr]
theorem pw_nd (V : Vd n T) : T.Nodup := V.pw.imp fun h e => by subst e; exact absurd h (by omega)
theorem unti_ok (hw : IsW w n T) (V : Vd n T) (lT : T.length ≤ 900) (hi : i < n) (hj : j < n) (h : tij i j ∈ T) : D_Web_untied [.d w, .d (.int i), .d (.int j)] S = .ok S (.new (.ob "Web" (wbF n (T.filter fun p => !decide (p = tij i j))))) := by
  let E := E4 w (.int i) (.int j) .u
  let L := T.filter fun p => !decide (p = tij i j)
  have hL : ∀ p ∈ L, Tie n p := fun p hp => V.ti p (List.mem_filter.mp hp).1
  have lL : L.length ≤ 900 := Nat.le_trans (List.length_filter_le _ _) lT
  have sL : sortP L = L := sortP_id (fun p hp => (hL p hp).small V.hi) (V.pw.filter _)
  have e3 := fLc_mp (fi := iVal (fUn (gFld ["Web"] "ties") (fVar 0))) (tg := tgN 3) (ft := kVal (fOp gNe (fVar 3) TOF)) (fe := fVar 3) (vs := [3]) (env := E) (S := S) pairD T (fun p => !decide (p = tij i j)) pairD (by
    show (fUn (gFld ["Web"] "ties") (fVar 0) E S).bindV (fun S1 a => itOf S1 a) = _
    rw [ties_at hw rfl]
    rfl) (by omega) (fun p hp => ⟨E4 w (.int i) (.int j) (.v (.d (pairD p))), rfl, val_s (op_ok (a := pairD p) (var_ok rfl) (tof_ok rfl rfl) gNe_pair), fun _ => got_of (var_ok rfl)⟩)
  have e5 := make_ok (S := S) (S' := S) (env := E) (fa := fCons (fUn (gFld ["Web"] "houses") (fVar 0)) (fCons (fLc (iVal (fUn (gFld ["Web"] "ties") (fVar 0))) (tgN 3) (kVal (fOp gNe (fVar 3) TOF)) (fVar 3) [3]) fNil)) V.lo V.hi (Tv.lst (fun p hp => (hL p hp).small V.hi) (by omega)) hL (by omega) (cons_v (houses_at hw rfl) (cons_L e3 nil_ok))
  rw [sL] at e5
  exact def_new (congrArg outS (show B_Web_untied E S = _ from seq_nx (che_ok hw rfl rfl hi) (seq_nx (che_ok hw rfl rfl hj) (seq_nx (if_no (val_s (op_ok (tof_ok rfl rfl) (known_at hw rfl) (by rw [notin_pair, decide_eq_true h]; rfl))) rfl) (ret_ok e5)))))
end
end Q05
set_option maxHeartbeats 1000000
namespace Q05
open DN PySem L2
section
variable {S S1 S2 : Sto} {env env' : DN.Env} {fa fb fe : FE} {fl : FA} {n i j k q p : Nat} {T U L : List (Int × Int)} {w x y z v : Dv} {a b : Int} {s t : Str} {l l1 l2 tt : List Dv} {d : Dv} {u5 u6 u7 u8 : Sl}
theorem show_of {p : PyData} {k : Nat} (h : pd x = some p) (hp : ShP p k) (hk : k ≤ 1000000) : gShow [x] = vS p.shown := by
  show gShow1 x = _
  unfold gShow1
  rw [h]
  show (if okShow p then vS p.shown else none) = _
  unfold okShow
  rw [hp.s, decide_eq_true (Nat.le_trans hp.n (Nat.le_trans hk (by decide))), decide_eq_true (Nat.le_trans hp.d (by decide))]
  rfl
def rI (k : Nat) : Str := (PyData.int (k : Nat)).shown
theorem show_int {k : Nat} (h : k < 1000) : gShow [.int k] = vS (rI k) := show_of (p := .int k) rfl (sh_int h) (by omega)
theorem rI_ok {k : Nat} (h : k < 1000) : PyData.strOk (rI k) = true := asc_ok (sh_int h).a
theorem rI_inj : ∀ a b : Fin 42, rI (a : Nat) = rI (b : Nat) → a = b := by decide +kernel
/-- no house, and its text is no house's -/
structure Nh (n : Nat) (x : Dv) : Prop where
  hn : NoH n x
  sh : ∃ s, gShow [x] = vS s ∧ PyData.strOk s = true ∧ ∀ k, k < n → rI k ≠ s
abbrev ED (w n : Nat) (T : List (Int × Int)) (x y : Dv) (u5 u6 u7 u8 : Sl) : DN.Env := [.v (.d (.int w)), .v (.d (.int n)), .v (.d (.lst (T.map pairD))), .v (.d x), .v (.d y), u5, u6, u7, u8]
theorem eqd_int {i j : Int} {neg : Bool} (ha : fa env S = .ok S (.val (.d (.int i)))) (hb : fb env S = .ok S (.val (.d (.int j)))) : fEqD ["Web"] EQt neg fa fb env S = .ok S (.val (.d (.bl (if neg then !decide (i = j) else decide (i = j))))) := by
  unfold fEqD
  rw [ha]
  show (fb env S).bindV _ = _
  rw [hb]
  show g2 S (.d (.int i)) (.d (.int j)) (if neg then gNe else gEq) = _
  cases neg
  · show R.of S (gEq (.int i) (.int j)) = _
    rw [gEq_int]
    rfl
  · show R.of S (gNe (.int i) (.int j)) = _
    rw [gNe_int]
    rfl
abbrev EQK (i : Int) : FT := kVal (fEqD ["Web"] EQt false (fVar 0) (fC (.int i)))
theorem eqk {w i : Nat} (h : env[0]? = some (.v (.d (.int w)))) : EQK i env S = .ok S (decide (w = i)) := by
  refine val_s ((eqd_int (neg := false) (i := w) (j := i) (var_ok h) c_ok).trans ?_)
  show R.ok S (Rt.val (Vr.d (Dv.bl (decide ((w : Int) = (i : Int)))))) = R.ok S (Rt.val (Vr.d (Dv.bl (decide (w = i)))))
  refine congrArg (fun b => R.ok S (Rt.val (Vr.d (Dv.bl b)))) ?_
  exact decide_eq_decide.mpr (by omega)
abbrev SRC : FE := fSl (fLst (fCons (fVar 3) (fCons (fVar 4) fNil))) fNoPart (fPart (fOp gSub (fC (.int 2)) (fCall gInt (fCons (fEqD ["Web"] EQt false (fVar 0) (fC (.int 0))) fNil))))
abbrev RPS : FE := fLc (iRange1 (fCons (fVar 1) fNil)) (tgN 6) kYes (fCall gShow (fCons (fVar 6) fNil)) [6]
abbrev DB : FS := kIf (kVal (fOp gNotIn (fCall gShow (fCons (fVar 5) fNil)) RPS)) (kRet (fLst (fCons (fC (.str "house")) (fCons (fCall gShow (fCons (fVar 5) fNil)) fNil)))) kNext
theorem three {w : Nat} (h : w < 3) : w = 0 ∨ w = 1 ∨ w = 2 := by omega
theorem src_ok {w : Nat} (hw : w < 3) : iVal SRC (ED w n T x y u5 u6 u7 u8) S = .ok S (if w = 0 then [x] else [x, y], none) := by
  let E := ED w n T x y u5 u6 u7 u8
  have e1 : fLst (fCons (fVar 3) (fCons (fVar 4) fNil)) E S = .ok S (.new (.lst [x, y])) := lst2_ok (var_ok rfl) (var_ok rfl)
  have e2 : fOp gSub (fC (.int 2)) (fCall gInt (fCons (fEqD ["Web"] EQt false (fVar 0) (fC (.int 0))) fNil)) E S = .ok S (.val (.d (.int (if w = 0 then 1 else 2)))) := by
    refine op_ok (b := .int (if w = 0 then 1 else 0)) c_ok (call_ok (eqd_int (neg := false) (i := w) (j := 0) (var_ok rfl) c_ok) ?_) ?_
    · rcases three hw with rfl | rfl | rfl <;> rfl
    · rcases three hw with rfl | rfl | rfl <;> rfl
  have e3 : SRC E S = .ok S (.new (.lst (if w = 0 then [x] else [x, y]))) := by
    have g : gSl none (some (if w = 0 then (1 : Int) else 2)) (.lst [x, y]) = nL (if w = 0 then [x] else [x, y]) := by
      rcases three hw with rfl | rfl | rfl <;> rfl
    show fSl (fLst (fCons (fVar 3) (fCons (fVar 4) fNil))) fNoPart (fPart (fOp gSub (fC (.int 2)) (fCall gInt (fCons (fEqD ["Web"] EQt false (fVar 0) (fC (.int 0))) fNil)))) E S = _
    generalize fLst (fCons (fVar 3) (fCons (fVar 4) fNil)) = F1 at e1 ⊢
    generalize fOp gSub (fC (.int 2)) (fCall gInt (fCons (fEqD ["Web"] EQt false (fVar 0) (fC (.int 0))) fNil)) = F2 at e2 ⊢
    simp_arith [e1, e2, g, fSl_, fNoPart_, fPart_]
  show (SRC E S).bindV (fun S1 a => itOf S1 a) = _
  rw [e3]
  rfl
theorem rps_ok {w : Nat} {u : Sl} (hn : n ≤ 40) : RPS (ED w n T x y u u6 u7 u8) S = .ok S (.new (.lst ((List.range n).map fun k => .str (rI k)))) :=
  fLc_rg (fl := fCons (fVar 1) fNil) (fe := fCall gShow (fCons (fVar 6) fNil)) (vs := [6]) (i := 6) (n := n) (fun k => .str (rI k)) (cons_v (var_v rfl) nil_ok) (by omega) (fun k hk => got_of (call_ok (env := ED w n T x y u (.v (.d (.int k))) u7 u8) (var_ok rfl) (show_int (by omega))))
theorem notin_strs (hs : PyData.strOk s = true) (hn : n ≤ 40) : gNotIn (.str s) (.lst ((List.range n).map fun k => .str (rI k))) = vB (!decide (∃ k, k < n ∧ rI k = s)) := by
  have o2 : okNs 60 ((List.range n).map fun k => Dv.str (rI k)) = true := okNs_all fun d hd => by
    obtain ⟨k, hk, rfl⟩ := List.mem_map.mp hd
    rw [okN_str]
    exact rI_ok (by have := List.mem_range.mp hk; omega)
  have e : gNotIn (.str s) (.lst ((List.range n).map fun k => .str (rI k))) = onlyIf (okN 60 (.str s) && okNs 60 ((List.range n).map fun k => Dv.str (rI k))) (vB (!inD (.str s) ((List.range n).map fun k => .str (rI k)))) := rfl
  rw [e, okN_str, hs, o2]
  show vB _ = vB _
  congr 2
  unfold inD
  rw [List.any_map, Bool.eq_iff_iff, List.any_eq_true, decide_eq_true_eq]
  constructor
  · rintro ⟨k, hk, h⟩
    exact ⟨k, List.mem_range.mp hk, eq_of_beq (show (rI k == s) = true from h)⟩
  · rintro ⟨k, hk, h⟩
    exact ⟨k, List.mem_range.mpr hk, show (rI k == s) = true from by rw [h]; exact beq_self_eq_true s⟩
theorem db_ok {w : Nat} (hn : n ≤ 40) (hk : k < n) : DB (ED w n T x y (.v (.d (.int k))) u6 u7 u8) S = .nx (ED w n T x y (.v (.d (.int k))) u6 u7 u8) S :=
  if_no (val_s (op_okL (call_ok (var_ok rfl) (show_int (by omega))) (rps_ok hn) (by rw [notin_strs (rI_ok (by omega)) hn, decide_eq_true ⟨k, hk, rfl⟩]; rfl))) rfl
theorem db_no {w : Nat} (hn : n ≤ 40) (h : gShow [z] = vS s) (hs : PyData.strOk s = true) (hk : ∀ k, k < n → rI k ≠ s) : DB (ED w n T x y (.v (.d z)) u6 u7 u8) S = .rt S (.new (.lst [.str "house", .str s])) :=
  if_yes (val_s (op_okL (call_ok (var_ok rfl) h) (rps_ok hn) (by rw [notin_strs hs hn, decide_eq_false (fun ⟨k, h1, h2⟩ => hk k h1 h2)]; rfl))) (ret_ok (lst2_ok c_ok (call_ok (var_ok rfl) h)))
theorem go_ok {tg : FG} {body : FS} {env1 : DN.Env} (ht : tg d env = some env1) (hb : body env1 S = .nx env' S2) : forGo (tt, none) tg body (d :: l) env S = forGo (tt, none) tg body l env' S2 := by
  have hk : lockOk (tt, none) S = true := rfl
  simp only [forGo, hk, if_true, ht, hb]
theorem go_rt {tg : FG} {body : FS} {env1 : DN.Env} {r : Rt} (ht : tg d env = some env1) (hb : body env1 S = .rt S2 r) : forGo (tt, none) tg body (d :: l) env S = .rt S2 r := by
  have hk : lockOk (tt, none) S = true := rfl
  simp only [forGo, hk, if_true, ht, hb]
theorem for_it {tg : FG} {body : FS} (h : iVal fe env S = .ok S (l, none)) : kFor (iVal fe) tg body env S = forGo (l, none) tg body l env S := by
  rw [kFor_, h]
  rfl
abbrev NB : FE := fLc (iRange1 (fCons (fVar 1) fNil)) (tgN 6) (kOr (kVal (fOp gIn (fTup (fCons (fVar 3) (fCons (fVar 6) fNil))) (fVar 2))) (kVal (fOp gIn (fTup (fCons (fVar 6) (fCons (fVar 3) fNil))) (fVar 2)))) (fVar 6) [6]
abbrev TOLD (f : FE) : FE := fLst (fCons (fC (.str "told")) (fCons (fCall gShow (fCons f fNil)) fNil))
abbrev TIE : FE := fLst (fCons (fC (.str "tie")) (fCons (fCall gShow (fCons (fTup (fCons (fVar 3) (fCons (fVar 4) fNil))) fNil)) fNil))
abbrev D7 : FS := kSet 7 (fCall gTuple (fCons (fCall gSortedX (fCons (fLst (fCons (fVar 3) (fCons (fVar 4) fNil))) fNil)) fNil))
abbrev D1 : FS := kSeq (kIf (kOr (kVal (fEqD ["Web"] EQt false (fVar 3) (fVar 4))) (kVal (fOp gIn (fVar 7) (fVar 2)))) (kRet TIE) kNext) (kRet (TOLD (fCall gTuple (fCons (fCall gSortedX (fCons (fOp gAdd (fVar 2) (fLst (fCons (fVar 7) fNil))) fNil)) fNil))))
abbrev D2a : FS := kIf (kVal (fOp gNotIn (fVar 7) (fVar 2))) (kRet TIE) kNext
abbrev D2b : FS := kRet (TOLD (fCall gTuple (fCons (fLc (iVal (fVar 2)) (tgN 8) (kVal (fEqD ["Web"] EQt true (fVar 8) (fVar 7))) (fVar 8) [8]) fNil)))
theorem b_due : B_law_due = kSeq (kFor (iVal SRC) (tgN 5) DB) (kSeq (kIf (EQK 0) (kRet (TOLD NB)) kNext) (kSeq D7 (kSeq (kIf (EQK 1) D1 kNext) (kSeq D2a D2b)))) := rfl
abbrev DUE (w n : Nat) (T : List (Int × Int)) (x y : Dv) (S : Sto) : R Rt := D_law_due [.d (.int w), .d (.int n), .d (.lst (T.map pairD)), .d x, .d y] S
theorem due_of {w : Nat} (h : B_law_due (ED w n T x y .u .u .u .u) S = .rt S (.new (.lst l))) : DUE w n T x y S = .ok S (.new (.lst l)) := def_new (congrArg outS h)
theorem due_h1 {w : Nat} (hw : w < 3) (hn : n ≤ 40) (h : gShow [x] = vS s) (hs : PyData.strOk s = true) (hk : ∀ k, k < n → rI k ≠ s) : DUE w n T x y S = .ok S (.new (.lst [.str "house", .str s])) := by
  refine due_of ?_
  rw [b_due]
  refine seq_rt ((for_it (src_ok hw)).trans ?_)
  have : ∃ l, (if w = 0 then [x] else [x, y]) = x :: l := by
    by_cases c : w = 0
    · exact ⟨_, if_pos c⟩
    · exact ⟨_, if_neg c⟩
  obtain ⟨l, e⟩ := this
  rw [e]
  exact go_rt (env1 := ED w n T x y (.v (.d x)) .u .u .u) rfl (db_no hn h hs hk)
theorem due_h2 {w : Nat} (hw : w < 3) (h0 : w ≠ 0) (hn : n ≤ 40) (hi : i < n) (h : gShow [y] = vS s) (hs : PyData.strOk s = true) (hk : ∀ k, k < n → rI k ≠ s) : DUE w n T (.int i) y S = .ok S (.new (.lst [.str "house", .str s])) := by
  refine due_of ?_
  rw [b_due]
  refine seq_rt ((for_it (src_ok hw)).trans ?_)
  rw [if_neg h0]
  exact (go_ok (env1 := ED w n T (.int i) y (.v (.d (.int i))) .u .u .u) rfl (db_ok hn hi)).trans (go_rt (env1 := ED w n T (.int i) y (.v (.d y)) .u .u .u) rfl (db_no hn h hs hk))
/-- both are houses, as far as way w asks -/
theorem due_tl {w : Nat} {r : Rt} (hw : w < 3) (hn : n ≤ 40) (hi : i < n) (hj : w ≠ 0 → ∃ j, j < n ∧ y = .int (j : Nat)) (h : ∀ u5 : Sl, kSeq (kIf (EQK 0) (kRet (TOLD NB)) kNext) (kSeq D7 (kSeq (kIf (EQK 1) D1 kNext) (kSeq D2a D2b))) (ED w n T (.int i) y u5 .u .u .u) S = .rt S (.new (.lst l))) : DUE w n T (.int i) y S = .ok S (.new (.lst l)) := by
  refine due_of ?_
  rw [b_due]
  by_cases c : w = 0
  · refine seq_nx (env' := ED w n T (.int i) y (.v (.d (.int i))) .u .u .u) ((for_it (src_ok hw)).trans ?_) (h _)
    rw [if_pos c]
    exact (go_ok (env1 := ED w n T (.int i) y (.v (.d (.int i))) .u .u .u) rfl (db_ok hn hi)).trans rfl
  · obtain ⟨j, hj2, rfl⟩ := hj c
    refine seq_nx (env' := ED w n T (.int i) (.int j) (.v (.d (.int j))) .u .u .u) ((for_it (src_ok hw)).trans ?_) (h _)
    rw [if_neg c]
    exact (go_ok (env1 := ED w n T (.int i) (.int j) (.v (.d (.int i))) .u .u .u) rfl (db_ok hn hi)).trans ((go_ok (env1 := ED w n T (.int i) (.int j) (.v (.d (.int j))) .u .u .u) rfl (db_ok hn hj2)).trans rfl)
theorem in_lst {p : Int × Int} : gIn (pairD p) (.lst (T.map pairD)) = vB (decide (p ∈ T)) := by
  have e0 : gIn (pairD p) (.lst (T.map pairD)) = onlyIf (okN 60 (pairD p) && okNs 60 (T.map pairD)) (vB (inD (pairD p) (T.map pairD))) := rfl
  rw [e0, okN_pair, ok_ties]
  show vB _ = vB _
  congr 1
  unfold inD
  rw [List.any_map, Bool.eq_iff_iff, List.any_eq_true, decide_eq_true_eq]
  constructor
  · rintro ⟨q, hq, h⟩
    have h : eqD (pairD q) (pairD p) = true := h
    rw [eqD_pr, decide_eq_true_eq] at h
    rwa [← h]
  · intro h
    exact ⟨p, h, by show eqD (pairD p) (pairD p) = true; rw [eqD_pr, decide_eq_true_eq]⟩
theorem notin_lst {p : Int × Int} : gNotIn (pairD p) (.lst (T.map pairD)) = vB (!decide (p ∈ T)) := by
  have e0 : gNotIn (pairD p) (.lst (T.map pairD)) = onlyIf (okN 60 (pairD p) && okNs 60 (T.map pairD)) (vB (!inD (pairD p) (T.map pairD))) := rfl
  have e1 := in_lst (p := p) (T := T)
  have e2 : gIn (pairD p) (.lst (T.map pairD)) = onlyIf (okN 60 (pairD p) && okNs 60 (T.map pairD)) (vB (inD (pairD p) (T.map pairD))) := rfl
  rw [e2, okN_pair, ok_ties] at e1
  have e1 : vB (inD (pairD p) (T.map pairD)) = vB (decide (p ∈ T)) := e1
  have e3 : inD (pairD p) (T.map pairD) = decide (p ∈ T) := by
    injection e1 with e1
    injection e1 with e1
    injection e1 with e1
    injection e1 with e1
  rw [e0, okN_pair, ok_ties, e3]
  rfl
theorem tij_mem (ht : ∀ p ∈ T, Tie n p) (i k : Nat) : (decide (((i : Int), (k : Int)) ∈ T) || decide (((k : Int), (i : Int)) ∈ T)) = decide (tieOf (i : Int) (k : Int) ∈ T) := by
  have e : ∀ a b : Int, ((a, b) ∈ T) → a < b := fun a b h => (ht _ h).lt
  rw [Bool.eq_iff_iff, Bool.or_eq_true, decide_eq_true_eq, decide_eq_true_eq, decide_eq_true_eq]
  unfold tieOf
  by_cases c : (k : Int) < i
  · rw [if_pos c, if_neg (by omega)]
    exact ⟨fun h => h.elim (fun h => by have := e _ _ h; omega) id, .inr⟩
  · rw [if_neg c]
    by_cases c2 : (k : Int) > i
    · rw [if_pos c2]
      exact ⟨fun h => h.elim id (fun h => by have := e _ _ h; omega), .inl⟩
    · have : (i : Int) = k := by omega
      rw [if_neg c2, this]
      exact ⟨fun h => h.elim id id, .inl⟩
theorem due_0 (hn : n ≤ 40) (ht : ∀ p ∈ T, Tie n p) (hi : i < n) (h : gShow [.lst (bsD n T i)] = vS s) : DUE 0 n T (.int i) y S = .ok S (.new (.lst [.str "told", .str s])) := by
  refine due_tl (r := .val (.d .non)) (by omega) hn hi (fun c => absurd rfl c) fun u5 => seq_rt (if_yes ((eqk (w := 0) (i := 0) rfl).trans rfl) (ret_ok (lst2_ok c_ok (call_okL ?_ h))))
  have e := fLc_rgF (fl := fCons (fVar 1) fNil) (ft := kOr (kVal (fOp gIn (fTup (fCons (fVar 3) (fCons (fVar 6) fNil))) (fVar 2))) (kVal (fOp gIn (fTup (fCons (fVar 6) (fCons (fVar 3) fNil))) (fVar 2)))) (fe := fVar 6) (vs := [6]) (env := ED 0 n T (.int i) y u5 .u .u .u) (S := S) (i := 6) (n := n) (fun k => decide (tieOf (i : Int) (k : Int) ∈ T)) (fun k => .int k) (cons_v (var_v rfl) nil_ok) (by omega) (fun k hk => by
    show kOr _ _ (ED 0 n T (.int i) y u5 (.v (.d (.int k))) .u .u) S = _
    rw [← tij_mem ht i k]
    exact orB (val_s (op_ok (tup2_ok (var_ok (a := .int i) rfl) (var_ok (a := .int k) rfl)) (var_ok rfl) (in_lst (p := ((i : Int), (k : Int)))))) fun _ => val_s (op_ok (tup2_ok (var_ok (a := .int k) rfl) (var_ok (a := .int i) rfl)) (var_ok rfl) (in_lst (p := ((k : Int), (i : Int)))))) (fun k hk _ => got_of (var_ok rfl))
  exact e
theorem sort2 (i j : Nat) : gSortedX [.lst [.int i, .int j]] = nL [.int (tij i j).1, .int (tij i j).2] := by
  show nL ((sortI [(i : Int), (j : Int)]).map .int) = _
  congr 1
  unfold tij tieOf
  show (insI (i : Int) [(j : Int)]).map Dv.int = _
  unfold insI
  by_cases c : (i : Int) ≤ j
  · rw [if_pos c, if_neg (show ¬ (j : Int) < i by omega)]
    by_cases c2 : (j : Int) > i
    · rw [if_pos c2]; rfl
    · have : (i : Int) = j := by omega
      rw [if_neg c2, this]; rfl
  · rw [if_neg c, if_pos (show (j : Int) < i by omega), if_neg (show ¬ (j : Int) > i by omega)]
    rfl
theorem d7_ok {w : Nat} : D7 (ED w n T (.int i) (.int j) u5 u6 u7 u8) S = .nx (ED w n T (.int i) (.int j) u5 u6 (.v (.d (pairD (tij i j)))) u8) S := by
  have e1 : fCall gSortedX (fCons (fLst (fCons (fVar 3) (fCons (fVar 4) fNil))) fNil) (ED w n T (.int i) (.int j) u5 u6 u7 u8) S = .ok S (.new (.lst [.int (tij i j).1, .int (tij i j).2])) := by
    have e0 : fLst (fCons (fVar 3) (fCons (fVar 4) fNil)) (ED w n T (.int i) (.int j) u5 u6 u7 u8) S = .ok S (.new (.lst [.int i, .int j])) := lst2_ok (var_ok rfl) (var_ok rfl)
    have g := sort2 i j
    generalize fLst (fCons (fVar 3) (fCons (fVar 4) fNil)) = F at e0 ⊢
    simp_arith [e0, g]
  exact st_set (call_okL e1 rfl) rfl
theorem tie_at {w : Nat} (h : gShow [ijD i j] = vS s) : kRet TIE (ED w n T (.int i) (.int j) u5 u6 u7 u8) S = .rt S (.new (.lst [.str "tie", .str s])) := ret_ok (lst2_ok c_ok (call_ok (tup2_ok (var_ok rfl) (var_ok rfl)) h))
theorem sortX_ok (sm : ∀ p ∈ L, Small p) (nd : L.Nodup) (ne : L ≠ []) : gSortedX [.lst (L.map pairD)] = nL ((sortP L).map pairD) := by
  show gSortedL (L.map pairD) = _
  cases L with
  | nil => exact absurd rfl ne
  | cons p L =>
    have e1 : ints? ((p :: L).map pairD) = none := rfl
    have e2 : strs2? ((p :: L).map pairD) = none := by
      cases L with
      | nil => rfl
      | cons q L => cases L <;> rfl
    unfold gSortedL
    rw [e1]
    show (match strs2? ((p :: L).map pairD) with | some p => srt2 p.1 p.2 | none => match pairs? ((p :: L).map pairD) with | some ps => srtP ps | none => none) = _
    rw [e2]
    show (match pairs? ((p :: L).map pairD) with | some ps => srtP ps | none => none) = _
    rw [pairs_map sm]
    show srtP (p :: L) = _
    unfold srtP
    rw [if_pos nd]
theorem due_t1 {w : Nat} (h1 : w = 1) (hn : n ≤ 40) (hi : i < n) (hj : j < n) (hc : i = j ∨ tij i j ∈ T) (h : gShow [ijD i j] = vS s) : DUE w n T (.int i) (.int j) S = .ok S (.new (.lst [.str "tie", .str s])) := by
  subst h1
  refine due_tl (r := .val (.d .non)) (by omega) hn hi (fun _ => ⟨j, hj, rfl⟩) fun u5 => seq_nx (if_no ((eqk (w := 1) (i := 0) rfl).trans rfl) rfl) (seq_nx d7_ok (seq_rt (if_yes ((eqk (w := 1) (i := 1) rfl).trans rfl) (seq_rt (if_yes ?_ (tie_at h))))))
  have a1 := val_s (eqd_int (S := S) (env := ED 1 n T (.int i) (.int j) u5 .u (.v (.d (pairD (tij i j)))) .u) (neg := false) (fa := fVar 3) (fb := fVar 4) (i := i) (j := j) (var_ok rfl) (var_ok rfl))
  by_cases c : i = j
  · refine orYes (a1.trans ?_)
    show R.ok S (decide _) = _
    rw [decide_eq_true (by omega)]
  · refine orNo (a1.trans ?_) (val_s (op_ok (var_ok (a := pairD (tij i j)) rfl) (var_ok rfl) (by rw [in_lst, decide_eq_true (hc.resolve_left c)]; rfl)))
    show R.ok S (decide _) = _
    rw [decide_eq_false (by omega)]
theorem due_1 (V : Vd n T) (lT : T.length ≤ 900) (hi : i < n) (hj : j < n) (hne : i ≠ j) (hm : tij i j ∉ T) (h : gShow [.tup ((sortP (T ++ [tij i j])).map pairD)] = vS s) : DUE 1 n T (.int i) (.int j) S = .ok S (.new (.lst [.str "told", .str s])) := by
  have hn := V.hi
  refine due_tl (r := .val (.d .non)) (by omega) hn hi (fun _ => ⟨j, hj, rfl⟩) fun u5 => seq_nx (if_no ((eqk (w := 1) (i := 0) rfl).trans rfl) rfl) (seq_nx d7_ok (seq_rt (if_yes ((eqk (w := 1) (i := 1) rfl).trans rfl) (seq_nx (if_no ?_ rfl) (ret_ok (lst2_ok c_ok (call_ok ?_ h)))))))
  · have a1 := val_s (eqd_int (S := S) (env := ED 1 n T (.int i) (.int j) u5 .u (.v (.d (pairD (tij i j)))) .u) (neg := false) (fa := fVar 3) (fb := fVar 4) (i := i) (j := j) (var_ok rfl) (var_ok rfl))
    refine orNo (a1.trans ?_) (val_s (op_ok (var_ok (a := pairD (tij i j)) rfl) (var_ok rfl) (by rw [in_lst, decide_eq_false hm]; rfl)))
    show R.ok S (decide _) = _
    rw [decide_eq_false (by omega)]
  · let E := ED 1 n T (.int i) (.int j) u5 .u (.v (.d (pairD (tij i j)))) .u
    have sm : ∀ p ∈ T ++ [tij i j], Small p := fun p hp => by
      rcases List.mem_append.mp hp with hp | hp
      · exact V.small p hp
      · rw [List.mem_singleton.mp hp]; exact (tij_tie hi hj hne).small hn
    have nd : (T ++ [tij i j]).Nodup := List.nodup_append.mpr ⟨pw_nd V, by simp, fun a ha b hb => by rw [List.mem_singleton.mp hb]; exact fun e => hm (e ▸ ha)⟩
    have e1 : fOp gAdd (fVar 2) (fLst (fCons (fVar 7) fNil)) E S = .ok S (.new (.lst ((T ++ [tij i j]).map pairD))) := by
      have a : fVar 2 E S = .ok S (.val (.d (.lst (T.map pairD)))) := var_ok rfl
      have b : fLst (fCons (fVar 7) fNil) E S = .ok S (.new (.lst [pairD (tij i j)])) := lst_ok (cons_v (var_v rfl) nil_ok) rfl
      have g : gAdd (.lst (T.map pairD)) (.lst [pairD (tij i j)]) = nL ((T ++ [tij i j]).map pairD) := by
        rw [gAdd_lst (by simp; omega)]
        simp
      generalize fVar 2 = F1 at a ⊢
      generalize fLst (fCons (fVar 7) fNil) = F2 at b ⊢
      simp_arith [a, b, g]
    have e2 : fCall gSortedX (fCons (fOp gAdd (fVar 2) (fLst (fCons (fVar 7) fNil))) fNil) E S = .ok S (.new (.lst ((sortP (T ++ [tij i j])).map pairD))) := by
      have g := sortX_ok sm nd (by simp)
      generalize fOp gAdd (fVar 2) (fLst (fCons (fVar 7) fNil)) = F at e1 ⊢
      simp_arith [e1, g]
    exact call_okL e2 rfl
theorem due_t2 (hn : n ≤ 40) (hi : i < n) (hj : j < n) (hc : tij i j ∉ T) (h : gShow [ijD i j] = vS s) : DUE 2 n T (.int i) (.int j) S = .ok S (.new (.lst [.str "tie", .str s])) :=
  due_tl (r := .val (.d .non)) (by omega) hn hi (fun _ => ⟨j, hj, rfl⟩) fun u5 => seq_nx (if_no ((eqk (w := 2) (i := 0) rfl).trans rfl) rfl) (seq_nx d7_ok (seq_nx (if_no ((eqk (w := 2) (i := 1) rfl).trans rfl) rfl) (seq_rt (if_yes (val_s (op_ok (var_ok (a := pairD (tij i j)) rfl) (var_ok rfl) (by rw [notin_lst, decide_eq_false hc]; rfl))) (tie_at h)))))
theorem eqd_pair {neg : Bool} {p r : Int × Int} (ha : fa env S = .ok S (.val (.d (pairD p)))) (hb : fb env S = .ok S (.val (.d (pairD r)))) : fEqD ["Web"] EQt true fa fb env S = .ok S (.val (.d (.bl (!decide (p = r))))) := by
  unfold fEqD
  rw [ha]
  show (fb env S).bindV _ = _
  rw [hb]
  show R.of S (gNe (pairD p) (pairD r)) = _
  rw [gNe_pair]
  rfl
theorem due_2 (hn : n ≤ 40) (lT : T.length ≤ 900) (hi : i < n) (hj : j < n) (hm : tij i j ∈ T) (h : gShow [.tup ((T.filter fun p => !decide (p = tij i j)).map pairD)] = vS s) : DUE 2 n T (.int i) (.int j) S = .ok S (.new (.lst [.str "told", .str s])) := by
  refine due_tl (r := .val (.d .non)) (by omega) hn hi (fun _ => ⟨j, hj, rfl⟩) fun u5 => seq_nx (if_no ((eqk (w := 2) (i := 0) rfl).trans rfl) rfl) (seq_nx d7_ok (seq_nx (if_no ((eqk (w := 2) (i := 1) rfl).trans rfl) rfl) (seq_nx (if_no (val_s (op_ok (var_ok (a := pairD (tij i j)) rfl) (var_ok rfl) (by rw [notin_lst, decide_eq_true hm]; rfl))) rfl) (ret_ok (lst2_ok c_ok (call_ok ?_ h))))))
  let E := ED 2 n T (.int i) (.int j) u5 .u (.v (.d (pairD (tij i j)))) .u
  have e := fLc_mp (fi := iVal (fVar 2)) (tg := tgN 8) (ft := kVal (fEqD ["Web"] EQt true (fVar 8) (fVar 7))) (fe := fVar 8) (vs := [8]) (env := E) (S := S) pairD T (fun p => !decide (p = tij i j)) pairD (by
    show (fVar 2 E S).bindV (fun S1 a => itOf S1 a) = _
    rw [show fVar 2 E S = .ok S (.val (.d (.lst (T.map pairD)))) from var_ok rfl]
    rfl) (by omega) (fun p hp => ⟨ED 2 n T (.int i) (.int j) u5 .u (.v (.d (pairD (tij i j)))) (.v (.d (pairD p))), rfl, val_s (eqd_pair (neg := true) (var_ok rfl) (var_ok rfl)), fun _ => got_of (var_ok rfl)⟩)
  exact call_okL e rfl
end
end Q05
set_option maxHeartbeats 1000000
namespace Q05
open DN PySem L2
section
variable {S S1 S2 : Sto} {env env' : DN.Env} {fa fb fe : FE} {fl : FA} {n i j k q p w : Nat} {T U L : List (Int × Int)} {v x y z : Dv} {a b : Int} {s t : Str} {l l1 l2 tt RR : List Dv} {d : Dv} {u4 u5 u6 u7 u8 : Sl}
abbrev EC (w : Nat) (v x y : Dv) (u4 : Sl) : DN.Env := [.v (.d (.int w)), .v (.d v), .v (.d x), .v (.d y), u4]
abbrev MN : FE := fMethD [("Web", 2, D_Web_neighbors)] (fVar 1) (fCons (fVar 2) fNil)
abbrev MT1 : FE := fMethD [("Web", 3, D_Web_tied)] (fVar 1) (fCons (fVar 2) (fCons (fVar 3) fNil))
abbrev MU : FE := fMethD [("Web", 3, D_Web_untied)] (fVar 1) (fCons (fVar 2) (fCons (fVar 3) fNil))
abbrev TI (f : FE) : FE := fUn (gFld ["Web"] "ties") f
abbrev KBo : FS := kSeq (kIf (EQK 0) (kRet (TOLD MN)) kNext) (kSeq (kIf (EQK 1) (kRet (TOLD (TI MT1))) kNext) (kRet (TOLD (TI MU))))
abbrev CTR : FS := kTry "OpenpostsError" errs [("InvalidHouse", (some 4), (kRet (fLst (fCons (fC (.str "house")) (fCons (fCall gShow (fCons (fXv errs 4) fNil)) fNil))))), ("InvalidTie", (some 4), (kRet (fLst (fCons (fC (.str "tie")) (fCons (fCall gShow (fCons (fXv errs 4) fNil)) fNil))))), ("OpenpostsError", none, (kRet (fLst (fCons (fC (.str "other")) (fCons (fC (.str "")) fNil)))))] KBo
abbrev CAU (w : Nat) (v x y : Dv) (S : Sto) : R Rt := D_law_caught [.d (.int w), .d v, .d x, .d y] S
theorem cau_house (h : KBo (EC w v x y .u) S = .ex (EC w v x y .u) S (.own "InvalidHouse" (.d z))) (hs : gShow [z] = vS s) : CAU w v x y S = .ok S (.new (.lst [.str "house", .str s])) := by
  have l2 : (kRet (fLst (fCons (fC (.str "house")) (fCons (fCall gShow (fCons (fXv errs 4) fNil)) fNil)))) (EC w v x y (.x "InvalidHouse" (.d z))) S = .rt S (.new (.lst [.str "house", .str s])) := ret_ok (lst2_ok c_ok (call_ok (a := z) rfl hs))
  have et : CTR (EC w v x y .u) S = .rt S (.new (.lst [.str "house", .str s])) := by
    show kTry _ _ _ _ _ _ = _
    unfold kTry
    rw [h]
    show goneR 4 ((kRet (fLst (fCons (fC (.str "house")) (fCons (fCall gShow (fCons (fXv errs 4) fNil)) fNil)))) (EC w v x y (.x "InvalidHouse" (.d z))) S) = _
    rw [l2]
    rfl
  exact def_new (congrArg outS et)
theorem cau_tie (h : KBo (EC w v x y .u) S = .ex (EC w v x y .u) S (.own "InvalidTie" (.d z))) (hs : gShow [z] = vS s) : CAU w v x y S = .ok S (.new (.lst [.str "tie", .str s])) := by
  have l2 : (kRet (fLst (fCons (fC (.str "tie")) (fCons (fCall gShow (fCons (fXv errs 4) fNil)) fNil)))) (EC w v x y (.x "InvalidTie" (.d z))) S = .rt S (.new (.lst [.str "tie", .str s])) := ret_ok (lst2_ok c_ok (call_ok (a := z) rfl hs))
  have et : CTR (EC w v x y .u) S = .rt S (.new (.lst [.str "tie", .str s])) := by
    show kTry _ _ _ _ _ _ = _
    unfold kTry
    rw [h]
    show goneR 4 ((kRet (fLst (fCons (fC (.str "tie")) (fCons (fCall gShow (fCons (fXv errs 4) fNil)) fNil)))) (EC w v x y (.x "InvalidTie" (.d z))) S) = _
    rw [l2]
    rfl
  exact def_new (congrArg outS et)
theorem cau_told {r : Rt} (h : KBo (EC w v x y .u) S = .rt S r) (hr : r = .new (.lst RR)) : CAU w v x y S = .ok S (.new (.lst RR)) := by
  subst hr
  have et : CTR (EC w v x y .u) S = .rt S (.new (.lst RR)) := by
    show kTry _ _ _ _ _ _ = _
    unfold kTry
    rw [h]
  exact def_new (congrArg outS et)
theorem told_x {X : Xn} (h : fe env S = .ex S X) : kRet (TOLD fe) env S = .ex env S X := by
  refine ret_x ?_
  have e : fCall gShow (fCons fe fNil) env S = .ex S X := by
    unfold fCall
    rw [cons_x h]
    rfl
  show fLst (fCons (fC (.str "told")) (fCons (fCall gShow (fCons fe fNil)) fNil)) env S = _
  unfold fLst
  rw [cons_x2 (v := .d (.str "told")) c_ok (cons_x e)]
  rfl
theorem un_x {g : Dv → Option Rt} {X : Xn} (h : fe env S = .ex S X) : fUn g fe env S = .ex S X := by
  unfold fUn
  rw [h]
  rfl
theorem un_okO {g : Dv → Option Rt} {c : Dv} {o : String} {l : List Dv} (ha : fa env S = .ok S (.new (.ob o l))) (hg : g (.obj o l) = vD c) : fUn g fa env S = .ok S (.val (.d c)) := by
  simp_arith [ha, hg]
theorem k_0 {r : RS} (hw : w = 0) (h : kRet (TOLD MN) (EC w v x y .u) S = r) (hr : (∃ Z t, r = .rt Z t) ∨ ∃ e Z X, r = .ex e Z X) : KBo (EC w v x y .u) S = r := by
  subst hw
  rcases hr with ⟨Z, t, rfl⟩ | ⟨e, Z, X, rfl⟩
  · exact seq_rt (if_yes ((eqk (w := 0) (i := 0) rfl).trans rfl) h)
  · exact seq_ex (if_yes ((eqk (w := 0) (i := 0) rfl).trans rfl) h)
theorem k_1 {r : RS} (hw : w = 1) (h : kRet (TOLD (TI MT1)) (EC w v x y .u) S = r) (hr : (∃ Z t, r = .rt Z t) ∨ ∃ e Z X, r = .ex e Z X) : KBo (EC w v x y .u) S = r := by
  subst hw
  refine seq_nx (if_no ((eqk (w := 1) (i := 0) rfl).trans rfl) rfl) ?_
  rcases hr with ⟨Z, t, rfl⟩ | ⟨e, Z, X, rfl⟩
  · exact seq_rt (if_yes ((eqk (w := 1) (i := 1) rfl).trans rfl) h)
  · exact seq_ex (if_yes ((eqk (w := 1) (i := 1) rfl).trans rfl) h)
theorem k_2 {r : RS} (hw : w = 2) (h : kRet (TOLD (TI MU)) (EC w v x y .u) S = r) : KBo (EC w v x y .u) S = r := by
  subst hw
  exact seq_nx (if_no ((eqk (w := 2) (i := 0) rfl).trans rfl) rfl) (seq_nx (if_no ((eqk (w := 2) (i := 1) rfl).trans rfl) rfl) h)
theorem m_n {r : R Rt} (hv : IsW v n T) (h : D_Web_neighbors [.d v, .d x] S = r) : MN (EC w v x y u4) S = r := meth (m := 2) (D := D_Web_neighbors) (l := [.d x]) (var_v rfl) hv.cls rfl (cons_v (var_v rfl) nil_ok) rfl h
theorem m_t {r : R Rt} (hv : IsW v n T) (h : D_Web_tied [.d v, .d x, .d y] S = r) : MT1 (EC w v x y u4) S = r := meth (m := 3) (D := D_Web_tied) (l := [.d x, .d y]) (var_v rfl) hv.cls rfl (cons_v (var_v rfl) (cons_v (var_v rfl) nil_ok)) rfl h
theorem m_u {r : R Rt} (hv : IsW v n T) (h : D_Web_untied [.d v, .d x, .d y] S = r) : MU (EC w v x y u4) S = r := meth (m := 3) (D := D_Web_untied) (l := [.d x, .d y]) (var_v rfl) hv.cls rfl (cons_v (var_v rfl) (cons_v (var_v rfl) nil_ok)) rfl h
theorem ok_two {a b : Str} (ha : PyData.strOk a = true) (hb : PyData.strOk b = true) : okN 60 (.lst [.str a, .str b]) = true := by
  rw [okN_lst]
  refine okNs_all fun d hd => ?_
  simp only [List.mem_cons, List.not_mem_nil, or_false] at hd
  rcases hd with rfl | rfl
  · rw [okN_str]; exact ha
  · rw [okN_str]; exact hb
/-- both tell the same -/
def Same (w n : Nat) (T : List (Int × Int)) (v x y : Dv) (S : Sto) : Prop := ∃ RR, okN 60 (.lst RR) = true ∧ CAU w v x y S = .ok S (.new (.lst RR)) ∧ DUE w n T x y S = .ok S (.new (.lst RR))
/-- a house, or none -/
def Hs (n : Nat) (x : Dv) : Prop := (∃ i : Nat, i < n ∧ x = .int (i : Nat)) ∨ Nh n x
theorem sh_bes (hn : n ≤ 40) : Sh (.lst (bsD n T i)) := by
  have hl : (bes n T i).length ≤ 40 := by
    unfold bes
    have := List.length_filter_le (fun j : Nat => decide (tieOf i j ∈ T)) (List.range n)
    rw [List.length_range] at this
    omega
  refine sh_of (p := .list ((bes n T i).map fun j : Nat => PyData.int j)) ?_ (sh_list (m := 4) fun q hq => ?_) (by simp; omega)
  · show (match pds ((bes n T i).map fun j : Nat => Dv.int j) with | some m => some (PyData.list m) | none => none) = _
    rw [pds_map (g := fun j : Nat => PyData.int j) fun p _ => rfl]
  · obtain ⟨j, hj, rfl⟩ := List.mem_map.mp hq
    have := List.mem_range.mp (List.mem_filter.mp hj).1
    exact ⟨sh_int (by omega), show 0 ≤ 9 by omega⟩
theorem sh_ij (hi : i < 41) (hj : j < 41) : Sh (ijD i j) := by
  refine sh_of (p := .tuple [.int i, .int j]) rfl (sh_tuple (m := 4) fun q hq => ?_) (by simp)
  simp only [List.mem_cons, List.not_mem_nil, or_false] at hq
  rcases hq with rfl | rfl
  · exact ⟨sh_int (by omega), show 0 ≤ 9 by omega⟩
  · exact ⟨sh_int (by omega), show 0 ≤ 9 by omega⟩
theorem same_1 (hv : IsW v n T) (hn : n ≤ 40) (hw : w < 3) (h : Nh n x) : Same w n T v x y S := by
  obtain ⟨s, s1, s2, s3⟩ := h.sh
  refine ⟨[.str "house", .str s], ok_two (by decide +kernel) s2, cau_house (z := x) ?_ s1, due_h1 hw hn s1 s2 s3⟩
  rcases three hw with e | e | e
  · exact k_0 e (told_x (m_n hv (nb_no hv h.hn))) (.inr ⟨_, _, _, rfl⟩)
  · exact k_1 e (told_x (un_x (m_t hv (tied_1 hv h.hn)))) (.inr ⟨_, _, _, rfl⟩)
  · exact k_2 e (told_x (un_x (m_u hv (unti_1 hv h.hn))))
theorem same_2 (hv : IsW v n T) (hn : n ≤ 40) (hw : w < 3) (h0 : w ≠ 0) (hi : i < n) (h : Nh n y) : Same w n T v (.int i) y S := by
  obtain ⟨s, s1, s2, s3⟩ := h.sh
  refine ⟨[.str "house", .str s], ok_two (by decide +kernel) s2, cau_house (z := y) ?_ s1, due_h2 hw h0 hn hi s1 s2 s3⟩
  rcases three hw with e | e | e
  · exact absurd e h0
  · exact k_1 e (told_x (un_x (m_t hv (tied_2 hv hi h.hn)))) (.inr ⟨_, _, _, rfl⟩)
  · exact k_2 e (told_x (un_x (m_u hv (unti_2 hv hi h.hn))))
theorem same_0 (hv : IsW v n T) (V : Vd n T) (hi : i < n) : Same 0 n T v (.int i) y S := by
  obtain ⟨s, s1, s2⟩ := sh_bes (n := n) (T := T) (i := i) V.hi
  exact ⟨[.str "told", .str s], ok_two (by decide +kernel) s2, cau_told (k_0 rfl (ret_ok (lst2_ok c_ok (call_okL (m_n hv (nb_ok hv hi)) s1))) (.inl ⟨_, _, rfl⟩)) rfl, due_0 V.hi V.ti hi s1⟩
theorem same_t (hv : IsW v n T) (V : Vd n T) (lT : T.length ≤ 900) (hi : i < n) (hj : j < n) : Same 1 n T v (.int i) (.int j) S := by
  have hn := V.hi
  by_cases c : i = j ∨ tij i j ∈ T
  · obtain ⟨s, s1, s2⟩ := sh_ij (i := i) (j := j) (by omega) (by omega)
    exact ⟨[.str "tie", .str s], ok_two (by decide +kernel) s2, cau_tie (k_1 rfl (told_x (un_x (m_t hv (tied_3 hv hi hj c)))) (.inr ⟨_, _, _, rfl⟩)) s1, due_t1 rfl hn hi hj c s1⟩
  · have hne : i ≠ j := fun e => c (.inl e)
    have hm : tij i j ∉ T := fun e => c (.inr e)
    have ht : ∀ p ∈ T ++ [tij i j], Tie n p := fun p hp => by
      rcases List.mem_append.mp hp with hp | hp
      · exact V.ti p hp
      · rw [List.mem_singleton.mp hp]; exact tij_tie hi hj hne
    obtain ⟨s, s1, s2⟩ := sh_ties (n := n) (T := sortP (T ++ [tij i j])) (fun p hp => ht p ((mem_sortP fun q hq => (ht q hq).small hn).mp hp)) hn (Nat.le_trans sortP_len (by simp; omega))
    exact ⟨[.str "told", .str s], ok_two (by decide +kernel) s2, cau_told (k_1 rfl (ret_ok (lst2_ok c_ok (call_ok (un_okO (m_t hv (tied_ok hv V lT hi hj hne hm)) rfl) s1))) (.inl ⟨_, _, rfl⟩)) rfl, due_1 V lT hi hj hne hm s1⟩
theorem same_u (hv : IsW v n T) (V : Vd n T) (lT : T.length ≤ 900) (hi : i < n) (hj : j < n) : Same 2 n T v (.int i) (.int j) S := by
  have hn := V.hi
  by_cases c : tij i j ∈ T
  · obtain ⟨s, s1, s2⟩ := sh_ties (n := n) (T := T.filter fun p => !decide (p = tij i j)) (fun p hp => V.ti p (List.mem_filter.mp hp).1) hn (Nat.le_trans (List.length_filter_le _ _) (by omega))
    exact ⟨[.str "told", .str s], ok_two (by decide +kernel) s2, cau_told (k_2 rfl (ret_ok (lst2_ok c_ok (call_ok (un_okO (m_u hv (unti_ok hv V lT hi hj c)) rfl) s1)))) rfl, due_2 hn lT hi hj c s1⟩
  · obtain ⟨s, s1, s2⟩ := sh_ij (i := i) (j := j) (by omega) (by omega)
    exact ⟨[.str "tie", .str s], ok_two (by decide +kernel) s2, cau_tie (k_2 rfl (told_x (un_x (m_u hv (unti_3 hv hi hj c))))) s1, due_t2 hn hi hj c s1⟩
theorem same_ok (hv : IsW v n T) (V : Vd n T) (lT : T.length ≤ 900) (hw : w < 3) (hx : Hs n x) (hy : w ≠ 0 → Hs n y) : Same w n T v x y S := by
  rcases hx with ⟨i, hi, rfl⟩ | hx
  · rcases three hw with rfl | rfl | rfl
    · exact same_0 hv V hi
    · rcases hy (by omega) with ⟨j, hj, rfl⟩ | hy
      · exact same_t hv V lT hi hj
      · exact same_2 hv V.hi (by omega) (by omega) hi hy
    · rcases hy (by omega) with ⟨j, hj, rfl⟩ | hy
      · exact same_u hv V lT hi hj
      · exact same_2 hv V.hi (by omega) (by omega) hi hy
  · exact same_1 hv V.hi hw hx
/-- what is compared -/
theorem ne_ok {f1 f2 : FE} (h : Same w n T v x y S) (h1 : f1 env S = CAU w v x y S) (h2 : f2 env S = DUE w n T x y S) : kVal (fEqD ["Web"] EQt true f1 f2) env S = .ok S false := by
  obtain ⟨R, r1, r2, r3⟩ := h
  rw [r2] at h1
  rw [r3] at h2
  have := gNe_refl r1
  simp_arith [h1, h2, this]
theorem nh_int {a : Int} (hn : n ≤ 40) (h : ¬ (0 ≤ a ∧ a < n)) (hs : ∃ s, gShow [.int a] = vS s ∧ PyData.strOk s = true ∧ ∀ k, k < n → rI k ≠ s) : Nh n (.int a) := ⟨fun S => by rw [int_dec, decide_eq_false h], hs⟩
theorem tx_lit {p : PyData} (hp : pd v = some p) (h1 : okShow p = true) (h2 : PyData.strOk p.shown = true) (h3 : ∀ k : Fin 42, rI (k : Nat) ≠ p.shown) (hn : n ≤ 40) : ∃ s, gShow [v] = vS s ∧ PyData.strOk s = true ∧ ∀ k, k < n → rI k ≠ s := by
  refine ⟨p.shown, ?_, h2, fun k hk => h3 ⟨k, by omega⟩⟩
  show gShow1 v = _
  unfold gShow1
  rw [hp]
  show (if okShow p then vS p.shown else none) = _
  rw [if_pos h1]
theorem noh_of (h : NoI v) : NoH n v := fun S => hou_no h
theorem nh_many (hn : n ≤ 40) : Nh n (.int n) := nh_int hn (by omega) ⟨rI n, show_int (by omega), rI_ok (by omega), fun k hk e => by
  have := rI_inj ⟨k, by omega⟩ ⟨n, by omega⟩ e
  have := congrArg Fin.val this
  simp at this
  omega⟩
abbrev V10 (n : Nat) : List Dv := [.non, .bl true, .bl false, .int (-1), .int n, .str "0", .lst [.int 0], .tup [.int 0], .dic false [] [], .int (10 ^ 29)]
theorem v10_ok (hn : n ≤ 40) : ∀ v ∈ V10 n, Nh n v := by
  intro v hv
  simp only [V10, List.mem_cons, List.not_mem_nil, or_false] at hv
  rcases hv with rfl | rfl | rfl | rfl | rfl | rfl | rfl | rfl | rfl | rfl
  · exact ⟨noh_of (noI_of rfl), tx_lit (p := .none) rfl (by decide +kernel) (by decide +kernel) (by decide +kernel) hn⟩
  · exact ⟨noh_of noI_bl, tx_lit (p := .bool true) rfl (by decide +kernel) (by decide +kernel) (by decide +kernel) hn⟩
  · exact ⟨noh_of noI_bl, tx_lit (p := .bool false) rfl (by decide +kernel) (by decide +kernel) (by decide +kernel) hn⟩
  · exact nh_int hn (by omega) (tx_lit (p := .int (-1)) rfl (by decide +kernel) (by decide +kernel) (by decide +kernel) hn)
  · exact nh_many hn
  · exact ⟨noh_of (noI_of rfl), tx_lit (p := .str "0") rfl (by decide +kernel) (by decide +kernel) (by decide +kernel) hn⟩
  · exact ⟨noh_of (noI_of rfl), tx_lit (p := .list [.int 0]) rfl (by decide +kernel) (by decide +kernel) (by decide +kernel) hn⟩
  · exact ⟨noh_of (noI_of rfl), tx_lit (p := .tuple [.int 0]) rfl (by decide +kernel) (by decide +kernel) (by decide +kernel) hn⟩
  · exact ⟨noh_of (noI_of rfl), tx_lit (p := .dict []) rfl (by decide +kernel) (by decide +kernel) (by decide +kernel) hn⟩
  · exact nh_int hn (by omega) (tx_lit (p := .int (10 ^ 29)) rfl (by decide +kernel) (by decide +kernel) (by decide +kernel) hn)
end
end Q05
set_option maxHeartbeats 1000000
namespace Q05
open DN PySem L2
section
variable {S S1 S2 : Sto} {env env' : DN.Env} {fa fb fe : FE} {fl : FA} {n i j k q p w : Nat} {T U L : List (Int × Int)} {v x y z : Dv} {a b : Int} {s t : Str} {l l1 l2 tt RR : List Dv} {d : Dv} {c : Cell} {a0 a1 u2 u3 u4 u5 u6 u7 u8 u9 u10 u11 : Sl}
abbrev EB (a0 a1 u2 u3 u4 u5 u6 u7 u8 u9 u10 u11 : Sl) : DN.Env := [a0, a1, u2, u3, u4, u5, u6, u7, u8, u9, u10, u11]
abbrev TK (fe : FE) : FE := fCallD 2 D_law_take (fCons (fVar 2) (fCons fe fNil))
abbrev LN (i : Nat) : FE := fLenD [("Web", 1, D_Web_len)] (fCons (fVar i) fNil)
theorem call_S {g : List Dv → Option Rt} {fa : FE} {a c : Dv} (ha : fa env S = .ok S1 (.val (.d a))) (hg : g [a] = vD c) : fCall g (fCons fa fNil) env S = .ok S1 (.val (.d c)) := by
  simp_arith [ha, hg]
theorem eqd_intS {i j : Int} (ha : fa env S = .ok S1 (.val (.d (.int i)))) (hb : fb env S1 = .ok S2 (.val (.d (.int j)))) : fEqD ["Web"] EQt false fa fb env S = .ok S2 (.val (.d (.bl (decide (i = j))))) := by
  unfold fEqD
  rw [ha]
  show (fb env S1).bindV _ = _
  rw [hb]
  show R.of S2 (gEq (.int i) (.int j)) = _
  rw [gEq_int]
  rfl
abbrev P1 : FS := kSetC 2 (fCallD 1 D_law_box (fCons (fCallD 2 D_law_cell_at (fCons (fVar 0) (fCons (fVar 1) fNil))) fNil))
theorem s1_ok {ns : List Int} (hns : ns.length ≤ 63) : ∃ c0, Bx 0 c0 ∧ P1 (EB (.v (.d (.scr ns))) (.v (.d (.int i))) u2 u3 u4 u5 u6 u7 u8 u9 u10 u11) S = .nx (EB (.v (.d (.scr ns))) (.v (.d (.int i))) (.v (.r S.length)) u3 u4 u5 u6 u7 u8 u9 u10 u11) (S ++ [c0]) := by
  obtain ⟨v, ev⟩ := cell_at_ok (k := i) (S := S) hns
  obtain ⟨c0, b0, ec⟩ := box_ok (v := v) (S := S)
  refine ⟨c0, b0, ?_⟩
  simp_arith [ev, ec]
abbrev P2 : FS := kSet 3 (fOp gIx (fLst (fCons (fOp gAdd (fC (.int 1)) (TK (fC (.int 12)))) (fCons (fOp gAdd (fC (.int 31)) (TK (fC (.int 10)))) fNil))) (fCall gInt (fCons (fEqD ["Web"] [("Web", 2, D_Web_eq)] false (TK (fC (.int 8))) (fC (.int 0))) fNil)))
theorem s2_ok (hm : q < S.length) (hB : Bx j c) (hj : j ≤ 1000) : ∃ (n : Nat) (c' : Cell), 1 ≤ n ∧ n ≤ 40 ∧ Bx (j + 3) c' ∧ P2 (EB a0 a1 (.v (.r q)) u3 u4 u5 u6 u7 u8 u9 u10 u11) (S.set q c) = .nx (EB a0 a1 (.v (.r q)) (.v (.d (.int n))) u4 u5 u6 u7 u8 u9 u10 u11) (S.set q c') := by
  let E := EB a0 a1 (.v (.r q)) u3 u4 u5 u6 u7 u8 u9 u10 u11
  obtain ⟨d1, c1, q1, b1, e1⟩ := take_at (i := 2) (env := E) (fe := fC (.int 12)) (a := 12) hm hB (by omega) rfl c_ok (by omega) (by omega)
  obtain ⟨d2, c2, q2, b2, e2⟩ := take_at (i := 2) (env := E) (fe := fC (.int 10)) (a := 10) hm b1 (by omega) rfl c_ok (by omega) (by omega)
  obtain ⟨d3, c3, q3, b3, e3⟩ := take_at (i := 2) (env := E) (fe := fC (.int 8)) (a := 8) hm b2 (by omega) rfl c_ok (by omega) (by omega)
  have f1 : fLst (fCons (fOp gAdd (fC (.int 1)) (TK (fC (.int 12)))) (fCons (fOp gAdd (fC (.int 31)) (TK (fC (.int 10)))) fNil)) E (S.set q c) = .ok (S.set q c2) (.new (.lst [.int (1 + d1 : Nat), .int (31 + d2 : Nat)])) :=
    lst_ok (cons_d (op_S c_ok e1 (by rw [gAdd_]; rfl)) (cons_d (op_S c_ok e2 (by rw [gAdd_]; rfl)) nil_ok)) rfl
  have f2 : fEqD ["Web"] EQt false (TK (fC (.int 8))) (fC (.int 0)) E (S.set q c2) = .ok (S.set q c3) (.val (.d (.bl (decide ((d3 : Int) = 0))))) := eqd_intS e3 c_ok
  by_cases h : (d3 : Int) = 0
  · rw [decide_eq_true h] at f2
    exact ⟨31 + d2, c3, by omega, by omega, b3, st_set (op_L f1 (call_S f2 (c := .int 1) rfl) (c := .int (31 + d2 : Nat)) (gIx_lst (i := 1) rfl)) rfl⟩
  · rw [decide_eq_false h] at f2
    exact ⟨1 + d1, c3, by omega, by omega, b3, st_set (op_L f1 (call_S f2 (c := .int 0) rfl) (c := .int (1 + d1 : Nat)) (gIx_lst (i := 0) rfl)) rfl⟩
abbrev P3 : FS := kSet 4 (fCallD 2 D_law_ties (fCons (fVar 2) (fCons (fVar 3) fNil)))
theorem s3_ok (hm : q < S.length) (hB : Bx j c) (hj : j ≤ 1000) (h1 : 1 ≤ n) (hn : n ≤ 40) : ∃ (c' : Cell) (T : List (Int × Int)), Bx (j + 2000) c' ∧ Vd n T ∧ T.length ≤ 780 ∧ P3 (EB a0 a1 (.v (.r q)) (.v (.d (.int n))) u4 u5 u6 u7 u8 u9 u10 u11) (S.set q c) = .nx (EB a0 a1 (.v (.r q)) (.v (.d (.int n))) (.v (.d (.lst (T.map pairD)))) u5 u6 u7 u8 u9 u10 u11) (S.set q c') := by
  obtain ⟨c', T, b', V, lT, e⟩ := ties_ok (S := S) hm hB (by omega) h1 hn
  exact ⟨c', T, b', V, lT, st_set (callD (l := [.r q, .d (.int n)]) (cons_v (var_v rfl) (cons_v (var_v rfl) nil_ok)) rfl e) rfl⟩
abbrev P4 : FS := kSet 5 (fMakeD "Web" [] 3 D_Web_init (fCons (fVar 3) (fCons (fCall gList (fCons (fVar 4) fNil)) fNil)))
theorem s4_ok (V : Vd n T) (lT : T.length ≤ 780) : P4 (EB a0 a1 u2 (.v (.d (.int n))) (.v (.d (.lst (T.map pairD)))) u5 u6 u7 u8 u9 u10 u11) S = .nx (EB a0 a1 u2 (.v (.d (.int n))) (.v (.d (.lst (T.map pairD)))) (.v (.d (Wb n T))) u6 u7 u8 u9 u10 u11) S := by
  have e := make_ok (S := S) (S' := S) (env := EB a0 a1 u2 (.v (.d (.int n))) (.v (.d (.lst (T.map pairD)))) u5 u6 u7 u8 u9 u10 u11) (fa := fCons (fVar 3) (fCons (fCall gList (fCons (fVar 4) fNil)) fNil)) V.lo V.hi (Tv.lst V.small (by omega)) V.ti (by omega) (cons_v (var_v rfl) (cons_L (call_new (var_ok rfl) rfl) nil_ok))
  rw [V.sort] at e
  exact st_setO e rfl
abbrev NE (f1 f2 : FE) : FS := kIf (kVal (fEqD ["Web"] [("Web", 2, D_Web_eq)] true f1 f2)) (kRet (fC (.bl false))) kNext
abbrev F5a : FE := fCallD 4 D_law_caught (fCons (fC (.int 0)) (fCons (fVar 5) (fCons (fVar 6) (fCons (fC .non) fNil))))
abbrev F5b : FE := fCallD 5 D_law_due (fCons (fC (.int 0)) (fCons (fVar 3) (fCons (fVar 4) (fCons (fVar 6) (fCons (fC .non) fNil)))))
abbrev B5 : FS := kSeq (NE F5a F5b) (kExpr (fMut gAppend (fKeep (fMethD [("Web", 2, D_Web_neighbors)] (fVar 5) (fCons (fVar 6) fNil))) (fCons (fC (.int 99)) fNil)))
theorem app_keep {l l' : List Dv} {x y : Dv} (h1 : fe env S = .ok S (.new (.lst l))) (h4 : gAppend l [x] = some (l', y)) : kExpr (fMut gAppend (fKeep fe) (fCons (fC x) fNil)) env S = .nx env (S ++ [.lst l']) := by
  have e1 : fKeep fe env S = .ok (S ++ [.lst l]) (.val (.r S.length)) := by
    unfold fKeep
    rw [h1]
  have hq : (S ++ [Cell.lst l])[S.length]? = some (.lst l) := by simp
  refine (show kExpr (fMut gAppend (fKeep fe) (fCons (fC x) fNil)) env S = .nx env ((S ++ [Cell.lst l]).set S.length (.lst l')) from ?_).trans (by rw [set_last])
  simp_arith [e1, hq, h4]
abbrev EW (a0 a1 u2 : Sl) (n : Nat) (T : List (Int × Int)) (u6 u7 u8 u9 u10 u11 : Sl) : DN.Env := EB a0 a1 u2 (.v (.d (.int n))) (.v (.d (.lst (T.map pairD)))) (.v (.d (Wb n T))) u6 u7 u8 u9 u10 u11
theorem b5_ok (V : Vd n T) (lT : T.length ≤ 780) (hk : k < n) : ∃ X, B5 (EW a0 a1 u2 n T (.v (.d (.int k))) u7 u8 u9 u10 u11) S = .nx (EW a0 a1 u2 n T (.v (.d (.int k))) u7 u8 u9 u10 u11) (S ++ [X]) := by
  let E := EW a0 a1 u2 n T (.v (.d (.int k))) u7 u8 u9 u10 u11
  have e1 := ne_ok (env := E) (f1 := F5a) (f2 := F5b) (same_ok (S := S) (w := 0) (x := .int k) (y := .non) (v := Wb n T) IsW.mk V (by omega) (by omega) (.inl ⟨k, hk, rfl⟩) (fun h => absurd rfl h)) (callD (l := [.d (.int 0), .d (Wb n T), .d (.int k), .d .non]) rfl rfl rfl) (callD (l := [.d (.int 0), .d (.int n), .d (.lst (T.map pairD)), .d (.int k), .d .non]) rfl rfl rfl)
  have e2 : fMethD [("Web", 2, D_Web_neighbors)] (fVar 5) (fCons (fVar 6) fNil) E S = .ok S (.new (.lst (bsD n T k))) := meth (m := 2) (D := D_Web_neighbors) (l := [.d (.int k)]) (var_v rfl) (IsW.mk (n := n) (T := T)).cls rfl (cons_v (var_v rfl) nil_ok) rfl (nb_ok IsW.mk hk)
  have hl : (bsD n T k).length ≤ 40 := by
    have hn := V.hi
    unfold bsD bes
    have := List.length_filter_le (fun j : Nat => decide (tieOf k j ∈ T)) (List.range n)
    rw [List.length_range] at this
    rw [List.length_map]
    omega
  have e3 : gAppend (bsD n T k) [.int 99] = some (bsD n T k ++ [.int 99], .non) := by
    show (if (bsD n T k).length < 100000 then some (bsD n T k ++ [Dv.int 99], Dv.non) else none) = _
    rw [if_pos (by omega)]
  exact ⟨_, seq_nx (if_no e1 rfl) (app_keep e2 e3)⟩
abbrev P5 : FS := kFor (iRange1 (fCons (fVar 3) fNil)) (tgN 6) B5
theorem s5_ok (V : Vd n T) (lT : T.length ≤ 780) : ∃ w6 X, P5 (EW a0 a1 u2 n T u6 u7 u8 u9 u10 u11) S = .nx (EW a0 a1 u2 n T w6 u7 u8 u9 u10 u11) (S ++ X) := by
  have hn := V.hi
  obtain ⟨e', S', h1, w6, X, h2, h3⟩ := for_rg (i := 6) (n := n) (fl := fCons (fVar 3) fNil) (body := B5) (env := EW a0 a1 u2 n T u6 u7 u8 u9 u10 u11) (S := S) (fun k env U => ∃ w6 X, env = EW a0 a1 u2 n T w6 u7 u8 u9 u10 u11 ∧ U = S ++ X) (cons_d (var_ok rfl) nil_ok) (by omega) ⟨u6, [], rfl, by simp⟩ (fun k env U hk hI => by
    obtain ⟨w6, X, rfl, rfl⟩ := hI
    obtain ⟨Y, e⟩ := b5_ok (S := S ++ X) (a0 := a0) (a1 := a1) (u2 := u2) (u7 := u7) (u8 := u8) (u9 := u9) (u10 := u10) (u11 := u11) V lT hk
    exact ⟨_, _, e, _, X ++ [Y], rfl, by rw [List.append_assoc]⟩)
  subst h2 h3
  exact ⟨w6, X, h1⟩
abbrev P6 : FS := kSet 7 (fOp gAdd (fLst (fCons (fC .non) (fCons (fC (.bl true)) (fCons (fC (.bl false)) (fCons (fUn gNeg (fC (.int 1))) (fCons (fVar 3) (fCons (fC (.str "0")) (fCons (fLst (fCons (fC (.int 0)) fNil)) (fCons (fTup (fCons (fC (.int 0)) fNil)) (fCons (fDNew false) (fCons (fOp gPow (fC (.int 10)) (fC (.int 29))) fNil))))))))))) (fRg1 (fVar 3)))
abbrev OD (n : Nat) : List Dv := V10 n ++ (List.range n).map fun k : Nat => Dv.int k
theorem od_ok (hn : n ≤ 40) : ∀ v ∈ OD n, Hs n v := fun v hv => by
  rcases List.mem_append.mp hv with hv | hv
  · exact .inr (v10_ok hn v hv)
  · obtain ⟨k, hk, rfl⟩ := List.mem_map.mp hv
    exact .inl ⟨k, List.mem_range.mp hk, rfl⟩
theorem rg_ok (hn : n ≤ 40) (h : env[i]? = some (.v (.d (.int n)))) : fRg1 (fVar i) env S = .ok S (.new (.lst ((List.range n).map fun k : Nat => Dv.int k))) := by
  have g : gRg (.int 0) (.int n) = nL ((List.range n).map fun k : Nat => Dv.int k) := by
    show (if -1000000 ≤ (0 : Int) ∧ (0 : Int) ≤ 1000000 ∧ -1000000 ≤ (n : Int) ∧ (n : Int) ≤ 1000000 then some (Rt.new (.lst (rgD 0 n))) else none) = _
    rw [if_pos (by omega)]
    unfold rgD
    simp <;> rfl
  unfold fRg1
  simp_arith [h, g]
theorem s6_ok (hn : n ≤ 40) : P6 (EW a0 a1 u2 n T u6 u7 u8 u9 u10 u11) S = .nx (EW a0 a1 u2 n T u6 (.v (.d (.lst (OD n)))) u8 u9 u10 u11) S := by
  have e1 : fLst (fCons (fC .non) (fCons (fC (.bl true)) (fCons (fC (.bl false)) (fCons (fUn gNeg (fC (.int 1))) (fCons (fVar 3) (fCons (fC (.str "0")) (fCons (fLst (fCons (fC (.int 0)) fNil)) (fCons (fTup (fCons (fC (.int 0)) fNil)) (fCons (fDNew false) (fCons (fOp gPow (fC (.int 10)) (fC (.int 29))) fNil)))))))))) (EW a0 a1 u2 n T u6 u7 u8 u9 u10 u11) S = .ok S (.new (.lst (V10 n))) := rfl
  have e2 := rg_ok (S := S) (env := EW a0 a1 u2 n T u6 u7 u8 u9 u10 u11) (i := 3) hn rfl
  have g : gAdd (.lst (V10 n)) (.lst ((List.range n).map fun k : Nat => Dv.int k)) = nL (OD n) := gAdd_lst (by simp; omega)
  refine st_setL (l := OD n) ?_ rfl
  generalize fRg1 (fVar 3) = F2 at e2 ⊢
  generalize fLst (fCons (fC .non) (fCons (fC (.bl true)) (fCons (fC (.bl false)) (fCons (fUn gNeg (fC (.int 1))) (fCons (fVar 3) (fCons (fC (.str "0")) (fCons (fLst (fCons (fC (.int 0)) fNil)) (fCons (fTup (fCons (fC (.int 0)) fNil)) (fCons (fDNew false) (fCons (fOp gPow (fC (.int 10)) (fC (.int 29))) fNil)))))))))) = F1 at e1 ⊢
  generalize OD n = O at g ⊢
  generalize V10 n = A1 at e1 g ⊢
  simp_arith [e1, e2, g]
end
end Q05
set_option maxHeartbeats 1000000
namespace Q05
open DN PySem L2
section
variable {S S1 S2 : Sto} {env env' : DN.Env} {fa fb fe : FE} {fl : FA} {n i j k q p w : Nat} {T U L : List (Int × Int)} {v x y z : Dv} {a b : Int} {s t : Str} {l l1 l2 tt RR : List Dv} {d : Dv} {c : Cell} {a0 a1 u2 u3 u4 u5 u6 u7 u8 u9 u10 u11 : Sl}
theorem ln_ok (h : env[i]? = some (.v (.d (.lst l)))) : LN i env S = .ok S (.val (.d (.int l.length))) := by
  have : gLen [.lst l] = vI (l.length : Nat) := rfl
  simp_arith [h, this]
/-- an item is drawn -/
theorem pick_ok (hm : q < S.length) (hB : Bx j c) (hj : j ≤ 1000000) (h2 : env[2]? = some (.v (.r q))) (hi : env[i]? = some (.v (.d (.lst l)))) (h0 : 0 < l.length) (h1 : l.length < 1000000) : ∃ (d : Nat) (c' : Cell) (hd : d < l.length), Bx (j + 1) c' ∧ fOp gIx (fVar i) (TK (LN i)) env (S.set q c) = .ok (S.set q c') (.val (.d l[d])) := by
  obtain ⟨d, c', d1, b1, e⟩ := take_at (i := 2) (env := env) (fe := LN i) (a := l.length) hm hB (by omega) h2 (ln_ok hi) (by omega) (by omega)
  have hd : d < l.length := by omega
  exact ⟨d, c', hd, b1, op_S (var_ok hi) e (gIx_lst (l := l) (i := d) (List.getElem?_eq_getElem hd))⟩
abbrev T1 : FS := kPar 9 10 (fCons (fOp gIx (fVar 7) (TK (LN 7))) (fCons (fOp gIx (fVar 7) (TK (LN 7))) fNil))
abbrev C2 : FT := kAnd (kVal (fEqD ["Web"] [("Web", 2, D_Web_eq)] false (TK (fC (.int 3))) (fC (.int 0)))) (kVal (fEqD ["Web"] [("Web", 2, D_Web_eq)] true (fVar 4) (fLst fNil)))
abbrev A2 : FS := kAsg (tgT (tgCons (tgN 9) (tgCons (tgN 10) tgNil))) (fStep (fOp gIx (fVar 4) (TK (LN 4))) (fOp gIx (fLst (fCons (fC (.int 1)) (fCons (fUn gNeg (fC (.int 1))) fNil))) (TK (fC (.int 2)))))
abbrev T2 : FS := kIf C2 A2 kNext
abbrev F7a : FE := fCallD 4 D_law_caught (fCons (fVar 11) (fCons (fVar 5) (fCons (fVar 9) (fCons (fVar 10) fNil))))
abbrev F7b : FE := fCallD 5 D_law_due (fCons (fVar 11) (fCons (fVar 3) (fCons (fVar 4) (fCons (fVar 9) (fCons (fVar 10) fNil)))))
abbrev T3 : FS := kFor (iRange1 (fCons (fC (.int 3)) fNil)) (tgN 11) (NE F7a F7b)
abbrev B7 : FS := kSeq T1 (kSeq T2 T3)
abbrev EQ (a0 a1 : Sl) (q n : Nat) (T : List (Int × Int)) (u6 u8 u9 u10 u11 : Sl) : DN.Env := EW a0 a1 (.v (.r q)) n T u6 (.v (.d (.lst (OD n)))) u8 u9 u10 u11
theorem t1_ok (hm : q < S.length) (hB : Bx j c) (hj : j ≤ 100000) (hn : n ≤ 40) : ∃ x y c', Hs n x ∧ Hs n y ∧ Bx (j + 2) c' ∧ T1 (EQ a0 a1 q n T u6 u8 u9 u10 u11) (S.set q c) = .nx (EQ a0 a1 q n T u6 u8 (.v (.d x)) (.v (.d y)) u11) (S.set q c') := by
  have hl : (OD n).length = n + 10 := by simp [OD]
  obtain ⟨d, c1, hd, b1, e1⟩ := pick_ok (S := S) (env := EQ a0 a1 q n T u6 u8 u9 u10 u11) (i := 7) (l := OD n) hm hB (by omega) rfl rfl (by omega) (by omega)
  obtain ⟨d2, c2, hd2, b2, e2⟩ := pick_ok (S := S) (env := EQ a0 a1 q n T u6 u8 u9 u10 u11) (i := 7) (l := OD n) hm b1 (by omega) rfl rfl (by omega) (by omega)
  exact ⟨(OD n)[d], (OD n)[d2], c2, od_ok hn _ (List.getElem_mem hd), od_ok hn _ (List.getElem_mem hd2), b2, (st_par e1 e2).trans rfl⟩
theorem ne_nil : fEqD ["Web"] EQt true (fVar 4) (fLst fNil) (EQ a0 a1 q n T u6 u8 u9 u10 u11) S = .ok S (.val (.d (.bl (!decide (T = []))))) := by
  have h1 : fVar 4 (EQ a0 a1 q n T u6 u8 u9 u10 u11) S = .ok S (.val (.d (.lst (T.map pairD)))) := var_ok rfl
  have h2 : fLst fNil (EQ a0 a1 q n T u6 u8 u9 u10 u11) S = .ok S (.new (.lst [])) := rfl
  have g : gNe (.lst (T.map pairD)) (.lst []) = vB (!decide (T = [])) := by
    unfold gNe
    rw [ok_lst, show okN 60 (.lst []) = true from rfl]
    show vB (!eqDs (T.map pairD) []) = _
    cases T with
    | nil => rfl
    | cons p T =>
      rw [decide_eq_false (by simp)]
      rfl
  generalize fVar 4 = F1 at h1 ⊢
  generalize fLst fNil = F2 at h2 ⊢
  simp_arith [h1, h2, g]
theorem asg2 {a b : Dv} (h : fe env S = .ok S1 (.val (.d (.tup [a, b])))) : kAsg (tgT (tgCons (tgN i) (tgCons (tgN j) tgNil))) fe env S = .nx ((env.set i (.v (.d a))).set j (.v (.d b))) S1 := by
  simp_arith [h]
theorem tie_nat {p : Int × Int} (h : Tie n p) : ∃ i j : Nat, p = ((i : Int), (j : Int)) ∧ i < j ∧ j < n := by
  obtain ⟨h1, h2, h3⟩ := h
  obtain ⟨a, b⟩ := p
  have h1 : 0 ≤ a := h1
  have h2 : a < b := h2
  have h3 : b < n := h3
  exact ⟨a.toNat, b.toNat, by rw [Int.toNat_of_nonneg h1, Int.toNat_of_nonneg (by omega)], by omega, by omega⟩
theorem t2_ok (hm : q < S.length) (hB : Bx j c) (hj : j ≤ 100000) (V : Vd n T) (lT : T.length ≤ 780) (hx : Hs n x) (hy : Hs n y) : ∃ x' y' c', Hs n x' ∧ Hs n y' ∧ Bx (j + 3) c' ∧ T2 (EQ a0 a1 q n T u6 u8 (.v (.d x)) (.v (.d y)) u11) (S.set q c) = .nx (EQ a0 a1 q n T u6 u8 (.v (.d x')) (.v (.d y')) u11) (S.set q c') := by
  let E := EQ a0 a1 q n T u6 u8 (.v (.d x)) (.v (.d y)) u11
  obtain ⟨d, c1, q1, b1, e1⟩ := take_at (i := 2) (env := E) (fe := fC (.int 3)) (a := 3) hm hB (by omega) rfl c_ok (by omega) (by omega)
  have f1 := val_s (eqd_intS (S2 := S.set q c1) (fb := fC (.int 0)) (j := 0) e1 c_ok)
  have n1 : kVal (fEqD ["Web"] [("Web", 2, D_Web_eq)] true (fVar 4) (fLst fNil)) E (S.set q c1) = .ok (S.set q c1) (!decide (T = [])) := val_s ne_nil
  have andS : ∀ {t1 t2 : FT} {S S1 S2 : Sto} {b : Bool}, t1 E S = .ok S1 true → t2 E S1 = .ok S2 b → kAnd t1 t2 E S = .ok S2 b := fun h h2 => by simp_arith [h, h2]
  have andF : ∀ {t1 t2 : FT} {S S1 : Sto}, t1 E S = .ok S1 false → kAnd t1 t2 E S = .ok S1 false := fun h => by simp_arith [h]
  by_cases h0 : (d : Int) = 0
  · rw [decide_eq_true h0] at f1
    by_cases hT : T = []
    · rw [decide_eq_true hT] at n1
      exact ⟨x, y, c1, hx, hy, b1.le (by omega), if_no (andS f1 n1) rfl⟩
    · rw [decide_eq_false hT] at n1
      have hl : 0 < (T.map pairD).length := by
        rw [List.length_map]
        exact List.length_pos_iff.mpr hT
      obtain ⟨d2, c2, hd2, b2, e2⟩ := pick_ok (S := S) (env := E) (i := 4) (l := T.map pairD) hm b1 (by omega) rfl rfl hl (by simp; omega)
      obtain ⟨d3, c3, q3, b3, e3⟩ := take_at (i := 2) (env := E) (fe := fC (.int 2)) (a := 2) hm b2 (by omega) rfl c_ok (by omega) (by omega)
      rw [List.getElem_map] at e2
      have hd2' : d2 < T.length := by simpa using hd2
      obtain ⟨i, jj, ep, h4, h5⟩ := tie_nat (V.ti _ (List.getElem_mem hd2'))
      rw [ep] at e2
      have e2 : fOp gIx (fVar 4) (TK (LN 4)) E (S.set q c1) = .ok (S.set q c2) (.val (.d (.tup [.int i, .int jj]))) := e2
      have l2 : fLst (fCons (fC (.int 1)) (fCons (fUn gNeg (fC (.int 1))) fNil)) E (S.set q c2) = .ok (S.set q c2) (.new (.lst [.int 1, .int (-1)])) := rfl
      have hi : Hs n (.int i) := .inl ⟨i, by omega, rfl⟩
      have hjj : Hs n (.int jj) := .inl ⟨jj, by omega, rfl⟩
      by_cases h3 : d3 = 0
      · subst h3
        have e4 := op_L l2 e3 (c := .int 1) (gIx_lst (i := 0) rfl)
        have e5 : fStep (fOp gIx (fVar 4) (TK (LN 4))) (fOp gIx (fLst (fCons (fC (.int 1)) (fCons (fUn gNeg (fC (.int 1))) fNil))) (TK (fC (.int 2)))) E (S.set q c1) = .ok (S.set q c3) (.val (.d (.tup [.int i, .int jj]))) := op_S e2 e4 rfl
        exact ⟨.int i, .int jj, c3, hi, hjj, b3.le (by omega), if_yes (andS f1 n1) ((asg2 (i := 9) (j := 10) e5).trans rfl)⟩
      · have : d3 = 1 := by omega
        subst this
        have e4 := op_L l2 e3 (c := .int (-1)) (gIx_lst (i := 1) rfl)
        have e5 : fStep (fOp gIx (fVar 4) (TK (LN 4))) (fOp gIx (fLst (fCons (fC (.int 1)) (fCons (fUn gNeg (fC (.int 1))) fNil))) (TK (fC (.int 2)))) E (S.set q c1) = .ok (S.set q c3) (.val (.d (.tup [.int jj, .int i]))) := op_S e2 e4 rfl
        exact ⟨.int jj, .int i, c3, hjj, hi, b3.le (by omega), if_yes (andS f1 n1) ((asg2 (i := 9) (j := 10) e5).trans rfl)⟩
  · rw [decide_eq_false h0] at f1
    exact ⟨x, y, c1, hx, hy, b1.le (by omega), if_no (andF f1) rfl⟩
theorem t3_ok (V : Vd n T) (lT : T.length ≤ 780) (hx : Hs n x) (hy : Hs n y) : ∃ w11, T3 (EQ a0 a1 q n T u6 u8 (.v (.d x)) (.v (.d y)) u11) S = .nx (EQ a0 a1 q n T u6 u8 (.v (.d x)) (.v (.d y)) w11) S := by
  obtain ⟨e', S', h1, w11, h2, h3⟩ := for_rg (i := 11) (n := 3) (fl := fCons (fC (.int 3)) fNil) (body := NE F7a F7b) (env := EQ a0 a1 q n T u6 u8 (.v (.d x)) (.v (.d y)) u11) (S := S) (fun k env U => ∃ w11, env = EQ a0 a1 q n T u6 u8 (.v (.d x)) (.v (.d y)) w11 ∧ U = S) (cons_d c_ok nil_ok) (by omega) ⟨u11, rfl, rfl⟩ (fun k env U hk hI => by
    obtain ⟨w11, rfl, rfl⟩ := hI
    have e1 := ne_ok (env := EQ a0 a1 q n T u6 u8 (.v (.d x)) (.v (.d y)) (.v (.d (.int k)))) (f1 := F7a) (f2 := F7b) (same_ok (S := U) (w := k) (x := x) (y := y) (v := Wb n T) IsW.mk V (by omega) hk hx (fun _ => hy)) (callD (l := [.d (.int k), .d (Wb n T), .d x, .d y]) rfl rfl rfl) (callD (l := [.d (.int k), .d (.int n), .d (.lst (T.map pairD)), .d x, .d y]) rfl rfl rfl)
    exact ⟨_, _, if_no e1 rfl, _, rfl, rfl⟩)
  subst h2 h3
  exact ⟨w11, h1⟩
abbrev P7 : FS := kFor (iRange1 (fCons (fC (.int 16)) fNil)) (tgN 8) B7
theorem s7_ok (hm : q < S.length) (hB : Bx j c) (hj : j ≤ 10000) (V : Vd n T) (lT : T.length ≤ 780) : ∃ c' w8 w9 w10 w11, P7 (EQ a0 a1 q n T u6 u8 u9 u10 u11) (S.set q c) = .nx (EQ a0 a1 q n T u6 w8 w9 w10 w11) (S.set q c') := by
  obtain ⟨e', S', h1, c', w8, w9, w10, w11, h2, h3, h4⟩ := for_rg (i := 8) (n := 16) (fl := fCons (fC (.int 16)) fNil) (body := B7) (env := EQ a0 a1 q n T u6 u8 u9 u10 u11) (S := S.set q c) (fun k env U => ∃ c w8 w9 w10 w11, env = EQ a0 a1 q n T u6 w8 w9 w10 w11 ∧ U = S.set q c ∧ Bx (j + 5 * k) c) (cons_d c_ok nil_ok) (by omega) ⟨c, u8, u9, u10, u11, rfl, rfl, hB⟩ (fun k env U hk hI => by
    obtain ⟨c, w8, w9, w10, w11, rfl, rfl, hb⟩ := hI
    obtain ⟨x, y, c1, hx, hy, b1, e1⟩ := t1_ok (S := S) (T := T) (a0 := a0) (a1 := a1) (u6 := u6) (u8 := .v (.d (.int k))) (u9 := w9) (u10 := w10) (u11 := w11) hm hb (by omega) V.hi
    obtain ⟨x2, y2, c2, hx2, hy2, b2, e2⟩ := t2_ok (S := S) (a0 := a0) (a1 := a1) (u6 := u6) (u8 := .v (.d (.int k))) (u11 := w11) hm b1 (by omega) V lT hx hy
    obtain ⟨v11, e3⟩ := t3_ok (S := S.set q c2) (q := q) (a0 := a0) (a1 := a1) (u6 := u6) (u8 := .v (.d (.int k))) (u11 := w11) V lT hx2 hy2
    exact ⟨_, _, seq_nx e1 (seq_nx e2 e3), c2, _, _, _, _, rfl, rfl, b2.le (by omega)⟩)
  subst h2 h3
  exact ⟨c', w8, w9, w10, w11, h1⟩
abbrev P8 : FS := kIf (kOr (kVal (fOp gNe (fUn (gFld ["Web"] "ties") (fVar 5)) (fCall gTuple (fCons (fVar 4) fNil)))) (kVal (fOp gNe (fUn (gFld ["Web"] "houses") (fVar 5)) (fVar 3)))) (kRet (fC (.bl false))) kNext
theorem s8_ok : P8 (EW a0 a1 u2 n T u6 u7 u8 u9 u10 u11) S = .nx (EW a0 a1 u2 n T u6 u7 u8 u9 u10 u11) S := by
  have t1 : kVal (fOp gNe (fUn (gFld ["Web"] "ties") (fVar 5)) (fCall gTuple (fCons (fVar 4) fNil))) (EW a0 a1 u2 n T u6 u7 u8 u9 u10 u11) S = .ok S false :=
    val_s (op_ok (ties_at IsW.mk rfl) (call_ok (var_ok (a := .lst (T.map pairD)) rfl) rfl) (gNe_refl (by rw [okN_tup]; exact ok_ties)))
  have t2 : kVal (fOp gNe (fUn (gFld ["Web"] "houses") (fVar 5)) (fVar 3)) (EW a0 a1 u2 n T u6 u7 u8 u9 u10 u11) S = .ok S false :=
    val_s (op_ok (houses_at (IsW.mk (n := n) (T := T)) rfl) (var_ok (a := .int n) rfl) (gNe_refl okN_int))
  exact if_no (orB (b1 := false) t1 fun _ => t2) rfl
end
end Q05
set_option maxHeartbeats 1000000
namespace Q05
open DN PySem L2
section
variable {S S1 S2 : Sto} {env env' : DN.Env} {fa fb fe : FE} {fl : FA} {n i j k q p w : Nat} {T U L : List (Int × Int)} {v x y z : Dv} {a b : Int} {s t : Str} {l l1 l2 tt RR : List Dv} {d : Dv} {c : Cell} {a0 a1 u2 u3 u4 u5 u6 u7 u8 u9 u10 u11 : Sl}
theorem cut_any (T : List (Int × Int)) (k : Nat) : cutL (T.map pairD) none (some (k : Int)) = (T.take k).map pairD := by
  unfold cutL
  rw [HT.sIx_nat, HT.sIx_none]
  simp only [List.drop_zero, Nat.sub_zero]
  rw [List.map_take, List.length_map]
  rcases Nat.le_total k T.length with h | h
  · rw [Nat.min_eq_left h]
  · rw [Nat.min_eq_right h, List.take_of_length_le (by simp), List.take_of_length_le (by simpa using h)]
abbrev IT4 : FI := iVal (fSl (fVar 4) fNoPart (fPart (fC (.int 4))))
abbrev TG : FG := tgT (tgCons (tgN 9) (tgCons (tgN 6) tgNil))
abbrev UB : FS := kSet 10 (fMethD [("Web", 3, D_Web_untied)] (fVar 10) (fCons (fVar 6) (fCons (fVar 9) fNil)))
abbrev TB : FS := kSet 10 (fMethD [("Web", 3, D_Web_tied)] (fVar 10) (fCons (fVar 6) (fCons (fVar 9) fNil)))
theorem it4_ok : IT4 (EW a0 a1 u2 n T u6 u7 u8 u9 u10 u11) S = .ok S ((T.take 4).map pairD, none) := by
  have e : fSl (fVar 4) fNoPart (fPart (fC (.int 4))) (EW a0 a1 u2 n T u6 u7 u8 u9 u10 u11) S = .ok S (.new (.lst ((T.take 4).map pairD))) := sl_toL (var_ok (a := .lst (T.map pairD)) rfl) c_ok (show gSl none (some ((4 : Nat) : Int)) (.lst (T.map pairD)) = nL ((T.take 4).map pairD) from congrArg nL (cut_any T 4))
  show (fSl (fVar 4) fNoPart (fPart (fC (.int 4))) (EW a0 a1 u2 n T u6 u7 u8 u9 u10 u11) S).bindV (fun S1 a => itOf S1 a) = _
  rw [e]
  rfl
abbrev EO (a0 a1 u2 : Sl) (n : Nat) (T : List (Int × Int)) (u6 u7 u8 u9 : Sl) (U : List (Int × Int)) (u11 : Sl) : DN.Env := EW a0 a1 u2 n T u6 u7 u8 u9 (.v (.d (Wb n U))) u11
theorem tij_of {i j : Nat} (h : i < j) : tij j i = ((i : Int), (j : Int)) := by
  unfold tij tieOf
  rw [if_pos (by omega), if_neg (by omega)]
theorem ub_ok {i j : Nat} (V : Vd n U) (lU : U.length ≤ 900) (hij : i < j) (hj : j < n) (hm : ((i : Int), (j : Int)) ∈ U) : UB (EO a0 a1 u2 n T (.v (.d (.int j))) u7 u8 (.v (.d (.int i))) U u11) S = .nx (EO a0 a1 u2 n T (.v (.d (.int j))) u7 u8 (.v (.d (.int i))) (U.filter fun p => !decide (p = ((i : Int), (j : Int)))) u11) S := by
  have e := unti_ok (S := S) (w := Wb n U) (i := j) (j := i) IsW.mk V lU hj (by omega) (by rw [tij_of hij]; exact hm)
  rw [tij_of hij] at e
  exact st_setO (meth (m := 3) (D := D_Web_untied) (l := [.d (.int j), .d (.int i)]) (var_v rfl) (IsW.mk (n := n) (T := U)).cls rfl (cons_v (var_v rfl) (cons_v (var_v rfl) nil_ok)) rfl e) rfl
theorem tb_ok {i j : Nat} (V : Vd n U) (lU : U.length ≤ 900) (hij : i < j) (hj : j < n) (hm : ((i : Int), (j : Int)) ∉ U) : TB (EO a0 a1 u2 n T (.v (.d (.int j))) u7 u8 (.v (.d (.int i))) U u11) S = .nx (EO a0 a1 u2 n T (.v (.d (.int j))) u7 u8 (.v (.d (.int i))) (sortP (U ++ [((i : Int), (j : Int))])) u11) S := by
  have e := tied_ok (S := S) (w := Wb n U) (i := j) (j := i) IsW.mk V lU hj (by omega) (by omega) (by rw [tij_of hij]; exact hm)
  rw [tij_of hij] at e
  exact st_setO (meth (m := 3) (D := D_Web_tied) (l := [.d (.int j), .d (.int i)]) (var_v rfl) (IsW.mk (n := n) (T := U)).cls rfl (cons_v (var_v rfl) (cons_v (var_v rfl) nil_ok)) rfl e) rfl
theorem ub_loop : ∀ (l : List (Int × Int)) (U : List (Int × Int)) (u6 u9 : Sl), Vd n U → U.length ≤ 800 → (∀ p ∈ l, p ∈ U) → l.Nodup → ∃ U' w6 w9, Vd n U' ∧ U'.length ≤ 800 ∧ (∀ p, p ∈ U' ↔ p ∈ U ∧ p ∉ l) ∧ forGo (tt, none) TG UB (l.map pairD) (EO a0 a1 u2 n T u6 u7 u8 u9 U u11) S = .nx (EO a0 a1 u2 n T w6 u7 u8 w9 U' u11) S
  | [], U, u6, u9, V, lU, h, nd => ⟨U, u6, u9, V, lU, fun p => by simp, rfl⟩
  | p :: l, U, u6, u9, V, lU, h, nd => by
    obtain ⟨i, j, rfl, hij, hj⟩ := tie_nat (V.ti p (h p List.mem_cons_self))
    have hm := h _ List.mem_cons_self
    have e := ub_ok (S := S) (T := T) (a0 := a0) (a1 := a1) (u2 := u2) (u7 := u7) (u8 := u8) (u11 := u11) V (by omega) hij hj hm
    obtain ⟨nd1, nd2⟩ := List.nodup_cons.mp nd
    have V' : Vd n (U.filter fun p => !decide (p = ((i : Int), (j : Int)))) := ⟨V.lo, V.hi, fun p hp => V.ti p (List.mem_filter.mp hp).1, V.pw.filter _⟩
    obtain ⟨U', w6, w9, V2, l2, m2, e2⟩ := ub_loop l _ (.v (.d (.int j))) (.v (.d (.int i))) V' (Nat.le_trans (List.length_filter_le _ _) lU) (fun p hp => List.mem_filter.mpr ⟨h p (List.mem_cons_of_mem _ hp), by
      have : p ≠ ((i : Int), (j : Int)) := fun e => nd1 (e ▸ hp)
      simp [this]⟩) nd2
    refine ⟨U', w6, w9, V2, l2, fun p => ?_, ?_⟩
    · rw [m2, List.mem_filter, List.mem_cons]
      constructor
      · rintro ⟨⟨h1, h2⟩, h3⟩
        have h2 : p ≠ ((i : Int), (j : Int)) := by simpa using h2
        exact ⟨h1, fun e => e.elim h2 h3⟩
      · rintro ⟨h1, h2⟩
        exact ⟨⟨h1, by rw [decide_eq_false fun e => h2 (.inl e)]; rfl⟩, fun e => h2 (.inr e)⟩
    · rw [List.map_cons]
      exact (go_ok (env1 := EO a0 a1 u2 n T (.v (.d (.int j))) u7 u8 (.v (.d (.int i))) U u11) rfl e).trans e2
theorem tb_loop : ∀ (l : List (Int × Int)) (U : List (Int × Int)) (u6 u9 : Sl), Vd n U → U.length + l.length ≤ 900 → (∀ p ∈ l, Tie n p ∧ p ∉ U) → l.Nodup → ∃ U' w6 w9, Vd n U' ∧ (∀ p, p ∈ U' ↔ p ∈ U ∨ p ∈ l) ∧ forGo (tt, none) TG TB (l.map pairD) (EO a0 a1 u2 n T u6 u7 u8 u9 U u11) S = .nx (EO a0 a1 u2 n T w6 u7 u8 w9 U' u11) S
  | [], U, u6, u9, V, lU, h, nd => ⟨U, u6, u9, V, fun p => by simp, rfl⟩
  | p :: l, U, u6, u9, V, lU, h, nd => by
    obtain ⟨ht, hm⟩ := h p List.mem_cons_self
    obtain ⟨i, j, rfl, hij, hj⟩ := tie_nat ht
    rw [List.length_cons] at lU
    have e := tb_ok (S := S) (T := T) (a0 := a0) (a1 := a1) (u2 := u2) (u7 := u7) (u8 := u8) (u11 := u11) V (by omega) hij hj hm
    obtain ⟨nd1, nd2⟩ := List.nodup_cons.mp nd
    have hT : ∀ q ∈ U ++ [((i : Int), (j : Int))], Tie n q := fun q hq => by
      rcases List.mem_append.mp hq with hq | hq
      · exact V.ti q hq
      · rw [List.mem_singleton.mp hq]; exact ht
    have mm : ∀ q, q ∈ sortP (U ++ [((i : Int), (j : Int))]) ↔ q ∈ U ∨ q = ((i : Int), (j : Int)) := fun q => by
      rw [mem_sortP fun q hq => (hT q hq).small V.hi, List.mem_append, List.mem_singleton]
    obtain ⟨U', w6, w9, V2, m2, e2⟩ := tb_loop l _ (.v (.d (.int j))) (.v (.d (.int i))) (Vd.of V.lo V.hi hT) (by
      have := sortP_len (l := U ++ [((i : Int), (j : Int))])
      rw [List.length_append, List.length_singleton] at this
      omega) (fun q hq => ⟨(h q (List.mem_cons_of_mem _ hq)).1, fun hq2 => by
        rcases (mm q).mp hq2 with h1 | h1
        · exact (h q (List.mem_cons_of_mem _ hq)).2 h1
        · exact nd1 (h1 ▸ hq)⟩) nd2
    refine ⟨U', w6, w9, V2, fun q => ?_, ?_⟩
    · rw [m2, mm, List.mem_cons, or_assoc]
    · rw [List.map_cons]
      exact (go_ok (env1 := EO a0 a1 u2 n T (.v (.d (.int j))) u7 u8 (.v (.d (.int i))) U u11) rfl e).trans e2
abbrev P9 : FS := kSet 10 (fVar 5)
abbrev P10 : FS := kFor IT4 TG UB
abbrev P11 : FS := kFor IT4 TG TB
theorem s9_ok (V : Vd n T) (lT : T.length ≤ 780) : ∃ w6 w9 w6' w9' U, P9 (EW a0 a1 u2 n T u6 u7 u8 u9 u10 u11) S = .nx (EO a0 a1 u2 n T u6 u7 u8 u9 T u11) S ∧ P10 (EO a0 a1 u2 n T u6 u7 u8 u9 T u11) S = .nx (EO a0 a1 u2 n T w6 u7 u8 w9 U u11) S ∧ P11 (EO a0 a1 u2 n T w6 u7 u8 w9 U u11) S = .nx (EO a0 a1 u2 n T w6' u7 u8 w9' T u11) S := by
  have nd : (T.take 4).Nodup := (pw_nd V).sublist (List.take_sublist _ _)
  obtain ⟨U, w6, w9, V1, l1, m1, e1⟩ := ub_loop (S := S) (tt := (T.take 4).map pairD) (T := T) (a0 := a0) (a1 := a1) (u2 := u2) (u7 := u7) (u8 := u8) (u11 := u11) (T.take 4) T u6 u9 V (by omega) (fun p hp => List.mem_of_mem_take hp) nd
  obtain ⟨U', w6', w9', V2, m2, e2⟩ := tb_loop (S := S) (tt := (T.take 4).map pairD) (T := T) (a0 := a0) (a1 := a1) (u2 := u2) (u7 := u7) (u8 := u8) (u11 := u11) (T.take 4) U w6 w9 V1 (by rw [List.length_take]; omega) (fun p hp => ⟨V.ti p (List.mem_of_mem_take hp), fun h => ((m1 p).mp h).2 hp⟩) nd
  have hU : U' = T := ascend_unique cd2 V2.pw V.pw fun p => by
    rw [m2, m1]
    constructor
    · rintro (h | h)
      · exact h.1
      · exact List.mem_of_mem_take h
    · intro h
      by_cases c : p ∈ T.take 4
      · exact .inr c
      · exact .inl ⟨h, c⟩
  rw [hU] at e2
  exact ⟨w6, w9, w6', w9', U, st_set (var_v rfl) rfl, (for_it it4_ok).trans e1, (for_it it4_ok).trans e2⟩
theorem own_ne (h1 : fa env S = .ok S (.val (.d (Wb n T)))) (h2 : fb env S = .ok S (.val (.d (Wb n T)))) : fEqD ["Web"] [("Web", 2, D_Web_eq)] true fa fb env S = .ok S (.val (.d (.bl false))) := by
  have e := web_eq_ok (S := S) (IsW.mk (n := n) (T := T)) (IsW.mk (n := n) (T := T))
  have e2 : eqR ["Web"] [("Web", 2, D_Web_eq)] true S (.d (Wb n T)) (.d (Wb n T)) = onlyV (pBl true) (askT [("Web", 2, D_Web_eq)] "Web" [.d (Wb n T), .d (Wb n T)] S) := eqR_oo rfl
  rw [fEqD_, h1, bindV_val, h2, bindV_val, e2, askT_, at_cons, beq_self_eq_true]
  show onlyV (pBl true) (if ([Vr.d (Wb n T), .d (Wb n T)] : List Vr).length = 2 then D_Web_eq [.d (Wb n T), .d (Wb n T)] S else .no) = _
  rw [if_pos (show ([Vr.d (Wb n T), .d (Wb n T)] : List Vr).length = 2 from rfl), e]
  rfl
abbrev P12 : FS := NE (fVar 10) (fVar 5)
theorem s12_ok : P12 (EO a0 a1 u2 n T u6 u7 u8 u9 T u11) S = .nx (EO a0 a1 u2 n T u6 u7 u8 u9 T u11) S :=
  if_no (val_s (own_ne (var_ok rfl) (var_ok rfl))) rfl
theorem ne_lst {f g : FE} {RR : List Dv} (h1 : f env S = .ok S (.new (.lst RR))) (h2 : g env S = .ok S (.new (.lst RR))) (hR : okN 60 (.lst RR) = true) : kVal (fEqD ["Web"] EQt true f g) env S = .ok S false := by
  have := gNe_refl hR
  simp_arith [h1, h2, this]
abbrev B13 : FS := NE (fMethD [("Web", 2, D_Web_neighbors)] (fVar 5) (fCons (fVar 6) fNil)) (fMethD [("Web", 2, D_Web_neighbors)] (fVar 10) (fCons (fVar 6) fNil))
abbrev P13 : FS := kFor (iRange1 (fCons (fVar 3) fNil)) (tgN 6) B13
theorem s13_ok (V : Vd n T) : ∃ w6, P13 (EO a0 a1 u2 n T u6 u7 u8 u9 T u11) S = .nx (EO a0 a1 u2 n T w6 u7 u8 u9 T u11) S := by
  have hn := V.hi
  obtain ⟨e', S', h1, w6, h2, h3⟩ := for_rg (i := 6) (n := n) (fl := fCons (fVar 3) fNil) (body := B13) (env := EO a0 a1 u2 n T u6 u7 u8 u9 T u11) (S := S) (fun k env U => ∃ w6, env = EO a0 a1 u2 n T w6 u7 u8 u9 T u11 ∧ U = S) (cons_d (var_ok rfl) nil_ok) (by omega) ⟨u6, rfl, rfl⟩ (fun k env U hk hI => by
    obtain ⟨w6, rfl, rfl⟩ := hI
    have e2 := fun p (hp : (EO a0 a1 u2 n T (.v (.d (.int k))) u7 u8 u9 T u11)[p]? = some (.v (.d (Wb n T)))) => meth (fa := fVar p) (m := 2) (S := U) (t := [("Web", 2, D_Web_neighbors)]) (D := D_Web_neighbors) (l := [.d (.int k)]) (fl := fCons (fVar 6) fNil) (var_v hp) (IsW.mk (n := n) (T := T)).cls rfl (cons_v (var_v rfl) nil_ok) rfl (nb_ok IsW.mk hk)
    have e3 := ne_lst (e2 5 rfl) (e2 10 rfl) (by
      rw [okN_lst]
      exact okNs_all fun d hd => by
        obtain ⟨j, hj, rfl⟩ := List.mem_map.mp hd
        exact okN_int)
    exact ⟨_, _, if_no e3 rfl, _, rfl, rfl⟩)
  subst h2 h3
  exact ⟨w6, h1⟩
abbrev BODY : FS := kSeq P1 (kSeq P2 (kSeq P3 (kSeq P4 (kSeq P5 (kSeq P6 (kSeq P7 (kSeq P8 (kSeq P9 (kSeq P10 (kSeq P11 (kSeq P12 P13)))))))))))
theorem body_ok {ns : List Int} {i : Nat} (hns : ns.length ≤ 63) : ∃ r' Z, List.length r' = 11 ∧ BODY (EB (.v (.d (.scr ns))) (.v (.d (.int i))) u2 u3 u4 u5 u6 u7 u8 u9 u10 u11) S = .nx (.v (.d (.scr ns)) :: r') Z := by
  obtain ⟨c0, b0, s1⟩ := s1_ok (S := S) (i := i) (u2 := u2) (u3 := u3) (u4 := u4) (u5 := u5) (u6 := u6) (u7 := u7) (u8 := u8) (u9 := u9) (u10 := u10) (u11 := u11) hns
  have es : S ++ [c0] = (S ++ [c0]).set S.length c0 := (set_last).symm
  rw [es] at s1
  have hb : S.length < (S ++ [c0]).length := by simp
  generalize hS : S ++ [c0] = S1 at s1 hb
  obtain ⟨n, c1, n1, n2, b1, s2⟩ := s2_ok (a0 := .v (.d (.scr ns))) (a1 := .v (.d (.int i))) (u3 := u3) (u4 := u4) (u5 := u5) (u6 := u6) (u7 := u7) (u8 := u8) (u9 := u9) (u10 := u10) (u11 := u11) hb b0 (by omega)
  obtain ⟨c2, T, b2, V, lT, s3⟩ := s3_ok (a0 := .v (.d (.scr ns))) (a1 := .v (.d (.int i))) (u4 := u4) (u5 := u5) (u6 := u6) (u7 := u7) (u8 := u8) (u9 := u9) (u10 := u10) (u11 := u11) hb b1 (by omega) n1 n2
  have s4 := s4_ok (S := S1.set S.length c2) (a0 := .v (.d (.scr ns))) (a1 := .v (.d (.int i))) (u2 := .v (.r S.length)) (u5 := u5) (u6 := u6) (u7 := u7) (u8 := u8) (u9 := u9) (u10 := u10) (u11 := u11) V lT
  obtain ⟨w6, X, s5⟩ := s5_ok (S := S1.set S.length c2) (a0 := .v (.d (.scr ns))) (a1 := .v (.d (.int i))) (u2 := .v (.r S.length)) (u6 := u6) (u7 := u7) (u8 := u8) (u9 := u9) (u10 := u10) (u11 := u11) V lT
  have eX : S1.set S.length c2 ++ X = (S1 ++ X).set S.length c2 := by rw [List.set_append_left _ _ hb]
  rw [eX] at s5
  have s6 := s6_ok (S := (S1 ++ X).set S.length c2) (T := T) (a0 := .v (.d (.scr ns))) (a1 := .v (.d (.int i))) (u2 := .v (.r S.length)) (u6 := w6) (u7 := u7) (u8 := u8) (u9 := u9) (u10 := u10) (u11 := u11) n2
  obtain ⟨c3, w8, w9, w10, w11, s7⟩ := s7_ok (S := S1 ++ X) (q := S.length) (a0 := .v (.d (.scr ns))) (a1 := .v (.d (.int i))) (u6 := w6) (u8 := u8) (u9 := u9) (u10 := u10) (u11 := u11) (by simp; omega) b2 (by omega) V lT
  have s8 := s8_ok (S := (S1 ++ X).set S.length c3) (n := n) (T := T) (a0 := .v (.d (.scr ns))) (a1 := .v (.d (.int i))) (u2 := .v (.r S.length)) (u6 := w6) (u7 := .v (.d (.lst (OD n)))) (u8 := w8) (u9 := w9) (u10 := w10) (u11 := w11)
  obtain ⟨v6, v9, x6, x9, U, s9, s10, s11⟩ := s9_ok (S := (S1 ++ X).set S.length c3) (a0 := .v (.d (.scr ns))) (a1 := .v (.d (.int i))) (u2 := .v (.r S.length)) (u6 := w6) (u7 := .v (.d (.lst (OD n)))) (u8 := w8) (u9 := w9) (u10 := w10) (u11 := w11) V lT
  have s12 := s12_ok (S := (S1 ++ X).set S.length c3) (n := n) (T := T) (a0 := .v (.d (.scr ns))) (a1 := .v (.d (.int i))) (u2 := .v (.r S.length)) (u6 := x6) (u7 := .v (.d (.lst (OD n)))) (u8 := w8) (u9 := x9) (u11 := w11)
  obtain ⟨y6, s13⟩ := s13_ok (S := (S1 ++ X).set S.length c3) (a0 := .v (.d (.scr ns))) (a1 := .v (.d (.int i))) (u2 := .v (.r S.length)) (u6 := x6) (u7 := .v (.d (.lst (OD n)))) (u8 := w8) (u9 := x9) (u11 := w11) V
  exact ⟨_, _, rfl, seq_nx s1 (seq_nx s2 (seq_nx s3 (seq_nx s4 (seq_nx s5 (seq_nx s6 (seq_nx s7 (seq_nx s8 (seq_nx s9 (seq_nx s10 (seq_nx s11 (seq_nx s12 s13)))))))))))⟩
end
end Q05
namespace Q05
open DN PySem L2
theorem law_true (ns : List Int) (hn : ns.length ≤ 63) : ∃ S, D_law [.d (.scr ns)] [] = .ok S (.val (.d (.bl true))) := by
  have hm : ∃ m : Nat, m ≤ 8 ∧ fCons (fCall gMax (fCons (fC (.int 2)) (fCons (fCall gMin (fCons (fC (.int 8)) (fCons (fLenD [("Web", 1, D_Web_len)] (fCons (fVar 0) fNil)) fNil))) fNil))) fNil [.v (.d (.scr ns)), .u, .u, .u, .u, .u, .u, .u, .u, .u, .u, .u] [] = .ok [] [.d (.int m)] := by
    refine ⟨max 2 (min 8 ns.length), by omega, ?_⟩
    simp_arith [gLen_scr, gMin2_, gMin2, gMax2_, gMax2]
    congr 4
    split <;> split <;> omega
  obtain ⟨m, hm6, em⟩ := hm
  obtain ⟨env', S', e, r', hr', rfl⟩ := for_rg (i := 1) (n := m) (body := BODY) (S := []) (fun _ env S => ∃ r', r'.length = 11 ∧ env = .v (.d (.scr ns)) :: r') em (by omega) ⟨_, rfl, rfl⟩ (fun t env S ht hI => by
    obtain ⟨r', hr', rfl⟩ := hI
    match r', hr' with
    | [v1, v2, v3, v4, v5, v6, v7, v8, v9, v10, v11], _ =>
      obtain ⟨r2, S2, hr2, e2⟩ := body_ok (S := S) (i := t) (u2 := v2) (u3 := v3) (u4 := v4) (u5 := v5) (u6 := v6) (u7 := v7) (u8 := v8) (u9 := v9) (u10 := v10) (u11 := v11) hn
      exact ⟨_, S2, e2, r2, hr2, rfl⟩)
  refine ⟨[], ?_⟩
  unfold D_law defD
  show exitR 0 (outS (kSeq _ _ _ _)) = _
  have e' := e
  have fin : kRet (fC (.bl true)) (.v (.d (.scr ns)) :: r') S' = .rt S' (.val (.d (.bl true))) := ret_ok c_ok
  rw [show startE 12 [Vr.d (.scr ns)] = [.v (.d (.scr ns)), .u, .u, .u, .u, .u, .u, .u, .u, .u, .u, .u] from rfl, seq_nx e' fin]
  rfl
end Q05
namespace Q05
open PySem PySem.Spec PyProof.Rows L2 OP Evl DN
theorem all_mk {w : World} {K : PySem.W.Frag} {h : Heap} {mg : Str → Option Value} {fa : Addr} (X : K.In h) (G : h.Ns mainGlobals mg) (hfa : mg "law" = some (.ref fa))
    {C_Web : Addr}
    {f1 : Addr} {od1 an1 : Option Addr} {sl1 : Array (Option Value)} {oc1 kV1 dc1 pm1 cd1 ct1 : Value}
    {f2 : Addr} {od2 an2 : Option Addr} {sl2 : Array (Option Value)} {oc2 kV2 dc2 pm2 cd2 ct2 : Value}
    {f3 : Addr} {od3 an3 : Option Addr} {sl3 : Array (Option Value)} {oc3 kV3 dc3 pm3 cd3 ct3 : Value}
    {f4 : Addr} {od4 an4 : Option Addr} {sl4 : Array (Option Value)} {oc4 kV4 dc4 pm4 cd4 ct4 : Value}
    {f5 : Addr} {od5 an5 : Option Addr} {sl5 : Array (Option Value)} {oc5 kV5 dc5 pm5 cd5 ct5 : Value}
    {f6 : Addr} {od6 an6 : Option Addr} {sl6 : Array (Option Value)} {oc6 kV6 dc6 pm6 cd6 ct6 : Value}
    {f7 : Addr} {od7 an7 : Option Addr} {sl7 : Array (Option Value)} {oc7 kV7 dc7 pm7 cd7 ct7 : Value}
    {f8 : Addr} {od8 an8 : Option Addr} {sl8 : Array (Option Value)} {oc8 kV8 dc8 pm8 cd8 ct8 : Value}
    {dT8 de8 : Addr} {dc1_8 : Value} {dd1_8 : Option Addr} {dn1_8 dn2_8 : Nat} {ds1_8 ds2_8 : Array (Option Value)}
    {f9 : Addr} {od9 an9 : Option Addr} {sl9 : Array (Option Value)} {oc9 kV9 dc9 pm9 cd9 ct9 : Value}
    {en9 eq9 : Str} {eN9 : Addr} {eb9 es9 : List Value} {eh9 ea9 : Bool} {esn9 : List Str} {ec9 : Option Bool} {ed9 : Option Addr} {e09 e19 e29 e39 e59 : Option Value} {ei9 : String}
    {f10 : Addr} {od10 an10 : Option Addr} {sl10 : Array (Option Value)} {oc10 kV10 dc10 pm10 cd10 ct10 : Value}
    {f11 : Addr} {od11 an11 : Option Addr} {sl11 : Array (Option Value)} {oc11 kV11 dc11 pm11 cd11 ct11 : Value}
    {f12 : Addr} {od12 an12 : Option Addr} {sl12 : Array (Option Value)} {oc12 kV12 dc12 pm12 cd12 ct12 : Value}
    {f13 : Addr} {od13 an13 : Option Addr} {sl13 : Array (Option Value)} {oc13 kV13 dc13 pm13 cd13 ct13 : Value}
    {f14 : Addr} {od14 an14 : Option Addr} {sl14 : Array (Option Value)} {oc14 kV14 dc14 pm14 cd14 ct14 : Value}
    {f15 : Addr} {od15 an15 : Option Addr} {sl15 : Array (Option Value)} {oc15 kV15 dc15 pm15 cd15 ct15 : Value}
    {f16 : Addr} {od16 an16 : Option Addr} {sl16 : Array (Option Value)} {oc16 kV16 dc16 pm16 cd16 ct16 : Value}
    {f17 : Addr} {od17 an17 : Option Addr} {sl17 : Array (Option Value)} {oc17 kV17 dc17 pm17 cd17 ct17 : Value}
    {f18 : Addr} {od18 an18 : Option Addr} {sl18 : Array (Option Value)} {oc18 kV18 dc18 pm18 cd18 ct18 : Value}
    {f19 : Addr} {od19 an19 : Option Addr} {sl19 : Array (Option Value)} {oc19 kV19 dc19 pm19 cd19 ct19 : Value}
    {f20 : Addr} {od20 an20 : Option Addr} {sl20 : Array (Option Value)} {oc20 kV20 dc20 pm20 cd20 ct20 : Value}
    {t0 : Tok} {D0 fI cc cda : Addr} {cl0 ccl0 ocI kVI dcI pmI ctI : Value} {cld0 cdd0 odI anI : Option Addr} {csl0 ccs0 slI : Array (Option Value)} {cvs0 : Array Value} {file0 : Str} {tf0 : Tok} {cdD0 : ClassData}
    {C_x0 N_x0 : Addr} {nm_x0 q_x0 : Str} {bs_x0 bm_x0 sub_x0 : List Value} {sn_x0 : List Str} {ab_x0 : Bool} {col_x0 : Option Bool} {dd_x0 : Option Addr} {k0_x0 k1_x0 k2_x0 k3_x0 k5_x0 : Option Value}
    {C_x1 N_x1 : Addr} {nm_x1 q_x1 : Str} {bs_x1 bm_x1 sub_x1 : List Value} {sn_x1 : List Str} {ab_x1 : Bool} {col_x1 : Option Bool} {dd_x1 : Option Addr} {k0_x1 k1_x1 k2_x1 k3_x1 k5_x1 : Option Value}
    {C_x2 N_x2 : Addr} {nm_x2 q_x2 : Str} {bs_x2 bm_x2 sub_x2 : List Value} {sn_x2 : List Str} {ab_x2 : Bool} {col_x2 : Option Bool} {dd_x2 : Option Addr} {k0_x2 k1_x2 k2_x2 k3_x2 k5_x2 : Option Value}
    {C_x3 N_x3 : Addr} {nm_x3 q_x3 : Str} {bs_x3 bm_x3 sub_x3 : List Value} {sn_x3 : List Str} {ab_x3 : Bool} {col_x3 : Option Bool} {dd_x3 : Option Addr} {k0_x3 k1_x3 k2_x3 k3_x3 k5_x3 : Option Value}
    (cg_Web : PySem.W.nsIn K mainGlobals "Web" = some (some (.ref C_Web)))
    (c1_Web : PySem.W.plainGet K C_Web Str.empty = true)
    (c2_Web : PySem.W.hasDictIn K C_Web = true)
    (c3_Web : PySem.W.plainOver K C_Web = true)
    (c4_Web : PySem.W.findIn K (.ref C_Web) "__setattr__" = some (some (.builtin "object.__setattr__")))
    (i1_Web : PySem.W.findIn K (.ref C_Web) "__class__" = some (some (.builtin "object.__class__")))
    (i2_Web : PySem.W.specialIn K (.builtin "object.__class__") "__get__" = some (some (.builtin "getset_descriptor.__get__")))
    (i3_Web : PySem.W.takesIn K (.builtin "object.__class__") = some true)
    (i4_Web : PySem.W.mroIn K C_Web (.type "object") = some true)
    (kk_Web : PySem.W.kitOne K (.ref C_Web) (.ref C_Web) = some true)
    (na_Web_houses : PySem.W.findIn K (.ref C_Web) "houses" = some none)
    (na_Web_ties : PySem.W.findIn K (.ref C_Web) "ties" = some none)
    (na_Web_known : PySem.W.findIn K (.ref C_Web) "known" = some none)
    (na_Web_beside : PySem.W.findIn K (.ref C_Web) "beside" = some none)
    (a1 : PySem.W.nsIn K mainGlobals "is_integer" = some (some (.ref f1)))
    (l1 : K.lookup f1 = some ⟨oc1, od1, .func (PySem.W.fnOf "is_integer" "is_integer" (defArgs s_is_integer) (defBody s_is_integer) (defScope s_is_integer) .none kV1 dc1 pm1 an1 cd1 ct1), sl1⟩)
    (c1 : PySem.W.codeIn K cd1 "is_integer" = true)
    (k1 : PySem.W.keepIn K (.ref f1) = true)
    (a2 : PySem.W.nsIn K mainGlobals "check_number" = some (some (.ref f2)))
    (l2 : K.lookup f2 = some ⟨oc2, od2, .func (PySem.W.fnOf "check_number" "check_number" (defArgs s_check_number) (defBody s_check_number) (defScope s_check_number) .none kV2 dc2 pm2 an2 cd2 ct2), sl2⟩)
    (c2 : PySem.W.codeIn K cd2 "check_number" = true)
    (k2 : PySem.W.keepIn K (.ref f2) = true)
    (a3 : PySem.W.findIn K (.ref C_Web) "__len__" = some (some (.ref f3)))
    (fn3 : PySem.W.isFn K (.ref f3) = true)
    (fi3 : PySem.W.fnIn K f3 = true)
    (l3 : K.lookup f3 = some ⟨oc3, od3, .func (PySem.W.fnOf "__len__" "Web.__len__" (defArgs s_Web_len) (defBody s_Web_len) (defScope s_Web_len) .none kV3 dc3 pm3 an3 cd3 ct3), sl3⟩)
    (c3 : PySem.W.codeIn K cd3 "Web.__len__" = true)
    (k3 : PySem.W.keepIn K (.ref f3) = true)
    (a4 : PySem.W.nsIn K mainGlobals "is_house" = some (some (.ref f4)))
    (l4 : K.lookup f4 = some ⟨oc4, od4, .func (PySem.W.fnOf "is_house" "is_house" (defArgs s_is_house) (defBody s_is_house) (defScope s_is_house) .none kV4 dc4 pm4 an4 cd4 ct4), sl4⟩)
    (c4 : PySem.W.codeIn K cd4 "is_house" = true)
    (k4 : PySem.W.keepIn K (.ref f4) = true)
    (a5 : PySem.W.nsIn K mainGlobals "is_tie" = some (some (.ref f5)))
    (l5 : K.lookup f5 = some ⟨oc5, od5, .func (PySem.W.fnOf "is_tie" "is_tie" (defArgs s_is_tie) (defBody s_is_tie) (defScope s_is_tie) .none kV5 dc5 pm5 an5 cd5 ct5), sl5⟩)
    (c5 : PySem.W.codeIn K cd5 "is_tie" = true)
    (k5 : PySem.W.keepIn K (.ref f5) = true)
    (a6 : PySem.W.nsIn K mainGlobals "tie_of" = some (some (.ref f6)))
    (l6 : K.lookup f6 = some ⟨oc6, od6, .func (PySem.W.fnOf "tie_of" "tie_of" (defArgs s_tie_of) (defBody s_tie_of) (defScope s_tie_of) .none kV6 dc6 pm6 an6 cd6 ct6), sl6⟩)
    (c6 : PySem.W.codeIn K cd6 "tie_of" = true)
    (k6 : PySem.W.keepIn K (.ref f6) = true)
    (a7 : PySem.W.nsIn K mainGlobals "beside_of" = some (some (.ref f7)))
    (l7 : K.lookup f7 = some ⟨oc7, od7, .func (PySem.W.fnOf "beside_of" "beside_of" (defArgs s_beside_of) (defBody s_beside_of) (defScope s_beside_of) .none kV7 dc7 pm7 an7 cd7 ct7), sl7⟩)
    (c7 : PySem.W.codeIn K cd7 "beside_of" = true)
    (k7 : PySem.W.keepIn K (.ref f7) = true)
    (a8 : PySem.W.findIn K (.ref C_Web) "__init__" = some (some (.ref f8)))
    (fn8 : PySem.W.isFn K (.ref f8) = true)
    (mm8 : PySem.W.makesIn K C_Web = true)
    (mk8 : PySem.W.keepIn K (.ref C_Web) = true)
    (l8 : K.lookup f8 = some ⟨oc8, od8, .func (PySem.W.fnOf "__init__" "Web.__init__" (defArgs s_Web_init) (defBody s_Web_init) (defScope s_Web_init) (.ref dT8) kV8 dc8 pm8 an8 cd8 ct8), sl8⟩)
    (dl8 : K.lookup dT8 = some ⟨dc1_8, dd1_8, .seq #[.ref de8] dn1_8, ds1_8⟩)
    (dm8 : K.lookup de8 = some ⟨.type "tuple", none, .seq #[] dn2_8, ds2_8⟩)
    (c8 : PySem.W.codeIn K cd8 "Web.__init__" = true)
    (k8 : PySem.W.keepIn K (.ref f8) = true)
    (a9 : PySem.W.findIn K (.ref C_Web) "__eq__" = some (some (.ref f9)))
    (fn9 : PySem.W.isFn K (.ref f9) = true)
    (oa9 : K.lookup C_Web = some (excClassObj en9 eq9 C_Web eN9 eb9 [.type "object"] eh9 esn9 es9 ea9 ec9 ed9 e09 e19 e29 e39 e59 ei9))
    (ob9 : PySem.W.nsOkIn K eN9 = true)
    (oc9_ : PySem.W.nsIn K eN9 "__eq__" = some (some (.ref f9)))
    (od9_ : PySem.W.nsIn K eN9 "__ne__" = some none)
    (l9 : K.lookup f9 = some ⟨oc9, od9, .func (PySem.W.fnOf "__eq__" "Web.__eq__" (defArgs s_Web_eq) (defBody s_Web_eq) (defScope s_Web_eq) .none kV9 dc9 pm9 an9 cd9 ct9), sl9⟩)
    (oo9 : oc9 = .type "function")
    (c9 : PySem.W.codeIn K cd9 "Web.__eq__" = true)
    (k9 : PySem.W.keepIn K (.ref f9) = true)
    (a10 : PySem.W.nsIn K mainGlobals "_law_box" = some (some (.ref f10)))
    (l10 : K.lookup f10 = some ⟨oc10, od10, .func (PySem.W.fnOf "_law_box" "_law_box" (defArgs s_law_box) (defBody s_law_box) (defScope s_law_box) .none kV10 dc10 pm10 an10 cd10 ct10), sl10⟩)
    (c10 : PySem.W.codeIn K cd10 "_law_box" = true)
    (k10 : PySem.W.keepIn K (.ref f10) = true)
    (a11 : PySem.W.nsIn K mainGlobals "_law_take" = some (some (.ref f11)))
    (l11 : K.lookup f11 = some ⟨oc11, od11, .func (PySem.W.fnOf "_law_take" "_law_take" (defArgs s_law_take) (defBody s_law_take) (defScope s_law_take) .none kV11 dc11 pm11 an11 cd11 ct11), sl11⟩)
    (c11 : PySem.W.codeIn K cd11 "_law_take" = true)
    (k11 : PySem.W.keepIn K (.ref f11) = true)
    (a12 : PySem.W.nsIn K mainGlobals "_law_ties" = some (some (.ref f12)))
    (l12 : K.lookup f12 = some ⟨oc12, od12, .func (PySem.W.fnOf "_law_ties" "_law_ties" (defArgs s_law_ties) (defBody s_law_ties) (defScope s_law_ties) .none kV12 dc12 pm12 an12 cd12 ct12), sl12⟩)
    (c12 : PySem.W.codeIn K cd12 "_law_ties" = true)
    (k12 : PySem.W.keepIn K (.ref f12) = true)
    (a13 : PySem.W.nsIn K mainGlobals "_law_cell_at" = some (some (.ref f13)))
    (l13 : K.lookup f13 = some ⟨oc13, od13, .func (PySem.W.fnOf "_law_cell_at" "_law_cell_at" (defArgs s_law_cell_at) (defBody s_law_cell_at) (defScope s_law_cell_at) .none kV13 dc13 pm13 an13 cd13 ct13), sl13⟩)
    (c13 : PySem.W.codeIn K cd13 "_law_cell_at" = true)
    (k13 : PySem.W.keepIn K (.ref f13) = true)
    (a14 : PySem.W.findIn K (.ref C_Web) "check_house" = some (some (.ref f14)))
    (fn14 : PySem.W.isFn K (.ref f14) = true)
    (l14 : K.lookup f14 = some ⟨oc14, od14, .func (PySem.W.fnOf "check_house" "Web.check_house" (defArgs s_Web_check_house) (defBody s_Web_check_house) (defScope s_Web_check_house) .none kV14 dc14 pm14 an14 cd14 ct14), sl14⟩)
    (c14 : PySem.W.codeIn K cd14 "Web.check_house" = true)
    (k14 : PySem.W.keepIn K (.ref f14) = true)
    (a15 : PySem.W.findIn K (.ref C_Web) "untied" = some (some (.ref f15)))
    (fn15 : PySem.W.isFn K (.ref f15) = true)
    (l15 : K.lookup f15 = some ⟨oc15, od15, .func (PySem.W.fnOf "untied" "Web.untied" (defArgs s_Web_untied) (defBody s_Web_untied) (defScope s_Web_untied) .none kV15 dc15 pm15 an15 cd15 ct15), sl15⟩)
    (c15 : PySem.W.codeIn K cd15 "Web.untied" = true)
    (k15 : PySem.W.keepIn K (.ref f15) = true)
    (a16 : PySem.W.findIn K (.ref C_Web) "tied" = some (some (.ref f16)))
    (fn16 : PySem.W.isFn K (.ref f16) = true)
    (l16 : K.lookup f16 = some ⟨oc16, od16, .func (PySem.W.fnOf "tied" "Web.tied" (defArgs s_Web_tied) (defBody s_Web_tied) (defScope s_Web_tied) .none kV16 dc16 pm16 an16 cd16 ct16), sl16⟩)
    (c16 : PySem.W.codeIn K cd16 "Web.tied" = true)
    (k16 : PySem.W.keepIn K (.ref f16) = true)
    (a17 : PySem.W.findIn K (.ref C_Web) "neighbors" = some (some (.ref f17)))
    (fn17 : PySem.W.isFn K (.ref f17) = true)
    (l17 : K.lookup f17 = some ⟨oc17, od17, .func (PySem.W.fnOf "neighbors" "Web.neighbors" (defArgs s_Web_neighbors) (defBody s_Web_neighbors) (defScope s_Web_neighbors) .none kV17 dc17 pm17 an17 cd17 ct17), sl17⟩)
    (c17 : PySem.W.codeIn K cd17 "Web.neighbors" = true)
    (k17 : PySem.W.keepIn K (.ref f17) = true)
    (a18 : PySem.W.nsIn K mainGlobals "_law_caught" = some (some (.ref f18)))
    (l18 : K.lookup f18 = some ⟨oc18, od18, .func (PySem.W.fnOf "_law_caught" "_law_caught" (defArgs s_law_caught) (defBody s_law_caught) (defScope s_law_caught) .none kV18 dc18 pm18 an18 cd18 ct18), sl18⟩)
    (c18 : PySem.W.codeIn K cd18 "_law_caught" = true)
    (k18 : PySem.W.keepIn K (.ref f18) = true)
    (a19 : PySem.W.nsIn K mainGlobals "_law_due" = some (some (.ref f19)))
    (l19 : K.lookup f19 = some ⟨oc19, od19, .func (PySem.W.fnOf "_law_due" "_law_due" (defArgs s_law_due) (defBody s_law_due) (defScope s_law_due) .none kV19 dc19 pm19 an19 cd19 ct19), sl19⟩)
    (c19 : PySem.W.codeIn K cd19 "_law_due" = true)
    (k19 : PySem.W.keepIn K (.ref f19) = true)
    (a20 : PySem.W.nsIn K mainGlobals "law" = some (some (.ref f20)))
    (l20 : K.lookup f20 = some ⟨oc20, od20, .func (PySem.W.fnOf "law" "law" (defArgs s_law) (defBody s_law) (defScope s_law) .none kV20 dc20 pm20 an20 cd20 ct20), sl20⟩)
    (c20 : PySem.W.codeIn K cd20 "law" = true)
    (k20 : PySem.W.keepIn K (.ref f20) = true)
    (z0 : PySem.W.nsIn K mainGlobals "isinstance" = some none)
    (z1 : PySem.W.nsIn K mainGlobals "int" = some none)
    (z2 : PySem.W.nsIn K mainGlobals "bool" = some none)
    (z3 : PySem.W.nsIn K mainGlobals "len" = some none)
    (z4 : PySem.W.nsIn K mainGlobals "tuple" = some none)
    (z5 : PySem.W.nsIn K mainGlobals "min" = some none)
    (z6 : PySem.W.nsIn K mainGlobals "max" = some none)
    (z7 : PySem.W.nsIn K mainGlobals "range" = some none)
    (z8 : PySem.W.nsIn K mainGlobals "sorted" = some none)
    (z9 : PySem.W.nsIn K mainGlobals "all" = some none)
    (z10 : PySem.W.nsIn K mainGlobals "set" = some none)
    (z11 : PySem.W.nsIn K mainGlobals "list" = some none)
    (z12 : PySem.W.nsIn K mainGlobals "repr" = some none)
    (cst0 : PySem.W.nsIn K mainGlobals "MOST_HOUSES" = some (some (.int 40 t0)))
    (kc_Web : PySem.W.kitOne K (.type "int") (.ref C_Web) = some false)
    (kb_Web_bool : PySem.W.kitOne K (.ref C_Web) (.type "bool") = some false)
    (kb_Web_int : PySem.W.kitOne K (.ref C_Web) (.type "int") = some false)
    (kb_Web_str : PySem.W.kitOne K (.ref C_Web) (.type "str") = some false)
    (kb_Web_list : PySem.W.kitOne K (.ref C_Web) (.type "list") = some false)
    (kb_Web_tuple : PySem.W.kitOne K (.ref C_Web) (.type "tuple") = some false)
    (kb_Web_dict : PySem.W.kitOne K (.ref C_Web) (.type "dict") = some false)
    (sm0 : (K.lookup sysModules).isSome = true)
    (D0a : PySem.W.nsIn K mainGlobals "OpenpostsError" = some (some (.ref D0)))
    (D0b : PySem.W.findIn K (.ref D0) "__init__" = some (some (.ref fI)))
    (D0l : K.lookup fI = some ⟨ocI, odI, .func (PySem.W.ksFn "__init__" "OpenpostsError.__init__" (defArgs s_init) (defBody s_init) (defScope s_init) .none kVI dcI pmI anI (.ref cda) ctI cc), slI⟩)
    (D0c : PySem.W.codeIn K (.ref cda) "OpenpostsError.__init__" = true)
    (D0t : PySem.W.typeIn K (.ref fI) = some (.type "function"))
    (D0e : K.lookup cc = some ⟨cl0, cld0, .cell (some (.ref D0)), csl0⟩)
    (D0f : K.lookup cda = some ⟨ccl0, cdd0, .fields cvs0, ccs0⟩)
    (D0g : cvs0[2]? = some (.str file0 tf0))
    (D0h : ((PP.main.file : Str) == file0) = true)
    (D0i : PySem.W.clsIn K D0 = some cdD0)
    (D0o : PySem.W.nsIn K cStatics "thirdparty.any" = some none)
    (D0s : PySem.W.nsIn K mainGlobals "super" = some none)
    (x0a : PySem.W.nsIn K mainGlobals "InvalidNumber" = some (some (.ref C_x0)))
    (x0b : K.lookup C_x0 = some (excClassObj nm_x0 q_x0 C_x0 N_x0 bs_x0 bm_x0 true sn_x0 sub_x0 ab_x0 col_x0 dd_x0 k0_x0 k1_x0 k2_x0 k3_x0 k5_x0 "ValueError.__new__"))
    (x0c : PySem.HandSPX.refsVE bm_x0 = true)
    (x0d : PySem.W.findIn K (.ref C_x0) "__setattr__" = some (some (.builtin "object.__setattr__")))
    (x0e : PySem.W.subIn K (.ref C_x0) (.type "BaseException") = some true)
    (x0f : PySem.W.typeIn K (.ref C_x0) = some (.type "type"))
    (x0g : PySem.W.keepIn K (.ref C_x0) = true)
    (x0h : PySem.W.mroIn K C_x0 (.ref D0) = some true)
    (x0i : PySem.W.ks_superIn K C_x0 D0 "__init__" = some (some (.builtin "ValueError.__init__")))
    (x0j : PySem.W.subIn K (.ref C_x0) (.type "ValueError") = some true)
    (x0k : PySem.W.findIn K (.ref C_x0) "value" = some none)
    (x0l : PySem.W.findIn K (.ref C_x0) "__getattribute__" = some (some (.builtin "BaseException.__getattribute__")))
    (x0m : PySem.W.findIn K (.ref C_x0) "__getattr__" = some none)
    (x0n : PySem.W.hasDictIn K C_x0 = true)
    (x0o : PySem.W.findIn K (.ref C_x0) "__class__" = some (some (.builtin "object.__class__")))
    (x0p : PySem.W.specialIn K (.builtin "object.__class__") "__get__" = some (some (.builtin "getset_descriptor.__get__")))
    (x0q : PySem.W.takesIn K (.builtin "object.__class__") = some true)
    (x0r : PySem.W.mroIn K C_x0 (.type "object") = some true)
    (x0s : PySem.W.findIn K (.ref C_x0) "__init__" = some (some (.ref fI)))
    (x1a : PySem.W.nsIn K mainGlobals "InvalidTies" = some (some (.ref C_x1)))
    (x1b : K.lookup C_x1 = some (excClassObj nm_x1 q_x1 C_x1 N_x1 bs_x1 bm_x1 true sn_x1 sub_x1 ab_x1 col_x1 dd_x1 k0_x1 k1_x1 k2_x1 k3_x1 k5_x1 "ValueError.__new__"))
    (x1c : PySem.HandSPX.refsVE bm_x1 = true)
    (x1d : PySem.W.findIn K (.ref C_x1) "__setattr__" = some (some (.builtin "object.__setattr__")))
    (x1e : PySem.W.subIn K (.ref C_x1) (.type "BaseException") = some true)
    (x1f : PySem.W.typeIn K (.ref C_x1) = some (.type "type"))
    (x1g : PySem.W.keepIn K (.ref C_x1) = true)
    (x1h : PySem.W.mroIn K C_x1 (.ref D0) = some true)
    (x1i : PySem.W.ks_superIn K C_x1 D0 "__init__" = some (some (.builtin "ValueError.__init__")))
    (x1j : PySem.W.subIn K (.ref C_x1) (.type "ValueError") = some true)
    (x1k : PySem.W.findIn K (.ref C_x1) "value" = some none)
    (x1l : PySem.W.findIn K (.ref C_x1) "__getattribute__" = some (some (.builtin "BaseException.__getattribute__")))
    (x1m : PySem.W.findIn K (.ref C_x1) "__getattr__" = some none)
    (x1n : PySem.W.hasDictIn K C_x1 = true)
    (x1o : PySem.W.findIn K (.ref C_x1) "__class__" = some (some (.builtin "object.__class__")))
    (x1p : PySem.W.specialIn K (.builtin "object.__class__") "__get__" = some (some (.builtin "getset_descriptor.__get__")))
    (x1q : PySem.W.takesIn K (.builtin "object.__class__") = some true)
    (x1r : PySem.W.mroIn K C_x1 (.type "object") = some true)
    (x1s : PySem.W.findIn K (.ref C_x1) "__init__" = some (some (.ref fI)))
    (x2a : PySem.W.nsIn K mainGlobals "InvalidHouse" = some (some (.ref C_x2)))
    (x2b : K.lookup C_x2 = some (excClassObj nm_x2 q_x2 C_x2 N_x2 bs_x2 bm_x2 true sn_x2 sub_x2 ab_x2 col_x2 dd_x2 k0_x2 k1_x2 k2_x2 k3_x2 k5_x2 "ValueError.__new__"))
    (x2c : PySem.HandSPX.refsVE bm_x2 = true)
    (x2d : PySem.W.findIn K (.ref C_x2) "__setattr__" = some (some (.builtin "object.__setattr__")))
    (x2e : PySem.W.subIn K (.ref C_x2) (.type "BaseException") = some true)
    (x2f : PySem.W.typeIn K (.ref C_x2) = some (.type "type"))
    (x2g : PySem.W.keepIn K (.ref C_x2) = true)
    (x2h : PySem.W.mroIn K C_x2 (.ref D0) = some true)
    (x2i : PySem.W.ks_superIn K C_x2 D0 "__init__" = some (some (.builtin "ValueError.__init__")))
    (x2j : PySem.W.subIn K (.ref C_x2) (.type "ValueError") = some true)
    (x2k : PySem.W.findIn K (.ref C_x2) "value" = some none)
    (x2l : PySem.W.findIn K (.ref C_x2) "__getattribute__" = some (some (.builtin "BaseException.__getattribute__")))
    (x2m : PySem.W.findIn K (.ref C_x2) "__getattr__" = some none)
    (x2n : PySem.W.hasDictIn K C_x2 = true)
    (x2o : PySem.W.findIn K (.ref C_x2) "__class__" = some (some (.builtin "object.__class__")))
    (x2p : PySem.W.specialIn K (.builtin "object.__class__") "__get__" = some (some (.builtin "getset_descriptor.__get__")))
    (x2q : PySem.W.takesIn K (.builtin "object.__class__") = some true)
    (x2r : PySem.W.mroIn K C_x2 (.type "object") = some true)
    (x2s : PySem.W.findIn K (.ref C_x2) "__init__" = some (some (.ref fI)))
    (x3a : PySem.W.nsIn K mainGlobals "InvalidTie" = some (some (.ref C_x3)))
    (x3b : K.lookup C_x3 = some (excClassObj nm_x3 q_x3 C_x3 N_x3 bs_x3 bm_x3 true sn_x3 sub_x3 ab_x3 col_x3 dd_x3 k0_x3 k1_x3 k2_x3 k3_x3 k5_x3 "ValueError.__new__"))
    (x3c : PySem.HandSPX.refsVE bm_x3 = true)
    (x3d : PySem.W.findIn K (.ref C_x3) "__setattr__" = some (some (.builtin "object.__setattr__")))
    (x3e : PySem.W.subIn K (.ref C_x3) (.type "BaseException") = some true)
    (x3f : PySem.W.typeIn K (.ref C_x3) = some (.type "type"))
    (x3g : PySem.W.keepIn K (.ref C_x3) = true)
    (x3h : PySem.W.mroIn K C_x3 (.ref D0) = some true)
    (x3i : PySem.W.ks_superIn K C_x3 D0 "__init__" = some (some (.builtin "ValueError.__init__")))
    (x3j : PySem.W.subIn K (.ref C_x3) (.type "ValueError") = some true)
    (x3k : PySem.W.findIn K (.ref C_x3) "value" = some none)
    (x3l : PySem.W.findIn K (.ref C_x3) "__getattribute__" = some (some (.builtin "BaseException.__getattribute__")))
    (x3m : PySem.W.findIn K (.ref C_x3) "__getattr__" = some none)
    (x3n : PySem.W.hasDictIn K C_x3 = true)
    (x3o : PySem.W.findIn K (.ref C_x3) "__class__" = some (some (.builtin "object.__class__")))
    (x3p : PySem.W.specialIn K (.builtin "object.__class__") "__get__" = some (some (.builtin "getset_descriptor.__get__")))
    (x3q : PySem.W.takesIn K (.builtin "object.__class__") = some true)
    (x3r : PySem.W.mroIn K C_x3 (.type "object") = some true)
    (x3s : PySem.W.findIn K (.ref C_x3) "__init__" = some (some (.ref fI)))
    (xm_InvalidNumber_InvalidHouse : PySem.W.exmOne K (.ref C_x0) (.ref C_x2) = some false)
    (xm_InvalidNumber_InvalidTie : PySem.W.exmOne K (.ref C_x0) (.ref C_x3) = some false)
    (xm_InvalidNumber_OpenpostsError : PySem.W.exmOne K (.ref C_x0) (.ref D0) = some true)
    (xm_InvalidTies_InvalidHouse : PySem.W.exmOne K (.ref C_x1) (.ref C_x2) = some false)
    (xm_InvalidTies_InvalidTie : PySem.W.exmOne K (.ref C_x1) (.ref C_x3) = some false)
    (xm_InvalidTies_OpenpostsError : PySem.W.exmOne K (.ref C_x1) (.ref D0) = some true)
    (xm_InvalidHouse_InvalidHouse : PySem.W.exmOne K (.ref C_x2) (.ref C_x2) = some true)
    (xm_InvalidHouse_InvalidTie : PySem.W.exmOne K (.ref C_x2) (.ref C_x3) = some false)
    (xm_InvalidHouse_OpenpostsError : PySem.W.exmOne K (.ref C_x2) (.ref D0) = some true)
    (xm_InvalidTie_InvalidHouse : PySem.W.exmOne K (.ref C_x3) (.ref C_x2) = some false)
    (xm_InvalidTie_InvalidTie : PySem.W.exmOne K (.ref C_x3) (.ref C_x3) = some true)
    (xm_InvalidTie_OpenpostsError : PySem.W.exmOne K (.ref C_x3) (.ref D0) = some true)  :
    ∃ fd : FuncData, (∀ (s : Shared) (v : Value), BindsTo s fd ⟨[v], []⟩ [("_law_script", v)]) ∧ ∀ base : Heap, K.In base → base.Ns mainGlobals mg → DN.FnG true PP w K mg base (L2.CX PP w) 9 fa fd ["_law_script"] (DN.spLaw K) := by
  have e := hfa.symm.trans (PySem.W.mg_of X G a20)
  cases e
  have F1 := fun_mk (st := s_is_integer) l1 c1 k1
  have b1 := F1.binds (ps := ["value"]) fun _ _ _ _ _ _ us hl => match us, hl with | [_], _ => rfl
  have F2 := fun_mk (st := s_check_number) l2 c2 k2
  have b2 := F2.binds (ps := ["houses"]) fun _ _ _ _ _ _ us hl => match us, hl with | [_], _ => rfl
  have F3 := fun_mk (st := s_Web_len) l3 c3 k3
  have b3 := F3.binds (ps := ["self"]) fun _ _ _ _ _ _ us hl => match us, hl with | [_], _ => rfl
  have F4 := fun_mk (st := s_is_house) l4 c4 k4
  have b4 := F4.binds (ps := ["houses", "value"]) fun _ _ _ _ _ _ us hl => match us, hl with | [_, _], _ => rfl
  have F5 := fun_mk (st := s_is_tie) l5 c5 k5
  have b5 := F5.binds (ps := ["houses", "value"]) fun _ _ _ _ _ _ us hl => match us, hl with | [_, _], _ => rfl
  have F6 := fun_mk (st := s_tie_of) l6 c6 k6
  have b6 := F6.binds (ps := ["one", "other"]) fun _ _ _ _ _ _ us hl => match us, hl with | [_, _], _ => rfl
  have F7 := fun_mk (st := s_beside_of) l7 c7 k7
  have b7 := F7.binds (ps := ["houses", "known", "house"]) fun _ _ _ _ _ _ us hl => match us, hl with | [_, _, _], _ => rfl
  have F8 := DN.dfun_mk (st := s_Web_init) l8 c8 k8
  have b8 : Binds K (PySem.W.fnOf "__init__" "Web.__init__" (defArgs s_Web_init) (defBody s_Web_init) (defScope s_Web_init) (.ref dT8) kV8 dc8 pm8 an8 cd8 ct8) ["self", "houses", "ties"] [] := DN.dbinds0 dl8 fun us hl => match us, hl with | [_, _, _], _ => ⟨_, rfl, rfl⟩
  have bd8 : Binds K (PySem.W.fnOf "__init__" "Web.__init__" (defArgs s_Web_init) (defBody s_Web_init) (defScope s_Web_init) (.ref dT8) kV8 dc8 pm8 an8 cd8 ct8) ["self", "houses", "ties"] [.ref de8] := DN.dbinds dl8 fun us hl => match us, hl with | [_, _], _ => ⟨_, rfl, rfl⟩
  have F9 := fun_mk (st := s_Web_eq) l9 c9 k9
  have b9 := F9.binds (ps := ["self", "other"]) fun _ _ _ _ _ _ us hl => match us, hl with | [_, _], _ => rfl
  have F10 := fun_mk (st := s_law_box) l10 c10 k10
  have b10 := F10.binds (ps := ["_law_number"]) fun _ _ _ _ _ _ us hl => match us, hl with | [_], _ => rfl
  have F11 := fun_mk (st := s_law_take) l11 c11 k11
  have b11 := F11.binds (ps := ["_law_box_here", "_law_many"]) fun _ _ _ _ _ _ us hl => match us, hl with | [_, _], _ => rfl
  have F12 := fun_mk (st := s_law_ties) l12 c12 k12
  have b12 := F12.binds (ps := ["_law_box_here", "_law_many"]) fun _ _ _ _ _ _ us hl => match us, hl with | [_, _], _ => rfl
  have F13 := fun_mk (st := s_law_cell_at) l13 c13 k13
  have b13 := F13.binds (ps := ["_law_script", "_law_k"]) fun _ _ _ _ _ _ us hl => match us, hl with | [_, _], _ => rfl
  have F14 := fun_mk (st := s_Web_check_house) l14 c14 k14
  have b14 := F14.binds (ps := ["self", "house"]) fun _ _ _ _ _ _ us hl => match us, hl with | [_, _], _ => rfl
  have F15 := fun_mk (st := s_Web_untied) l15 c15 k15
  have b15 := F15.binds (ps := ["self", "one", "other"]) fun _ _ _ _ _ _ us hl => match us, hl with | [_, _, _], _ => rfl
  have F16 := fun_mk (st := s_Web_tied) l16 c16 k16
  have b16 := F16.binds (ps := ["self", "one", "other"]) fun _ _ _ _ _ _ us hl => match us, hl with | [_, _, _], _ => rfl
  have F17 := fun_mk (st := s_Web_neighbors) l17 c17 k17
  have b17 := F17.binds (ps := ["self", "house"]) fun _ _ _ _ _ _ us hl => match us, hl with | [_, _], _ => rfl
  have F18 := fun_mk (st := s_law_caught) l18 c18 k18
  have b18 := F18.binds (ps := ["_law_kind", "_law_web", "_law_one", "_law_other"]) fun _ _ _ _ _ _ us hl => match us, hl with | [_, _, _, _], _ => rfl
  have F19 := fun_mk (st := s_law_due) l19 c19 k19
  have b19 := F19.binds (ps := ["_law_kind", "_law_many", "_law_ties_here", "_law_one", "_law_other"]) fun _ _ _ _ _ _ us hl => match us, hl with | [_, _, _, _, _], _ => rfl
  have F20 := fun_mk (st := s_law) l20 c20 k20
  have b20 := F20.binds (ps := ["_law_script"]) fun _ _ _ _ _ _ us hl => match us, hl with | [_], _ => rfl
  have BI : OpenB PP K D0 cc cda := ⟨⟨_, _, _, D0e⟩, ⟨_, _, _, _, _, _, D0f, D0g, D0h⟩, ⟨_, D0i⟩, by decide +kernel, D0o⟩
  have okI : ∀ (w : World) (base : Heap) (CX : CXT), FnOk PP w K mg base CX 1 fI (PySem.W.ksFn "__init__" "OpenpostsError.__init__" (defArgs s_init) (defBody s_init) (defScope s_init) .none kVI dcI pmI anI (.ref cda) ctI cc) ["self", "value"] (spInit K D0) := fun w base CX =>
    fn_init (ar := initArg) rfl D0l D0c rfl rfl (by decide +kernel) rfl rfl rfl rfl rfl rfl rfl (fun _ => rfl) (fun _ => rfl) (fun _ => rfl) (fun _ => rfl) (fun _ => rfl) BI (PySem.W.mg_none_of X G D0s)
  have bI : Binds K (PySem.W.ksFn "__init__" "OpenpostsError.__init__" (defArgs s_init) (defBody s_init) (defScope s_init) .none kVI dcI pmI anI (.ref cda) ctI cc) ["self", "value"] [] := .all fun us hl => match us, hl with | [_, _], _ => rfl
  have T : TX K mg := ⟨C_Web, (PySem.W.mg_of X G cg_Web), ⟨c1_Web, c2_Web, c3_Web, c4_Web⟩, ⟨i1_Web, i2_Web, i3_Web, i4_Web⟩, kk_Web, na_Web_houses, na_Web_ties, na_Web_known, na_Web_beside, _, _, F1, b1, (PySem.W.mg_of X G a1), _, _, F2, b2, (PySem.W.mg_of X G a2), _, _, F3, b3, ⟨a3, fn3, fi3⟩, _, _, F4, b4, (PySem.W.mg_of X G a4), _, _, F5, b5, (PySem.W.mg_of X G a5), _, _, F6, b6, (PySem.W.mg_of X G a6), _, _, F7, b7, (PySem.W.mg_of X G a7), _, _, F8, de8, bd8, (fun Z G hK => DN.ktp_nil (Z := ⟨Z, none⟩) hK dm8), b8, ⟨mm8, a8, fn8, mk8⟩, _, _, F9, b9, ⟨⟨_, _, _, _, _, _, _, _, _, _, _, _, _, _, _, _, oa9, ob9, oc9_, od9_⟩, ⟨_, l9, oo9⟩, a9, fn9⟩, _, _, F10, b10, (PySem.W.mg_of X G a10), _, _, F11, b11, (PySem.W.mg_of X G a11), _, _, F12, b12, (PySem.W.mg_of X G a12), _, _, F13, b13, (PySem.W.mg_of X G a13), _, _, F14, b14, ⟨a14, fn14, k14⟩, _, _, F15, b15, ⟨a15, fn15, k15⟩, _, _, F16, b16, ⟨a16, fn16, k16⟩, _, _, F17, b17, ⟨a17, fn17, k17⟩, _, _, F18, b18, (PySem.W.mg_of X G a18), _, _, F19, b19, (PySem.W.mg_of X G a19), _, _, F20, b20, (PySem.W.mg_of X G a20), (PySem.W.mg_none_of X G z0), (PySem.W.mg_none_of X G z1), (PySem.W.mg_none_of X G z2), (PySem.W.mg_none_of X G z3), (PySem.W.mg_none_of X G z4), (PySem.W.mg_none_of X G z5), (PySem.W.mg_none_of X G z6), (PySem.W.mg_none_of X G z7), (PySem.W.mg_none_of X G z8), (PySem.W.mg_none_of X G z9), (PySem.W.mg_none_of X G z10), (PySem.W.mg_none_of X G z11), (PySem.W.mg_none_of X G z12), t0, (PySem.W.mg_of X G cst0), kc_Web, kb_Web_bool, kb_Web_int, kb_Web_str, kb_Web_list, kb_Web_tuple, kb_Web_dict, sm0, D0, (PySem.W.mg_of X G D0a), fI, _, bI, D0t, okI, C_x0, (PySem.W.mg_of X G x0a), ⟨⟨⟨_, _, _, _, _, _, _, _, _, _, _, _, _, _, _, x0b, x0c⟩, x0d, x0e, x0f, x0g⟩, x0h, x0i, x0j, x0k⟩, ⟨x0l, x0m, x0e, x0n, x0o, x0p, x0q, x0r⟩, x0s, C_x1, (PySem.W.mg_of X G x1a), ⟨⟨⟨_, _, _, _, _, _, _, _, _, _, _, _, _, _, _, x1b, x1c⟩, x1d, x1e, x1f, x1g⟩, x1h, x1i, x1j, x1k⟩, ⟨x1l, x1m, x1e, x1n, x1o, x1p, x1q, x1r⟩, x1s, C_x2, (PySem.W.mg_of X G x2a), ⟨⟨⟨_, _, _, _, _, _, _, _, _, _, _, _, _, _, _, x2b, x2c⟩, x2d, x2e, x2f, x2g⟩, x2h, x2i, x2j, x2k⟩, ⟨x2l, x2m, x2e, x2n, x2o, x2p, x2q, x2r⟩, x2s, C_x3, (PySem.W.mg_of X G x3a), ⟨⟨⟨_, _, _, _, _, _, _, _, _, _, _, _, _, _, _, x3b, x3c⟩, x3d, x3e, x3f, x3g⟩, x3h, x3i, x3j, x3k⟩, ⟨x3l, x3m, x3e, x3n, x3o, x3p, x3q, x3r⟩, x3s, xm_InvalidNumber_InvalidHouse, xm_InvalidNumber_InvalidTie, xm_InvalidNumber_OpenpostsError, xm_InvalidTies_InvalidHouse, xm_InvalidTies_InvalidTie, xm_InvalidTies_OpenpostsError, xm_InvalidHouse_InvalidHouse, xm_InvalidHouse_InvalidTie, xm_InvalidHouse_OpenpostsError, xm_InvalidTie_InvalidHouse, xm_InvalidTie_InvalidTie, xm_InvalidTie_OpenpostsError⟩
  exact ⟨PySem.W.fnOf "law" "law" (defArgs s_law) (defBody s_law) (defScope s_law) .none kV20 dc20 pm20 an20 cd20 ct20, fun s v => .of_eq rfl, fun base _ _ => (G_law_end T F20).imp (DN.law_sp (Z := zt T) law_true)⟩
def ck_0 (K : PySem.W.Frag) : Bool := decide (PySem.W.nsIn K mainGlobals "Web" = some (some (.ref (He.ga K "Web")))) && (decide (PySem.W.plainGet K (He.ga K "Web") Str.empty = true) && (decide (PySem.W.hasDictIn K (He.ga K "Web") = true) && (decide (PySem.W.plainOver K (He.ga K "Web") = true) && (decide (PySem.W.findIn K (.ref (He.ga K "Web")) "__setattr__" = some (some (.builtin "object.__setattr__"))) && (decide (PySem.W.findIn K (.ref (He.ga K "Web")) "__class__" = some (some (.builtin "object.__class__"))) && (decide (PySem.W.specialIn K (.builtin "object.__class__") "__get__" = some (some (.builtin "getset_descriptor.__get__"))) && (decide (PySem.W.takesIn K (.builtin "object.__class__") = some true) && (decide (PySem.W.mroIn K (He.ga K "Web") (.type "object") = some true) && (decide (PySem.W.kitOne K (.ref (He.ga K "Web")) (.ref (He.ga K "Web")) = some true) && (decide (PySem.W.kitOne K (.type "int") (.ref (He.ga K "Web")) = some false) && (decide (PySem.W.findIn K (.ref (He.ga K "Web")) "houses" = some none) && (decide (PySem.W.findIn K (.ref (He.ga K "Web")) "ties" = some none) && (decide (PySem.W.findIn K (.ref (He.ga K "Web")) "known" = some none) && (decide (PySem.W.findIn K (.ref (He.ga K "Web")) "beside" = some none) && (decide (PySem.W.kitOne K (.ref (He.ga K "Web")) (.type "bool") = some false) && (decide (PySem.W.kitOne K (.ref (He.ga K "Web")) (.type "int") = some false) && (decide (PySem.W.kitOne K (.ref (He.ga K "Web")) (.type "str") = some false) && (decide (PySem.W.kitOne K (.ref (He.ga K "Web")) (.type "list") = some false) && (decide (PySem.W.kitOne K (.ref (He.ga K "Web")) (.type "tuple") = some false) && (decide (PySem.W.kitOne K (.ref (He.ga K "Web")) (.type "dict") = some false) && (true)))))))))))))))))))))
theorem ok_0 {K : PySem.W.Frag} (h : ck_0 K = true) : (PySem.W.nsIn K mainGlobals "Web" = some (some (.ref (He.ga K "Web")))) ∧ (PySem.W.plainGet K (He.ga K "Web") Str.empty = true) ∧ (PySem.W.hasDictIn K (He.ga K "Web") = true) ∧ (PySem.W.plainOver K (He.ga K "Web") = true) ∧ (PySem.W.findIn K (.ref (He.ga K "Web")) "__setattr__" = some (some (.builtin "object.__setattr__"))) ∧ (PySem.W.findIn K (.ref (He.ga K "Web")) "__class__" = some (some (.builtin "object.__class__"))) ∧ (PySem.W.specialIn K (.builtin "object.__class__") "__get__" = some (some (.builtin "getset_descriptor.__get__"))) ∧ (PySem.W.takesIn K (.builtin "object.__class__") = some true) ∧ (PySem.W.mroIn K (He.ga K "Web") (.type "object") = some true) ∧ (PySem.W.kitOne K (.ref (He.ga K "Web")) (.ref (He.ga K "Web")) = some true) ∧ (PySem.W.kitOne K (.type "int") (.ref (He.ga K "Web")) = some false) ∧ (PySem.W.findIn K (.ref (He.ga K "Web")) "houses" = some none) ∧ (PySem.W.findIn K (.ref (He.ga K "Web")) "ties" = some none) ∧ (PySem.W.findIn K (.ref (He.ga K "Web")) "known" = some none) ∧ (PySem.W.findIn K (.ref (He.ga K "Web")) "beside" = some none) ∧ (PySem.W.kitOne K (.ref (He.ga K "Web")) (.type "bool") = some false) ∧ (PySem.W.kitOne K (.ref (He.ga K "Web")) (.type "int") = some false) ∧ (PySem.W.kitOne K (.ref (He.ga K "Web")) (.type "str") = some false) ∧ (PySem.W.kitOne K (.ref (He.ga K "Web")) (.type "list") = some false) ∧ (PySem.W.kitOne K (.ref (He.ga K "Web")) (.type "tuple") = some false) ∧ (PySem.W.kitOne K (.ref (He.ga K "Web")) (.type "dict") = some false) ∧ True := by
  unfold ck_0 at h
  obtain ⟨e0, h⟩ := DN.an2 h
  obtain ⟨e1, h⟩ := DN.an2 h
  obtain ⟨e2, h⟩ := DN.an2 h
  obtain ⟨e3, h⟩ := DN.an2 h
  obtain ⟨e4, h⟩ := DN.an2 h
  obtain ⟨e5, h⟩ := DN.an2 h
  obtain ⟨e6, h⟩ := DN.an2 h
  obtain ⟨e7, h⟩ := DN.an2 h
  obtain ⟨e8, h⟩ := DN.an2 h
  obtain ⟨e9, h⟩ := DN.an2 h
  obtain ⟨e10, h⟩ := DN.an2 h
  obtain ⟨e11, h⟩ := DN.an2 h
  obtain ⟨e12, h⟩ := DN.an2 h
  obtain ⟨e13, h⟩ := DN.an2 h
  obtain ⟨e14, h⟩ := DN.an2 h
  obtain ⟨e15, h⟩ := DN.an2 h
  obtain ⟨e16, h⟩ := DN.an2 h
  obtain ⟨e17, h⟩ := DN.an2 h
  obtain ⟨e18, h⟩ := DN.an2 h
  obtain ⟨e19, h⟩ := DN.an2 h
  obtain ⟨e20, h⟩ := DN.an2 h
  exact ⟨e0, e1, e2, e3, e4, e5, e6, e7, e8, e9, e10, e11, e12, e13, e14, e15, e16, e17, e18, e19, e20, trivial⟩
def ck_1 (K : PySem.W.Frag) : Bool := decide (PySem.W.nsIn K mainGlobals "is_integer" = some (some (.ref (He.ga K "is_integer")))) && (decide (PySem.W.keepIn K (.ref (He.ga K "is_integer")) = true) && (decide (DN.fnB K (He.ga K "is_integer") (DN.fn0B K "is_integer") = true) && (true)))
theorem ok_1 {K : PySem.W.Frag} (h : ck_1 K = true) : (PySem.W.nsIn K mainGlobals "is_integer" = some (some (.ref (He.ga K "is_integer")))) ∧ (PySem.W.keepIn K (.ref (He.ga K "is_integer")) = true) ∧ (DN.fnB K (He.ga K "is_integer") (DN.fn0B K "is_integer") = true) ∧ True := by
  unfold ck_1 at h
  obtain ⟨e0, h⟩ := DN.an2 h
  obtain ⟨e1, h⟩ := DN.an2 h
  obtain ⟨e2, h⟩ := DN.an2 h
  exact ⟨e0, e1, e2, trivial⟩
def ck_2 (K : PySem.W.Frag) : Bool := decide (PySem.W.nsIn K mainGlobals "check_number" = some (some (.ref (He.ga K "check_number")))) && (decide (PySem.W.keepIn K (.ref (He.ga K "check_number")) = true) && (decide (DN.fnB K (He.ga K "check_number") (DN.fn0B K "check_number") = true) && (true)))
theorem ok_2 {K : PySem.W.Frag} (h : ck_2 K = true) : (PySem.W.nsIn K mainGlobals "check_number" = some (some (.ref (He.ga K "check_number")))) ∧ (PySem.W.keepIn K (.ref (He.ga K "check_number")) = true) ∧ (DN.fnB K (He.ga K "check_number") (DN.fn0B K "check_number") = true) ∧ True := by
  unfold ck_2 at h
  obtain ⟨e0, h⟩ := DN.an2 h
  obtain ⟨e1, h⟩ := DN.an2 h
  obtain ⟨e2, h⟩ := DN.an2 h
  exact ⟨e0, e1, e2, trivial⟩
def ck_3 (K : PySem.W.Frag) : Bool := decide (PySem.W.findIn K (.ref (He.ga K "Web")) "__len__" = some (some (.ref (He.ma K (He.ga K "Web") "__len__")))) && (decide (PySem.W.fnIn K (He.ma K (He.ga K "Web") "__len__") = true) && (decide (PySem.W.isFn K (.ref (He.ma K (He.ga K "Web") "__len__")) = true) && (decide (PySem.W.keepIn K (.ref (He.ma K (He.ga K "Web") "__len__")) = true) && (decide (DN.fnB K (He.ma K (He.ga K "Web") "__len__") (DN.fn0B K "Web.__len__") = true) && (true)))))
theorem ok_3 {K : PySem.W.Frag} (h : ck_3 K = true) : (PySem.W.findIn K (.ref (He.ga K "Web")) "__len__" = some (some (.ref (He.ma K (He.ga K "Web") "__len__")))) ∧ (PySem.W.fnIn K (He.ma K (He.ga K "Web") "__len__") = true) ∧ (PySem.W.isFn K (.ref (He.ma K (He.ga K "Web") "__len__")) = true) ∧ (PySem.W.keepIn K (.ref (He.ma K (He.ga K "Web") "__len__")) = true) ∧ (DN.fnB K (He.ma K (He.ga K "Web") "__len__") (DN.fn0B K "Web.__len__") = true) ∧ True := by
  unfold ck_3 at h
  obtain ⟨e0, h⟩ := DN.an2 h
  obtain ⟨e1, h⟩ := DN.an2 h
  obtain ⟨e2, h⟩ := DN.an2 h
  obtain ⟨e3, h⟩ := DN.an2 h
  obtain ⟨e4, h⟩ := DN.an2 h
  exact ⟨e0, e1, e2, e3, e4, trivial⟩
def ck_4 (K : PySem.W.Frag) : Bool := decide (PySem.W.nsIn K mainGlobals "is_house" = some (some (.ref (He.ga K "is_house")))) && (decide (PySem.W.keepIn K (.ref (He.ga K "is_house")) = true) && (decide (DN.fnB K (He.ga K "is_house") (DN.fn0B K "is_house") = true) && (true)))
theorem ok_4 {K : PySem.W.Frag} (h : ck_4 K = true) : (PySem.W.nsIn K mainGlobals "is_house" = some (some (.ref (He.ga K "is_house")))) ∧ (PySem.W.keepIn K (.ref (He.ga K "is_house")) = true) ∧ (DN.fnB K (He.ga K "is_house") (DN.fn0B K "is_house") = true) ∧ True := by
  unfold ck_4 at h
  obtain ⟨e0, h⟩ := DN.an2 h
  obtain ⟨e1, h⟩ := DN.an2 h
  obtain ⟨e2, h⟩ := DN.an2 h
  exact ⟨e0, e1, e2, trivial⟩
def ck_5 (K : PySem.W.Frag) : Bool := decide (PySem.W.nsIn K mainGlobals "is_tie" = some (some (.ref (He.ga K "is_tie")))) && (decide (PySem.W.keepIn K (.ref (He.ga K "is_tie")) = true) && (decide (DN.fnB K (He.ga K "is_tie") (DN.fn0B K "is_tie") = true) && (true)))
theorem ok_5 {K : PySem.W.Frag} (h : ck_5 K = true) : (PySem.W.nsIn K mainGlobals "is_tie" = some (some (.ref (He.ga K "is_tie")))) ∧ (PySem.W.keepIn K (.ref (He.ga K "is_tie")) = true) ∧ (DN.fnB K (He.ga K "is_tie") (DN.fn0B K "is_tie") = true) ∧ True := by
  unfold ck_5 at h
  obtain ⟨e0, h⟩ := DN.an2 h
  obtain ⟨e1, h⟩ := DN.an2 h
  obtain ⟨e2, h⟩ := DN.an2 h
  exact ⟨e0, e1, e2, trivial⟩
def ck_6 (K : PySem.W.Frag) : Bool := decide (PySem.W.nsIn K mainGlobals "tie_of" = some (some (.ref (He.ga K "tie_of")))) && (decide (PySem.W.keepIn K (.ref (He.ga K "tie_of")) = true) && (decide (DN.fnB K (He.ga K "tie_of") (DN.fn0B K "tie_of") = true) && (true)))
theorem ok_6 {K : PySem.W.Frag} (h : ck_6 K = true) : (PySem.W.nsIn K mainGlobals "tie_of" = some (some (.ref (He.ga K "tie_of")))) ∧ (PySem.W.keepIn K (.ref (He.ga K "tie_of")) = true) ∧ (DN.fnB K (He.ga K "tie_of") (DN.fn0B K "tie_of") = true) ∧ True := by
  unfold ck_6 at h
  obtain ⟨e0, h⟩ := DN.an2 h
  obtain ⟨e1, h⟩ := DN.an2 h
  obtain ⟨e2, h⟩ := DN.an2 h
  exact ⟨e0, e1, e2, trivial⟩
def ck_7 (K : PySem.W.Frag) : Bool := decide (PySem.W.nsIn K mainGlobals "beside_of" = some (some (.ref (He.ga K "beside_of")))) && (decide (PySem.W.keepIn K (.ref (He.ga K "beside_of")) = true) && (decide (DN.fnB K (He.ga K "beside_of") (DN.fn0B K "beside_of") = true) && (true)))
theorem ok_7 {K : PySem.W.Frag} (h : ck_7 K = true) : (PySem.W.nsIn K mainGlobals "beside_of" = some (some (.ref (He.ga K "beside_of")))) ∧ (PySem.W.keepIn K (.ref (He.ga K "beside_of")) = true) ∧ (DN.fnB K (He.ga K "beside_of") (DN.fn0B K "beside_of") = true) ∧ True := by
  unfold ck_7 at h
  obtain ⟨e0, h⟩ := DN.an2 h
  obtain ⟨e1, h⟩ := DN.an2 h
  obtain ⟨e2, h⟩ := DN.an2 h
  exact ⟨e0, e1, e2, trivial⟩
def ck_8 (K : PySem.W.Frag) : Bool := decide (PySem.W.findIn K (.ref (He.ga K "Web")) "__init__" = some (some (.ref (He.ma K (He.ga K "Web") "__init__")))) && (decide (PySem.W.isFn K (.ref (He.ma K (He.ga K "Web") "__init__")) = true) && (decide (PySem.W.makesIn K (He.ga K "Web") = true) && (decide (PySem.W.keepIn K (.ref (He.ga K "Web")) = true) && (decide (PySem.W.keepIn K (.ref (He.ma K (He.ga K "Web") "__init__")) = true) && (decide (DN.fnB K (He.ma K (He.ga K "Web") "__init__") (DN.fnTB K "Web.__init__") = true) && (true))))))
theorem ok_8 {K : PySem.W.Frag} (h : ck_8 K = true) : (PySem.W.findIn K (.ref (He.ga K "Web")) "__init__" = some (some (.ref (He.ma K (He.ga K "Web") "__init__")))) ∧ (PySem.W.isFn K (.ref (He.ma K (He.ga K "Web") "__init__")) = true) ∧ (PySem.W.makesIn K (He.ga K "Web") = true) ∧ (PySem.W.keepIn K (.ref (He.ga K "Web")) = true) ∧ (PySem.W.keepIn K (.ref (He.ma K (He.ga K "Web") "__init__")) = true) ∧ (DN.fnB K (He.ma K (He.ga K "Web") "__init__") (DN.fnTB K "Web.__init__") = true) ∧ True := by
  unfold ck_8 at h
  obtain ⟨e0, h⟩ := DN.an2 h
  obtain ⟨e1, h⟩ := DN.an2 h
  obtain ⟨e2, h⟩ := DN.an2 h
  obtain ⟨e3, h⟩ := DN.an2 h
  obtain ⟨e4, h⟩ := DN.an2 h
  obtain ⟨e5, h⟩ := DN.an2 h
  exact ⟨e0, e1, e2, e3, e4, e5, trivial⟩
def ck_9 (K : PySem.W.Frag) : Bool := decide (PySem.W.findIn K (.ref (He.ga K "Web")) "__eq__" = some (some (.ref (He.ma K (He.ga K "Web") "__eq__")))) && (decide (PySem.W.isFn K (.ref (He.ma K (He.ga K "Web") "__eq__")) = true) && (decide (PySem.W.keepIn K (.ref (He.ma K (He.ga K "Web") "__eq__")) = true) && (decide (DN.ownEqB K (He.ga K "Web") (He.ma K (He.ga K "Web") "__eq__") = true) && (decide (DN.fnB K (He.ma K (He.ga K "Web") "__eq__") (DN.fn0B K "Web.__eq__") = true) && (true)))))
theorem ok_9 {K : PySem.W.Frag} (h : ck_9 K = true) : (PySem.W.findIn K (.ref (He.ga K "Web")) "__eq__" = some (some (.ref (He.ma K (He.ga K "Web") "__eq__")))) ∧ (PySem.W.isFn K (.ref (He.ma K (He.ga K "Web") "__eq__")) = true) ∧ (PySem.W.keepIn K (.ref (He.ma K (He.ga K "Web") "__eq__")) = true) ∧ (DN.ownEqB K (He.ga K "Web") (He.ma K (He.ga K "Web") "__eq__") = true) ∧ (DN.fnB K (He.ma K (He.ga K "Web") "__eq__") (DN.fn0B K "Web.__eq__") = true) ∧ True := by
  unfold ck_9 at h
  obtain ⟨e0, h⟩ := DN.an2 h
  obtain ⟨e1, h⟩ := DN.an2 h
  obtain ⟨e2, h⟩ := DN.an2 h
  obtain ⟨e3, h⟩ := DN.an2 h
  obtain ⟨e4, h⟩ := DN.an2 h
  exact ⟨e0, e1, e2, e3, e4, trivial⟩
def ck_10 (K : PySem.W.Frag) : Bool := decide (PySem.W.nsIn K mainGlobals "_law_box" = some (some (.ref (He.ga K "_law_box")))) && (decide (PySem.W.keepIn K (.ref (He.ga K "_law_box")) = true) && (decide (DN.fnB K (He.ga K "_law_box") (DN.fn0B K "_law_box") = true) && (true)))
theorem ok_10 {K : PySem.W.Frag} (h : ck_10 K = true) : (PySem.W.nsIn K mainGlobals "_law_box" = some (some (.ref (He.ga K "_law_box")))) ∧ (PySem.W.keepIn K (.ref (He.ga K "_law_box")) = true) ∧ (DN.fnB K (He.ga K "_law_box") (DN.fn0B K "_law_box") = true) ∧ True := by
  unfold ck_10 at h
  obtain ⟨e0, h⟩ := DN.an2 h
  obtain ⟨e1, h⟩ := DN.an2 h
  obtain ⟨e2, h⟩ := DN.an2 h
  exact ⟨e0, e1, e2, trivial⟩
def ck_11 (K : PySem.W.Frag) : Bool := decide (PySem.W.nsIn K mainGlobals "_law_take" = some (some (.ref (He.ga K "_law_take")))) && (decide (PySem.W.keepIn K (.ref (He.ga K "_law_take")) = true) && (decide (DN.fnB K (He.ga K "_law_take") (DN.fn0B K "_law_take") = true) && (true)))
theorem ok_11 {K : PySem.W.Frag} (h : ck_11 K = true) : (PySem.W.nsIn K mainGlobals "_law_take" = some (some (.ref (He.ga K "_law_take")))) ∧ (PySem.W.keepIn K (.ref (He.ga K "_law_take")) = true) ∧ (DN.fnB K (He.ga K "_law_take") (DN.fn0B K "_law_take") = true) ∧ True := by
  unfold ck_11 at h
  obtain ⟨e0, h⟩ := DN.an2 h
  obtain ⟨e1, h⟩ := DN.an2 h
  obtain ⟨e2, h⟩ := DN.an2 h
  exact ⟨e0, e1, e2, trivial⟩
def ck_12 (K : PySem.W.Frag) : Bool := decide (PySem.W.nsIn K mainGlobals "_law_ties" = some (some (.ref (He.ga K "_law_ties")))) && (decide (PySem.W.keepIn K (.ref (He.ga K "_law_ties")) = true) && (decide (DN.fnB K (He.ga K "_law_ties") (DN.fn0B K "_law_ties") = true) && (true)))
theorem ok_12 {K : PySem.W.Frag} (h : ck_12 K = true) : (PySem.W.nsIn K mainGlobals "_law_ties" = some (some (.ref (He.ga K "_law_ties")))) ∧ (PySem.W.keepIn K (.ref (He.ga K "_law_ties")) = true) ∧ (DN.fnB K (He.ga K "_law_ties") (DN.fn0B K "_law_ties") = true) ∧ True := by
  unfold ck_12 at h
  obtain ⟨e0, h⟩ := DN.an2 h
  obtain ⟨e1, h⟩ := DN.an2 h
  obtain ⟨e2, h⟩ := DN.an2 h
  exact ⟨e0, e1, e2, trivial⟩
def ck_13 (K : PySem.W.Frag) : Bool := decide (PySem.W.nsIn K mainGlobals "_law_cell_at" = some (some (.ref (He.ga K "_law_cell_at")))) && (decide (PySem.W.keepIn K (.ref (He.ga K "_law_cell_at")) = true) && (decide (DN.fnB K (He.ga K "_law_cell_at") (DN.fn0B K "_law_cell_at") = true) && (true)))
theorem ok_13 {K : PySem.W.Frag} (h : ck_13 K = true) : (PySem.W.nsIn K mainGlobals "_law_cell_at" = some (some (.ref (He.ga K "_law_cell_at")))) ∧ (PySem.W.keepIn K (.ref (He.ga K "_law_cell_at")) = true) ∧ (DN.fnB K (He.ga K "_law_cell_at") (DN.fn0B K "_law_cell_at") = true) ∧ True := by
  unfold ck_13 at h
  obtain ⟨e0, h⟩ := DN.an2 h
  obtain ⟨e1, h⟩ := DN.an2 h
  obtain ⟨e2, h⟩ := DN.an2 h
  exact ⟨e0, e1, e2, trivial⟩
def ck_14 (K : PySem.W.Frag) : Bool := decide (PySem.W.findIn K (.ref (He.ga K "Web")) "check_house" = some (some (.ref (He.ma K (He.ga K "Web") "check_house")))) && (decide (PySem.W.isFn K (.ref (He.ma K (He.ga K "Web") "check_house")) = true) && (decide (PySem.W.keepIn K (.ref (He.ma K (He.ga K "Web") "check_house")) = true) && (decide (DN.fnB K (He.ma K (He.ga K "Web") "check_house") (DN.fn0B K "Web.check_house") = true) && (true))))
theorem ok_14 {K : PySem.W.Frag} (h : ck_14 K = true) : (PySem.W.findIn K (.ref (He.ga K "Web")) "check_house" = some (some (.ref (He.ma K (He.ga K "Web") "check_house")))) ∧ (PySem.W.isFn K (.ref (He.ma K (He.ga K "Web") "check_house")) = true) ∧ (PySem.W.keepIn K (.ref (He.ma K (He.ga K "Web") "check_house")) = true) ∧ (DN.fnB K (He.ma K (He.ga K "Web") "check_house") (DN.fn0B K "Web.check_house") = true) ∧ True := by
  unfold ck_14 at h
  obtain ⟨e0, h⟩ := DN.an2 h
  obtain ⟨e1, h⟩ := DN.an2 h
  obtain ⟨e2, h⟩ := DN.an2 h
  obtain ⟨e3, h⟩ := DN.an2 h
  exact ⟨e0, e1, e2, e3, trivial⟩
def ck_15 (K : PySem.W.Frag) : Bool := decide (PySem.W.findIn K (.ref (He.ga K "Web")) "untied" = some (some (.ref (He.ma K (He.ga K "Web") "untied")))) && (decide (PySem.W.isFn K (.ref (He.ma K (He.ga K "Web") "untied")) = true) && (decide (PySem.W.keepIn K (.ref (He.ma K (He.ga K "Web") "untied")) = true) && (decide (DN.fnB K (He.ma K (He.ga K "Web") "untied") (DN.fn0B K "Web.untied") = true) && (true))))
theorem ok_15 {K : PySem.W.Frag} (h : ck_15 K = true) : (PySem.W.findIn K (.ref (He.ga K "Web")) "untied" = some (some (.ref (He.ma K (He.ga K "Web") "untied")))) ∧ (PySem.W.isFn K (.ref (He.ma K (He.ga K "Web") "untied")) = true) ∧ (PySem.W.keepIn K (.ref (He.ma K (He.ga K "Web") "untied")) = true) ∧ (DN.fnB K (He.ma K (He.ga K "Web") "untied") (DN.fn0B K "Web.untied") = true) ∧ True := by
  unfold ck_15 at h
  obtain ⟨e0, h⟩ := DN.an2 h
  obtain ⟨e1, h⟩ := DN.an2 h
  obtain ⟨e2, h⟩ := DN.an2 h
  obtain ⟨e3, h⟩ := DN.an2 h
  exact ⟨e0, e1, e2, e3, trivial⟩
def ck_16 (K : PySem.W.Frag) : Bool := decide (PySem.W.findIn K (.ref (He.ga K "Web")) "tied" = some (some (.ref (He.ma K (He.ga K "Web") "tied")))) && (decide (PySem.W.isFn K (.ref (He.ma K (He.ga K "Web") "tied")) = true) && (decide (PySem.W.keepIn K (.ref (He.ma K (He.ga K "Web") "tied")) = true) && (decide (DN.fnB K (He.ma K (He.ga K "Web") "tied") (DN.fn0B K "Web.tied") = true) && (true))))
theorem ok_16 {K : PySem.W.Frag} (h : ck_16 K = true) : (PySem.W.findIn K (.ref (He.ga K "Web")) "tied" = some (some (.ref (He.ma K (He.ga K "Web") "tied")))) ∧ (PySem.W.isFn K (.ref (He.ma K (He.ga K "Web") "tied")) = true) ∧ (PySem.W.keepIn K (.ref (He.ma K (He.ga K "Web") "tied")) = true) ∧ (DN.fnB K (He.ma K (He.ga K "Web") "tied") (DN.fn0B K "Web.tied") = true) ∧ True := by
  unfold ck_16 at h
  obtain ⟨e0, h⟩ := DN.an2 h
  obtain ⟨e1, h⟩ := DN.an2 h
  obtain ⟨e2, h⟩ := DN.an2 h
  obtain ⟨e3, h⟩ := DN.an2 h
  exact ⟨e0, e1, e2, e3, trivial⟩
def ck_17 (K : PySem.W.Frag) : Bool := decide (PySem.W.findIn K (.ref (He.ga K "Web")) "neighbors" = some (some (.ref (He.ma K (He.ga K "Web") "neighbors")))) && (decide (PySem.W.isFn K (.ref (He.ma K (He.ga K "Web") "neighbors")) = true) && (decide (PySem.W.keepIn K (.ref (He.ma K (He.ga K "Web") "neighbors")) = true) && (decide (DN.fnB K (He.ma K (He.ga K "Web") "neighbors") (DN.fn0B K "Web.neighbors") = true) && (true))))
theorem ok_17 {K : PySem.W.Frag} (h : ck_17 K = true) : (PySem.W.findIn K (.ref (He.ga K "Web")) "neighbors" = some (some (.ref (He.ma K (He.ga K "Web") "neighbors")))) ∧ (PySem.W.isFn K (.ref (He.ma K (He.ga K "Web") "neighbors")) = true) ∧ (PySem.W.keepIn K (.ref (He.ma K (He.ga K "Web") "neighbors")) = true) ∧ (DN.fnB K (He.ma K (He.ga K "Web") "neighbors") (DN.fn0B K "Web.neighbors") = true) ∧ True := by
  unfold ck_17 at h
  obtain ⟨e0, h⟩ := DN.an2 h
  obtain ⟨e1, h⟩ := DN.an2 h
  obtain ⟨e2, h⟩ := DN.an2 h
  obtain ⟨e3, h⟩ := DN.an2 h
  exact ⟨e0, e1, e2, e3, trivial⟩
def ck_18 (K : PySem.W.Frag) : Bool := decide (PySem.W.nsIn K mainGlobals "_law_caught" = some (some (.ref (He.ga K "_law_caught")))) && (decide (PySem.W.keepIn K (.ref (He.ga K "_law_caught")) = true) && (decide (DN.fnB K (He.ga K "_law_caught") (DN.fn0B K "_law_caught") = true) && (true)))
theorem ok_18 {K : PySem.W.Frag} (h : ck_18 K = true) : (PySem.W.nsIn K mainGlobals "_law_caught" = some (some (.ref (He.ga K "_law_caught")))) ∧ (PySem.W.keepIn K (.ref (He.ga K "_law_caught")) = true) ∧ (DN.fnB K (He.ga K "_law_caught") (DN.fn0B K "_law_caught") = true) ∧ True := by
  unfold ck_18 at h
  obtain ⟨e0, h⟩ := DN.an2 h
  obtain ⟨e1, h⟩ := DN.an2 h
  obtain ⟨e2, h⟩ := DN.an2 h
  exact ⟨e0, e1, e2, trivial⟩
def ck_19 (K : PySem.W.Frag) : Bool := decide (PySem.W.nsIn K mainGlobals "_law_due" = some (some (.ref (He.ga K "_law_due")))) && (decide (PySem.W.keepIn K (.ref (He.ga K "_law_due")) = true) && (decide (DN.fnB K (He.ga K "_law_due") (DN.fn0B K "_law_due") = true) && (true)))
theorem ok_19 {K : PySem.W.Frag} (h : ck_19 K = true) : (PySem.W.nsIn K mainGlobals "_law_due" = some (some (.ref (He.ga K "_law_due")))) ∧ (PySem.W.keepIn K (.ref (He.ga K "_law_due")) = true) ∧ (DN.fnB K (He.ga K "_law_due") (DN.fn0B K "_law_due") = true) ∧ True := by
  unfold ck_19 at h
  obtain ⟨e0, h⟩ := DN.an2 h
  obtain ⟨e1, h⟩ := DN.an2 h
  obtain ⟨e2, h⟩ := DN.an2 h
  exact ⟨e0, e1, e2, trivial⟩
def ck_20 (K : PySem.W.Frag) : Bool := decide (PySem.W.nsIn K mainGlobals "law" = some (some (.ref (He.ga K "law")))) && (decide (PySem.W.keepIn K (.ref (He.ga K "law")) = true) && (decide (DN.fnB K (He.ga K "law") (DN.fn0B K "law") = true) && (true)))
theorem ok_20 {K : PySem.W.Frag} (h : ck_20 K = true) : (PySem.W.nsIn K mainGlobals "law" = some (some (.ref (He.ga K "law")))) ∧ (PySem.W.keepIn K (.ref (He.ga K "law")) = true) ∧ (DN.fnB K (He.ga K "law") (DN.fn0B K "law") = true) ∧ True := by
  unfold ck_20 at h
  obtain ⟨e0, h⟩ := DN.an2 h
  obtain ⟨e1, h⟩ := DN.an2 h
  obtain ⟨e2, h⟩ := DN.an2 h
  exact ⟨e0, e1, e2, trivial⟩
def ck_21 (K : PySem.W.Frag) : Bool := decide (DN.conB K mainGlobals "MOST_HOUSES" (DN.hd_isInt 40) = true) && (true)
theorem ok_21 {K : PySem.W.Frag} (h : ck_21 K = true) : (DN.conB K mainGlobals "MOST_HOUSES" (DN.hd_isInt 40) = true) ∧ True := by
  unfold ck_21 at h
  obtain ⟨e0, h⟩ := DN.an2 h
  exact ⟨e0, trivial⟩
def ck_22 (K : PySem.W.Frag) : Bool := decide (PySem.W.nsIn K mainGlobals "OpenpostsError" = some (some (.ref (He.ga K "OpenpostsError")))) && (decide (PySem.W.findIn K (.ref (He.ga K "OpenpostsError")) "__init__" = some (some (.ref (He.ma K (He.ga K "OpenpostsError") "__init__")))) && (decide (PySem.W.typeIn K (.ref (He.ma K (He.ga K "OpenpostsError") "__init__")) = some (.type "function")) && (decide (PySem.W.nsIn K cStatics "thirdparty.any" = some none) && (decide (PySem.W.nsIn K mainGlobals "super" = some none) && (decide (DN.fnB K (He.ma K (He.ga K "OpenpostsError") "__init__") (DN.initB PP K (He.ga K "OpenpostsError")) = true) && (decide ((PySem.W.clsIn K (He.ga K "OpenpostsError")).isSome = true) && (true)))))))
theorem ok_22 {K : PySem.W.Frag} (h : ck_22 K = true) : (PySem.W.nsIn K mainGlobals "OpenpostsError" = some (some (.ref (He.ga K "OpenpostsError")))) ∧ (PySem.W.findIn K (.ref (He.ga K "OpenpostsError")) "__init__" = some (some (.ref (He.ma K (He.ga K "OpenpostsError") "__init__")))) ∧ (PySem.W.typeIn K (.ref (He.ma K (He.ga K "OpenpostsError") "__init__")) = some (.type "function")) ∧ (PySem.W.nsIn K cStatics "thirdparty.any" = some none) ∧ (PySem.W.nsIn K mainGlobals "super" = some none) ∧ (DN.fnB K (He.ma K (He.ga K "OpenpostsError") "__init__") (DN.initB PP K (He.ga K "OpenpostsError")) = true) ∧ ((PySem.W.clsIn K (He.ga K "OpenpostsError")).isSome = true) ∧ True := by
  unfold ck_22 at h
  obtain ⟨e0, h⟩ := DN.an2 h
  obtain ⟨e1, h⟩ := DN.an2 h
  obtain ⟨e2, h⟩ := DN.an2 h
  obtain ⟨e3, h⟩ := DN.an2 h
  obtain ⟨e4, h⟩ := DN.an2 h
  obtain ⟨e5, h⟩ := DN.an2 h
  obtain ⟨e6, h⟩ := DN.an2 h
  exact ⟨e0, e1, e2, e3, e4, e5, e6, trivial⟩
def ck_23 (K : PySem.W.Frag) : Bool := decide (PySem.W.nsIn K mainGlobals "InvalidNumber" = some (some (.ref (He.ga K "InvalidNumber")))) && (decide (PySem.W.findIn K (.ref (He.ga K "InvalidNumber")) "__setattr__" = some (some (.builtin "object.__setattr__"))) && (decide (PySem.W.subIn K (.ref (He.ga K "InvalidNumber")) (.type "BaseException") = some true) && (decide (PySem.W.typeIn K (.ref (He.ga K "InvalidNumber")) = some (.type "type")) && (decide (PySem.W.keepIn K (.ref (He.ga K "InvalidNumber")) = true) && (decide (PySem.W.mroIn K (He.ga K "InvalidNumber") (.ref (He.ga K "OpenpostsError")) = some true) && (decide (PySem.W.ks_superIn K (He.ga K "InvalidNumber") (He.ga K "OpenpostsError") "__init__" = some (some (.builtin "ValueError.__init__"))) && (decide (PySem.W.subIn K (.ref (He.ga K "InvalidNumber")) (.type "ValueError") = some true) && (decide (PySem.W.findIn K (.ref (He.ga K "InvalidNumber")) "value" = some none) && (decide (PySem.W.findIn K (.ref (He.ga K "InvalidNumber")) "__getattribute__" = some (some (.builtin "BaseException.__getattribute__"))) && (decide (PySem.W.findIn K (.ref (He.ga K "InvalidNumber")) "__getattr__" = some none) && (decide (PySem.W.hasDictIn K (He.ga K "InvalidNumber") = true) && (decide (PySem.W.findIn K (.ref (He.ga K "InvalidNumber")) "__class__" = some (some (.builtin "object.__class__"))) && (decide (PySem.W.specialIn K (.builtin "object.__class__") "__get__" = some (some (.builtin "getset_descriptor.__get__"))) && (decide (PySem.W.takesIn K (.builtin "object.__class__") = some true) && (decide (PySem.W.mroIn K (He.ga K "InvalidNumber") (.type "object") = some true) && (decide (PySem.W.findIn K (.ref (He.ga K "InvalidNumber")) "__init__" = some (some (.ref (He.ma K (He.ga K "OpenpostsError") "__init__")))) && (decide (DN.excB K (He.ga K "InvalidNumber") = true) && (true))))))))))))))))))
theorem ok_23 {K : PySem.W.Frag} (h : ck_23 K = true) : (PySem.W.nsIn K mainGlobals "InvalidNumber" = some (some (.ref (He.ga K "InvalidNumber")))) ∧ (PySem.W.findIn K (.ref (He.ga K "InvalidNumber")) "__setattr__" = some (some (.builtin "object.__setattr__"))) ∧ (PySem.W.subIn K (.ref (He.ga K "InvalidNumber")) (.type "BaseException") = some true) ∧ (PySem.W.typeIn K (.ref (He.ga K "InvalidNumber")) = some (.type "type")) ∧ (PySem.W.keepIn K (.ref (He.ga K "InvalidNumber")) = true) ∧ (PySem.W.mroIn K (He.ga K "InvalidNumber") (.ref (He.ga K "OpenpostsError")) = some true) ∧ (PySem.W.ks_superIn K (He.ga K "InvalidNumber") (He.ga K "OpenpostsError") "__init__" = some (some (.builtin "ValueError.__init__"))) ∧ (PySem.W.subIn K (.ref (He.ga K "InvalidNumber")) (.type "ValueError") = some true) ∧ (PySem.W.findIn K (.ref (He.ga K "InvalidNumber")) "value" = some none) ∧ (PySem.W.findIn K (.ref (He.ga K "InvalidNumber")) "__getattribute__" = some (some (.builtin "BaseException.__getattribute__"))) ∧ (PySem.W.findIn K (.ref (He.ga K "InvalidNumber")) "__getattr__" = some none) ∧ (PySem.W.hasDictIn K (He.ga K "InvalidNumber") = true) ∧ (PySem.W.findIn K (.ref (He.ga K "InvalidNumber")) "__class__" = some (some (.builtin "object.__class__"))) ∧ (PySem.W.specialIn K (.builtin "object.__class__") "__get__" = some (some (.builtin "getset_descriptor.__get__"))) ∧ (PySem.W.takesIn K (.builtin "object.__class__") = some true) ∧ (PySem.W.mroIn K (He.ga K "InvalidNumber") (.type "object") = some true) ∧ (PySem.W.findIn K (.ref (He.ga K "InvalidNumber")) "__init__" = some (some (.ref (He.ma K (He.ga K "OpenpostsError") "__init__")))) ∧ (DN.excB K (He.ga K "InvalidNumber") = true) ∧ True := by
  unfold ck_23 at h
  obtain ⟨e0, h⟩ := DN.an2 h
  obtain ⟨e1, h⟩ := DN.an2 h
  obtain ⟨e2, h⟩ := DN.an2 h
  obtain ⟨e3, h⟩ := DN.an2 h
  obtain ⟨e4, h⟩ := DN.an2 h
  obtain ⟨e5, h⟩ := DN.an2 h
  obtain ⟨e6, h⟩ := DN.an2 h
  obtain ⟨e7, h⟩ := DN.an2 h
  obtain ⟨e8, h⟩ := DN.an2 h
  obtain ⟨e9, h⟩ := DN.an2 h
  obtain ⟨e10, h⟩ := DN.an2 h
  obtain ⟨e11, h⟩ := DN.an2 h
  obtain ⟨e12, h⟩ := DN.an2 h
  obtain ⟨e13, h⟩ := DN.an2 h
  obtain ⟨e14, h⟩ := DN.an2 h
  obtain ⟨e15, h⟩ := DN.an2 h
  obtain ⟨e16, h⟩ := DN.an2 h
  obtain ⟨e17, h⟩ := DN.an2 h
  exact ⟨e0, e1, e2, e3, e4, e5, e6, e7, e8, e9, e10, e11, e12, e13, e14, e15, e16, e17, trivial⟩
def ck_24 (K : PySem.W.Frag) : Bool := decide (PySem.W.nsIn K mainGlobals "InvalidTies" = some (some (.ref (He.ga K "InvalidTies")))) && (decide (PySem.W.findIn K (.ref (He.ga K "InvalidTies")) "__setattr__" = some (some (.builtin "object.__setattr__"))) && (decide (PySem.W.subIn K (.ref (He.ga K "InvalidTies")) (.type "BaseException") = some true) && (decide (PySem.W.typeIn K (.ref (He.ga K "InvalidTies")) = some (.type "type")) && (decide (PySem.W.keepIn K (.ref (He.ga K "InvalidTies")) = true) && (decide (PySem.W.mroIn K (He.ga K "InvalidTies") (.ref (He.ga K "OpenpostsError")) = some true) && (decide (PySem.W.ks_superIn K (He.ga K "InvalidTies") (He.ga K "OpenpostsError") "__init__" = some (some (.builtin "ValueError.__init__"))) && (decide (PySem.W.subIn K (.ref (He.ga K "InvalidTies")) (.type "ValueError") = some true) && (decide (PySem.W.findIn K (.ref (He.ga K "InvalidTies")) "value" = some none) && (decide (PySem.W.findIn K (.ref (He.ga K "InvalidTies")) "__getattribute__" = some (some (.builtin "BaseException.__getattribute__"))) && (decide (PySem.W.findIn K (.ref (He.ga K "InvalidTies")) "__getattr__" = some none) && (decide (PySem.W.hasDictIn K (He.ga K "InvalidTies") = true) && (decide (PySem.W.findIn K (.ref (He.ga K "InvalidTies")) "__class__" = some (some (.builtin "object.__class__"))) && (decide (PySem.W.specialIn K (.builtin "object.__class__") "__get__" = some (some (.builtin "getset_descriptor.__get__"))) && (decide (PySem.W.takesIn K (.builtin "object.__class__") = some true) && (decide (PySem.W.mroIn K (He.ga K "InvalidTies") (.type "object") = some true) && (decide (PySem.W.findIn K (.ref (He.ga K "InvalidTies")) "__init__" = some (some (.ref (He.ma K (He.ga K "OpenpostsError") "__init__")))) && (decide (DN.excB K (He.ga K "InvalidTies") = true) && (true))))))))))))))))))
theorem ok_24 {K : PySem.W.Frag} (h : ck_24 K = true) : (PySem.W.nsIn K mainGlobals "InvalidTies" = some (some (.ref (He.ga K "InvalidTies")))) ∧ (PySem.W.findIn K (.ref (He.ga K "InvalidTies")) "__setattr__" = some (some (.builtin "object.__setattr__"))) ∧ (PySem.W.subIn K (.ref (He.ga K "InvalidTies")) (.type "BaseException") = some true) ∧ (PySem.W.typeIn K (.ref (He.ga K "InvalidTies")) = some (.type "type")) ∧ (PySem.W.keepIn K (.ref (He.ga K "InvalidTies")) = true) ∧ (PySem.W.mroIn K (He.ga K "InvalidTies") (.ref (He.ga K "OpenpostsError")) = some true) ∧ (PySem.W.ks_superIn K (He.ga K "InvalidTies") (He.ga K "OpenpostsError") "__init__" = some (some (.builtin "ValueError.__init__"))) ∧ (PySem.W.subIn K (.ref (He.ga K "InvalidTies")) (.type "ValueError") = some true) ∧ (PySem.W.findIn K (.ref (He.ga K "InvalidTies")) "value" = some none) ∧ (PySem.W.findIn K (.ref (He.ga K "InvalidTies")) "__getattribute__" = some (some (.builtin "BaseException.__getattribute__"))) ∧ (PySem.W.findIn K (.ref (He.ga K "InvalidTies")) "__getattr__" = some none) ∧ (PySem.W.hasDictIn K (He.ga K "InvalidTies") = true) ∧ (PySem.W.findIn K (.ref (He.ga K "InvalidTies")) "__class__" = some (some (.builtin "object.__class__"))) ∧ (PySem.W.specialIn K (.builtin "object.__class__") "__get__" = some (some (.builtin "getset_descriptor.__get__"))) ∧ (PySem.W.takesIn K (.builtin "object.__class__") = some true) ∧ (PySem.W.mroIn K (He.ga K "InvalidTies") (.type "object") = some true) ∧ (PySem.W.findIn K (.ref (He.ga K "InvalidTies")) "__init__" = some (some (.ref (He.ma K (He.ga K "OpenpostsError") "__init__")))) ∧ (DN.excB K (He.ga K "InvalidTies") = true) ∧ True := by
  unfold ck_24 at h
  obtain ⟨e0, h⟩ := DN.an2 h
  obtain ⟨e1, h⟩ := DN.an2 h
  obtain ⟨e2, h⟩ := DN.an2 h
  obtain ⟨e3, h⟩ := DN.an2 h
  obtain ⟨e4, h⟩ := DN.an2 h
  obtain ⟨e5, h⟩ := DN.an2 h
  obtain ⟨e6, h⟩ := DN.an2 h
  obtain ⟨e7, h⟩ := DN.an2 h
  obtain ⟨e8, h⟩ := DN.an2 h
  obtain ⟨e9, h⟩ := DN.an2 h
  obtain ⟨e10, h⟩ := DN.an2 h
  obtain ⟨e11, h⟩ := DN.an2 h
  obtain ⟨e12, h⟩ := DN.an2 h
  obtain ⟨e13, h⟩ := DN.an2 h
  obtain ⟨e14, h⟩ := DN.an2 h
  obtain ⟨e15, h⟩ := DN.an2 h
  obtain ⟨e16, h⟩ := DN.an2 h
  obtain ⟨e17, h⟩ := DN.an2 h
  exact ⟨e0, e1, e2, e3, e4, e5, e6, e7, e8, e9, e10, e11, e12, e13, e14, e15, e16, e17, trivial⟩
def ck_25 (K : PySem.W.Frag) : Bool := decide (PySem.W.nsIn K mainGlobals "InvalidHouse" = some (some (.ref (He.ga K "InvalidHouse")))) && (decide (PySem.W.findIn K (.ref (He.ga K "InvalidHouse")) "__setattr__" = some (some (.builtin "object.__setattr__"))) && (decide (PySem.W.subIn K (.ref (He.ga K "InvalidHouse")) (.type "BaseException") = some true) && (decide (PySem.W.typeIn K (.ref (He.ga K "InvalidHouse")) = some (.type "type")) && (decide (PySem.W.keepIn K (.ref (He.ga K "InvalidHouse")) = true) && (decide (PySem.W.mroIn K (He.ga K "InvalidHouse") (.ref (He.ga K "OpenpostsError")) = some true) && (decide (PySem.W.ks_superIn K (He.ga K "InvalidHouse") (He.ga K "OpenpostsError") "__init__" = some (some (.builtin "ValueError.__init__"))) && (decide (PySem.W.subIn K (.ref (He.ga K "InvalidHouse")) (.type "ValueError") = some true) && (decide (PySem.W.findIn K (.ref (He.ga K "InvalidHouse")) "value" = some none) && (decide (PySem.W.findIn K (.ref (He.ga K "InvalidHouse")) "__getattribute__" = some (some (.builtin "BaseException.__getattribute__"))) && (decide (PySem.W.findIn K (.ref (He.ga K "InvalidHouse")) "__getattr__" = some none) && (decide (PySem.W.hasDictIn K (He.ga K "InvalidHouse") = true) && (decide (PySem.W.findIn K (.ref (He.ga K "InvalidHouse")) "__class__" = some (some (.builtin "object.__class__"))) && (decide (PySem.W.specialIn K (.builtin "object.__class__") "__get__" = some (some (.builtin "getset_descriptor.__get__"))) && (decide (PySem.W.takesIn K (.builtin "object.__class__") = some true) && (decide (PySem.W.mroIn K (He.ga K "InvalidHouse") (.type "object") = some true) && (decide (PySem.W.findIn K (.ref (He.ga K "InvalidHouse")) "__init__" = some (some (.ref (He.ma K (He.ga K "OpenpostsError") "__init__")))) && (decide (DN.excB K (He.ga K "InvalidHouse") = true) && (true))))))))))))))))))
theorem ok_25 {K : PySem.W.Frag} (h : ck_25 K = true) : (PySem.W.nsIn K mainGlobals "InvalidHouse" = some (some (.ref (He.ga K "InvalidHouse")))) ∧ (PySem.W.findIn K (.ref (He.ga K "InvalidHouse")) "__setattr__" = some (some (.builtin "object.__setattr__"))) ∧ (PySem.W.subIn K (.ref (He.ga K "InvalidHouse")) (.type "BaseException") = some true) ∧ (PySem.W.typeIn K (.ref (He.ga K "InvalidHouse")) = some (.type "type")) ∧ (PySem.W.keepIn K (.ref (He.ga K "InvalidHouse")) = true) ∧ (PySem.W.mroIn K (He.ga K "InvalidHouse") (.ref (He.ga K "OpenpostsError")) = some true) ∧ (PySem.W.ks_superIn K (He.ga K "InvalidHouse") (He.ga K "OpenpostsError") "__init__" = some (some (.builtin "ValueError.__init__"))) ∧ (PySem.W.subIn K (.ref (He.ga K "InvalidHouse")) (.type "ValueError") = some true) ∧ (PySem.W.findIn K (.ref (He.ga K "InvalidHouse")) "value" = some none) ∧ (PySem.W.findIn K (.ref (He.ga K "InvalidHouse")) "__getattribute__" = some (some (.builtin "BaseException.__getattribute__"))) ∧ (PySem.W.findIn K (.ref (He.ga K "InvalidHouse")) "__getattr__" = some none) ∧ (PySem.W.hasDictIn K (He.ga K "InvalidHouse") = true) ∧ (PySem.W.findIn K (.ref (He.ga K "InvalidHouse")) "__class__" = some (some (.builtin "object.__class__"))) ∧ (PySem.W.specialIn K (.builtin "object.__class__") "__get__" = some (some (.builtin "getset_descriptor.__get__"))) ∧ (PySem.W.takesIn K (.builtin "object.__class__") = some true) ∧ (PySem.W.mroIn K (He.ga K "InvalidHouse") (.type "object") = some true) ∧ (PySem.W.findIn K (.ref (He.ga K "InvalidHouse")) "__init__" = some (some (.ref (He.ma K (He.ga K "OpenpostsError") "__init__")))) ∧ (DN.excB K (He.ga K "InvalidHouse") = true) ∧ True := by
  unfold ck_25 at h
  obtain ⟨e0, h⟩ := DN.an2 h
  obtain ⟨e1, h⟩ := DN.an2 h
  obtain ⟨e2, h⟩ := DN.an2 h
  obtain ⟨e3, h⟩ := DN.an2 h
  obtain ⟨e4, h⟩ := DN.an2 h
  obtain ⟨e5, h⟩ := DN.an2 h
  obtain ⟨e6, h⟩ := DN.an2 h
  obtain ⟨e7, h⟩ := DN.an2 h
  obtain ⟨e8, h⟩ := DN.an2 h
  obtain ⟨e9, h⟩ := DN.an2 h
  obtain ⟨e10, h⟩ := DN.an2 h
  obtain ⟨e11, h⟩ := DN.an2 h
  obtain ⟨e12, h⟩ := DN.an2 h
  obtain ⟨e13, h⟩ := DN.an2 h
  obtain ⟨e14, h⟩ := DN.an2 h
  obtain ⟨e15, h⟩ := DN.an2 h
  obtain ⟨e16, h⟩ := DN.an2 h
  obtain ⟨e17, h⟩ := DN.an2 h
  exact ⟨e0, e1, e2, e3, e4, e5, e6, e7, e8, e9, e10, e11, e12, e13, e14, e15, e16, e17, trivial⟩
def ck_26 (K : PySem.W.Frag) : Bool := decide (PySem.W.nsIn K mainGlobals "InvalidTie" = some (some (.ref (He.ga K "InvalidTie")))) && (decide (PySem.W.findIn K (.ref (He.ga K "InvalidTie")) "__setattr__" = some (some (.builtin "object.__setattr__"))) && (decide (PySem.W.subIn K (.ref (He.ga K "InvalidTie")) (.type "BaseException") = some true) && (decide (PySem.W.typeIn K (.ref (He.ga K "InvalidTie")) = some (.type "type")) && (decide (PySem.W.keepIn K (.ref (He.ga K "InvalidTie")) = true) && (decide (PySem.W.mroIn K (He.ga K "InvalidTie") (.ref (He.ga K "OpenpostsError")) = some true) && (decide (PySem.W.ks_superIn K (He.ga K "InvalidTie") (He.ga K "OpenpostsError") "__init__" = some (some (.builtin "ValueError.__init__"))) && (decide (PySem.W.subIn K (.ref (He.ga K "InvalidTie")) (.type "ValueError") = some true) && (decide (PySem.W.findIn K (.ref (He.ga K "InvalidTie")) "value" = some none) && (decide (PySem.W.findIn K (.ref (He.ga K "InvalidTie")) "__getattribute__" = some (some (.builtin "BaseException.__getattribute__"))) && (decide (PySem.W.findIn K (.ref (He.ga K "InvalidTie")) "__getattr__" = some none) && (decide (PySem.W.hasDictIn K (He.ga K "InvalidTie") = true) && (decide (PySem.W.findIn K (.ref (He.ga K "InvalidTie")) "__class__" = some (some (.builtin "object.__class__"))) && (decide (PySem.W.specialIn K (.builtin "object.__class__") "__get__" = some (some (.builtin "getset_descriptor.__get__"))) && (decide (PySem.W.takesIn K (.builtin "object.__class__") = some true) && (decide (PySem.W.mroIn K (He.ga K "InvalidTie") (.type "object") = some true) && (decide (PySem.W.findIn K (.ref (He.ga K "InvalidTie")) "__init__" = some (some (.ref (He.ma K (He.ga K "OpenpostsError") "__init__")))) && (decide (DN.excB K (He.ga K "InvalidTie") = true) && (true))))))))))))))))))
theorem ok_26 {K : PySem.W.Frag} (h : ck_26 K = true) : (PySem.W.nsIn K mainGlobals "InvalidTie" = some (some (.ref (He.ga K "InvalidTie")))) ∧ (PySem.W.findIn K (.ref (He.ga K "InvalidTie")) "__setattr__" = some (some (.builtin "object.__setattr__"))) ∧ (PySem.W.subIn K (.ref (He.ga K "InvalidTie")) (.type "BaseException") = some true) ∧ (PySem.W.typeIn K (.ref (He.ga K "InvalidTie")) = some (.type "type")) ∧ (PySem.W.keepIn K (.ref (He.ga K "InvalidTie")) = true) ∧ (PySem.W.mroIn K (He.ga K "InvalidTie") (.ref (He.ga K "OpenpostsError")) = some true) ∧ (PySem.W.ks_superIn K (He.ga K "InvalidTie") (He.ga K "OpenpostsError") "__init__" = some (some (.builtin "ValueError.__init__"))) ∧ (PySem.W.subIn K (.ref (He.ga K "InvalidTie")) (.type "ValueError") = some true) ∧ (PySem.W.findIn K (.ref (He.ga K "InvalidTie")) "value" = some none) ∧ (PySem.W.findIn K (.ref (He.ga K "InvalidTie")) "__getattribute__" = some (some (.builtin "BaseException.__getattribute__"))) ∧ (PySem.W.findIn K (.ref (He.ga K "InvalidTie")) "__getattr__" = some none) ∧ (PySem.W.hasDictIn K (He.ga K "InvalidTie") = true) ∧ (PySem.W.findIn K (.ref (He.ga K "InvalidTie")) "__class__" = some (some (.builtin "object.__class__"))) ∧ (PySem.W.specialIn K (.builtin "object.__class__") "__get__" = some (some (.builtin "getset_descriptor.__get__"))) ∧ (PySem.W.takesIn K (.builtin "object.__class__") = some true) ∧ (PySem.W.mroIn K (He.ga K "InvalidTie") (.type "object") = some true) ∧ (PySem.W.findIn K (.ref (He.ga K "InvalidTie")) "__init__" = some (some (.ref (He.ma K (He.ga K "OpenpostsError") "__init__")))) ∧ (DN.excB K (He.ga K "InvalidTie") = true) ∧ True := by
  unfold ck_26 at h
  obtain ⟨e0, h⟩ := DN.an2 h
  obtain ⟨e1, h⟩ := DN.an2 h
  obtain ⟨e2, h⟩ := DN.an2 h
  obtain ⟨e3, h⟩ := DN.an2 h
  obtain ⟨e4, h⟩ := DN.an2 h
  obtain ⟨e5, h⟩ := DN.an2 h
  obtain ⟨e6, h⟩ := DN.an2 h
  obtain ⟨e7, h⟩ := DN.an2 h
  obtain ⟨e8, h⟩ := DN.an2 h
  obtain ⟨e9, h⟩ := DN.an2 h
  obtain ⟨e10, h⟩ := DN.an2 h
  obtain ⟨e11, h⟩ := DN.an2 h
  obtain ⟨e12, h⟩ := DN.an2 h
  obtain ⟨e13, h⟩ := DN.an2 h
  obtain ⟨e14, h⟩ := DN.an2 h
  obtain ⟨e15, h⟩ := DN.an2 h
  obtain ⟨e16, h⟩ := DN.an2 h
  obtain ⟨e17, h⟩ := DN.an2 h
  exact ⟨e0, e1, e2, e3, e4, e5, e6, e7, e8, e9, e10, e11, e12, e13, e14, e15, e16, e17, trivial⟩
def ck_27 (K : PySem.W.Frag) : Bool := decide (PySem.W.nsIn K mainGlobals "isinstance" = some none) && (decide (PySem.W.nsIn K mainGlobals "int" = some none) && (decide (PySem.W.nsIn K mainGlobals "bool" = some none) && (decide (PySem.W.nsIn K mainGlobals "len" = some none) && (decide (PySem.W.nsIn K mainGlobals "tuple" = some none) && (decide (PySem.W.nsIn K mainGlobals "min" = some none) && (decide (PySem.W.nsIn K mainGlobals "max" = some none) && (decide (PySem.W.nsIn K mainGlobals "range" = some none) && (decide (PySem.W.nsIn K mainGlobals "sorted" = some none) && (decide (PySem.W.nsIn K mainGlobals "all" = some none) && (decide (PySem.W.nsIn K mainGlobals "set" = some none) && (decide (PySem.W.nsIn K mainGlobals "list" = some none) && (true))))))))))))
theorem ok_27 {K : PySem.W.Frag} (h : ck_27 K = true) : (PySem.W.nsIn K mainGlobals "isinstance" = some none) ∧ (PySem.W.nsIn K mainGlobals "int" = some none) ∧ (PySem.W.nsIn K mainGlobals "bool" = some none) ∧ (PySem.W.nsIn K mainGlobals "len" = some none) ∧ (PySem.W.nsIn K mainGlobals "tuple" = some none) ∧ (PySem.W.nsIn K mainGlobals "min" = some none) ∧ (PySem.W.nsIn K mainGlobals "max" = some none) ∧ (PySem.W.nsIn K mainGlobals "range" = some none) ∧ (PySem.W.nsIn K mainGlobals "sorted" = some none) ∧ (PySem.W.nsIn K mainGlobals "all" = some none) ∧ (PySem.W.nsIn K mainGlobals "set" = some none) ∧ (PySem.W.nsIn K mainGlobals "list" = some none) ∧ True := by
  unfold ck_27 at h
  obtain ⟨e0, h⟩ := DN.an2 h
  obtain ⟨e1, h⟩ := DN.an2 h
  obtain ⟨e2, h⟩ := DN.an2 h
  obtain ⟨e3, h⟩ := DN.an2 h
  obtain ⟨e4, h⟩ := DN.an2 h
  obtain ⟨e5, h⟩ := DN.an2 h
  obtain ⟨e6, h⟩ := DN.an2 h
  obtain ⟨e7, h⟩ := DN.an2 h
  obtain ⟨e8, h⟩ := DN.an2 h
  obtain ⟨e9, h⟩ := DN.an2 h
  obtain ⟨e10, h⟩ := DN.an2 h
  obtain ⟨e11, h⟩ := DN.an2 h
  exact ⟨e0, e1, e2, e3, e4, e5, e6, e7, e8, e9, e10, e11, trivial⟩
def ck_28 (K : PySem.W.Frag) : Bool := decide (PySem.W.nsIn K mainGlobals "repr" = some none) && (decide ((K.lookup sysModules).isSome = true) && (decide (PySem.W.exmOne K (.ref (He.ga K "InvalidNumber")) (.ref (He.ga K "InvalidHouse")) = some false) && (decide (PySem.W.exmOne K (.ref (He.ga K "InvalidNumber")) (.ref (He.ga K "InvalidTie")) = some false) && (decide (PySem.W.exmOne K (.ref (He.ga K "InvalidNumber")) (.ref (He.ga K "OpenpostsError")) = some true) && (decide (PySem.W.exmOne K (.ref (He.ga K "InvalidTies")) (.ref (He.ga K "InvalidHouse")) = some false) && (decide (PySem.W.exmOne K (.ref (He.ga K "InvalidTies")) (.ref (He.ga K "InvalidTie")) = some false) && (decide (PySem.W.exmOne K (.ref (He.ga K "InvalidTies")) (.ref (He.ga K "OpenpostsError")) = some true) && (decide (PySem.W.exmOne K (.ref (He.ga K "InvalidHouse")) (.ref (He.ga K "InvalidHouse")) = some true) && (decide (PySem.W.exmOne K (.ref (He.ga K "InvalidHouse")) (.ref (He.ga K "InvalidTie")) = some false) && (decide (PySem.W.exmOne K (.ref (He.ga K "InvalidHouse")) (.ref (He.ga K "OpenpostsError")) = some true) && (decide (PySem.W.exmOne K (.ref (He.ga K "InvalidTie")) (.ref (He.ga K "InvalidHouse")) = some false) && (true))))))))))))
theorem ok_28 {K : PySem.W.Frag} (h : ck_28 K = true) : (PySem.W.nsIn K mainGlobals "repr" = some none) ∧ ((K.lookup sysModules).isSome = true) ∧ (PySem.W.exmOne K (.ref (He.ga K "InvalidNumber")) (.ref (He.ga K "InvalidHouse")) = some false) ∧ (PySem.W.exmOne K (.ref (He.ga K "InvalidNumber")) (.ref (He.ga K "InvalidTie")) = some false) ∧ (PySem.W.exmOne K (.ref (He.ga K "InvalidNumber")) (.ref (He.ga K "OpenpostsError")) = some true) ∧ (PySem.W.exmOne K (.ref (He.ga K "InvalidTies")) (.ref (He.ga K "InvalidHouse")) = some false) ∧ (PySem.W.exmOne K (.ref (He.ga K "InvalidTies")) (.ref (He.ga K "InvalidTie")) = some false) ∧ (PySem.W.exmOne K (.ref (He.ga K "InvalidTies")) (.ref (He.ga K "OpenpostsError")) = some true) ∧ (PySem.W.exmOne K (.ref (He.ga K "InvalidHouse")) (.ref (He.ga K "InvalidHouse")) = some true) ∧ (PySem.W.exmOne K (.ref (He.ga K "InvalidHouse")) (.ref (He.ga K "InvalidTie")) = some false) ∧ (PySem.W.exmOne K (.ref (He.ga K "InvalidHouse")) (.ref (He.ga K "OpenpostsError")) = some true) ∧ (PySem.W.exmOne K (.ref (He.ga K "InvalidTie")) (.ref (He.ga K "InvalidHouse")) = some false) ∧ True := by
  unfold ck_28 at h
  obtain ⟨e0, h⟩ := DN.an2 h
  obtain ⟨e1, h⟩ := DN.an2 h
  obtain ⟨e2, h⟩ := DN.an2 h
  obtain ⟨e3, h⟩ := DN.an2 h
  obtain ⟨e4, h⟩ := DN.an2 h
  obtain ⟨e5, h⟩ := DN.an2 h
  obtain ⟨e6, h⟩ := DN.an2 h
  obtain ⟨e7, h⟩ := DN.an2 h
  obtain ⟨e8, h⟩ := DN.an2 h
  obtain ⟨e9, h⟩ := DN.an2 h
  obtain ⟨e10, h⟩ := DN.an2 h
  obtain ⟨e11, h⟩ := DN.an2 h
  exact ⟨e0, e1, e2, e3, e4, e5, e6, e7, e8, e9, e10, e11, trivial⟩
def ck_29 (K : PySem.W.Frag) : Bool := decide (PySem.W.exmOne K (.ref (He.ga K "InvalidTie")) (.ref (He.ga K "InvalidTie")) = some true) && (decide (PySem.W.exmOne K (.ref (He.ga K "InvalidTie")) (.ref (He.ga K "OpenpostsError")) = some true) && (true))
theorem ok_29 {K : PySem.W.Frag} (h : ck_29 K = true) : (PySem.W.exmOne K (.ref (He.ga K "InvalidTie")) (.ref (He.ga K "InvalidTie")) = some true) ∧ (PySem.W.exmOne K (.ref (He.ga K "InvalidTie")) (.ref (He.ga K "OpenpostsError")) = some true) ∧ True := by
  unfold ck_29 at h
  obtain ⟨e0, h⟩ := DN.an2 h
  obtain ⟨e1, h⟩ := DN.an2 h
  exact ⟨e0, e1, trivial⟩
def exs (K : PySem.W.Frag) : List Bool := [ck_0 K, ck_1 K, ck_2 K, ck_3 K, ck_4 K, ck_5 K, ck_6 K, ck_7 K, ck_8 K, ck_9 K, ck_10 K, ck_11 K, ck_12 K, ck_13 K, ck_14 K, ck_15 K, ck_16 K, ck_17 K, ck_18 K, ck_19 K, ck_20 K, ck_21 K, ck_22 K, ck_23 K, ck_24 K, ck_25 K, ck_26 K, ck_27 K, ck_28 K, ck_29 K]
def fns : List DN.FnX := [
  ⟨fun K => (He.ga K "is_integer"), "is_integer", "is_integer", defArgs s_is_integer, defBody s_is_integer, defScope s_is_integer, []⟩,
  ⟨fun K => (He.ga K "check_number"), "check_number", "check_number", defArgs s_check_number, defBody s_check_number, defScope s_check_number, []⟩,
  ⟨fun K => (He.ma K (He.ga K "Web") "__len__"), "__len__", "Web.__len__", defArgs s_Web_len, defBody s_Web_len, defScope s_Web_len, []⟩,
  ⟨fun K => (He.ga K "is_house"), "is_house", "is_house", defArgs s_is_house, defBody s_is_house, defScope s_is_house, []⟩,
  ⟨fun K => (He.ga K "is_tie"), "is_tie", "is_tie", defArgs s_is_tie, defBody s_is_tie, defScope s_is_tie, []⟩,
  ⟨fun K => (He.ga K "tie_of"), "tie_of", "tie_of", defArgs s_tie_of, defBody s_tie_of, defScope s_tie_of, []⟩,
  ⟨fun K => (He.ga K "beside_of"), "beside_of", "beside_of", defArgs s_beside_of, defBody s_beside_of, defScope s_beside_of, []⟩,
  ⟨fun K => (He.ma K (He.ga K "Web") "__init__"), "__init__", "Web.__init__", defArgs s_Web_init, defBody s_Web_init, defScope s_Web_init, []⟩,
  ⟨fun K => (He.ma K (He.ga K "Web") "__eq__"), "__eq__", "Web.__eq__", defArgs s_Web_eq, defBody s_Web_eq, defScope s_Web_eq, []⟩,
  ⟨fun K => (He.ga K "_law_box"), "_law_box", "_law_box", defArgs s_law_box, defBody s_law_box, defScope s_law_box, []⟩,
  ⟨fun K => (He.ga K "_law_take"), "_law_take", "_law_take", defArgs s_law_take, defBody s_law_take, defScope s_law_take, []⟩,
  ⟨fun K => (He.ga K "_law_ties"), "_law_ties", "_law_ties", defArgs s_law_ties, defBody s_law_ties, defScope s_law_ties, []⟩,
  ⟨fun K => (He.ga K "_law_cell_at"), "_law_cell_at", "_law_cell_at", defArgs s_law_cell_at, defBody s_law_cell_at, defScope s_law_cell_at, []⟩,
  ⟨fun K => (He.ma K (He.ga K "Web") "check_house"), "check_house", "Web.check_house", defArgs s_Web_check_house, defBody s_Web_check_house, defScope s_Web_check_house, []⟩,
  ⟨fun K => (He.ma K (He.ga K "Web") "untied"), "untied", "Web.untied", defArgs s_Web_untied, defBody s_Web_untied, defScope s_Web_untied, []⟩,
  ⟨fun K => (He.ma K (He.ga K "Web") "tied"), "tied", "Web.tied", defArgs s_Web_tied, defBody s_Web_tied, defScope s_Web_tied, []⟩,
  ⟨fun K => (He.ma K (He.ga K "Web") "neighbors"), "neighbors", "Web.neighbors", defArgs s_Web_neighbors, defBody s_Web_neighbors, defScope s_Web_neighbors, []⟩,
  ⟨fun K => (He.ga K "_law_caught"), "_law_caught", "_law_caught", defArgs s_law_caught, defBody s_law_caught, defScope s_law_caught, []⟩,
  ⟨fun K => (He.ga K "_law_due"), "_law_due", "_law_due", defArgs s_law_due, defBody s_law_due, defScope s_law_due, []⟩,
  ⟨fun K => (He.ga K "law"), "law", "law", defArgs s_law, defBody s_law, defScope s_law, []⟩,
  ⟨fun K => (He.ma K (He.ga K "OpenpostsError") "__init__"), "__init__", "OpenpostsError.__init__", defArgs s_init, defBody s_init, defScope s_init, ["__class__"]⟩]
def tabs : List He.Tab := []
theorem told {w : World} {K : PySem.W.Frag} {h : Heap} {mg : Str → Option Value} {fa : Addr} (X : K.In h) (G : h.Ns mainGlobals mg) (hfa : mg "law" = some (.ref fa)) (c : DN.SaysZ exs fns tabs w K) :
    ∃ fd : FuncData, (∀ (s : Shared) (v : Value), BindsTo s fd ⟨[v], []⟩ [("_law_script", v)]) ∧ ∀ base : Heap, K.In base → base.Ns mainGlobals mg → DN.FnG true PP w K mg base (L2.CX PP w) 9 fa fd ["_law_script"] (DN.spLaw K) := by
  obtain ⟨cg_Web, c1_Web, c2_Web, c3_Web, c4_Web, i1_Web, i2_Web, i3_Web, i4_Web, kk_Web, kc_Web, na_Web_houses, na_Web_ties, na_Web_known, na_Web_beside, kb_Web_bool, kb_Web_int, kb_Web_str, kb_Web_list, kb_Web_tuple, kb_Web_dict, -⟩ := ok_0 (c.b 0 rfl)
  obtain ⟨a1, k1, fb1, -⟩ := ok_1 (c.b 1 rfl)
  obtain ⟨oc1, od1, sl1, kV1, dc1, pm1, an1, cd1, ct1, l1, c1, oo1⟩ := DN.fn0_ok (c.fn 0 rfl : DN.FnIs K (He.ga K "is_integer") "is_integer" "is_integer" (defArgs s_is_integer) (defBody s_is_integer) (defScope s_is_integer) []) fb1
  obtain ⟨a2, k2, fb2, -⟩ := ok_2 (c.b 2 rfl)
  obtain ⟨oc2, od2, sl2, kV2, dc2, pm2, an2, cd2, ct2, l2, c2, oo2⟩ := DN.fn0_ok (c.fn 1 rfl : DN.FnIs K (He.ga K "check_number") "check_number" "check_number" (defArgs s_check_number) (defBody s_check_number) (defScope s_check_number) []) fb2
  obtain ⟨a3, fi3, fn3, k3, fb3, -⟩ := ok_3 (c.b 3 rfl)
  obtain ⟨oc3, od3, sl3, kV3, dc3, pm3, an3, cd3, ct3, l3, c3, oo3⟩ := DN.fn0_ok (c.fn 2 rfl : DN.FnIs K (He.ma K (He.ga K "Web") "__len__") "__len__" "Web.__len__" (defArgs s_Web_len) (defBody s_Web_len) (defScope s_Web_len) []) fb3
  obtain ⟨a4, k4, fb4, -⟩ := ok_4 (c.b 4 rfl)
  obtain ⟨oc4, od4, sl4, kV4, dc4, pm4, an4, cd4, ct4, l4, c4, oo4⟩ := DN.fn0_ok (c.fn 3 rfl : DN.FnIs K (He.ga K "is_house") "is_house" "is_house" (defArgs s_is_house) (defBody s_is_house) (defScope s_is_house) []) fb4
  obtain ⟨a5, k5, fb5, -⟩ := ok_5 (c.b 5 rfl)
  obtain ⟨oc5, od5, sl5, kV5, dc5, pm5, an5, cd5, ct5, l5, c5, oo5⟩ := DN.fn0_ok (c.fn 4 rfl : DN.FnIs K (He.ga K "is_tie") "is_tie" "is_tie" (defArgs s_is_tie) (defBody s_is_tie) (defScope s_is_tie) []) fb5
  obtain ⟨a6, k6, fb6, -⟩ := ok_6 (c.b 6 rfl)
  obtain ⟨oc6, od6, sl6, kV6, dc6, pm6, an6, cd6, ct6, l6, c6, oo6⟩ := DN.fn0_ok (c.fn 5 rfl : DN.FnIs K (He.ga K "tie_of") "tie_of" "tie_of" (defArgs s_tie_of) (defBody s_tie_of) (defScope s_tie_of) []) fb6
  obtain ⟨a7, k7, fb7, -⟩ := ok_7 (c.b 7 rfl)
  obtain ⟨oc7, od7, sl7, kV7, dc7, pm7, an7, cd7, ct7, l7, c7, oo7⟩ := DN.fn0_ok (c.fn 6 rfl : DN.FnIs K (He.ga K "beside_of") "beside_of" "beside_of" (defArgs s_beside_of) (defBody s_beside_of) (defScope s_beside_of) []) fb7
  obtain ⟨a8, fn8, mm8, mk8, k8, fb8, -⟩ := ok_8 (c.b 8 rfl)
  obtain ⟨oc8, od8, sl8, kV8, dc8, pm8, an8, cd8, ct8, dT8, de8, _, _, _, _, _, _, l8, c8, dl8, dm8⟩ := DN.fnT_ok (c.fn 7 rfl : DN.FnIs K (He.ma K (He.ga K "Web") "__init__") "__init__" "Web.__init__" (defArgs s_Web_init) (defBody s_Web_init) (defScope s_Web_init) []) fb8
  obtain ⟨a9, fn9, k9, oeb9, fb9, -⟩ := ok_9 (c.b 9 rfl)
  obtain ⟨_, _, _, _, _, _, _, _, _, _, _, _, _, _, _, _, oa9, ob9, oc9_, od9_⟩ := DN.ownEqB_ok oeb9
  obtain ⟨oc9, od9, sl9, kV9, dc9, pm9, an9, cd9, ct9, l9, c9, oo9⟩ := DN.fn0_ok (c.fn 8 rfl : DN.FnIs K (He.ma K (He.ga K "Web") "__eq__") "__eq__" "Web.__eq__" (defArgs s_Web_eq) (defBody s_Web_eq) (defScope s_Web_eq) []) fb9
  obtain ⟨a10, k10, fb10, -⟩ := ok_10 (c.b 10 rfl)
  obtain ⟨oc10, od10, sl10, kV10, dc10, pm10, an10, cd10, ct10, l10, c10, oo10⟩ := DN.fn0_ok (c.fn 9 rfl : DN.FnIs K (He.ga K "_law_box") "_law_box" "_law_box" (defArgs s_law_box) (defBody s_law_box) (defScope s_law_box) []) fb10
  obtain ⟨a11, k11, fb11, -⟩ := ok_11 (c.b 11 rfl)
  obtain ⟨oc11, od11, sl11, kV11, dc11, pm11, an11, cd11, ct11, l11, c11, oo11⟩ := DN.fn0_ok (c.fn 10 rfl : DN.FnIs K (He.ga K "_law_take") "_law_take" "_law_take" (defArgs s_law_take) (defBody s_law_take) (defScope s_law_take) []) fb11
  obtain ⟨a12, k12, fb12, -⟩ := ok_12 (c.b 12 rfl)
  obtain ⟨oc12, od12, sl12, kV12, dc12, pm12, an12, cd12, ct12, l12, c12, oo12⟩ := DN.fn0_ok (c.fn 11 rfl : DN.FnIs K (He.ga K "_law_ties") "_law_ties" "_law_ties" (defArgs s_law_ties) (defBody s_law_ties) (defScope s_law_ties) []) fb12
  obtain ⟨a13, k13, fb13, -⟩ := ok_13 (c.b 13 rfl)
  obtain ⟨oc13, od13, sl13, kV13, dc13, pm13, an13, cd13, ct13, l13, c13, oo13⟩ := DN.fn0_ok (c.fn 12 rfl : DN.FnIs K (He.ga K "_law_cell_at") "_law_cell_at" "_law_cell_at" (defArgs s_law_cell_at) (defBody s_law_cell_at) (defScope s_law_cell_at) []) fb13
  obtain ⟨a14, fn14, k14, fb14, -⟩ := ok_14 (c.b 14 rfl)
  obtain ⟨oc14, od14, sl14, kV14, dc14, pm14, an14, cd14, ct14, l14, c14, oo14⟩ := DN.fn0_ok (c.fn 13 rfl : DN.FnIs K (He.ma K (He.ga K "Web") "check_house") "check_house" "Web.check_house" (defArgs s_Web_check_house) (defBody s_Web_check_house) (defScope s_Web_check_house) []) fb14
  obtain ⟨a15, fn15, k15, fb15, -⟩ := ok_15 (c.b 15 rfl)
  obtain ⟨oc15, od15, sl15, kV15, dc15, pm15, an15, cd15, ct15, l15, c15, oo15⟩ := DN.fn0_ok (c.fn 14 rfl : DN.FnIs K (He.ma K (He.ga K "Web") "untied") "untied" "Web.untied" (defArgs s_Web_untied) (defBody s_Web_untied) (defScope s_Web_untied) []) fb15
  obtain ⟨a16, fn16, k16, fb16, -⟩ := ok_16 (c.b 16 rfl)
  obtain ⟨oc16, od16, sl16, kV16, dc16, pm16, an16, cd16, ct16, l16, c16, oo16⟩ := DN.fn0_ok (c.fn 15 rfl : DN.FnIs K (He.ma K (He.ga K "Web") "tied") "tied" "Web.tied" (defArgs s_Web_tied) (defBody s_Web_tied) (defScope s_Web_tied) []) fb16
  obtain ⟨a17, fn17, k17, fb17, -⟩ := ok_17 (c.b 17 rfl)
  obtain ⟨oc17, od17, sl17, kV17, dc17, pm17, an17, cd17, ct17, l17, c17, oo17⟩ := DN.fn0_ok (c.fn 16 rfl : DN.FnIs K (He.ma K (He.ga K "Web") "neighbors") "neighbors" "Web.neighbors" (defArgs s_Web_neighbors) (defBody s_Web_neighbors) (defScope s_Web_neighbors) []) fb17
  obtain ⟨a18, k18, fb18, -⟩ := ok_18 (c.b 18 rfl)
  obtain ⟨oc18, od18, sl18, kV18, dc18, pm18, an18, cd18, ct18, l18, c18, oo18⟩ := DN.fn0_ok (c.fn 17 rfl : DN.FnIs K (He.ga K "_law_caught") "_law_caught" "_law_caught" (defArgs s_law_caught) (defBody s_law_caught) (defScope s_law_caught) []) fb18
  obtain ⟨a19, k19, fb19, -⟩ := ok_19 (c.b 19 rfl)
  obtain ⟨oc19, od19, sl19, kV19, dc19, pm19, an19, cd19, ct19, l19, c19, oo19⟩ := DN.fn0_ok (c.fn 18 rfl : DN.FnIs K (He.ga K "_law_due") "_law_due" "_law_due" (defArgs s_law_due) (defBody s_law_due) (defScope s_law_due) []) fb19
  obtain ⟨a20, k20, fb20, -⟩ := ok_20 (c.b 20 rfl)
  obtain ⟨oc20, od20, sl20, kV20, dc20, pm20, an20, cd20, ct20, l20, c20, oo20⟩ := DN.fn0_ok (c.fn 19 rfl : DN.FnIs K (He.ga K "law") "law" "law" (defArgs s_law) (defBody s_law) (defScope s_law) []) fb20
  obtain ⟨b_cst0, -⟩ := ok_21 (c.b 21 rfl)
  obtain ⟨_, cst0⟩ := DN.conI_ok b_cst0
  obtain ⟨D0a, D0b, D0t, D0o, D0s, D0B, D0C, -⟩ := ok_22 (c.b 22 rfl)
  obtain ⟨cc, cda, ocI, odI, slI, kVI, dcI, pmI, anI, ctI, cl0, cld0, csl0, ccl0, cdd0, cvs0, ccs0, file0, tf0, D0l, D0c, D0e, D0f, D0g, D0h⟩ := DN.init_ok (c.fn 20 rfl : DN.FnIs K (He.ma K (He.ga K "OpenpostsError") "__init__") "__init__" "OpenpostsError.__init__" (defArgs s_init) (defBody s_init) (defScope s_init) ["__class__"]) D0B
  obtain ⟨cdD0, D0i⟩ := Option.isSome_iff_exists.mp D0C
  obtain ⟨x0a, x0d, x0e, x0f, x0g, x0h, x0i, x0j, x0k, x0l, x0m, x0n, x0o, x0p, x0q, x0r, x0s, x0B, -⟩ := ok_23 (c.b 23 rfl)
  obtain ⟨_, _, _, _, x0bm, _, _, _, _, _, _, _, _, _, _, x0b, x0c⟩ := DN.excB_ok x0B
  obtain ⟨x1a, x1d, x1e, x1f, x1g, x1h, x1i, x1j, x1k, x1l, x1m, x1n, x1o, x1p, x1q, x1r, x1s, x1B, -⟩ := ok_24 (c.b 24 rfl)
  obtain ⟨_, _, _, _, x1bm, _, _, _, _, _, _, _, _, _, _, x1b, x1c⟩ := DN.excB_ok x1B
  obtain ⟨x2a, x2d, x2e, x2f, x2g, x2h, x2i, x2j, x2k, x2l, x2m, x2n, x2o, x2p, x2q, x2r, x2s, x2B, -⟩ := ok_25 (c.b 25 rfl)
  obtain ⟨_, _, _, _, x2bm, _, _, _, _, _, _, _, _, _, _, x2b, x2c⟩ := DN.excB_ok x2B
  obtain ⟨x3a, x3d, x3e, x3f, x3g, x3h, x3i, x3j, x3k, x3l, x3m, x3n, x3o, x3p, x3q, x3r, x3s, x3B, -⟩ := ok_26 (c.b 26 rfl)
  obtain ⟨_, _, _, _, x3bm, _, _, _, _, _, _, _, _, _, _, x3b, x3c⟩ := DN.excB_ok x3B
  obtain ⟨z0, z1, z2, z3, z4, z5, z6, z7, z8, z9, z10, z11, -⟩ := ok_27 (c.b 27 rfl)
  obtain ⟨z12, sm0, xm_InvalidNumber_InvalidHouse, xm_InvalidNumber_InvalidTie, xm_InvalidNumber_OpenpostsError, xm_InvalidTies_InvalidHouse, xm_InvalidTies_InvalidTie, xm_InvalidTies_OpenpostsError, xm_InvalidHouse_InvalidHouse, xm_InvalidHouse_InvalidTie, xm_InvalidHouse_OpenpostsError, xm_InvalidTie_InvalidHouse, -⟩ := ok_28 (c.b 28 rfl)
  obtain ⟨xm_InvalidTie_InvalidTie, xm_InvalidTie_OpenpostsError, -⟩ := ok_29 (c.b 29 rfl)
  exact all_mk X G hfa cg_Web c1_Web c2_Web c3_Web c4_Web i1_Web i2_Web i3_Web i4_Web kk_Web na_Web_houses na_Web_ties na_Web_known na_Web_beside a1 l1 c1 k1 a2 l2 c2 k2 a3 fn3 fi3 l3 c3 k3 a4 l4 c4 k4 a5 l5 c5 k5 a6 l6 c6 k6 a7 l7 c7 k7 a8 fn8 mm8 mk8 l8 dl8 dm8 c8 k8 a9 fn9 oa9 ob9 oc9_ od9_ l9 oo9 c9 k9 a10 l10 c10 k10 a11 l11 c11 k11 a12 l12 c12 k12 a13 l13 c13 k13 a14 fn14 l14 c14 k14 a15 fn15 l15 c15 k15 a16 fn16 l16 c16 k16 a17 fn17 l17 c17 k17 a18 l18 c18 k18 a19 l19 c19 k19 a20 l20 c20 k20 z0 z1 z2 z3 z4 z5 z6 z7 z8 z9 z10 z11 z12 cst0 kc_Web kb_Web_bool kb_Web_int kb_Web_str kb_Web_list kb_Web_tuple kb_Web_dict sm0 D0a D0b D0l D0c D0t D0e D0f D0g D0h D0i D0o D0s x0a x0b x0c x0d x0e x0f x0g x0h x0i x0j x0k x0l x0m x0n x0o x0p x0q x0r x0s x1a x1b x1c x1d x1e x1f x1g x1h x1i x1j x1k x1l x1m x1n x1o x1p x1q x1r x1s x2a x2b x2c x2d x2e x2f x2g x2h x2i x2j x2k x2l x2m x2n x2o x2p x2q x2r x2s x3a x3b x3c x3d x3e x3f x3g x3h x3i x3j x3k x3l x3m x3n x3o x3p x3q x3r x3s xm_InvalidNumber_InvalidHouse xm_InvalidNumber_InvalidTie xm_InvalidNumber_OpenpostsError xm_InvalidTies_InvalidHouse xm_InvalidTies_InvalidTie xm_InvalidTies_OpenpostsError xm_InvalidHouse_InvalidHouse xm_InvalidHouse_InvalidTie xm_InvalidHouse_OpenpostsError xm_InvalidTie_InvalidHouse xm_InvalidTie_InvalidTie xm_InvalidTie_OpenpostsError
def nm0 : List Str := ["_wall", "OpenpostsError", "InvalidNumber", "InvalidHouse", "InvalidTie", "InvalidTies", "InvalidWeb", "InvalidText", "is_integer", "MOST_HOUSES", "is_house", "is_tie", "check_number", "tie_of", "beside_of", "Web", "check_like", "number_in", "web_in", "_law_cell_at", "_law_box", "_law_take", "_law_ties", "_law_caught", "_law_due"]
def names : List Str := nm0
abbrev RW : PySem.W.OpenRow := PySem.W.OpenLaw.row PySem.Challenge.rw_openposts_k05_neighbors_and_ties
def lk1_0 : List Str := ["Web", "InvalidNumber", "InvalidTies", "InvalidHouse", "InvalidTie", "OpenpostsError"]
def lk2_0 : List Str := ["Web", "OpenpostsError"]
def lk3_0 : List Str := ["is_integer", "check_number", "is_house", "is_tie", "tie_of", "beside_of", "_law_box", "_law_take", "_law_ties", "_law_cell_at", "_law_caught", "_law_due", "law"]
def looked : (Addr → Option Obj) → List Addr := DN.asZ (lk1_0) (lk2_0) (lk3_0) ([])
abbrev hk : PySem.W.Hook := DN.hookZ looked exs fns tabs
def ob (s : PySem.W.SharedT) : DN.AlZ := DN.obsZG looked exs fns tabs (HandSHeadRun.getT s)
theorem ob_eq (s : PySem.W.SharedT) : ob s = hk.obs s.abs := DN.obsZG_eq (HandSHeadRun.getT_eq s)
set_option maxHeartbeats 0 in
theorem run_ (w : World) : HandSHeadRun.RunEq RW (PySem.W.view RW.prog [29]) hk ob 60000 names w := by
  intro os
  kernel_rfl
end Q05
open PySem PySem.W PySem.Calls PyProof.Rows
set_option maxHeartbeats 0 in
theorem PySem.Challenge.cw_openposts_k05_neighbors_and_ties_holds : PySem.Challenge.rw_openposts_k05_neighbors_and_ties.Holds := by
  w_on; o_law
  refine HandSHeadRun.head_any (r := OpenLaw.row PySem.Challenge.rw_openposts_k05_neighbors_and_ties) (q := view (OpenLaw.row PySem.Challenge.rw_openposts_k05_neighbors_and_ties).prog [29]) (H := Q05.hk) (ob := Q05.ob) (M := 60000) (loose := Q05.names) (d := HandSHeadRun.topDef (OpenLaw.row PySem.Challenge.rw_openposts_k05_neighbors_and_ties).prog 29) (kwd := []) Q05.ob_eq
    (by kernel_rfl) (fun s => by kernel_rfl) Q05.run_ (by kernel_rfl) (by kernel_rfl) (by kernel_rfl) (by rfl) (by first | assumption | decide +kernel) (by decide +kernel) ⟨rfl, rfl, rfl, rfl, rfl, by decide +kernel⟩ ?hw ?hc
  case hw => w_witness2
  case hc =>
    refine DN.walk_ofG (l := PySem.Challenge.rw_openposts_k05_neighbors_and_ties) (n := 63) (k := 9) (x := "_law_script") (CX := fun w => L2.CX PySem.Challenge.pw_openposts_k05_neighbors_and_ties w) rfl (by decide) (by kernel_rfl) ⟨⟨rfl, by decide, by decide⟩, fun _ => rfl⟩ ?F (fun _ _ _ _ _ h => DN.cx_no h)
    intro w mg fa h Y G hmg0
    obtain ⟨K, KX, c⟩ := Y
    have hmg : mg ("law" : PySem.Str) = some (.ref fa) := by
      have e : (HandSHeadRun.topDef (OpenLaw.row PySem.Challenge.rw_openposts_k05_neighbors_and_ties).prog 29).name = ("law" : PySem.Str) := by kernel_rfl
      rw [← e]
      exact hmg0
    obtain ⟨fd, hb, hF⟩ := Q05.told (w := w) KX G hmg c
    exact ⟨K, fd, DN.spLaw K, KX, hb, fun H a ns hl _ hS => ⟨a, ns, rfl, hS, hl, fun _ => rfl⟩, hF⟩
