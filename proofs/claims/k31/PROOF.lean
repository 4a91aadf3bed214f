import PyProof.Rows.All
import Wide.All
import OpenK.AllK
import Wide.FinOn
import HandS.ForMost
import HandS.ForExc
import HandS.ExcInit
import HandS.ExcSuper
import KE.KExcSuper
import PyProof.ListStr
import PyProof.StrOps2
import HandS.Evl
import HandS.IsInst
import HandS.RaiseMore
import KE.KExcIs
import HandS.ExcIs
import HandS.Walk
import HandS.TupAny
import KE.GoesEnum
import KE.KDictZip
import HandS.Deep
import HandS.Property
import PyProof.InstNe
import PyProof.Rows.PlainNe
import PySem.Challenge.RW_openposts_k31_needless_places
set_option Elab.async false
set_option linter.all false
set_option maxRecDepth 100000
set_option maxHeartbeats 4000000
namespace OP
open PySem PySem.Spec PyProof.Rows L2
/-- what the written part says of the base class D of all errors, its __init__ at f -/
structure OpenB (P : Program) (K : PySem.W.Frag) (D cc cda : Addr) : Prop where
  cell : ∃ cl cld csl, K.lookup cc = some ⟨cl, cld, .cell (some (.ref D)), csl⟩
  code : ∃ ccl cdd vs ccs file tf, K.lookup cda = some ⟨ccl, cdd, .fields vs, ccs⟩ ∧ vs[2]? = some (.str file tf) ∧ ((P.main.file : Str) == file) = true
  cls : ∃ cdD, PySem.W.clsIn K D = some cdD
  top : (P.main.scope.names.lookup ("super" : Str)).isSome = false
  opq : PySem.W.nsIn K cStatics "thirdparty.any" = some none
/-- .. and of a class C of errors -/
structure OpenC (K : PySem.W.Frag) (D C : Addr) : Prop where
  ox : OexC K C
  sub : PySem.W.mroIn K C (.ref D) = some true
  ini : PySem.W.ks_superIn K C D "__init__" = some (some (.builtin "ValueError.__init__"))
  ve : PySem.W.subIn K (.ref C) (.type "ValueError") = some true
  nov : PySem.W.findIn K (.ref C) "value" = some none
def spInit (K : PySem.W.Frag) (D : Addr) : Sp := fun vs H Q _ => ∃ a C v, vs = [.ref a, v] ∧ OpenC K D C ∧ H a = some (exo a C none) ∧
  ∀ dx, H dx = none → dx ≠ a → Q .non (upd (upd H dx (exd dx [("value", v)])) a (exo a C (some dx)))

theorem fn_init {CX : CXT} {P : Program} {w : World} {K : PySem.W.Frag} {mg : Str → Option Value} {base : Heap} {k : Nat} {f D cc cda : Addr} {qual msg : Str} {params : Arguments} {scope : Scope} {dV kV doc pm ct oc : Value} {an od : Option Addr}
    {osl : Array (Option Value)} {j : Nat} {p0 p1 p2 p3 p4 p5 p6 p7 p8 p9 : Pos} {ar : Arg} {body : List Stmt}
    (hbd : body = [.Expr (.Call (.Attribute (.Call (.Name "super" p0) [] [] p1) "__init__" p2) [.Constant (.str msg) j p3] [] p4) p5, .Assign [.Attribute (.Name "self" p6) "value" p7] (.Name "value" p8) p9])
    (lk : K.lookup f = some ⟨oc, od, .func (PySem.W.ksFn "__init__" qual params body scope dV kV doc pm an (.ref cda) ct cc), osl⟩) (hcd : PySem.W.codeIn K (.ref cda) qual = true)
    (hpa : (params.posonlyargs ++ params.args).head? = some ar) (har : ar.arg = "self")
    (hcell : ∀ x ∈ scope.names, x.2 ≠ .cell) (hself : scope.names.lookup ("self" : Str) = some .local) (hval : scope.names.lookup ("value" : Str) = some .local)
    (hsup : scope.names.lookup ("super" : Str) = some .globalImplicit) (hcl : scope.names.lookup ("__class__" : Str) = some .free)
    (hk : scope.kind = .function) (hco : scope.isCoroutine = false) (hgen : scope.isGenerator = false)
    {pl : Sem Bool} (he : ∀ L, eval (.Call (.Attribute (.Call (.Name "super" p0) [] [] p1) "__init__" p2) [.Constant (.str msg) j p3] [] p4) (callEnv (PySem.W.ksFn "__init__" qual params body scope dV kV doc pm an (.ref cda) ct cc) L f) = (do
      let ov ← attributeBase (.Call (.Name "super" p0) [] [] p1) "__init__" (callEnv (PySem.W.ksFn "__init__" qual params body scope dV kV doc pm an (.ref cda) ct cc) L f) (eval (.Call (.Name "super" p0) [] [] p1) (callEnv (PySem.W.ksFn "__init__" qual params body scope dV kV doc pm an (.ref cda) ct cc) L f))
      standAt p2.atName
      let (g, first) ← holding [ov] (getMethod ov "__init__" pl)
      callWith p4 g first (backTo p4 (starEach [.Constant (.str msg) j p3] (callEnv (PySem.W.ksFn "__init__" qual params body scope dV kV doc pm an (.ref cda) ct cc) L f))) []))
    (hi : ∀ L, interactive (callEnv (PySem.W.ksFn "__init__" qual params body scope dV kV doc pm an (.ref cda) ct cc) L f) = false)
    (hs1 : ∀ L, swapsWith (.Call (.Attribute (.Call (.Name "super" p0) [] [] p1) "__init__" p2) [.Constant (.str msg) j p3] [] p4) none p5.line (callEnv (PySem.W.ksFn "__init__" qual params body scope dV kV doc pm an (.ref cda) ct cc) L f) = pure false)
    (hs2 : ∀ L, swapsWith (.Name "value" p8) (some (.Attribute (.Name "self" p6) "value" p7)) p9.line (callEnv (PySem.W.ksFn "__init__" qual params body scope dV kV doc pm an (.ref cda) ct cc) L f) = pure false)
    (hst : ∀ L, starEach [.Constant (.str msg) j p3] (callEnv (PySem.W.ksFn "__init__" qual params body scope dV kV doc pm an (.ref cda) ct cc) L f) = (false, eval (.Constant (.str msg) j p3) (callEnv (PySem.W.ksFn "__init__" qual params body scope dV kV doc pm an (.ref cda) ct cc) L f)) :: starEach [] (callEnv (PySem.W.ksFn "__init__" qual params body scope dV kV doc pm an (.ref cda) ct cc) L f))
    (B : OpenB P K D cc cda) (ms : mg "super" = none) :
    FnOk P w K mg base CX (k + 1) f (PySem.W.ksFn "__init__" qual params body scope dV kV doc pm an (.ref cda) ct cc) ["self", "value"] (spInit K D) := by
  refine ⟨fun vs H Q E h => ?_, fun A outer s H args us vs Q E hr e0 hb r hsp => ?_⟩
  · obtain ⟨a, C, v, rfl, _⟩ := h
    rfl
  · obtain ⟨a, C, v, rfl, T, ea, hq⟩ := hsp
    obtain ⟨u1, u2, rfl, r1, r2⟩ := vals2 r
    obtain rfl : u1 = Value.ref a := r1
    have KX : K.In s.heap := e0.mod.kin.keeps fun b o e => (e0.bs b o e).1
    have lim : s.heap.NoLimit := e0.mod.nolimit.keeps fun b o e => (e0.bs b o e).1
    obtain ⟨t1, hea⟩ := exo_at e0.hok ea
    refine ks_codeAny_call_defAt (fd := PySem.W.ksFn "__init__" qual params body scope dV kV doc pm an (.ref cda) ct cc) (body := body) (binds := [("self", .ref a), ("value", u2)]) hr.depth (KX _ _ lk) rfl lim (PySem.W.codeRec_of KX hcd) rfl hb hcell (fun x hx => ?_) (fun h0 hns hk0 => ?_) hco hgen hk
    · rcases List.mem_cons.mp hx with rfl | hx
      · exact hself
      · rcases List.mem_cons.mp hx with rfl | hx
        · exact hval
        · cases hx
    · have K0 : K.In h0 := fun b o e => hk0 _ _ (KX b o e)
      have hns' : h0.Ns s.heap.objs.size (fun x => if x = "value" then some u2 else if x = "self" then some (.ref a) else none) := by
        have hfe : (fun x => ([("self", Value.ref a), ("value", u2)] : List (Str × Value)).reverse.lookup x) = (fun x => if x = ("value" : Str) then some u2 else if x = ("self" : Str) then some (.ref a) else none) := ?_
        · rw [← hfe]
          exact hns
        funext x
        by_cases h1 : x = "value"
        · subst h1; rfl
        · by_cases h2 : x = "self"
          · subst h2; rfl
          · rw [if_neg h1, if_neg h2]
            have e1 : (x == ("value" : Str)) = false := by simpa using h1
            have e2 : (x == ("self" : Str)) = false := by simpa using h2
            simp [List.lookup, e1, e2]
      obtain ⟨nm, qn, N, bs, bm, sn, sub, ab, col, dd, k0, k1, k2, k3, k5, hC, hbm⟩ := T.ox.cls
      obtain ⟨cl, cld, csl, hcc⟩ := B.cell
      obtain ⟨ccl, cdd, cvs, ccs, file, tf, hcda, hvs, hfile⟩ := B.code
      obtain ⟨cdD, hD⟩ := B.cls
      obtain ⟨oD, hD1, hD2⟩ : ∃ oD, h0.get? D = some oD ∧ oD.data = .cls cdD := by
        unfold PySem.W.clsIn at hD
        split at hD
        · rename_i c d cd' sl ho
          cases hD
          exact ⟨_, K0 _ _ ho, rfl⟩
        · cases hD
      have a0 := hk0 _ _ hea
      have E0 : ∀ L, (callEnv (PySem.W.ksFn "__init__" qual params body scope dV kV doc pm an (.ref cda) ct cc) L f) = PySem.W.ksEnv qual scope L f (.ref cda) cc := fun L => rfl
      generalize hfd : PySem.W.ksFn "__init__" qual params body scope dV kV doc pm an (.ref cda) ct cc = fd at *
      rw [hbd]
      refine ks_wpAt_execs_cons (ks_wpAt_Expr_any (ks_wpAt_MethodCall (pl := pl) ?_ (he _)) (hi _) (hs1 _))
      have C0 : (K.In h0) := K0
      obtain ⟨mB, hmB, hmBx⟩ := e0.mod.blt
      rw [E0]
      have G0 : h0.Ns mainGlobals mg := e0.mod.glob.keeps fun b o e => hk0 _ _ (e0.bs b o e).1
      have B0 : h0.Ns builtinsNs mB := hmB.keeps fun b o e => hk0 _ _ (e0.bs b o e).1
      refine ks_wpAt_super_base (env := PySem.W.ksEnv qual scope s.heap.objs.size f (.ref cda) cc) hsup hcl rfl rfl (hk0 _ _ (KX _ _ lk)) rfl (by rw [← hfd]; exact hpa) rfl (K0 _ _ hcda) rfl hvs hfile B.top ?_
      refine PySem.W.ks_loadName_global hk hsup (PySem.Calls.loadGlobal_builtin (env := PySem.W.ksEnv qual scope s.heap.objs.size f (.ref cda) cc) G0 ms B0 ((hmBx "super" (by decide)).trans (by kernel_rfl)) ⟨rfl, ?_⟩)
      refine wpAny_loadName_free hk hcl rfl ⟨_, K0 _ _ hcc, rfl⟩ ?_
      refine wpAny_loadName_local hk (by rw [har]; exact hself) hns' (by rw [har]; rfl) ?_
      refine ks_wpAny_isType_cls hD1 hD2 ⟨rfl, ?_⟩
      have I0 : PySem.W.InstAt h0 a { cls := .ref C, data := .fields #[.ref t1, .none, .none, .none, .bool false, .none] } C none := ⟨a0, rfl, rfl, trivial⟩
      have hCl : ∃ cd, PySem.W.clsIn K C = some cd := by unfold PySem.W.clsIn; rw [hC]; exact ⟨_, rfl⟩
      obtain ⟨cdC, hcC⟩ := hCl
      refine ks_wpAny_call_super hD1 hD2 a0 rfl (fun c e => by cases e) (PySem.W.looks_mroIn K0 T.sub) (fun h1 hso hk1 => ?_)
      have K1 : K.In h1 := fun b o e => hk1 _ _ (K0 b o e)
      have a1 := hk1 _ _ a0
      have I1 : PySem.W.InstAt h1 a { cls := .ref C, data := .fields #[.ref t1, .none, .none, .none, .bool false, .none] } C none := ⟨a1, rfl, rfl, trivial⟩
      have hI : PySem.W.Looks (model P w) h1 (isInstance (.ref a) (.type "ValueError")) true := I1.type.andThen (PySem.W.looks_subIn K1 T.ve)
      have hm := T.ini
      unfold PySem.W.ks_superIn at hm
      rw [hcC] at hm
      refine PySem.W.kxs_getMethod PySem.W.kxs_ValueError hso (PySem.W.looks_opaque K1 B.opq) (l₀ := cdC.mro) (fun A Q E s k q => wpAny_bind ((PySem.W.looks_clsIn K1 hcC) A _ E s k (wpAny_pure q))) rfl K1 hm hI (PySem.W.ks_ne K1 I1 hcC) rfl ?_
      dsimp only
      rw [← E0, hst, E0]
      refine PySem.W.kxs_callWith (i := "ValueError.__init__") (x := a) rfl (PySem.Calls.evalArgs_plain ?_)
      refine PySem.Calls.spliced_cons (PySem.Calls.Constant_str (k := j) (pos := p3) (PySem.Calls.spliced_nil ⟨?_, ?_⟩))
      · exact Heap.get?_push_at rfl rfl
      have hg2 : ∀ {b : Addr} {o : Obj}, h1.get? b = some o → (h1.push (PySem.W.kxs_mw "ValueError.__init__" a)).get? b = some o := fun {b o} e => Heap.get?_push_of_some _ e
      have hw2 : (h1.push (PySem.W.kxs_mw "ValueError.__init__" a)).get? h1.objs.size = some (PySem.W.kxs_mw "ValueError.__init__" a) := Heap.get?_push_at rfl rfl
      generalize h1.push (PySem.W.kxs_mw "ValueError.__init__" a) = h2 at *
      have a2 := hg2 a1
      refine wpAny_call (codeAny_of_tree ?_)
      show wpAny _ (A.deeper _).in1 (callAny (.ref h1.objs.size) ⟨[.str msg _], []⟩) _ _ _
      simp only [callAny]
      refine wpAny_bind (wpAny_load hw2 ?_)
      simp only [PySem.W.kxs_mw, show (Value.type "method-wrapper" == Value.type "method" || Value.type "method-wrapper" == Value.type "builtin_function_or_method" || Value.type "method-wrapper" == Value.type "method-wrapper") = true by decide, if_true]
      refine PySem.W.KFB.if_so (by decide) ?_
      refine wpAny_bind (PySem.W.check_bound_init F.excBase_ValueError.toExcCallFacts (hg2 (K1 _ _ hC)) a2 rfl ?_)
      refine wpAny_bind (wpAny_pure (wpAny_pure ?_))
      refine ⟨plainId_quiet F.excBase_ValueError.init.plain _, codeAny_builtin F.excBase_ValueError.initEntry ?_⟩
      refine PySem.W.exc_init_tree (cls := .ref C) (t0 := t1) (dv := none) (c2 := .none) (c3 := .none) (b4 := .bool false) a2 (by show 1 ≤ sizeLine; decide) (fun h3 hk3 a3 htup => ?_)
      show PySem.wpAt (model P w) (A.deeper (PySem.W.ksEnv qual scope s.heap.objs.size f (Value.ref cda) cc)) _ (execs [Stmt.Assign [(Expr.Name (Str.ofString "self") p6).Attribute (Str.ofString "value") p7] (Expr.Name (Str.ofString "value") p8) p9] (PySem.W.ksEnv qual scope s.heap.objs.size f (Value.ref cda) cc)) _ _ _
      have neL : s.heap.objs.size ≠ a := Ne.symm (Nat.ne_of_lt (Heap.lt_size hea))
      have k03 : ∀ b o, b ≠ a → h0.get? b = some o → h3.get? b = some o := fun b o hb e => hk3 b o hb (hg2 (hk1 b o e))
      have n3 : h3.Ns s.heap.objs.size (fun x => if x = ("value" : Str) then some u2 else if x = ("self" : Str) then some (.ref a) else none) := by
        obtain ⟨oL, es, ep, hL, rr⟩ := hns'
        exact ⟨oL, es, ep, k03 _ _ neL hL, rr⟩
      have naC : ∀ b o, K.lookup b = some o → b ≠ a := fun b o e z => by
        have e1 := (e0.bs b o (e0.mod.kin b o e)).2
        rw [z, ea] at e1
        cases e1
      have K3 : K.In h3 := fun b o e => k03 _ _ (naC b o e) (K0 b o e)
      have hs2' := hs2 s.heap.objs.size
      rw [E0] at hs2'
      refine ks_wpAt_execs_cons (ks_wpAt_Assign_Attr (wpAt_of_wpAny (PySem.ESX.ldL n3 (by rfl) (PySem.ESX.ldL n3 (by rfl) ?_ hk hself) hk hval)) hs2')
      have hcl3 : PySem.W.clsIn K C = some { name := nm, bases := bs, mro := .ref C :: bm, ns := N, qualname := qn, hasDict := true, slotNames := sn, subclasses := sub, abstract := ab, collection := col, hasDel := false } := by unfold PySem.W.clsIn; rw [hC] <;> rfl
      refine PySem.W.set_plain (s := { heap := h3, gens := s.gens, drawn := s.drawn, toks := s.toks + 2 + 1 + 1, os := s.os }) K3 (ox := { cls := .ref C, dict := none, data := .fields #[.ref h2.objs.size, .none, .none, .none, .bool false, .none] }) (od := none) ⟨a3, rfl, rfl, trivial⟩ T.ox.sa ?_
      refine PySem.HandSPX.exc_osa K3 a3 hcl3 (show PySem.HandSPX.refsVE (.ref C :: bm) = true from hbm) rfl T.nov (fun h4 tk4 dx k4 dn dne hx4 hn4 => ?_)
      show PySem.wpAt _ _ _ (execs [] _) _ _ _
      refine wpAt_of_wpAny (wpAny_execs_nil ?_)
      show CE outer P w H s Q Value.none _
      have kk : ∀ b o, b ≠ a → s.heap.get? b = some o → h4.get? b = some o := fun b o hb e => k4 b o hb (k03 b o hb (hk0 b o e))
      have size3 : s.heap.objs.size ≤ dx := by
        have q1 : s.heap.objs.size < h3.objs.size := by
          obtain ⟨oL, _, _, hL, _⟩ := n3
          exact Heap.lt_size hL
        exact Nat.le_trans (Nat.le_of_lt q1) dn
      have hnd : H dx = none := e0.hok.fresh size3
      have nd : ∀ {b : Addr} {o : Obj}, s.heap.get? b = some o → b ≠ dx := fun {b o} q => Nat.ne_of_lt (Nat.lt_of_lt_of_le (Heap.lt_size q) size3)
      have na : ∀ {b : Addr}, H b = none → b ≠ a := fun {b} n z => by
        rw [z, ea] at n
        cases n
      have Un1 : Un (frs outer) [] H (upd (upd H dx (exd dx [("value", v)])) a (exo a C (some dx))) s.heap h4 := {
        keep := fun b o q n _ _ => kk b o (na n) q
        slot := fun b o q n _ _ => ⟨o.slots, kk b o (na n) q⟩
        free := fun b o q n _ => by rw [upd_ne (na n), upd_ne (nd q)]; exact n
        there := fun b o q _ => by
          by_cases hb : b = a
          · exact ⟨_, by rw [hb]; exact hx4⟩
          · exact ⟨o, kk b o hb q⟩
        tups := fun b xs q => by rw [upd_ne (at_ne ea q exo_tup), upd_ne (ne_of_none q hnd)]; exact q
        frzs := fun b o v q => by rw [upd_ne (at_ne ea q exo_frz), upd_ne (ne_of_none q hnd)]; exact q
        tbls := fun b ps q => ⟨#[], by rw [upd_ne (at_ne ea q exo_tbl), upd_ne (ne_of_none q hnd), q]; simp⟩ }
      refine ⟨.non, _, rfl, e0.bare, Un1, fun b o q => ?_, rfl, hq dx hnd dne⟩
      by_cases hb : b = a
      · subst hb
        rw [upd_same] at q
        cases q
        exact exo_ok hx4
      · rw [upd_ne hb] at q
        by_cases hd : b = dx
        · subst hd
          rw [upd_same] at q
          cases q
          exact exd_ok hn4 (relO_put (fs := []) r2 fun g => True.intro)
        · rw [upd_ne hd] at q
          exact (e0.hok b o q).stay (fun c v hc z => kk c v (by
              rcases hc with hc | hc
              · rw [hc]
                exact hb
              · exact at_ne ea hc exo_own) z)
            (fun c hc => by rw [upd_ne (at_ne ea hc exo_own), upd_ne (ne_of_none hc hnd)]; exact hc) (fun c xs hc => by rw [upd_ne (at_ne ea hc exo_tup), upd_ne (ne_of_none hc hnd)]; exact hc)
end OP

namespace OP
open PySem PySem.Spec PyProof.Rows L2
section
variable {X : Cx}
/-- the text of a truth value -/
def bText (b : Bool) : Str := if b then "True" else "False"
theorem bText_inj {a b : Bool} (h : bText a = bText b) : a = b := by
  cases a <;> cases b
  · rfl
  · exact absurd h (by decide +kernel)
  · exact absurd h (by decide +kernel)
  · rfl
theorem call_repr_bl : CallR X (.builtin "repr") (fun xs H Q => ∃ b, xs = [.bl b] ∧ Q (.str (bText b)) H) := by
  intro pins s σ H xs us Q I r h
  obtain ⟨b, rfl, q⟩ := h
  obtain ⟨u, rfl, rb⟩ := vals1 r
  obtain rfl : u = Value.bool b := rb
  exact PySem.P.repr_of_bool ⟨.str _, H, I.tok _, ⟨_, rfl⟩, q⟩
/-- the signs of a text as texts of one sign -/
def signsV (z : Str) : List V := z.cps.toList.map fun c => V.str ⟨#[c]⟩
theorem signsV_length (z : Str) : (signsV z).length = z.length := by
  unfold signsV
  rw [List.length_map]
  rfl
theorem call_list_text (hc : X.calm = true) : CallR X (.type "list") (fun xs H Q => ∃ z : Str, xs = [.str z] ∧ z.length ≤ sizeLine ∧ ∀ p, H p = none → Q (.ref p) (upd H p (.lst (signsV z)))) := by
  intro pins s σ H xs us Q I r h
  obtain ⟨z, rfl, hz, q⟩ := h
  obtain ⟨u, rfl, t, rfl⟩ := vals1 r
  refine call_list_str (I.ok.hd hc) z t (fun h' tk acc' c' hk hS hit => ?_) hz
  have hf : H s.heap.objs.size = none := I.hok.fresh (Nat.le_refl _)
  refine ⟨.ref s.heap.objs.size, upd H s.heap.objs.size (.lst (signsV z)), I.laid (t' := tk) hk (Nat.le_refl _) ?_, rfl, q _ hf⟩
  refine ⟨by rw [signsV_length]; exact hz, acc'.toList, c', ?_, by simpa using hS⟩
  obtain ⟨hl, hi⟩ := hit
  have key : ∀ (l : List Nat) (ys : List Value), l.length = ys.length → (∀ (i : Nat) v, ys[i]? = some v → ∃ c u, l[i]? = some c ∧ v = Value.str ⟨#[c]⟩ u) → Vals (l.map fun c => V.str ⟨#[c]⟩) ys := by
    intro l
    induction l with
    | nil =>
      intro ys e _
      cases ys with
      | nil => exact .nil
      | cons y r => cases e
    | cons c l ih =>
      intro ys e hh
      cases ys with
      | nil => cases e
      | cons y r =>
        obtain ⟨c', u, e1, e2⟩ := hh 0 y rfl
        cases e1
        exact .cons ⟨u, e2⟩ (ih r (Nat.succ.inj e) fun i v q => hh (i + 1) v q)
  refine key z.cps.toList acc'.toList (by simpa using hl.symm) fun i v hv => ?_
  obtain ⟨c, u, e1, e2⟩ := hi i v (by simpa using hv)
  exact ⟨c, u, by simpa using e1, e2⟩
/-- a text n times -/
def repS (z : Str) (n : Nat) : Str := ⟨(List.replicate n z.cps.toList).flatten.toArray⟩
theorem repS_fold (z : Str) (n : Nat) : (⟨(List.replicate n z.cps).foldl (· ++ ·) #[]⟩ : Str) = repS z n := by
  have key : ∀ (n : Nat) (a : Array Nat), (List.replicate n z.cps).foldl (· ++ ·) a = a ++ (List.replicate n z.cps.toList).flatten.toArray := by
    intro n
    induction n with
    | zero => intro a; simp
    | succ n ih =>
      intro a
      rw [List.replicate_succ, List.foldl_cons, ih, List.replicate_succ, List.flatten_cons]
      apply Array.ext'
      simp
  unfold repS
  rw [key n #[]]
  simp
theorem repS_length (z : Str) (n : Nat) : (repS z n).length = z.length * n := by
  show (List.replicate n z.cps.toList).flatten.toArray.size = z.cps.size * n
  rw [List.size_toArray, List.length_flatten, List.map_replicate, Array.length_toList]
  induction n with
  | zero => rfl
  | succ n ih =>
    rw [List.replicate_succ, List.sum_cons, ih, Nat.mul_succ, Nat.add_comm]
theorem op_mul_str : OpR X (binaryOp .Mult) (fun x y H Q => ∃ (z : Str) (n : Int), x = .str z ∧ y = .int n ∧ 0 ≤ n ∧ n ≤ 10000 ∧ z.length ≤ 1000 ∧ Q (.str (repS z n.toNat)) H) := by
  intro pins s σ H x y u v Q I rx ry h
  obtain ⟨z, n, rfl, rfl, h0, h1, hz, q⟩ := h
  obtain ⟨t, rfl⟩ := rx
  obtain ⟨t2, rfl⟩ := ry
  have hr : (decide (n < -(2 ^ 63 : Int)) || decide (n ≥ 2 ^ 63)) = false := by
    rw [decide_eq_false (by omega), decide_eq_false (by omega)]
    rfl
  refine PySem.P.mul_str hr (fun hn _ => ?_) (fun hn _ => ?_) ?_
  · have e : (1000 : Int) ≤ (2 ^ 63 - 1) / n := by
      rw [Int.le_ediv_iff_mul_le (by omega)]
      omega
    omega
  · have : z.length * n.toNat ≤ 1000 * 10000 := Nat.mul_le_mul hz (by omega)
    unfold Builtin.Str.tooLong
    have e : ¬ (z.length * n.toNat > sizeLine) := by rw [sizeLine_eq]; omega
    simpa using Nat.le_of_not_gt e
  · by_cases hn : n < 1
    · rw [if_pos hn]
      have e : n.toNat = 0 := by omega
      rw [e] at q
      exact ⟨by decide, .str _, H, I.tok _, ⟨_, rfl⟩, q⟩
    · rw [if_neg hn]
      by_cases h2 : (n == 1 || z.length == 0) = true
      · rw [if_pos h2]
        have e : repS z n.toNat = z := by
          rcases Bool.or_eq_true_iff.mp h2 with e | e
          · have : n = 1 := by simpa using e
            subst this
            show repS z 1 = z
            unfold repS
            simp
          · have e0 : z.cps = #[] := by
              have : z.length = 0 := by simpa using e
              exact Array.eq_empty_of_size_eq_zero this
            obtain ⟨cps⟩ := z
            dsimp only at e0
            subst e0
            unfold repS
            simp
        rw [e] at q
        exact ⟨.str z, H, I, ⟨_, rfl⟩, q⟩
      · rw [if_neg h2]
        refine ⟨?_, .str (repS z n.toNat), H, I.tok _, ⟨s.toks, ?_⟩, q⟩
        · have e := repS_length z n.toNat
          rw [← repS_fold] at e
          have : z.length * n.toNat ≤ 1000 * 10000 := Nat.mul_le_mul hz (by omega)
          rw [e, sizeLine_eq]
          omega
        · rw [← repS_fold]
end
end OP

namespace OP
open PySem PySem.Spec PyProof.Rows L2
theorem upd_over {H : Hp} {a b : Addr} {o1 o2 o3 : HO} : upd (upd (upd H a o1) b o2) a o3 = upd (upd H b o2) a o3 := by
  funext c
  by_cases h : c = a
  · subst h
    rw [upd_same, upd_same]
  · rw [upd_ne h, upd_ne h]
    by_cases h2 : c = b
    · subst h2
      rw [upd_same, upd_same]
    · rw [upd_ne h2, upd_ne h2, upd_ne h]
section
variable {X : Cx} {e : Expr} {te : TE} {p pos : Pos}
/-- C(e), an error as a value -/
theorem pe_excV {CX : CXT} {x : Str} {C D fI : Addr} {k : Nat} {fd : FuncData} (T : OpenC X.K D C) (iC : PySem.W.findIn X.K (.ref C) "__init__" = some (some (.ref fI))) (tI : PySem.W.typeIn X.K (.ref fI) = some (.type "function"))
    (F1 : FnOk X.prog X.w X.K X.mg X.base CX k fI fd ["self", "value"] (spInit X.K D)) (hr : Room (k + 1) X.A) (hb : Binds X.K fd ["self", "value"] []) (hx : Passes CX X (fun _ _ _ => False)) (hg : Gl X x) (hm : X.mg x = some (.ref C)) (he : PE X e te)
    (hdb : (x == ("__debug__" : Str)) = false := by decide) (hst : starEach [e] X.env = (false, eval e X.env) :: starEach [] X.env := by rfl) :
    PE X (.Call (.Name x p) [e] [] pos) (fun σ H Q => te σ H fun v H1 => ∀ a d, H1 a = none → H1 d = none → d ≠ a → Q (.ref a) (upd (upd H1 d (exd d [("value", v)])) a (exo a C (some d)))) := by
  refine ⟨fun pins s σ H Q I h => ?_⟩
  obtain ⟨nm, q, N, bs, bm, sn, sub, ab, col, dd, k0, k1, k2, k3, k5, hC, hbm⟩ := T.ox.cls
  refine wpAny_Call_Name_kw (ld_glob I hg hm ?_ hdb)
  refine PySem.W.callWith_K (h₀ := X.base) I.ok.mod.kin T.ox.kC ?_ hst (by rfl)
  rw [hst]
  show wpAny _ _ (spliced ((false, eval e X.env) :: backTo pos (starEach [] X.env))) _ _ s
  refine Calls.spliced_cons (thn (he.run pins s σ H _ I h) fun u s1 ⟨v, H1, I1, r1, q1⟩ => ?_)
  refine Calls.spliced_nil ⟨I1.kIn, ?_⟩
  show wpAny _ _ (call (.ref C) [u]) _ _ _
  obtain ⟨hp, g, dr, tk, os⟩ := s1
  have hsz : hp.objs.size ≤ hp.objs.size + 1 := Nat.le_succ _
  have hn : H1 (hp.objs.size + 1) = none := I1.hok.fresh hsz
  have kk : ∀ b o, hp.get? b = some o → ((hp.push (PySem.W.kdv_tup [u])).push (PySem.HandSPX.excO C hp.objs.size)).get? b = some o := fun b o e => Heap.get?_push_of_some _ (Heap.get?_push_of_some _ e)
  have hget : ((hp.push (PySem.W.kdv_tup [u])).push (PySem.HandSPX.excO C hp.objs.size)).get? (hp.objs.size + 1) = some (PySem.HandSPX.excO C hp.objs.size) := by heap_get
  have I2 : Inv X pins σ (upd H1 (hp.objs.size + 1) (exo (hp.objs.size + 1) C none)) ⟨(hp.push (PySem.W.kdv_tup [u])).push (PySem.HandSPX.excO C hp.objs.size), g, dr, tk, os⟩ :=
    I1.laid (t' := tk) (a := hp.objs.size + 1) (o := exo (hp.objs.size + 1) C none) (h' := (hp.push (PySem.W.kdv_tup [u])).push (PySem.HandSPX.excO C hp.objs.size)) kk hsz (exo_ok hget)
  have r2 : Vals [V.ref (hp.objs.size + 1), v] [Value.ref (hp.objs.size + 1), u] := .cons rfl (.cons r1 .nil)
  have hq : spInit X.K D [V.ref (hp.objs.size + 1), v] (upd H1 (hp.objs.size + 1) (exo (hp.objs.size + 1) C none)) (fun w2 H2 => w2 = .non ∧ Q (.ref (hp.objs.size + 1)) H2) (fun _ _ _ => False) := by
    refine ⟨_, C, v, rfl, T, upd_same, fun dx hd hne => ⟨rfl, ?_⟩⟩
    rw [upd_over]
    rw [upd_ne hne] at hd
    exact q1 _ dx hn hd hne
  refine wpAny_call (PySem.HandSPX.call_own F.excBase_ValueError (fun Y => PySem.HandSPX.refsVE_contains Y bm hbm) (I1.kIn _ _ hC) (PySem.W.looks_findIn I1.kIn iC) (fun self => PySem.W.bind_fn I1.kIn self tI) (by show 1 ≤ sizeLine; decide)
    (codeAny_mono (F1.run _ X.stack _ _ ⟨Value.ref (hp.objs.size + 1) :: [u], []⟩ [Value.ref (hp.objs.size + 1), u] _ _ (fun _ _ _ => False) (hr.make C [u] []) (I2.env0.make C [u] []) (hb _ [Value.ref (hp.objs.size + 1), u] I2.kIn rfl) r2 hq) fun r s' hq' => ?_))
  cases r with
  | error er => exact hx pins σ _ _ er s' I2 hq'
  | ok fl =>
    cases fl with
    | ret w2 =>
      obtain ⟨w3, H2, os2, bare2, un2, hok2, rv, ev, q2⟩ := hq'
      subst ev
      have un : Un (frs X.stack) [] H1 H2 hp s'.heap := Un.trans (Un.laid kk hsz hn) un2
      exact ⟨rv, .ref (hp.objs.size + 1), H2, I1.call' (ch := []) os2 un hok2 bare2 (fun b z => absurd z (by simp)), rfl, q2⟩
    | next => exact False.elim hq'
    | brk => exact False.elim hq'
    | cont => exact False.elim hq'
end
/-- a value's type, errors of the package too -/
inductive TyZ (K : PySem.W.Frag) (H : Hp) : V → Value → Prop where
  | x {v : V} {t : Value} (h : TyX K H v t) : TyZ K H v t
  | exc {a C d : Addr} {fs : List (Str × V)} (T : ExcC K C) (e : H a = some (exo a C (some d))) (ed : H d = some (exd d fs)) : TyZ K H (.ref a) (.ref C)
theorem TyZ.mono {K : PySem.W.Frag} {H H' : Hp} {v : V} {t : Value} (e : Evl.Ex H H') (h : TyZ K H v t) : TyZ K H' v t := by
  cases h with
  | exc T h1 h2 => exact .exc T (e _ _ h1) (e _ _ h2)
  | x h =>
    refine .x ?_
    cases h with
    | byt b => exact .byt b
    | set h => exact .set (e _ _ h)
    | kList h c => exact .kList h c
    | kTuple h c => exact .kTuple h c
    | kDict h c => exact .kDict h c
    | fTuple h => exact .fTuple (e _ _ h)
    | fDict h => exact .fDict (e _ _ h)
    | base h =>
      refine .base ?_
      cases h with
      | non => exact .non
      | bl b => exact .bl b
      | int b => exact .int b
      | str b => exact .str b
      | flt b => exact .flt b
      | lst h => exact .lst (e _ _ h)
      | frz h => exact .frz (e _ _ h)
      | tup h => exact .tup (e _ _ h)
      | dK h => exact .dK (e _ _ h)
      | dT h => exact .dT (e _ _ h)
      | ins h a b c d f => exact .ins (e _ _ h) a b c d f
def rIsZ (K : PySem.W.Frag) : List V → Hp → VK → Prop := fun xs H Q => ∃ (x c : V) (t u : Value) (b : Bool), xs = [x, c] ∧ ClsV c u ∧ TyZ K H x t ∧ PySem.W.kitOne K t u = some b ∧ Q (.bl b) H
theorem call_isZ {X : Cx} : CallR X (.builtin "isinstance") (rIsZ X.K) := by
  intro pins s σ H xs us Q I r h
  obtain ⟨x, c, t, u, b, rfl, k, ty, e, q⟩ := h
  cases ty with
  | x ty => exact call_isi pins s σ H _ us Q I r ⟨x, c, t, u, b, rfl, k, ty, e, q⟩
  | @exc a C d fs T ea ed =>
    obtain ⟨u1, u2, rfl, r1, r2⟩ := vals2 r
    obtain rfl : u1 = Value.ref a := r1
    obtain rfl := k.eq r2
    obtain ⟨t1, hx⟩ := exo_at I.hok ea
    obtain ⟨mA, ⟨od, es, ep, hd, _⟩, _⟩ := exd_at I.hok ed
    have hcl : (PySem.W.clsIn X.K C).isSome = true := by
      obtain ⟨cd, hc, _⟩ := PySem.W.any_some T.hd
      rw [hc]
      rfl
    have J : PySem.W.InstAt s.heap a { cls := .ref C, dict := some d, data := .fields #[.ref t1, .none, .none, .none, .bool false, .none] } C (some od) := ⟨hx, rfl, rfl, hd⟩
    exact PySem.W.kia_one (PySem.W.kitx_exc hcl T.hg T.hk T.hs T.ha T.hn T.ht T.hm) I.kIn J e (fun z => nomatch z) fun tk => ⟨.bl b, H, I.tok tk, rfl, q⟩
end OP

namespace OP
open PySem PySem.Spec PyProof.Rows L2
/-! ### the law's box: three ints, the third counts the draws -/
def Box (n : Nat) (o : HO) : Prop := ∃ x y c : Int, o = .lst [.int x, .int y, .int c] ∧ 0 ≤ x ∧ 0 ≤ y ∧ y < 2147483648 ∧ 0 ≤ c ∧ c ≤ n
def BoxAt (H : Hp) (b : Addr) (n : Nat) : Prop := ∃ o, H b = some o ∧ Box n o
/-- all but b stands as it stood -/
def Eb (b : Addr) (H H' : Hp) : Prop := ∀ a o, a ≠ b → H a = some o → H' a = some o
theorem Eb.refl (b : Addr) (H : Hp) : Eb b H H := fun _ _ _ h => h
theorem Eb.trans {b : Addr} {H H1 H2 : Hp} (x : Eb b H H1) (y : Eb b H1 H2) : Eb b H H2 := fun a o n h => y a o n (x a o n h)
theorem Eb.of {b : Addr} {H H' : Hp} (x : Evl.Ex H H') : Eb b H H' := fun a o _ h => x a o h
theorem Eb.upd {b : Addr} {H : Hp} {o : HO} : Eb b H (upd H b o) := fun a u n h => by rw [upd_ne n]; exact h
theorem BoxAt.mono {H : Hp} {b : Addr} {n m : Nat} (h : BoxAt H b n) (l : n ≤ m) : BoxAt H b m := by
  obtain ⟨o, e, x, y, c, h1, h2, h3, h4, h5, h6⟩ := h
  exact ⟨o, e, x, y, c, h1, h2, h3, h4, h5, by omega⟩
theorem BoxAt.ex {H H' : Hp} {b : Addr} {n : Nat} (h : BoxAt H b n) (e : Evl.Ex H H') : BoxAt H' b n := by
  obtain ⟨o, q, r⟩ := h
  exact ⟨o, e _ _ q, r⟩
theorem BoxAt.upd {H : Hp} {b p : Addr} {n : Nat} {u : HO} (h : BoxAt H b n) (e : H p = none) : BoxAt (upd H p u) b n := h.ex (Evl.Ex.new e)
def spCell (K : PySem.W.Frag) : Sp := fun vs H Q _ => ∃ (a : Addr) (ns : List Int) (k : Nat), vs = [.ref a, .int k] ∧ SqL K H a (ns.map V.int) ∧ k ≤ 1000 ∧ ∀ i, Q (.int i) H
def spBox : Sp := fun vs H Q _ => ∃ i : Int, vs = [.int i] ∧ ∀ p o, H p = none → Box 0 o → Q (.ref p) (upd H p o)
def spTake : Sp := fun vs H Q _ => ∃ (b : Addr) (m : Int) (n : Nat), vs = [.ref b, .int m] ∧ BoxAt H b n ∧ n ≤ 1000000000 ∧ 0 < m ∧ m ≤ 1000000 ∧
  ∀ (d : Int) o, 0 ≤ d → d < m → Box (n + 1) o → Q (.int d) (upd H b o)
theorem fmod_nn {a b : Int} (hb : 0 < b) : 0 ≤ a.fmod b ∧ a.fmod b < b := ⟨Int.fmod_nonneg_of_pos a hb, Int.fmod_lt_of_pos a hb⟩
theorem fdiv_nn {a b : Int} (ha : 0 ≤ a) (hb : 0 < b) : 0 ≤ a.fdiv b := by
  rw [Int.fdiv_eq_ediv_of_nonneg a (by omega)]
  exact Int.ediv_nonneg ha (by omega)
/-- a draw, read -/
theorem rd_take {b : Addr} {m : Int} {n i : Nat} {σ : L2.St} {H : Hp} {Q : VK} {E : XK} {tm : TE} (hv : σ[i]? = some (some (.ref b))) (ht : ∀ Q : VK, Q (.int m) H → tm σ H Q) (hb : BoxAt H b n) (hn : n ≤ 1000000000) (hm : 0 < m) (hm2 : m ≤ 1000000)
    (q : ∀ (d : Int) H', 0 ≤ d → d < m → Eb b H H' → BoxAt H' b (n + 1) → Q (.int d) H') : tCall spTake [] E (tCons (tVar i) (tCons tm tNil)) σ H Q :=
  ⟨.ref b, hv, ht _ ⟨b, m, n, rfl, hb, hn, hm, hm2, fun d o h1 h2 h3 => q d _ h1 h2 Eb.upd ⟨o, upd_same, h3⟩⟩⟩
end OP

namespace OP
open PySem PySem.Spec PyProof.Rows L2 Evl
section
variable {K : PySem.W.Frag} {σ : L2.St} {H H' : Hp} {ta tb te tx ts : TE} {t u : TT} {x y z v : V}
theorem given_all {n : Nat} {v : Nat → V} : given n (fun _ => true) v = (List.range n).map v := by
  unfold given
  rw [List.filter_eq_self.mpr fun _ _ => rfl]
theorem given_str {α : Type} (l : List α) (d : α) (v : α → V) : given l.length (fun _ => true) (fun i => v (l.getD i d)) = l.map v := by
  rw [given_all]
  apply List.ext_getElem?
  intro i
  rw [List.getElem?_map, List.getElem?_map]
  by_cases h : i < l.length
  · rw [List.getElem?_range h, List.getElem?_eq_getElem h]
    simp [List.getD, List.getElem?_eq_getElem h]
  · rw [List.getElem?_eq_none (by rw [List.length_range]; omega), List.getElem?_eq_none (by omega)]
    rfl
theorem given_filter {α : Type} (p : α → Bool) (v : α → V) (d : α) : ∀ l : List α, given l.length (fun i => p (l.getD i d)) (fun i => v (l.getD i d)) = (l.filter p).map v := by
  intro l
  have key : ∀ n, n ≤ l.length → given n (fun i => p (l.getD i d)) (fun i => v (l.getD i d)) = ((l.take n).filter p).map v := by
    intro n
    induction n with
    | zero => intro _; rfl
    | succ n ih =>
      intro h
      have hn : n < l.length := h
      have e : l.getD n d = l[n] := by simp [List.getD, List.getElem?_eq_getElem hn]
      rw [List.take_succ, List.getElem?_eq_getElem hn, List.filter_append, List.map_append, ← ih (Nat.le_of_lt hn)]
      cases hp : p l[n] with
      | true =>
        rw [given_yes (by rw [e]; exact hp), e]
        simp [hp]
      | false =>
        rw [given_no (by rw [e]; exact hp)]
        simp [hp]
  rw [key l.length (Nat.le_refl _), List.take_length]
/-- [e for x in text if t] -/
theorem el_lcS {s : Str} {j : Nat} {vs : List Nat} (f : Nat → Bool) (v : Nat → V) (h : Ev ts σ H (.str s)) (hz : s.length ≤ 40000) (hw : ∀ x, wipe ((wipe σ vs).set j (some x)) vs = wipe σ vs)
    (ht : ∀ (i : Nat) (c : Nat) H1, Ex H H1 → s.cps[i]? = some c → EvT t ((wipe σ vs).set j (some (.str ⟨#[c]⟩))) H1 (f i))
    (he : ∀ (i : Nat) (c : Nat) H1, Ex H H1 → s.cps[i]? = some c → f i = true → Ev te ((wipe σ vs).set j (some (.str ⟨#[c]⟩))) H1 (v i)) :
    EvL (tLc (iStr ts) (gName j) t te vs) σ H (given s.length f v) := fun H0 e Q q => h H0 e _ fun H1 e1 => ⟨s, rfl, fun Dl hD =>
  lc_it walk_str (Cw H1 f v Dl) ⟨hD, Ex.new hD, upd_same⟩ (fun _ _ _ _ => trivial) (fun i x H2 H3 hi p y => by
    obtain ⟨rfl, c, hc, rfl⟩ := y
    have hi' : i < 50000 := Nat.lt_of_lt_of_le hi (Nat.le_trans hz (by decide))
    exact ⟨hw _, cw_turn p hi' (ht i c H1 (e.trans e1) hc) (fun hf => he i c H1 (e.trans e1) hc hf)⟩) (fun H' p => q Dl H' (fresh_back e1 p.1) (e1.trans p.2.1) p.2.2)⟩
/-- all([..]) of truth values -/
theorem ev_all {bs : List Bool} (ha : EvL ta σ H (bs.map V.bl)) : Ev (tCB (rAll K) (tCons ta tNil)) σ H (.bl (bs.all id)) := fun H1 e Q q =>
  ha H1 e _ fun p H2 _ e2 h2 => ⟨p, bs, rfl, SqL.of h2, q H2 e2⟩
theorem ev_any {bs : List Bool} (ha : EvL ta σ H (bs.map V.bl)) : Ev (tCB (rAny K) (tCons ta tNil)) σ H (.bl (bs.any id)) := fun H1 e Q q =>
  ha H1 e _ fun p H2 _ e2 h2 => ⟨p, bs, rfl, SqL.of h2, q H2 e2⟩
theorem ev_lenS {s : Str} (ha : Ev ta σ H (.str s)) (hz : s.length ≤ 100000) : Ev (tCB (fun xs H Q => ∃ z : Str, xs = [.str z] ∧ z.length ≤ sizeLine ∧ Q (.int z.length) H) (tCons ta tNil)) σ H (.int s.length) := fun H1 e Q q =>
  ha H1 e _ fun H2 e2 => ⟨s, rfl, sz_of hz, q H2 e2⟩
theorem ev_inS {c : Nat} {s : Str} (ha : Ev ta σ H (.str ⟨#[c]⟩)) (hb : Ev tb σ H (.str s)) :
    Ev (tOp (fun x y H Q => ∃ (c : Nat) (z : Str), x = .str ⟨#[c]⟩ ∧ y = .str z ∧ Q (.bl (decide (c ∈ z.cps.toList))) H) ta tb) σ H (.bl (decide (c ∈ s.cps.toList))) :=
  ev_op ha hb fun H1 _ Q q => ⟨c, s, rfl, rfl, q H1 (Ex.refl H1)⟩
/-- [f(sign) for sign in text], truth values -/
theorem el_lcSb {s : Str} {j : Nat} {vs : List Nat} (f : Nat → Bool) (h : Ev ts σ H (.str s)) (hz : s.length ≤ 40000) (hw : ∀ x, wipe ((wipe σ vs).set j (some x)) vs = wipe σ vs)
    (he : ∀ (c : Nat) H1, Ex H H1 → Ev te ((wipe σ vs).set j (some (.str ⟨#[c]⟩))) H1 (.bl (f c))) :
    EvL (tLc (iStr ts) (gName j) tYes te vs) σ H ((s.cps.toList.map f).map V.bl) := by
  have e : given s.length (fun _ => true) (fun i => V.bl (f (s.cps.toList.getD i 0))) = (s.cps.toList.map f).map V.bl := by
    rw [List.map_map]
    have := given_str s.cps.toList 0 (V.bl ∘ f)
    exact this
  rw [← e]
  refine el_lcS (fun _ => true) _ h hz hw (fun _ _ _ _ _ H1 _ Q q => q H1 (Ex.refl H1)) (fun i c H1 e1 hc _ => ?_)
  have e2 : s.cps.toList.getD i 0 = c := by
    have : s.cps.toList[i]? = some c := by simpa using hc
    simp [List.getD, this]
  rw [e2]
  exact he c H1 e1
/-- [sign for sign in text if p(sign)] -/
theorem el_lcSf {s : Str} {j : Nat} {vs : List Nat} (p : Nat → Bool) (v : Nat → V) (h : Ev ts σ H (.str s)) (hz : s.length ≤ 40000) (hw : ∀ x, wipe ((wipe σ vs).set j (some x)) vs = wipe σ vs)
    (ht : ∀ (c : Nat) H1, Ex H H1 → EvT t ((wipe σ vs).set j (some (.str ⟨#[c]⟩))) H1 (p c))
    (he : ∀ (c : Nat) H1, Ex H H1 → Ev te ((wipe σ vs).set j (some (.str ⟨#[c]⟩))) H1 (v c)) :
    EvL (tLc (iStr ts) (gName j) t te vs) σ H ((s.cps.toList.filter p).map v) := by
  rw [← given_filter p v 0 s.cps.toList]
  have key : ∀ {i c : Nat}, s.cps[i]? = some c → s.cps.toList.getD i 0 = c := fun {i c} hc => by
    have : s.cps.toList[i]? = some c := by simpa using hc
    simp [List.getD, this]
  exact el_lcS (fun i => p (s.cps.toList.getD i 0)) (fun i => v (s.cps.toList.getD i 0)) h hz hw (fun i c H1 e1 hc => by
    show EvT t _ H1 (p (s.cps.toList.getD i 0))
    rw [key hc]
    exact ht c H1 e1) (fun i c H1 e1 hc _ => by
    show Ev te _ H1 (v (s.cps.toList.getD i 0))
    rw [key hc]
    exact he c H1 e1)
theorem et_yes : EvT tYes σ H true := fun H1 _ Q q => q H1 (Ex.refl H1)
end
/-! ### texts of one sign each, put together -/
theorem str_ext {a b : Str} (h : a.cps.toList = b.cps.toList) : a = b := by
  obtain ⟨⟨a⟩⟩ := a
  obtain ⟨⟨b⟩⟩ := b
  dsimp only at h
  rw [h]
theorem app_cps (a b : Str) : (a ++ b).cps.toList = a.cps.toList ++ b.cps.toList := by
  show (a.cps ++ b.cps).toList = _
  simp
theorem join_fold (g : Str) : ∀ (ts : List Str) (a : Array Nat), (ts.foldl (fun acc p => acc ++ g.cps ++ p.cps) a).toList = a.toList ++ (ts.map fun p => g.cps.toList ++ p.cps.toList).flatten
  | [], a => by simp
  | t :: r, a => by
    rw [List.foldl_cons, join_fold g r, List.map_cons, List.flatten_cons]
    simp
theorem join_nil (g : Str) : Txt.join g [] = "" := rfl
theorem join_cons (g t : Str) (r : List Str) : (Txt.join g (t :: r)).cps.toList = t.cps.toList ++ (r.map fun p => g.cps.toList ++ p.cps.toList).flatten := join_fold g r t.cps
theorem flat_signs : ∀ cs : List Nat, (cs.map fun c => ([] : List Nat) ++ [c]).flatten = cs
  | [] => rfl
  | c :: r => by
    rw [List.map_cons, List.flatten_cons, flat_signs r]
    rfl
theorem join_signs : ∀ cs : List Nat, Txt.join "" (cs.map fun c => (⟨#[c]⟩ : Str)) = ⟨cs.toArray⟩
  | [] => rfl
  | c :: r => by
    apply str_ext
    rw [List.map_cons, join_cons, List.map_map]
    have e := flat_signs r
    show [c] ++ (r.map fun c => ([] : List Nat) ++ [c]).flatten = c :: r
    rw [e]
    rfl
theorem signs_sum : ∀ cs : List Nat, ((cs.map fun c => (⟨#[c]⟩ : Str)).map (·.length)).sum = cs.length
  | [] => rfl
  | c :: r => by
    show 1 + ((r.map fun c => (⟨#[c]⟩ : Str)).map (·.length)).sum = r.length + 1
    rw [signs_sum r, Nat.add_comm]
/-! ### data: lists of texts -/
theorem dpAll_strs {K : PySem.W.Frag} {H : Hp} : ∀ ss : List Str, DpAll K H (ss.map V.str) (ss.map PyData.str)
  | [] => .nil
  | s :: r => .cons (.str s) (dpAll_strs r)
theorem lay_strs : ∀ ss : List Str, (∀ s ∈ ss, PyData.strOk s = true) → PyData.canLayAll0 (ss.map PyData.str) = true
  | [], _ => rfl
  | s :: r, h => by
    show (PyData.canLay0 (.str s) && PyData.canLayAll0 (r.map PyData.str)) = true
    rw [lay_strs r fun x hx => h x (List.mem_cons_of_mem _ hx)]
    show (PyData.strOk s && true) = true
    rw [h s (List.mem_cons_self ..)]
    rfl
theorem depth_strs : ∀ ss : List Str, PyData.depthAll (ss.map PyData.str) = 0
  | [] => rfl
  | s :: r => by
    show max (PyData.depth (.str s)) (PyData.depthAll (r.map PyData.str)) = 0
    rw [depth_strs r]
    rfl
theorem shaped_strs {ss : List Str} (h : ∀ s ∈ ss, PyData.strOk s = true) : SeqAt.shaped (.list (ss.map PyData.str)) = true := by
  show (PyData.canLayAll0 (ss.map PyData.str) && decide (PyData.depthAll (ss.map PyData.str) + 1 ≤ 64)) = true
  rw [lay_strs ss h, depth_strs]
  decide
theorem eqv_strs : ∀ ss ts : List Str, PyData.eqvAll (ss.map PyData.str) (ts.map PyData.str) = decide (ss = ts)
  | [], [] => rfl
  | [], _ :: _ => rfl
  | _ :: _, [] => rfl
  | s :: r, t :: q => by
    show ((s == t) && PyData.eqvAll (r.map PyData.str) (q.map PyData.str)) = decide (s :: r = t :: q)
    rw [eqv_strs r q]
    by_cases h1 : s = t
    · subst h1
      by_cases h2 : r = q
      · subst h2
        simp
      · simp [h2]
    · have e : (s == t) = false := by simpa using h1
      rw [e]
      simp [h1]
section
variable {K : PySem.W.Frag} {σ : L2.St} {H H' : Hp} {ta tb te tx ts : TE}
theorem ev_eqS {ss qs : List Str} (ha : EvL ta σ H (ss.map V.str)) (hb : EvL tb σ H (qs.map V.str)) (h1 : ∀ s ∈ ss, PyData.strOk s = true) (h2 : ∀ s ∈ qs, PyData.strOk s = true) : Ev (tOp (rEqD K) ta tb) σ H (.bl (decide (ss = qs))) :=
  ev_opLL ha hb fun p q H1 hp hq _ H2 e Q k => ⟨_, _, .lst (SqL.of (e _ _ hp)) (dpAll_strs ss), .lst (SqL.of (e _ _ hq)) (dpAll_strs qs), shaped_strs h1, shaped_strs h2, by
    show Q (.bl (PyData.eqvAll (ss.map PyData.str) (qs.map PyData.str))) H2
    rw [eqv_strs]
    exact k H2 (Ex.refl H2)⟩
end
end OP

namespace OP
open PySem PySem.Spec PyProof.Rows L2 Evl
/-! ### rules with the written part K said outright (for comprehensions' blocks) -/
section
variable {X : Cx} (K : PySem.W.Frag)
theorem ix_listK (h : X.K = K := by rfl) : IxR X (rIxL K) := h ▸ ix_list
theorem ix_tupK (h : X.K = K := by rfl) : IxR X (rIxT K) := h ▸ ix_tup
theorem sl_listK (h : X.K = K := by rfl) : L2.SlR X (rSlL K) := h ▸ sl_list
theorem sl_tupK (h : X.K = K := by rfl) : L2.SlR X (rSlA K) := h ▸ sl_tupA
theorem op_in_seqK (h : X.K = K := by rfl) : OpR X (compareOp .In) (rIn K false) := h ▸ op_in_seq
theorem op_notIn_seqK (h : X.K = K := by rfl) : OpR X (compareOp .NotIn) (rIn K true) := h ▸ op_notIn_seq
theorem op_eqDK (hu : X.A.units + 64 < cLine) (h : X.K = K := by rfl) : OpR X (compareOp .Eq) (rEqD K) := h ▸ op_eqD hu
theorem op_neDK (hu : X.A.units + 64 < cLine) (h : X.K = K := by rfl) : OpR X (compareOp .NotEq) (rNeD K) := h ▸ op_neD hu
theorem call_lenK (h : X.K = K := by rfl) : CallR X (.builtin "len") (rLenS K) := by
  subst h
  exact call_len_seq
theorem call_listK (h : X.K = K := by rfl) : CallR X (.type "list") (rListS K) := by
  subst h
  exact call_list_of
def rTupS (K : PySem.W.Frag) : List V → Hp → VK → Prop := fun xs H Q => ∃ p ys, xs = [.ref p] ∧ ((SqL K H p ys ∧ ∀ l, H l = none → Q (.ref l) (upd H l (.tup ys))) ∨ (SqT K H p ys ∧ Q (.ref p) H))
theorem call_tupleK (h : X.K = K := by rfl) : CallR X (.type "tuple") (rTupS K) := by
  subst h
  exact call_tuple_of
theorem cr_allK (hc : X.calm = true) (h : X.K = K := by rfl) : CallR X (.builtin "all") (rAll K) := h ▸ cr_all hc
theorem cr_anyK (hc : X.calm = true) (h : X.K = K := by rfl) : CallR X (.builtin "any") (rAny K) := h ▸ cr_any hc
theorem call_isZK (h : X.K = K := by rfl) : CallR X (.builtin "isinstance") (rIsZ K) := h ▸ call_isZ
def rJoin (K : PySem.W.Frag) : V → List V → Hp → VK → Prop := fun x xs H Q => ∃ a p, ∃ ys : List Str, x = .str a ∧ xs = [.ref p] ∧ (SqL K H p (ys.map V.str) ∨ SqT K H p (ys.map V.str)) ∧ (ys.map (·.length)).sum + ys.length * a.length ≤ 16777216 ∧ Q (.str (Txt.join a ys)) H
theorem mt_joinK (h : X.K = K := by rfl) : MtR X "str.join" (rJoin K) := by
  subst h
  exact mt_join
variable {tg o e : Expr} {es : List Expr} {to tl : TE} {t : TA} {name : Str} {apos cpos pos : Pos} {T id : String} {r : V → List V → Hp → VK → Prop}
theorem pi_listK (hl : PE X e tl) (h : X.K = K := by rfl) : PI X tg e (iList K tl) := h ▸ pi_list hl
theorem pi_tupK (hl : PE X e tl) (h : X.K = K := by rfl) : PI X tg e (iTup K tl) := h ▸ pi_tup hl
theorem pe_bmK (pa : PlainAttrs T) (slot : Slot T name id) (hty : typeOf (.builtin id) = pure (.type "method_descriptor")) (hm : MtR X id r) (ho : PE X o to) (ha : PA X (e :: es) t)
    (hbase : attributeBase o name X.env (eval o X.env) = eval o X.env := by rfl)
    (hfew : ((backTo cpos (starEach (e :: es) X.env)).all (fun x => !x.1) && (backToKw cpos (keywordEach [] X.env)).all (fun x => x.1.isSome)
      && decide ((e :: es).length + ([] : List Keyword).length + (if ([] : List Keyword).isEmpty then 0 else 1) < 30)) = true := by rfl)
    (hline : (apos.endLine == cpos.line) = true := by rfl) (hs : starEach (e :: es) X.env = (false, eval e X.env) :: starEach es X.env := by rfl) (hplain : (backTo cpos (starEach es X.env)).any (·.1) = false := by rfl) (hK : X.K = K := by rfl) :
    PE X (.Call (.Attribute o name apos) (e :: es) [] cpos) (tBM K T r to t) := hK ▸ pe_bm pa slot hty hm ho ha hbase hfew hline hs hplain
theorem pe_bm0K (pa : PlainAttrs T) (slot : Slot T name id) (hty : typeOf (.builtin id) = pure (.type "method_descriptor")) (hm : MtR X id r) (ho : PE X o to)
    (hbase : attributeBase o name X.env (eval o X.env) = eval o X.env := by rfl) (hline : (apos.endLine == cpos.line) = true := by rfl) (hK : X.K = K := by rfl) : PE X (.Call (.Attribute o name apos) [] [] cpos) (tBM0 K T r to) := hK ▸ pe_bm0 pa slot hty hm ho hbase hline
theorem pg_tupK {k : Nat} {t : TGs} {n : Nat} (hc : X.calm = true) (h : PGs X es t)
    (hn : (assignEach es X.env).length = n := by rfl) (hst : (assignEach es X.env).findIdx? (·.1) = none := by rfl) (hK : X.K = K := by rfl) : PG X (.Tuple es k pos) (gTup K n t) := hK ▸ pg_tup hc h hn hst
theorem pe_fldK {f : Str} (he : PE X e tl) (hb : attributeBase e f X.env (eval e X.env) = eval e X.env) (hK : X.K = K := by rfl) : PE X (.Attribute e f pos) (tFld K tl f) := hK ▸ pe_fld he hb
def tTruK (K : PySem.W.Frag) (ta : TE) : TT := fun σ H Q => ta σ H fun x H' => ∃ k, TruV K x H' k ∧ Q k H'
theorem pt_truthK (ha : PE X e tl) (he : ∀ whole, isTrue e X.env whole = (do let v ← whole; standAt e.pos; holding [v] (truthy v))) (hK : X.K = K := by rfl) : PT X e (tTruK K tl) := by
  subst hK
  exact pt_truth ha he
end
end OP

namespace OP
open PySem PySem.Spec PyProof.Rows L2
/-- a zip over two iterators, whatever it knows of the tuple that it gave out -/
abbrev IsZipR (h : Heap) (z TI TO : Addr) (f0 : Value) (f1 : Bool) : Prop :=
  h.get? z = some { cls := .type "zip", dict := none, data := .fields #[f0, .bool f1, .bool false, .ref TI, .ref TO], slots := #[] }
def RawOr (f0 : Value) : Prop := f0 = .none ∨ ∃ T : Nat, f0 = rawInt T
section
variable {prog : Program} {w : World} {A : Around} {E : Value → Shared → Prop} {s : Shared}
theorem alive {a : Addr} {Q : Option Obj → Shared → Prop} (h : Q (s.heap.get? a) s) : wpAny (model prog w) A (loadIfAlive a) Q E s := fun _ _ _ => h
theorem own_free {z TI TO : Addr} {f0 : Value} {f1 : Bool} {Q : Bool → Shared → Prop} (hz : IsZipR s.heap z TI TO f0 f1) (hf : RawOr f0)
    (h : ∀ b h' f1', IsZipR h' z TI TO f0 f1' → Heap.SameBut z s.heap h' → Q b { s with heap := h' }) : wpAny (model prog w) A (Builtin.SmallTypes.ownedTupleIsFree (.ref z)) Q E s := by
  unfold Builtin.SmallTypes.ownedTupleIsFree
  rcases hf with rfl | ⟨T, rfl⟩
  · refine wpAny_bind (wpAny_field hz rfl (x := .none) rfl (wpAny_pure ?_))
    exact h true s.heap f1 hz (Heap.SameBut.refl _ _)
  · refine wpAny_bind (wpAny_field hz rfl (x := rawInt T) rfl ?_)
    show wpAny _ _ (loadIfAlive ((T : Int).toNat) >>= _) _ _ _
    rw [Int.toNat_natCast]
    refine wpAny_bind (alive ?_)
    cases hT : s.heap.get? T with
    | none => exact wpAny_pure (h true s.heap f1 hz (Heap.SameBut.refl _ _))
    | some oT =>
      simp only [Option.isNone_some, Bool.false_eq_true, if_false]
      refine wpAny_bind (wpAny_field hz rfl (x := .bool f1) rfl ?_)
      cases f1 with
      | true =>
        rw [if_neg (show ¬ ((Value.bool true != Value.bool true) = true) from Bool.false_ne_true)]
        exact wpAny_pure (h false s.heap true hz (Heap.SameBut.refl _ _))
      | false =>
        rw [if_pos (show (Value.bool false != Value.bool true) = true from rfl)]
        exact wpAny_bind (wpAny_setField_rec hz (by simp) fun h₁ hz₁ hs₁ => wpAny_pure (h false h₁ true hz₁ hs₁))
theorem upd_tup2 {T : Addr} {a1 a2 x : Value} {k : Nat} {Q : Unit → Shared → Prop} (hT : IsTupOf2 s.heap T a1 a2)
    (h : ∀ h', h'.get? T = some { cls := .type "tuple", data := .seq ((#[a1, a2] : Array Value).setIfInBounds k x) } → Heap.SameBut T s.heap h' → Q () { s with heap := h' }) :
    wpAny (model prog w) A (updateSeq T (·.setIfInBounds k x)) Q E s := updateSeq_IsTupOf2 hT h
variable {z TI TO i1 i2 : Addr} {fp1 fp2 : List Addr} {n i : Nat} {P1 P2 : Nat → Value → Prop} {St1 St2 : Nat → Heap → Prop} {a1 a2 f0 : Value} {f1 : Bool}
/-- the next pair of a zip, whether its own tuple is free or not: a new tuple -/
theorem zip_next_any {Q : Value → Shared → Prop} (S : ZipSep2 z TI TO i1 i2 fp1 fp2) (D1 : Draws prog w A i1 fp1 n P1 St1) (D2 : Draws prog w A i2 fp2 n P2 St2)
    (hz : IsZipR s.heap z TI TO f0 f1) (hf : RawOr f0) (hTI : IsTupOf2 s.heap TI (.ref i1) (.ref i2)) (hTO : IsTupOf2 s.heap TO a1 a2) (st1 : St1 i s.heap) (st2 : St2 i s.heap) (hlt : i < n)
    (hQ : ∀ x1 x2 h' tk g0 g1 b1 b2, P1 i x1 → P2 i x2 → IsZipR h' z TI TO g0 g1 → RawOr g0 → IsTupOf2 h' TO b1 b2 → St1 (i + 1) h' → St2 (i + 1) h' → IsTupOf2 h' s.heap.objs.size x1 x2 → h'.objs.size = s.heap.objs.size + 1 →
      (∀ c o, c ≠ z → c ≠ TO → c ≠ i1 → c ≠ i2 → s.heap.get? c = some o → h'.get? c = some o) → Q (.ref s.heap.objs.size) { s with heap := h', toks := tk }) :
    wpAny (model prog w) A (Builtin.«zip.__next__» ⟨[.ref z], []⟩) (fun fin s' => ∃ v, fin = .done (.ret v) ∧ Q v s') E s := by
  obtain ⟨hp, g, d, tk0, os⟩ := s
  show wpAny _ _ (field (.ref z) 2 >>= _) _ _ _
  refine wpAny_bind (wpAny_field hz rfl (x := .bool false) rfl ?_)
  show wpAny _ _ (field (.ref z) 3 >>= _) _ _ _
  refine wpAny_bind (wpAny_field hz rfl (x := .ref TI) rfl ?_)
  refine wpAny_bind (wpAny_seqItems hTI rfl ?_)
  show wpAny _ _ (Builtin.SmallTypes.ownedTupleIsFree (.ref z) >>= _) _ _ _
  refine wpAny_bind (own_free hz hf fun b hq f1' hzq hsq => ?_)
  replace hsq : Heap.SameBut z hp hq := hsq
  have hTIq : IsTupOf2 hq TI (.ref i1) (.ref i2) := hsq.extBut _ _ S.TIz hTI
  have hTOq : IsTupOf2 hq TO a1 a2 := hsq.extBut _ _ S.TOz hTO
  have st1q := D1.over st1 hsq S.zf1
  have st2q := D2.over st2 hsq S.zf2
  cases b with
  | false =>
    simp only [Bool.false_eq_true, if_false]
    refine wpAny_bind ?_
    simp only [← Array.forIn_toList, List.forIn_cons, List.forIn_nil]
    refine wpAny_bind (wpAny_bind (wpAny_holding ?_))
    show wpAny _ _ (Builtin.SmallTypes.nextOf (.ref i1) >>= _) _ _ ⟨hq, g, d, tk0, os⟩
    refine wpAny_bind (D1.item i _ _ _ hlt st1q fun x1 p1 tk1 hx1 sn1 hp1 => wpAny_pure (wpAny_pure ?_))
    replace hp1 : Heap.SameBut i1 hq p1 := hp1
    refine wpAny_bind (wpAny_bind (wpAny_holding ?_))
    show wpAny _ _ (Builtin.SmallTypes.nextOf (.ref i2) >>= _) _ _ ⟨p1, g, d, tk1, os⟩
    refine wpAny_bind (D2.item i _ _ _ hlt (D2.over st2q hp1 S.sep1_2) fun x2 p2 tk2 hx2 sn2 hp2 => wpAny_pure (wpAny_pure (wpAny_pure ?_)))
    replace hp2 : Heap.SameBut i2 p1 p2 := hp2
    show wpAny _ _ (newTuple [x1, x2] >>= _) _ _ ⟨p2, g, d, tk2, os⟩
    refine wpAny_bind (wpAny_newTuple (wpAny_pure ⟨_, rfl, ?_⟩))
    have hsz : p2.objs.size = hp.objs.size := by rw [hp2.1, hp1.1, hsq.1]
    have hT : IsTupOf2 (p2.push { cls := .type "tuple", data := .seq #[x1, x2] }) hp.objs.size x1 x2 := by
      rw [← hsz]
      exact Heap.get?_push_size _ rfl
    have up : ∀ c o, p2.get? c = some o → (p2.push { cls := .type "tuple", data := .seq #[x1, x2] }).get? c = some o := fun c o e => Heap.get?_push_of_some _ e
    show Q (.ref p2.objs.size) ⟨p2.push { cls := .type "tuple", data := .seq #[x1, x2] }, g, d, tk2, os⟩
    rw [hsz]
    exact hQ x1 x2 _ tk2 _ _ _ _ hx1 hx2 (up _ _ (hp2.extBut _ _ S.zi2 (hp1.extBut _ _ S.zi1 hzq))) hf (up _ _ (hp2.extBut _ _ S.Ti2 (hp1.extBut _ _ S.Ti1 hTOq)))
      (D1.frame _ _ _ (D1.over sn1 hp2 S.sep2_1) fun b hb o e => up b o e) (D2.frame _ _ _ sn2 fun b hb o e => up b o e) hT (by rw [Heap.size_push, hsz])
      fun c o cz cT c1 c2 e => up c o (hp2.extBut _ _ c2 (hp1.extBut _ _ c1 (hsq.extBut _ _ cz e)))
  | true =>
    simp only [if_true]
    refine wpAny_bind (wpAny_rule ?_)
    refine wpAny_bind (wpAny_field (s := ⟨hq, g, d, tk0, os⟩) hzq rfl (x := .ref TO) rfl ?_)
    refine wpAny_bind (wpAny_setField_rec (s := ⟨hq, g, d, tk0, os⟩) hzq (by simp) fun g0 hz0 hs0 => ?_)
    replace hz0 : IsZipR g0 z TI TO .ellipsis f1' := hz0
    replace hs0 : Heap.SameBut z hq g0 := hs0
    refine wpAny_bind ?_
    simp only [List.zipIdx_cons, List.zipIdx_nil, List.forIn_cons, List.forIn_nil]
    refine wpAny_bind (wpAny_bind (wpAny_onRaise ?_))
    show wpAny _ _ (Builtin.SmallTypes.nextOf (.ref i1) >>= _) _ _ ⟨g0, g, d, tk0, os⟩
    refine wpAny_bind (D1.item i _ _ _ hlt (D1.over st1q hs0 S.zf1) fun x1 p1 tk1 hx1 sn1 hp1 => wpAny_pure ?_)
    replace hp1 : Heap.SameBut i1 g0 p1 := hp1
    have hU1 : IsTupOf2 p1 TO a1 a2 := hp1.extBut _ _ S.Ti1 (hs0.extBut _ _ S.TOz hTOq)
    refine wpAny_bind (wpAny_seqItems (s := ⟨p1, g, d, tk1, os⟩) hU1 rfl ?_)
    refine wpAny_bind (upd_tup2 (s := ⟨p1, g, d, tk1, os⟩) hU1 fun g1 hT1 hs1 => ?_)
    replace hT1 : IsTupOf2 g1 TO x1 a2 := hT1
    replace hs1 : Heap.SameBut TO p1 g1 := hs1
    refine wpAny_bind (wpAny_letGo (wpAny_pure ?_))
    refine wpAny_bind (wpAny_bind (wpAny_onRaise ?_))
    show wpAny _ _ (Builtin.SmallTypes.nextOf (.ref i2) >>= _) _ _ ⟨g1, g, d, tk1, os⟩
    refine wpAny_bind (D2.item i _ _ _ hlt (D2.over (D2.over (D2.over st2q hs0 S.zf2) hp1 S.sep1_2) hs1 S.Tf2) fun x2 p2 tk2 hx2 sn2 hp2 => wpAny_pure ?_)
    replace hp2 : Heap.SameBut i2 g1 p2 := hp2
    have hU2 : IsTupOf2 p2 TO x1 a2 := hp2.extBut _ _ S.Ti2 hT1
    refine wpAny_bind (wpAny_seqItems (s := ⟨p2, g, d, tk2, os⟩) hU2 rfl ?_)
    refine wpAny_bind (upd_tup2 (s := ⟨p2, g, d, tk2, os⟩) hU2 fun g2 hT2 hs2 => ?_)
    replace hT2 : IsTupOf2 g2 TO x1 x2 := hT2
    replace hs2 : Heap.SameBut TO p2 g2 := hs2
    refine wpAny_bind (wpAny_letGo (wpAny_pure (wpAny_pure ?_)))
    refine wpAny_bind (wpAny_seqItems (s := ⟨g2, g, d, tk2, os⟩) hT2 rfl ?_)
    refine wpAny_bind (wpAny_newTuple ?_)
    have hsz : g2.objs.size = hp.objs.size := by rw [hs2.1, hp2.1, hs1.1, hp1.1, hs0.1, hsq.1]
    have hzz : IsZipR g2 z TI TO .ellipsis f1' := (hs2.extBut _ _ S.TOz.symm (hp2.extBut _ _ S.zi2 (hs1.extBut _ _ S.TOz.symm (hp1.extBut _ _ S.zi1 hz0))))
    have hkk : ∀ c o, c ≠ z → c ≠ TO → c ≠ i1 → c ≠ i2 → hp.get? c = some o → g2.get? c = some o := fun c o cz cT c1 c2 e =>
      (hs2.extBut _ _ cT (hp2.extBut _ _ c2 (hs1.extBut _ _ cT (hp1.extBut _ _ c1 (hs0.extBut _ _ cz (hsq.extBut _ _ cz e))))))
    have hj1 : St1 (i + 1) g2 := (D1.over (D1.over (D1.over sn1 hs1 S.Tf1) hp2 S.sep2_1) hs2 S.Tf1)
    have hj2 : St2 (i + 1) g2 := (D2.over sn2 hs2 S.Tf2)
    have hzlt : z < g2.objs.size := Heap.lt_size hzz
    show wpAny _ _ (Builtin.SmallTypes.ownedTupleHandOut (.ref z) (.ref g2.objs.size) >>= _) _ _ ⟨g2.push { cls := .type "tuple", data := .seq #[x1, x2] }, g, d, tk2, os⟩
    refine wpAny_bind ?_
    unfold Builtin.SmallTypes.ownedTupleHandOut
    have hz6 : IsZipR (g2.push { cls := .type "tuple", data := .seq #[x1, x2] }) z TI TO .ellipsis f1' := Heap.get?_push_of_some _ hzz
    refine wpAny_bind (wpAny_setField_rec hz6 (by simp) fun h7 hz7 hs7 => ?_)
    replace hz7 : IsZipR h7 z TI TO (rawInt g2.objs.size) f1' := hz7
    refine wpAny_setField_rec hz7 (by simp) fun h8 hz8 hs8 => ?_
    replace hz8 : IsZipR h8 z TI TO (rawInt g2.objs.size) false := hz8
    replace hs7 : Heap.SameBut z (g2.push { cls := .type "tuple", data := .seq #[x1, x2] }) h7 := hs7
    replace hs8 : Heap.SameBut z h7 h8 := hs8
    have up : ∀ c o, c ≠ z → g2.get? c = some o → h8.get? c = some o := fun c o c1 e => hs8.extBut _ _ c1 (hs7.extBut _ _ c1 (Heap.get?_push_of_some _ e))
    have hT8 : IsTupOf2 h8 g2.objs.size x1 x2 := hs8.extBut _ _ (Nat.ne_of_gt hzlt) (hs7.extBut _ _ (Nat.ne_of_gt hzlt) (Heap.get?_push_size _ rfl))
    have hz9 : h8.objs.size = g2.objs.size + 1 := by rw [hs8.1, hs7.1, Heap.size_push]
    rw [hsz] at hz8 hT8 hz9
    refine wpAny_pure ⟨_, rfl, ?_⟩
    show Q (.ref g2.objs.size) ⟨h8, g, d, tk2, os⟩
    rw [hsz]
    exact hQ x1 x2 h8 tk2 _ _ _ _ hx1 hx2 hz8 (.inr ⟨_, rfl⟩) (up _ _ S.TOz hT2) (D1.frame _ _ _ hj1 fun b hb o e => up b o (fun q => S.zf1 (q ▸ hb)) e) (D2.frame _ _ _ hj2 fun b hb o e => up b o (fun q => S.zf2 (q ▸ hb)) e) hT8 hz9 fun c o cz cT c1 c2 e => up c o cz (hkk c o cz cT c1 c2 e)
/-- its end -/
theorem zip_end_any {Q : Fin → Shared → Prop} (S : ZipSep2 z TI TO i1 i2 fp1 fp2) (D1 : Draws prog w A i1 fp1 n P1 St1)
    (hz : IsZipR s.heap z TI TO f0 f1) (hf : RawOr f0) (hTI : IsTupOf2 s.heap TI (.ref i1) (.ref i2)) (st1 : St1 n s.heap)
    (hE : ∀ h' e, (∀ c o, c ≠ z → c ≠ i1 → s.heap.get? c = some o → h'.get? c = some o) → (∃ o, h'.get? e = some o ∧ o.cls = .type "StopIteration") → E (.ref e) { s with heap := h' }) :
    wpAny (model prog w) A (Builtin.«zip.__next__» ⟨[.ref z], []⟩) Q E s := by
  obtain ⟨hp, g, d, tk0, os⟩ := s
  show wpAny _ _ (field (.ref z) 2 >>= _) _ _ _
  refine wpAny_bind (wpAny_field hz rfl (x := .bool false) rfl ?_)
  show wpAny _ _ (field (.ref z) 3 >>= _) _ _ _
  refine wpAny_bind (wpAny_field hz rfl (x := .ref TI) rfl ?_)
  refine wpAny_bind (wpAny_seqItems hTI rfl ?_)
  show wpAny _ _ (Builtin.SmallTypes.ownedTupleIsFree (.ref z) >>= _) _ _ _
  refine wpAny_bind (own_free hz hf fun b hq f1' hzq hsq => ?_)
  replace hsq : Heap.SameBut z hp hq := hsq
  have st1q := D1.over st1 hsq S.zf1
  cases b with
  | false =>
    simp only [Bool.false_eq_true, if_false]
    refine wpAny_bind ?_
    simp only [← Array.forIn_toList, List.forIn_cons, List.forIn_nil]
    refine wpAny_bind (wpAny_bind (wpAny_holding ?_))
    show wpAny _ _ (Builtin.SmallTypes.nextOf (.ref i1) >>= _) _ _ ⟨hq, g, d, tk0, os⟩
    refine wpAny_bind (D1.done _ _ _ st1q fun h' e he ho => ?_)
    exact hE h' e (fun c o cz c1 hc => he c o c1 (hsq.extBut _ _ cz hc)) ho
  | true =>
    simp only [if_true]
    refine wpAny_bind (wpAny_rule ?_)
    refine wpAny_bind (wpAny_field (s := ⟨hq, g, d, tk0, os⟩) hzq rfl (x := .ref TO) rfl ?_)
    refine wpAny_bind (wpAny_setField_rec (s := ⟨hq, g, d, tk0, os⟩) hzq (by simp) fun g0 hz0 hs0 => ?_)
    replace hz0 : IsZipR g0 z TI TO .ellipsis f1' := hz0
    replace hs0 : Heap.SameBut z hq g0 := hs0
    refine wpAny_bind ?_
    simp only [List.zipIdx_cons, List.zipIdx_nil, List.forIn_cons, List.forIn_nil]
    refine wpAny_bind (wpAny_bind (wpAny_onRaise ?_))
    show wpAny _ _ (Builtin.SmallTypes.nextOf (.ref i1) >>= _) _ _ ⟨g0, g, d, tk0, os⟩
    refine wpAny_bind (D1.done _ _ _ (D1.over st1q hs0 S.zf1) fun h' e he ho => ?_)
    replace he : Heap.ExtBut i1 g0 h' := he
    refine wpAny_setField_rec (s := ⟨h', g, d, tk0, os⟩) (he z _ S.zi1 hz0) (by simp) fun h2 hz2 hs2 => ?_
    replace hs2 : Heap.SameBut z h' h2 := hs2
    obtain ⟨oe, ho1, ho2⟩ := ho
    refine hE h2 e (fun c o cz c1 hc => hs2.extBut _ _ cz (he c o c1 (hs0.extBut _ _ cz (hsq.extBut _ _ cz hc)))) ⟨oe, hs2.extBut _ _ (fun q => ?_) ho1, ho2⟩
    have e1 := he z _ S.zi1 hz0
    rw [← q, ho1] at e1
    have e2 := Option.some.inj e1
    rw [e2] at ho2
    simp at ho2
/-- what the zip's own cells say ahead of turn i -/
structure ZipSt (z TI TO i1 i2 : Addr) (St1 St2 : Nat → Heap → Prop) (i : Nat) (h : Heap) : Prop where
  zip : ∃ f0 f1, IsZipR h z TI TO f0 f1 ∧ RawOr f0
  ti : IsTupOf2 h TI (.ref i1) (.ref i2)
  to_ : ∃ a b, IsTupOf2 h TO a b
  s1 : St1 i h
  s2 : St2 i h
theorem nextOf_zip {Q : Value → Shared → Prop} (S : ZipSep2 z TI TO i1 i2 fp1 fp2) (D1 : Draws prog w A.in1 i1 fp1 n P1 St1) (D2 : Draws prog w A.in1 i2 fp2 n P2 St2) (Z : ZipSt z TI TO i1 i2 St1 St2 i s.heap) (hlt : i < n)
    (hQ : ∀ x1 x2 h' tk, P1 i x1 → P2 i x2 → ZipSt z TI TO i1 i2 St1 St2 (i + 1) h' → IsTupOf2 h' s.heap.objs.size x1 x2 → h'.objs.size = s.heap.objs.size + 1 →
      (∀ c o, c ≠ z → c ≠ TO → c ≠ i1 → c ≠ i2 → s.heap.get? c = some o → h'.get? c = some o) → Q (.ref s.heap.objs.size) { s with heap := h', toks := tk }) :
    wpAny (model prog w) A (Builtin.SmallTypes.nextOf (.ref z)) Q E s := by
  obtain ⟨⟨f0, f1, hz, hf⟩, hTI, ⟨a1, a2, hTO⟩, st1, st2⟩ := Z
  have hT : s.TypeIs (.ref z) "zip" := ⟨_, hz, rfl⟩
  unfold Builtin.SmallTypes.nextOf
  refine wpAny_bind (wpAny_callSpecial?_slot (name := Str.ofString "__next__") hT F.slot_zip_next (wpAny_call_entry F.slot_zip_next hT F.entry_zip_next
    (zip_next_any S D1 D2 hz hf hTI hTO st1 st2 hlt fun x1 x2 h' tk g0 g1 b1 b2 y1 y2 c1 c2 c3 c4 c5 c6 c7 c8 => ?_) (F.args_zip_next_1 _)))
  have l1 : TI ≠ z := S.TIz
  have hTI' : IsTupOf2 h' TI (.ref i1) (.ref i2) := c8 TI _ S.TIz S.TITO S.TIi1 S.TIi2 hTI
  exact wpAny_pure (hQ x1 x2 h' tk y1 y2 ⟨⟨g0, g1, c1, c2⟩, hTI', ⟨b1, b2, c3⟩, c4, c5⟩ c6 c7 c8)
theorem nextOf_zip_end {Q : Value → Shared → Prop} (S : ZipSep2 z TI TO i1 i2 fp1 fp2) (D1 : Draws prog w A.in1 i1 fp1 n P1 St1) (Z : ZipSt z TI TO i1 i2 St1 St2 n s.heap)
    (hE : ∀ h' e, (∀ c o, c ≠ z → c ≠ i1 → s.heap.get? c = some o → h'.get? c = some o) → (∃ o, h'.get? e = some o ∧ o.cls = .type "StopIteration") → E (.ref e) { s with heap := h' }) :
    wpAny (model prog w) A (Builtin.SmallTypes.nextOf (.ref z)) Q E s := by
  obtain ⟨⟨f0, f1, hz, hf⟩, hTI, ⟨a1, a2, hTO⟩, st1, st2⟩ := Z
  have hT : s.TypeIs (.ref z) "zip" := ⟨_, hz, rfl⟩
  unfold Builtin.SmallTypes.nextOf
  exact wpAny_bind (wpAny_callSpecial?_slot (name := Str.ofString "__next__") hT F.slot_zip_next (wpAny_call_entry F.slot_zip_next hT F.entry_zip_next (zip_end_any S D1 hz hf hTI st1 hE) (F.args_zip_next_1 _)))
theorem ZipSt.frame {h h' : Heap} (D1 : Draws prog w A i1 fp1 n P1 St1) (D2 : Draws prog w A i2 fp2 n P2 St2) (Z : ZipSt z TI TO i1 i2 St1 St2 i h) (k : ∀ b ∈ z :: TI :: TO :: (fp1 ++ fp2), ∀ o, h.get? b = some o → h'.get? b = some o) : ZipSt z TI TO i1 i2 St1 St2 i h' := by
  obtain ⟨⟨f0, f1, hz, hf⟩, hTI, ⟨a1, a2, hTO⟩, st1, st2⟩ := Z
  exact ⟨⟨f0, f1, k z (by simp) _ hz, hf⟩, k TI (by simp) _ hTI, ⟨a1, a2, k TO (by simp) _ hTO⟩, D1.frame _ _ _ st1 fun b hb o e => k b (by simp [hb]) o e, D2.frame _ _ _ st2 fun b hb o e => k b (by simp [hb]) o e⟩
/-- enumerate(zip(a, b)): the next pair of the count and a new pair -/
theorem enum_zip_next {e : Addr} {old : Value} {Q : Option Value → Shared → Prop} (S : ZipSep2 z TI TO i1 i2 fp1 fp2) (D1 : Draws prog w A.in1.in1 i1 fp1 n P1 St1) (D2 : Draws prog w A.in1.in1 i2 fp2 n P2 St2)
    (he : IsEnum s.heap e z i old) (Z : ZipSt z TI TO i1 i2 St1 St2 i s.heap) (hlt : i < n) (hef : e ∉ z :: TI :: TO :: (fp1 ++ fp2))
    (hQ : ∀ x1 x2 h' tk, P1 i x1 → P2 i x2 → IsEnumOut h' e z ((i : Int) + 1) (.ref s.heap.objs.size) (s.heap.objs.size + 1) → ZipSt z TI TO i1 i2 St1 St2 (i + 1) h' → IsTupOf2 h' s.heap.objs.size x1 x2 →
      h'.get? (s.heap.objs.size + 1) = some { cls := .type "tuple", data := .seq #[.int i tk, .ref s.heap.objs.size] } → h'.objs.size = s.heap.objs.size + 2 →
      (∀ c o, c ≠ e → c ≠ z → c ≠ TO → c ≠ i1 → c ≠ i2 → s.heap.get? c = some o → h'.get? c = some o) → Q (some (.ref (s.heap.objs.size + 1))) { s with heap := h', toks := tk + 1 }) :
    wpAny (model prog w) A (pyNext (.ref e)) Q E s := by
  have hT : s.TypeIs (.ref e) "enumerate" := ⟨_, he, rfl⟩
  unfold pyNext
  refine wpAny_bind (wpAny_attempt (wpAny_callSpecial?_slot (name := Str.ofString "__next__") hT F.slot_enumerate_next
    (wpAny_call_entry F.slot_enumerate_next hT F.entry_enumerate_next ?_ (F.args_enumerate_next_1 _))))
  obtain ⟨hp, g, d, tk0, os⟩ := s
  have nez : e ≠ z := fun q => hef (by simp [q])
  have neTO : e ≠ TO := fun q => hef (by simp [q])
  have ne1 : e ≠ i1 := fun q => hef (by rw [q]; simp [S.mem1])
  have ne2 : e ≠ i2 := fun q => hef (by rw [q]; simp [S.mem2])
  have hel : e < hp.objs.size := Heap.lt_size he
  show wpAny _ _ (field (.ref e) 2 >>= _) _ _ _
  refine wpAny_bind (wpAny_field he rfl (x := .ref z) rfl ?_)
  refine wpAny_bind (nextOf_zip S D1 D2 Z hlt fun x1 x2 h1 tk q1 q2 Z1 hT1 hz1 hk1 => ?_)
  replace hk1 : ∀ c o, c ≠ z → c ≠ TO → c ≠ i1 → c ≠ i2 → hp.get? c = some o → h1.get? c = some o := hk1
  replace hT1 : IsTupOf2 h1 hp.objs.size x1 x2 := hT1
  replace hz1 : h1.objs.size = hp.objs.size + 1 := hz1
  have he1 : IsEnum h1 e z i old := hk1 e _ nez neTO ne1 ne2 he
  show wpAny _ _ (field (.ref e) 3 >>= _) _ _ ⟨h1, g, d, tk, os⟩
  refine wpAny_bind (wpAny_field he1 rfl (x := rawInt i) rfl ?_)
  show wpAny _ _ (field (.ref e) 4 >>= _) _ _ ⟨h1, g, d, tk, os⟩
  refine wpAny_bind (wpAny_field he1 rfl (x := .none) rfl ?_)
  show wpAny _ _ (mkInt i >>= _) _ _ ⟨h1, g, d, tk, os⟩
  refine wpAny_bind (wpAny_mkInt ?_)
  show wpAny _ _ (setField (.ref e) 3 (rawInt ((i : Int) + 1)) >>= _) _ _ ⟨h1, g, d, tk + 1, os⟩
  refine wpAny_bind (wpAny_setField_rec he1 (by simp) fun h2 he2 hs2 => ?_)
  replace hs2 : Heap.SameBut e h1 h2 := hs2
  replace he2 : IsEnum h2 e z ((i : Int) + 1) old := he2
  show wpAny _ _ (setField (.ref e) 4 .none >>= _) _ _ ⟨h2, g, d, tk + 1, os⟩
  refine wpAny_bind (wpAny_setField_rec he2 (by simp) fun h3 he3 hs3 => ?_)
  replace hs3 : Heap.SameBut e h2 h3 := hs3
  replace he3 : IsEnum h3 e z ((i : Int) + 1) old := he3
  show wpAny _ _ (newTuple [.int i tk, .ref hp.objs.size] >>= _) _ _ ⟨h3, g, d, tk + 1, os⟩
  refine wpAny_bind (wpAny_newTuple ?_)
  have hsz : h3.objs.size = hp.objs.size + 1 := by rw [hs3.1, hs2.1, hz1]
  have he4 : IsEnum (h3.push { cls := .type "tuple", data := .seq #[.int i tk, .ref hp.objs.size] }) e z ((i : Int) + 1) old := Heap.get?_push_of_some _ he3
  generalize hh4 : h3.push { cls := .type "tuple", data := .seq #[.int i tk, .ref hp.objs.size] } = h4 at he4
  have ht4 : h4.get? (hp.objs.size + 1) = some { cls := .type "tuple", data := .seq #[.int i tk, .ref hp.objs.size] } := by rw [← hh4, ← hsz]; exact Heap.get?_push_size _ rfl
  have hz4 : h4.objs.size = hp.objs.size + 2 := by rw [← hh4, Heap.size_push, hsz]
  have hk4 : ∀ b o, b ≠ e → h1.get? b = some o → h4.get? b = some o := fun b o hbe hb => by
    rw [← hh4]
    exact Heap.get?_push_of_some _ (hs3.extBut b o hbe (hs2.extBut b o hbe hb))
  show wpAny _ _ (Builtin.SmallTypes.ownedTupleIsFree (.ref e) >>= _) _ _ ⟨h4, g, d, tk + 1, os⟩
  rw [hsz]
  refine wpAny_bind ?_
  unfold Builtin.SmallTypes.ownedTupleIsFree
  refine wpAny_bind (wpAny_field he4 rfl (x := .none) rfl (wpAny_pure ?_))
  simp only [if_true]
  refine wpAny_bind (wpAny_rule ?_)
  refine wpAny_bind (wpAny_field he4 rfl (x := old) rfl ?_)
  refine wpAny_bind (wpAny_setField_rec he4 (by simp) fun h5 he5 hs5 => ?_)
  replace hs5 : Heap.SameBut e h4 h5 := hs5
  replace he5 : IsEnum h5 e z ((i : Int) + 1) (.ref hp.objs.size) := he5
  show wpAny _ _ (Builtin.SmallTypes.ownedTupleHandOut (.ref e) (.ref (hp.objs.size + 1)) >>= _) _ _ ⟨h5, g, d, tk + 1, os⟩
  refine wpAny_bind ?_
  unfold Builtin.SmallTypes.ownedTupleHandOut
  refine wpAny_bind (wpAny_setField_rec he5 (by simp) fun h6 he6 hs6 => ?_)
  replace hs6 : Heap.SameBut e h5 h6 := hs6
  replace he6 : IsEnumOut h6 e z ((i : Int) + 1) (.ref hp.objs.size) (hp.objs.size + 1) := he6
  refine wpAny_setField_rec he6 (by simp) fun h7 he7 hs7 => ?_
  replace hs7 : Heap.SameBut e h6 h7 := hs7
  replace he7 : IsEnumOut h7 e z ((i : Int) + 1) (.ref hp.objs.size) (hp.objs.size + 1) := he7
  have up : ∀ b o, b ≠ e → h4.get? b = some o → h7.get? b = some o := fun b o hb x => hs7.extBut b o hb (hs6.extBut b o hb (hs5.extBut b o hb x))
  have n1 : hp.objs.size ≠ e := Nat.ne_of_gt hel
  have n2 : hp.objs.size + 1 ≠ e := Nat.ne_of_gt (Nat.lt_succ_of_lt hel)
  refine wpAny_bind (wpAny_letGo (wpAny_pure ⟨_, rfl, wpAny_pure (hQ x1 x2 h7 tk q1 q2 he7 ?_ (up _ _ n1 (hk4 _ _ n1 hT1)) (up _ _ n2 ht4) ?_ ?_)⟩))
  · exact Z1.frame D1 D2 fun b hb o x => up b o (fun q => hef (q ▸ hb)) (hk4 b o (fun q => hef (q ▸ hb)) x)
  · rw [hs7.1, hs6.1, hs5.1, hz4]
  · exact fun c o ce cz cT c1 c2 x => up c o ce (hk4 c o ce (hk1 c o cz cT c1 c2 x))
theorem enum_zip_end {e : Addr} {old : Value} {Q : Option Value → Shared → Prop} {j : Int} (S : ZipSep2 z TI TO i1 i2 fp1 fp2) (D1 : Draws prog w A.in1.in1 i1 fp1 n P1 St1)
    (he : IsEnum s.heap e z j old) (Z : ZipSt z TI TO i1 i2 St1 St2 n s.heap)
    (hQ : ∀ h', (∀ c o, c ≠ z → c ≠ i1 → s.heap.get? c = some o → h'.get? c = some o) → Q none { s with heap := h' }) : wpAny (model prog w) A (pyNext (.ref e)) Q E s := by
  have hT : s.TypeIs (.ref e) "enumerate" := ⟨_, he, rfl⟩
  unfold pyNext
  refine wpAny_bind (wpAny_attempt (wpAny_callSpecial?_slot (name := Str.ofString "__next__") hT F.slot_enumerate_next
    (wpAny_call_entry F.slot_enumerate_next hT F.entry_enumerate_next ?_ (F.args_enumerate_next_1 _))))
  show wpAny _ _ (field (.ref e) 2 >>= _) _ _ _
  refine wpAny_bind (wpAny_field he rfl (x := .ref z) rfl ?_)
  refine wpAny_bind (nextOf_zip_end S D1 Z fun h' x hk hx => ?_)
  obtain ⟨o, ho, hc⟩ := hx
  refine wpAny_bind (wpAny_isInstance (T := "StopIteration") (b := true) ⟨o, ho, hc⟩ isSubtype_stop ?_)
  exact wpAny_pure (hQ _ hk)
theorem meets_enum_zip (z TI TO : Addr) (f0 : Value) :
    Meets (Builtin.«enumerate.__new__» ⟨[.type "enumerate", .ref z], []⟩) (fun _ R s => IsZip s.heap z TI TO f0 ∧
      R (.ok (.ret (.ref s.heap.objs.size))) { s with heap := s.heap.push { cls := .type "enumerate", data := .fields #[.none, .bool false, .ref z, rawInt 0, .none, .none] } }) :=
  .of_wp fun prog w A R s h => by
    obtain ⟨hp, g, d, tk, os⟩ := s; obtain ⟨h1, h⟩ := h
    have hsub := sub_enumerate
    have q1 : ∀ {A' : Around} {E : Value → Shared → Prop} {Q : Value → Shared → Prop}, Q (.ref z) ⟨hp, g, d, tk, os⟩ → wpAny (model prog w) A' (pyIter (.ref z)) Q E ⟨hp, g, d, tk, os⟩ :=
      fun q => wpAny_pyIter_zip (s := ⟨hp, g, d, tk, os⟩) h1 q
    wp_walk using q1
    refine wpAny_stack_any fun st => wpAny_pure ?_
    split
    · rename_i c _ _ _ _ _
      cases (c == Value.type "enumerate")
      · wp_walk using q1
        exact ⟨_, rfl, h⟩
      · wp_walk using q1
        exact ⟨_, rfl, h⟩
    · wp_walk using q1
      exact ⟨_, rfl, h⟩
theorem call_enum_zip {Q : Value → Shared → Prop} (hz : IsZip s.heap z TI TO f0)
    (h : ∀ h', IsEnum h' s.heap.objs.size z 0 .none → h'.objs.size = s.heap.objs.size + 1 → (∀ b o, s.heap.get? b = some o → h'.get? b = some o) → Q (.ref s.heap.objs.size) { s with heap := h' }) :
    wpAny (model prog w) A (call (.type "enumerate") [.ref z]) Q E s := by
  refine callType_new F.called_enumerate (by decide) (F.typeCall_enumerate_1 _) (F.newCall_enumerate_1 _) (fun obj => F.args_object_init_2 obj _) F.entry_enumerate_new (meets_enum_zip z TI TO f0) ⟨hz, ?_⟩
  have he : IsEnum (s.heap.push { cls := .type "enumerate", data := .fields #[.none, .bool false, .ref z, rawInt 0, .none, .none] }) s.heap.objs.size z 0 .none := Heap.get?_push_size _ rfl
  exact ⟨⟨_, he, rfl⟩, h _ he (by rw [Heap.size_push]) fun b o x => Heap.get?_push_of_some _ x⟩
end
end OP

namespace OP
open PySem PySem.Spec PyProof.Rows L2
/-- cells of our own have turned, two new objects are laid and tracked -/
theorem turned2 {X : Cx} {pins : List (Addr × Obj)} {σ : L2.St} {H : Hp} {s : Shared} {h' : Heap} {t' : Nat} {ch : List Addr} {T U : Addr} {o1 o2 : HO} (I : Inv X pins σ H s) (k : ∀ b o, b ∉ ch → s.heap.get? b = some o → h'.get? b = some o) (hf : ∀ b ∈ ch, FpOk X pins H b)
    (hT : s.heap.objs.size ≤ T) (hU : s.heap.objs.size ≤ U) (ne : U ≠ T) (n1 : ObjOk X.prog X.w (upd (upd H T o1) U o2) h' T o1) (n2 : ObjOk X.prog X.w (upd (upd H T o1) U o2) h' U o2) :
    Inv X pins σ (upd (upd H T o1) U o2) { s with heap := h', toks := t' } := by
  have hnT : H T = none := I.hok.fresh hT
  have hnU : H U = none := I.hok.fresh hU
  have nit : ∀ b u, H b = some u → b ∉ ch := fun b u e z => by
    have q := (hf b z).1
    rw [q] at e
    cases e
  have same : ∀ b u, H b = some u → upd (upd H T o1) U o2 b = some u := fun b u e => by
    rw [upd_ne (ne_of_none e hnU), upd_ne (ne_of_none e hnT)]
    exact e
  refine I.step (g' := s.gens) (d' := s.drawn) (ch := ch) (fun b hb => ⟨(hf b hb).2.2.2.1, (hf b hb).2.1, (hf b hb).2.2.2.2.1, (hf b hb).2.2.2.2.2⟩) (fun b o _ _ hc e _ => k b o hc e) (fun b o _ _ hc e _ => ⟨o.slots, k b o hc e⟩)
    (fun b o _ e n => ?_) (fun b o hc e => ⟨o, k b o hc e⟩) (fun b xs e => same b _ e) (fun b o u e => same b _ e) (fun b ps e => ⟨#[], by rw [same b _ e]; simp⟩) (fun m hm => ?_) (fun b u e => ?_) I.bare
  · have hl := Heap.lt_size e
    rw [upd_ne (Nat.ne_of_lt (Nat.lt_of_lt_of_le hl hU)), upd_ne (Nat.ne_of_lt (Nat.lt_of_lt_of_le hl hT))]
    exact n
  · obtain ⟨o, es, ep, ho, r⟩ := hm
    exact ⟨o, es, ep, k _ o (fun z => (hf _ z).2.1 rfl) ho, r⟩
  · by_cases hbU : b = U
    · subst hbU
      rw [upd_same] at e
      cases e
      exact n2
    · rw [upd_ne hbU] at e
      by_cases hbT : b = T
      · subst hbT
        rw [upd_same] at e
        cases e
        exact n1
      · rw [upd_ne hbT] at e
        refine (I.hok b u e).stay (fun c v hc q => k c v ?_ q) (fun c q => same c _ q) fun c xs q => same c _ q
        rcases hc with z | z
        · rw [z]
          exact nit b u e
        · exact nit c _ z
/-- enumerate(zip(x, y)) of two texts of one length: the i-th turn gives a new pair of i and a new pair of the signs -/
def Itez (x y : Str) : It :=
  ⟨fun i _ => i < x.cps.size,
    fun i H v H' => ∃ T U c d, v = .ref U ∧ H T = none ∧ H U = none ∧ U ≠ T ∧ H' = upd (upd H T (.tup [.str ⟨#[c]⟩, .str ⟨#[d]⟩])) U (.tup [.int (i : Nat), .ref T]) ∧ x.cps[i]? = some c ∧ y.cps[i]? = some d,
    fun i _ => i = x.cps.size⟩
theorem turn_ez {P : Program} {w : World} {K : PySem.W.Frag} {elts : List Expr} {kk : Nat} {tpos : Pos} {x y : Str} {t u : Tok} {e z TI TO i1 i2 : Addr} (hxy : x.cps.size = y.cps.size) (S : ZipSep2 z TI TO i1 i2 [i1] [i2]) (hef : e ∉ [z, TI, TO, i1, i2]) :
    Turn P w K (.Tuple elts kk tpos) (Itez x y) [e, z, TI, TO, i1, i2] e
      (fun i h => (∃ old, IsEnum h e z i old) ∧ ZipSt z TI TO i1 i2 (fun i h => h.IsStrIter i1 (strIterType x) x t i) (fun i h => h.IsStrIter i2 (strIterType y) y u i) i h) where
  mem := by simp
  obj := fun i h st c hc => by
    obtain ⟨⟨old, he⟩, ⟨f0, f1, hz, _⟩, hTI, ⟨a, b, hTO⟩, ⟨o1, e1, _, d1⟩, ⟨o2, e2, _, d2⟩⟩ := st
    have e' : c = e ∨ c = z ∨ c = TI ∨ c = TO ∨ c = i1 ∨ c = i2 := by simpa using hc
    rcases e' with q | q | q | q | q | q
    · rw [q]; exact ⟨_, he, fun v q => nomatch q⟩
    · rw [q]; exact ⟨_, hz, fun v q => nomatch q⟩
    · rw [q]; exact ⟨_, hTI, fun v q => nomatch q⟩
    · rw [q]; exact ⟨_, hTO, fun v q => nomatch q⟩
    · rw [q]; exact ⟨o1, e1, fun v q => by rw [d1] at q; cases q⟩
    · rw [q]; exact ⟨o2, e2, fun v q => by rw [d2] at q; cases q⟩
  keep := fun i h h' st k => by
    obtain ⟨⟨old, he⟩, ⟨f0, f1, hz, hf⟩, hTI, ⟨a, b, hTO⟩, h1, h2⟩ := st
    exact ⟨⟨old, k e (by simp) _ he⟩, ⟨f0, f1, k z (by simp) _ hz, hf⟩, k TI (by simp) _ hTI, ⟨a, b, k TO (by simp) _ hTO⟩, let ⟨o1, e1, r1⟩ := h1; ⟨o1, k i1 (by simp) _ e1, r1⟩, let ⟨o2, e2, r2⟩ := h2; ⟨o2, k i2 (by simp) _ e2, r2⟩⟩
  item := by
    intro X hP hw hK hc i pins s σ H E I hf st hg
    subst hP hw hK
    obtain ⟨⟨old, he⟩, Z⟩ := st
    have hh : X.A.in1.in1.handled = none := I.ok.hd hc
    have D1 : Draws X.prog X.w X.A.in1.in1 i1 [i1] x.cps.size _ _ := Draws.text hh i1 x t
    have D2 : Draws X.prog X.w X.A.in1.in1 i2 [i2] y.cps.size _ _ := Draws.text hh i2 y u
    rw [← hxy] at D2
    have hel : e < s.heap.objs.size := Heap.lt_size he
    have hlts : ∀ c ∈ [e, z, TI, TO, i1, i2], c < s.heap.objs.size := fun c hcm => by
      obtain ⟨⟨f0, f1, hz, _⟩, hTI, ⟨a, b, hTO⟩, ⟨o1, e1, _⟩, ⟨o2, e2, _⟩⟩ := Z
      have e' : c = e ∨ c = z ∨ c = TI ∨ c = TO ∨ c = i1 ∨ c = i2 := by simpa using hcm
      rcases e' with q | q | q | q | q | q
      · rw [q]; exact hel
      · rw [q]; exact Heap.lt_size hz
      · rw [q]; exact Heap.lt_size hTI
      · rw [q]; exact Heap.lt_size hTO
      · rw [q]; exact Heap.lt_size e1
      · rw [q]; exact Heap.lt_size e2
    refine enum_zip_next S D1 D2 he Z hg hef fun x1 x2 h' tk q1 q2 he' Z' hT hU hsz hk => ?_
    obtain ⟨c, t1, hc1, rfl⟩ := q1
    obtain ⟨d, t2, hd1, rfl⟩ := q2
    refine ⟨_, rfl, wpAny_letOwnedTupleGo_enum (s := { s with heap := h', toks := tk + 1 }) he' fun h'' he'' sb => ?_⟩
    replace sb : Heap.SameBut e h' h'' := sb
    have n1 : s.heap.objs.size ≠ e := Nat.ne_of_gt hel
    have n2 : s.heap.objs.size + 1 ≠ e := Nat.ne_of_gt (Nat.lt_succ_of_lt hel)
    have hT2 : h''.get? s.heap.objs.size = some { cls := .type "tuple", data := .seq #[.str ⟨#[c]⟩ t1, .str ⟨#[d]⟩ t2] } := sb.extBut _ _ n1 hT
    have hU2 : h''.get? (s.heap.objs.size + 1) = some { cls := .type "tuple", data := .seq #[.int i tk, .ref s.heap.objs.size] } := sb.extBut _ _ n2 hU
    have hkk : ∀ b o, b ∉ [e, z, TI, TO, i1, i2] → s.heap.get? b = some o → h''.get? b = some o := fun b o hb q =>
      sb.extBut _ _ (fun r => hb (by simp [r])) (hk b o (fun r => hb (by simp [r])) (fun r => hb (by simp [r])) (fun r => hb (by simp [r])) (fun r => hb (by simp [r])) (fun r => hb (by simp [r])) q)
    have ne : s.heap.objs.size + 1 ≠ s.heap.objs.size := Nat.succ_ne_self _
    have hTT : upd (upd H s.heap.objs.size (.tup [.str ⟨#[c]⟩, .str ⟨#[d]⟩])) (s.heap.objs.size + 1) (.tup [.int (i : Nat), .ref s.heap.objs.size]) s.heap.objs.size = some (.tup [.str ⟨#[c]⟩, .str ⟨#[d]⟩]) := by
      rw [upd_ne ne.symm, upd_same]
    have I1 := turned2 (t' := tk + 1) (T := s.heap.objs.size) (U := s.heap.objs.size + 1) (o1 := .tup [.str ⟨#[c]⟩, .str ⟨#[d]⟩]) (o2 := .tup [.int (i : Nat), .ref s.heap.objs.size]) I hkk hf (Nat.le_refl _) (Nat.le_succ _) ne
      ⟨by show 2 ≤ sizeLine; decide, [.str ⟨#[c]⟩ t1, .str ⟨#[d]⟩ t2], .cons ⟨_, rfl⟩ (.cons ⟨_, rfl⟩ .nil), ⟨_, hT2, rfl, _, rfl⟩⟩
      ⟨by show 2 ≤ sizeLine; decide, [.int i tk, .ref s.heap.objs.size], .cons ⟨_, rfl⟩ (.cons rfl .nil), ⟨_, hU2, rfl, _, rfl⟩⟩
    refine ⟨.ref (s.heap.objs.size + 1), _, I1, rfl, ⟨_, _, c, d, rfl, I.hok.fresh (Nat.le_refl _), I.hok.fresh (Nat.le_succ _), ne, rfl, hc1, hd1⟩, ⟨⟨_, by simpa using he''⟩, Z'.frame D1 D2 fun b hb o q => sb.extBut _ _ (fun r => hef (by rw [← r]; simpa using hb)) q⟩, fun b hb => ?_⟩
    have hl := hlts b hb
    rw [upd_ne (Nat.ne_of_lt (Nat.lt_succ_of_lt hl)), upd_ne (Nat.ne_of_lt hl)]
    exact (hf b hb).1
  done := by
    intro X hP hw hK hc i pins s σ H E I hf st hg
    subst hP hw hK
    obtain ⟨⟨old, he⟩, Z⟩ := st
    have hh : X.A.in1.in1.handled = none := I.ok.hd hc
    have D1 : Draws X.prog X.w X.A.in1.in1 i1 [i1] x.cps.size _ _ := Draws.text hh i1 x t
    have hg' : i = x.cps.size := hg
    subst hg'
    refine enum_zip_end S D1 he Z fun h' hk => ⟨rfl, I.turnedL (t' := s.toks) (ch := [e, z, TI, TO, i1, i2]) (fun b o hb q => hk b o (fun r => hb (by simp [r])) (fun r => hb (by simp [r])) q) hf⟩
  self := fun A i s Q E st h => let ⟨⟨_, he⟩, _⟩ := st; wpAny_pyIter_enum he h
def iEz (ta : TA) : TI := fun σ H R => ta σ H fun vs H1 => ∃ x y : Str, vs = [.str x, .str y] ∧ x.cps.size = y.cps.size ∧ R (Itez x y) H1
theorem pi_ez {X : Cx} {e e2 : Expr} {ta : TA} {p pos p2 pos2 tpos : Pos} {elts : List Expr} {kk : Nat} (hg : Gl X "enumerate") (hm : X.mg "enumerate" = none) (hg2 : Gl X "zip") (hm2 : X.mg "zip" = none) (ha : PA X [e, e2] ta)
    (hs : starEach [.Call (.Name "zip" p2) [e, e2] [] pos2] X.env = [(false, eval (.Call (.Name "zip" p2) [e, e2] [] pos2) X.env)] := by rfl)
    (hs2 : starEach [e, e2] X.env = (false, eval e X.env) :: starEach [e2] X.env := by rfl) (hpl : (backTo pos2 (starEach [e2] X.env)).any (·.1) = false := by rfl) :
    PI X (.Tuple elts kk tpos) (.Call (.Name "enumerate" p) [.Call (.Name "zip" p2) [e, e2] [] pos2] [] pos) (iEz ta) := by
  refine ⟨fun pins s σ H R I h => ?_⟩
  refine Call_ (ld_blt I hg hm boot_enumerate (PyProof.Rows.callWith_type1 ?_ hs rfl))
  rw [hs]
  show wpAny _ _ (spliced [(false, eval (.Call (.Name "zip" p2) [e, e2] [] pos2) X.env)]) _ _ s
  refine Calls.spliced_cons ?_
  refine Call_ (ld_blt I hg2 hm2 PyProof.Rows.boot_zip (PyProof.Rows.callWith_type1 (thn (ha.run pos2 pins s σ H _ I h) fun us s1 ⟨vs, H1, I1, r1, q1⟩ => ?_) hs2 hpl))
  obtain ⟨x, y, rfl, hxy, q⟩ := q1
  obtain ⟨u1, u2, rfl, ⟨t, rfl⟩, ⟨u, rfl⟩⟩ := vals2 r1
  refine zip_begins2 (begins_text x t) (begins_text y u) trivial trivial fun h' hz hTI hTO h1 h2 hsz hk => ?_
  refine Calls.spliced_nil ?_
  refine call_enum_zip (s := { s1 with heap := h' }) hz fun h2' he hsz2 hk2 => wpAny_pyIter_enum he ?_
  have hsz' : h'.objs.size = s1.heap.objs.size + 5 := hsz
  have kall : ∀ b o, s1.heap.get? b = some o → h2'.get? b = some o := fun b o z => hk2 b o (hk b o z)
  have I2 : Inv X pins σ H1 { s1 with heap := h2' } := I1.kept (t' := s1.toks) kall
  have S : ZipSep2 (s1.heap.objs.size + 4) (s1.heap.objs.size + 2) (s1.heap.objs.size + 3) s1.heap.objs.size (s1.heap.objs.size + 1) [s1.heap.objs.size] [s1.heap.objs.size + 1] :=
    zip_sep2 (N := s1.heap.objs.size) (fp1 := []) (fp2 := []) (fun _ h => nomatch h) (fun _ h => nomatch h)
  have hef : h'.objs.size ∉ [s1.heap.objs.size + 4, s1.heap.objs.size + 2, s1.heap.objs.size + 3, s1.heap.objs.size, s1.heap.objs.size + 1] := by
    rw [hsz']
    generalize s1.heap.objs.size = N
    have : ∀ N : Nat, N + 5 ∉ [N + 4, N + 2, N + 3, N, N + 1] := fun N hm => by
      simp at hm
    exact this N
  refine ⟨h'.objs.size, [h'.objs.size, s1.heap.objs.size + 4, s1.heap.objs.size + 2, s1.heap.objs.size + 3, s1.heap.objs.size, s1.heap.objs.size + 1], _, _, H1, rfl, I2, turn_ez (t := t) (u := u) hxy S hef,
    ⟨⟨_, he⟩, ⟨_, _, hk2 _ _ hz, .inl rfl⟩, hk2 _ _ hTI, ⟨_, _, hk2 _ _ hTO⟩, ⟨_, hk2 _ _ h1, rfl, rfl⟩, ⟨_, hk2 _ _ h2, rfl, rfl⟩⟩, fun c hcm => ?_, q⟩
  have hle : s1.heap.objs.size ≤ c := by
    have key : ∀ N M c : Nat, M = N + 5 → c ∈ [M, N + 4, N + 2, N + 3, N, N + 1] → N ≤ c := fun N M c hM hm => by
      simp at hm
      omega
    exact key _ _ c hsz' hcm
  exact I1.fpOk hle (I1.hok.fresh hle)
theorem walk_ez {x y : Str} : Walk (Itez x y) x.cps.size (fun _ => True) (fun i H v H' => ∃ T U c d, v = .ref U ∧ H T = none ∧ H U = none ∧ U ≠ T ∧ H' = upd (upd H T (.tup [.str ⟨#[c]⟩, .str ⟨#[d]⟩])) U (.tup [.int (i : Nat), .ref T]) ∧ x.cps[i]? = some c ∧ y.cps[i]? = some d) :=
  ⟨fun _ _ hi _ => hi, fun _ _ => rfl, fun _ _ _ _ _ _ h => h⟩
end OP

/-! PreP: what a value stands for (Pr), told by a known part G of the heap; pure evaluation (EvP), the law's box beside it. -/
namespace OP
open PySem PySem.Spec PyProof.Rows L2 Evl
structure Pr where
  on : Hp → V → Prop
  up : ∀ {H H' : Hp} {v : V}, Ex H H' → on H v → on H' v
def Al (H : Hp) : List Pr → List V → Prop
  | [], [] => True
  | p :: ps, x :: xs => p.on H x ∧ Al H ps xs
  | _, _ => False
theorem Al.up {H H' : Hp} (e : Ex H H') : ∀ {ps : List Pr} {xs : List V}, Al H ps xs → Al H' ps xs
  | [], [], _ => trivial
  | [], _ :: _, h => h.elim
  | _ :: _, [], h => h.elim
  | p :: _, _ :: _, h => ⟨p.up e h.1, Al.up e h.2⟩
theorem Al.len {H : Hp} : ∀ {ps : List Pr} {xs : List V}, Al H ps xs → xs.length = ps.length
  | [], [], _ => rfl
  | [], _ :: _, h => h.elim
  | _ :: _, [], h => h.elim
  | _ :: _, _ :: _, h => by rw [List.length_cons, List.length_cons, Al.len h.2]
theorem Al.get {H : Hp} : ∀ {ps : List Pr} {xs : List V} {i : Nat} {x : V}, Al H ps xs → xs[i]? = some x → ∃ p, ps[i]? = some p ∧ p.on H x
  | [], [], _, _, _, e => by simp at e
  | [], _ :: _, _, _, h, _ => h.elim
  | _ :: _, [], _, _, h, _ => h.elim
  | p :: _, y :: _, 0, x, h, e => by
    simp at e
    subst e
    exact ⟨p, rfl, h.1⟩
  | p :: ps, y :: ys, i + 1, x, h, e => by
    obtain ⟨q, h1, h2⟩ := Al.get (i := i) (x := x) h.2 (by simpa using e)
    exact ⟨q, by simpa using h1, h2⟩
theorem Al.got {H : Hp} : ∀ {ps : List Pr} {xs : List V} {i : Nat} {p : Pr}, Al H ps xs → ps[i]? = some p → ∃ x, xs[i]? = some x ∧ p.on H x
  | [], [], _, _, _, e => by simp at e
  | [], _ :: _, _, _, h, _ => h.elim
  | _ :: _, [], _, _, h, _ => h.elim
  | p :: _, y :: _, 0, x, h, e => by
    simp at e
    subst e
    exact ⟨y, rfl, h.1⟩
  | p :: ps, y :: ys, i + 1, x, h, e => by
    obtain ⟨q, h1, h2⟩ := Al.got (i := i) (p := x) h.2 (by simpa using e)
    exact ⟨q, by simpa using h1, h2⟩
theorem Al.app {H : Hp} : ∀ {ps qs : List Pr} {xs ys : List V}, Al H ps xs → Al H qs ys → Al H (ps ++ qs) (xs ++ ys)
  | [], _, [], _, _, h => h
  | [], _, _ :: _, _, h, _ => h.elim
  | _ :: _, _, [], _, h, _ => h.elim
  | _ :: _, _, _ :: _, _, h, g => ⟨h.1, Al.app h.2 g⟩
def pV (v : V) : Pr := ⟨fun _ x => x = v, fun _ h => h⟩
/-- (the part K is named so that it is found) -/
def lstAt (K : PySem.W.Frag) (H : Hp) (a : Addr) (xs : List V) : Prop := H a = some (.lst xs)
def pLst (K : PySem.W.Frag) (ps : List Pr) : Pr := ⟨fun H v => ∃ a xs, v = .ref a ∧ lstAt K H a xs ∧ Al H ps xs, fun e h => by
  obtain ⟨a, xs, h1, h2, h3⟩ := h
  exact ⟨a, xs, h1, e _ _ h2, h3.up e⟩⟩
def pTup (K : PySem.W.Frag) (ps : List Pr) : Pr := ⟨fun H v => ∃ a xs, v = .ref a ∧ SqT K H a xs ∧ Al H ps xs, fun e h => by
  obtain ⟨a, xs, h1, h2, h3⟩ := h
  exact ⟨a, xs, h1, ex_t e h2, h3.up e⟩⟩
/-! ### typed data -/
structure Tu (α : Type) where
  l : List α
  deriving DecidableEq
class Enc (K : PySem.W.Frag) (α : Type) where
  rp : α → Pr
  enc : α → PyData
  toD : ∀ {H : Hp} {v : V} {a : α}, (rp a).on H v → Dp K H v (enc a)
  lay : α → Prop
  dep : Nat
  dle : ∀ a : α, (enc a).depth ≤ dep
  can : ∀ a : α, lay a → (enc a).canLay0 = true
  inj : ∀ a b : α, PyData.eqv (enc a) (enc b) = true ↔ a = b
variable {K : PySem.W.Frag}
def en (K : PySem.W.Frag) {α : Type} [Enc K α] (a : α) : Pr := Enc.rp (K := K) a
instance : Enc K Int := ⟨fun i => pV (.int i), .int, fun h => by cases h; exact .int _, fun _ => True, 0, fun _ => Nat.le_refl _, fun _ _ => rfl, fun a b => by simp [PyData.eqv]⟩
instance : Enc K Nat := ⟨fun i => pV (.int i), fun i => .int i, fun h => by cases h; exact .int _, fun _ => True, 0, fun _ => Nat.le_refl _, fun _ _ => rfl, fun a b => by simp [PyData.eqv]; omega⟩
instance : Enc K Bool := ⟨fun i => pV (.bl i), .bool, fun h => by cases h; exact .bl _, fun _ => True, 0, fun _ => Nat.le_refl _, fun _ _ => rfl, fun a b => by cases a <;> cases b <;> simp [PyData.eqv]⟩
instance : Enc K Str := ⟨fun i => pV (.str i), .str, fun h => by cases h; exact .str _, fun s => PyData.strOk s = true, 0, fun _ => Nat.le_refl _, fun _ h => h, fun a b => by simp [PyData.eqv]⟩
instance : Enc K Unit := ⟨fun _ => pV .non, fun _ => .none, fun h => by cases h; exact .non, fun _ => True, 0, fun _ => Nat.le_refl _, fun _ _ => rfl, fun a b => by simp [PyData.eqv]⟩
section
variable {α β γ : Type}
theorem al_toD [E : Enc K α] {H : Hp} : ∀ {l : List α} {xs : List V}, Al H (l.map E.rp) xs → DpAll K H xs (l.map E.enc)
  | [], [], _ => .nil
  | [], _ :: _, h => h.elim
  | _ :: _, [], h => h.elim
  | a :: l, x :: xs, h => .cons (E.toD h.1) (al_toD h.2)
theorem dle_all [E : Enc K α] : ∀ l : List α, PyData.depthAll (l.map E.enc) ≤ E.dep
  | [] => Nat.zero_le _
  | a :: l => by
    show max (PyData.depth (E.enc a)) (PyData.depthAll (l.map E.enc)) ≤ _
    have h1 := E.dle a
    have h2 := dle_all (E := E) l
    omega
theorem can_all [E : Enc K α] : ∀ l : List α, (∀ a ∈ l, E.lay a) → PyData.canLayAll0 (l.map E.enc) = true
  | [], _ => rfl
  | a :: l, h => by
    show (PyData.canLay0 (E.enc a) && PyData.canLayAll0 (l.map E.enc)) = true
    rw [E.can a (h a (List.mem_cons_self ..)), can_all l fun x hx => h x (List.mem_cons_of_mem _ hx)]
    rfl
theorem inj_all [E : Enc K α] : ∀ l m : List α, PyData.eqvAll (l.map E.enc) (m.map E.enc) = true ↔ l = m
  | [], [] => ⟨fun _ => rfl, fun _ => rfl⟩
  | [], _ :: _ => ⟨(fun h => nomatch h), (fun h => nomatch h)⟩
  | _ :: _, [] => ⟨(fun h => nomatch h), (fun h => nomatch h)⟩
  | a :: l, b :: m => by
    show (PyData.eqv (E.enc a) (E.enc b) && PyData.eqvAll (l.map E.enc) (m.map E.enc)) = true ↔ _
    rw [Bool.and_eq_true, E.inj, inj_all l m, List.cons.injEq]
instance [E : Enc K α] : Enc K (List α) := ⟨fun l => pLst K (l.map E.rp), fun l => .list (l.map E.enc), fun h => by
    obtain ⟨a, xs, rfl, h1, h2⟩ := h
    exact .lst (sq_of h1) (al_toD h2), fun l => ∀ a ∈ l, E.lay a, E.dep + 1, fun l => by
    show PyData.depthAll (l.map E.enc) + 1 ≤ _
    have := dle_all (E := E) l
    omega, fun l h => can_all l h, fun l m => inj_all l m⟩
instance [E : Enc K α] : Enc K (Tu α) := ⟨fun l => pTup K (l.l.map E.rp), fun l => .tuple (l.l.map E.enc), fun h => by
    obtain ⟨a, xs, rfl, h1, h2⟩ := h
    exact .tup h1 (al_toD h2), fun l => ∀ a ∈ l.l, E.lay a, E.dep + 1, fun l => by
    show PyData.depthAll (l.l.map E.enc) + 1 ≤ _
    have := dle_all (E := E) l.l
    omega, fun l h => can_all l.l h, fun l m => by
    obtain ⟨l⟩ := l
    obtain ⟨m⟩ := m
    rw [Tu.mk.injEq]
    exact inj_all l m⟩
instance [E : Enc K α] [F : Enc K β] : Enc K (α × β) := ⟨fun x => pTup K [E.rp x.1, F.rp x.2], fun x => .tuple [E.enc x.1, F.enc x.2], fun h => by
    obtain ⟨a, xs, rfl, h1, h2⟩ := h
    match xs, h2 with
    | [_, _], h2 => exact .tup h1 (.cons (E.toD h2.1) (.cons (F.toD h2.2.1) .nil)), fun x => E.lay x.1 ∧ F.lay x.2, max E.dep F.dep + 1, fun x => by
    show max (PyData.depth (E.enc x.1)) (max (PyData.depth (F.enc x.2)) 0) + 1 ≤ _
    have h1 := E.dle x.1
    have h2 := F.dle x.2
    omega, fun x h => by
    show (PyData.canLay0 (E.enc x.1) && (PyData.canLay0 (F.enc x.2) && true)) = true
    rw [E.can _ h.1, F.can _ h.2]
    rfl, fun x y => by
    show (PyData.eqv (E.enc x.1) (E.enc y.1) && (PyData.eqv (F.enc x.2) (F.enc y.2) && true)) = true ↔ _
    rw [Bool.and_true, Bool.and_eq_true, E.inj, F.inj]
    exact ⟨fun h => Prod.ext h.1 h.2, fun h => by rw [h]; exact ⟨rfl, rfl⟩⟩⟩
theorem en_int {i : Int} : en K i = pV (.int i) := rfl
theorem en_nat {i : Nat} : en K i = pV (.int i) := rfl
theorem en_str {i : Str} : en K i = pV (.str i) := rfl
theorem en_bl {i : Bool} : en K i = pV (.bl i) := rfl
theorem en_list [Enc K α] {l : List α} : en K l = pLst K (l.map (en K)) := rfl
theorem en_tu [Enc K α] {l : Tu α} : en K l = pTup K (l.l.map (en K)) := rfl
theorem en_pair [Enc K α] [Enc K β] {l : α × β} : en K l = pTup K [en K l.1, en K l.2] := rfl
theorem en_shaped [E : Enc K α] {a : α} (h : E.lay a) (hd : E.dep ≤ 64) : SeqAt.shaped (E.enc a) = true := by
  show ((E.enc a).canLay0 && decide ((E.enc a).depth ≤ 64)) = true
  rw [E.can a h, decide_eq_true (Nat.le_trans (E.dle a) hd)]
  rfl
theorem en_eqv [E : Enc K α] [DecidableEq α] (a b : α) : PyData.eqv (E.enc a) (E.enc b) = decide (a = b) := by
  rw [Bool.eq_iff_iff, E.inj, decide_eq_true_eq]
end
/-! ### the known part -/
structure Fr (G H G2 H2 : Hp) : Prop where
  g : Ex G G2
  h : Ex H H2
  k : Ex G2 H2
  n : ∀ a, G a = none → H a ≠ none → G2 a = none
theorem Fr.refl {G H : Hp} (e : Ex G H) : Fr G H G H := ⟨Ex.refl G, Ex.refl H, e, fun _ h _ => h⟩
theorem ne_up {H H' : Hp} {a : Addr} (e : Ex H H') (h : H a ≠ none) : H' a ≠ none := by
  cases q : H a with
  | none => exact absurd q h
  | some o => rw [e a o q]; exact fun h => nomatch h
theorem Fr.trans {G H G2 H2 G3 H3 : Hp} (a : Fr G H G2 H2) (b : Fr G2 H2 G3 H3) : Fr G H G3 H3 :=
  ⟨a.g.trans b.g, a.h.trans b.h, b.k, fun x h1 h2 => b.n x (a.n x h1 h2) (ne_up a.h h2)⟩
theorem Fr.same {G H H2 : Hp} (e : Ex G H) (e2 : Ex H H2) : Fr G H G H2 := ⟨Ex.refl G, e2, e.trans e2, fun _ h _ => h⟩
theorem ex_upd {G H : Hp} (e : Ex G H) {p : Addr} {o : HO} : Ex (upd G p o) (upd H p o) := fun a u h => by
  by_cases q : a = p
  · subst q
    rw [upd_same] at h ⊢
    exact h
  · rw [upd_ne q] at h ⊢
    exact e a u h
theorem Fr.new {G H : Hp} (e : Ex G H) {p : Addr} {o : HO} (hp : H p = none) : Fr G H (upd G p o) (upd H p o) :=
  ⟨Ex.new (fresh_back e hp), Ex.new hp, ex_upd e, fun a h1 h2 => by
    have : a ≠ p := fun q => by subst q; exact h2 hp
    rw [upd_ne this]
    exact h1⟩
/-- what H holds at p becomes known -/
theorem Fr.freeze {G H : Hp} {p : Addr} {o : HO} (e : Ex G H) (hG : G p = none) (h : H p = some o) : Ex G (upd G p o) ∧ Ex (upd G p o) H := ⟨Ex.new hG, fun a u q => by
  by_cases c : a = p
  · subst c
    rw [upd_same] at q
    cases q
    exact h
  · rw [upd_ne c] at q
    exact e a u q⟩
/-- a reading from less known, beside more known -/
def beside (G' G2 : Hp) : Hp := fun a => match G' a with | some o => some o | none => G2 a
theorem Fr.beside {G G' H G2 H2 : Hp} (f : Fr G H G2 H2) (e : Ex G G') (e1 : Ex G' H) : Fr G' H (beside G' G2) H2 ∧ Ex G2 (beside G' G2) := by
  refine ⟨⟨fun a o h => by simp only [OP.beside, h], f.h, fun a o h => ?_, fun a h1 h2 => ?_⟩, fun a o h => ?_⟩
  · simp only [OP.beside] at h
    cases q : G' a with
    | some u =>
      rw [q] at h
      cases h
      exact f.h a _ (e1 a _ q)
    | none =>
      rw [q] at h
      exact f.k a o h
  · simp only [OP.beside, h1]
    exact f.n a (fresh_back e h1) h2
  · simp only [OP.beside]
    cases q : G' a with
    | some u =>
      have h1 := f.h a _ (e1 a _ q)
      have h2 := f.k a o h
      rw [h1] at h2
      exact h2
    | none => exact h
def EvP (te : TE) (σ : L2.St) (G : Hp) (p : Pr) : Prop := ∀ H1, Ex G H1 → ∀ Q : VK, (∀ v H2 G2, Fr G H1 G2 H2 → p.on G2 v → Q v H2) → te σ H1 Q
def EvPs (ta : TA) (σ : L2.St) (G : Hp) (ps : List Pr) : Prop := ∀ H1, Ex G H1 → ∀ Q : List V → Hp → Prop, (∀ vs H2 G2, Fr G H1 G2 H2 → Al G2 ps vs → Q vs H2) → ta σ H1 Q
/-- a list made anew, not known yet -/
def EvN (te : TE) (σ : L2.St) (G : Hp) (ps : List Pr) : Prop := ∀ H1, Ex G H1 → ∀ Q : VK, (∀ p xs H2 G2, Fr G H1 G2 H2 → H1 p = none → G2 p = none → H2 p = some (.lst xs) → Al G2 ps xs → Q (.ref p) H2) → te σ H1 Q
section
variable {σ : L2.St} {G G' H H' : Hp} {ta tb te tx ts : TE} {t u : TT} {x y z v : V} {p q : Pr} {ps qs : List Pr}
theorem EvP.mono (e : Ex G G') (h : EvP te σ G p) : EvP te σ G' p := fun H1 a Q k => h H1 (e.trans a) Q fun v H2 G2 f hv =>
  k v H2 _ (f.beside e a).1 (p.up (f.beside e a).2 hv)
theorem EvPs.mono {ta : TA} (e : Ex G G') (h : EvPs ta σ G ps) : EvPs ta σ G' ps := fun H1 a Q k => h H1 (e.trans a) Q fun v H2 G2 f hv =>
  k v H2 _ (f.beside e a).1 (hv.up (f.beside e a).2)
theorem EvP.is (h : EvP te σ G p) (e : p = q) : EvP te σ G q := e ▸ h
theorem EvP.imp (h : EvP te σ G p) (e : ∀ G v, p.on G v → q.on G v) : EvP te σ G q := fun H1 a Q k => h H1 a Q fun v H2 G2 f hv => k v H2 G2 f (e G2 v hv)
theorem ep_v (h : Ev te σ G v) : EvP te σ G (pV v) := fun H1 e Q k => h H1 e Q fun H2 e2 => k v H2 G (Fr.same e e2) rfl
theorem ev_p (h : EvP te σ G (pV v)) : Ev te σ G v := fun H1 e Q k => h H1 e Q fun w H2 G2 f hw => by
  have e : w = v := hw
  rw [e]
  exact k H2 f.h
theorem ep_var {i : Nat} (h : σ[i]? = some (some v)) (hp : p.on G v) : EvP (tVar i) σ G p := fun H1 e Q k => ⟨v, h, k v H1 G (Fr.refl e) hp⟩
theorem es_nil : EvPs tNil σ G [] := fun H1 e Q k => k [] H1 G (Fr.refl e) trivial
theorem es_cons {tr : TA} (h : EvP ta σ G p) (hr : EvPs tr σ G ps) : EvPs (tCons ta tr) σ G (p :: ps) := fun H1 e Q k =>
  h H1 e _ fun v H2 G2 f hv => (hr.mono f.g) H2 f.k _ fun vs H3 G3 f3 hvs => k (v :: vs) H3 G3 (f.trans f3) ⟨p.up f3.g hv, hvs⟩
theorem en_lst {ta : TA} (h : EvPs ta σ G ps) (hl : ps.length ≤ 100000) : EvN (tLst ta) σ G ps := fun H1 e Q k => h H1 e _ fun vs H2 G2 f hvs =>
  ⟨sz_of (by rw [hvs.len]; exact hl), fun p hp => k p vs _ G2 ⟨f.g, f.h.trans (Ex.new hp), f.k.trans (Ex.new hp), f.n⟩ (fresh_back f.h hp) (fresh_back f.k hp) upd_same hvs⟩
/-- a new list, known from now on -/
theorem EvN.ep (h : EvN te σ G ps) : EvP te σ G (pLst K ps) := fun H1 e Q k => h H1 e _ fun p xs H2 G2 f hp hG hx ha => by
  obtain ⟨e1, e2⟩ := Fr.freeze f.k hG hx
  refine k _ H2 (upd G2 p (.lst xs)) ⟨f.g.trans e1, f.h, e2, fun a h1 h2 => ?_⟩ ⟨p, xs, rfl, upd_same, ha.up e1⟩
  have : a ≠ p := fun c => by subst c; exact h2 hp
  rw [upd_ne this]
  exact f.n a h1 h2
theorem ep_lst {ta : TA} (h : EvPs ta σ G ps) (hl : ps.length ≤ 100000) : EvP (tLst ta) σ G (pLst K ps) := (en_lst h hl).ep
theorem ep_tup {ta : TA} (h : EvPs ta σ G ps) (hl : ps.length ≤ 100000) : EvP (tTup ta) σ G (pTup K ps) := fun H1 e Q k => h H1 e _ fun vs H2 G2 f hvs =>
  ⟨sz_of (by rw [hvs.len]; exact hl), fun p hp => k _ _ (upd G2 p (.tup vs)) (f.trans (Fr.new f.k hp)) ⟨p, vs, rfl, st_of upd_same, hvs.up (Ex.new (fresh_back f.k hp))⟩⟩
/-- index -/
theorem al_at {i : Int} {xs : List V} (h : Al G ps xs) (hi : atI ps i = some p) : ∃ x, atI xs i = some x ∧ p.on G x := by
  unfold atI at hi ⊢
  rw [h.len]
  cases q : ixN ps.length i with
  | none =>
    rw [q] at hi
    cases hi
  | some j =>
    rw [q] at hi
    exact h.got hi
theorem ep_ixL {i : Int} (ha : EvP ta σ G (pLst K ps)) (hb : Ev tb σ G (.int i)) (hi : atI ps i = some p) : EvP (tOp (rIxL K) ta tb) σ G p := fun H1 e Q k => ha H1 e _ fun v H2 G2 f hv => by
  obtain ⟨a, xs, rfl, h1, h2⟩ := hv
  refine (hb.mono f.g) H2 f.k _ fun H3 e3 => ?_
  obtain ⟨x, hx, hp⟩ := al_at h2 hi
  exact ⟨a, xs, i, x, rfl, rfl, ex_l (f.k.trans e3) (sq_of h1), hx, k x H3 G2 ⟨f.g, f.h.trans e3, f.k.trans e3, f.n⟩ hp⟩
theorem ep_ixT {i : Int} (ha : EvP ta σ G (pTup K ps)) (hb : Ev tb σ G (.int i)) (hi : atI ps i = some p) : EvP (tOp (rIxT K) ta tb) σ G p := fun H1 e Q k => ha H1 e _ fun v H2 G2 f hv => by
  obtain ⟨a, xs, rfl, h1, h2⟩ := hv
  refine (hb.mono f.g) H2 f.k _ fun H3 e3 => ?_
  obtain ⟨x, hx, hp⟩ := al_at h2 hi
  exact ⟨a, xs, i, x, rfl, rfl, ex_t (f.k.trans e3) h1, hx, k x H3 G2 ⟨f.g, f.h.trans e3, f.k.trans e3, f.n⟩ hp⟩
theorem ev_lenL (ha : EvP ta σ G (pLst K ps)) : Ev (tCB (rLenS K) (tCons ta tNil)) σ G (.int ps.length) := fun H1 e Q k => ha H1 e _ fun v H2 G2 f hv => by
  obtain ⟨a, xs, rfl, h1, h2⟩ := hv
  refine ⟨a, xs, rfl, .inl (ex_l f.k (sq_of h1)), ?_⟩
  rw [h2.len]
  exact k H2 f.h
theorem ev_lenT (ha : EvP ta σ G (pTup K ps)) : Ev (tCB (rLenS K) (tCons ta tNil)) σ G (.int ps.length) := fun H1 e Q k => ha H1 e _ fun v H2 G2 f hv => by
  obtain ⟨a, xs, rfl, h1, h2⟩ := hv
  refine ⟨a, xs, rfl, .inr (ex_t f.k h1), ?_⟩
  rw [h2.len]
  exact k H2 f.h
/-- list(x), tuple(x) -/
theorem en_listL (ha : EvP ta σ G (pLst K ps)) : EvN (tCB (rListS K) (tCons ta tNil)) σ G ps := fun H1 e Q k => ha H1 e _ fun v H2 G2 f hv => by
  obtain ⟨a, xs, rfl, h1, h2⟩ := hv
  exact ⟨a, xs, rfl, .inl (ex_l f.k (sq_of h1)), fun l hl => k l xs _ G2 ⟨f.g, f.h.trans (Ex.new hl), f.k.trans (Ex.new hl), f.n⟩ (fresh_back f.h hl) (fresh_back f.k hl) upd_same h2⟩
theorem en_listT (ha : EvP ta σ G (pTup K ps)) : EvN (tCB (rListS K) (tCons ta tNil)) σ G ps := fun H1 e Q k => ha H1 e _ fun v H2 G2 f hv => by
  obtain ⟨a, xs, rfl, h1, h2⟩ := hv
  exact ⟨a, xs, rfl, .inr (ex_t f.k h1), fun l hl => k l xs _ G2 ⟨f.g, f.h.trans (Ex.new hl), f.k.trans (Ex.new hl), f.n⟩ (fresh_back f.h hl) (fresh_back f.k hl) upd_same h2⟩
/-! ### == and in on data -/
section
variable {α : Type} [E : Enc K α] [DecidableEq α] {a b : α}
theorem ev_two (ha : EvP ta σ G p) (hb : EvP tb σ G q) {r : R2} (h : ∀ x y G2 H2, Ex G2 H2 → p.on G2 x → q.on G2 y → ∀ Q : VK, Q v H2 → r x y H2 Q) : Ev (tOp r ta tb) σ G v := fun H1 e Q k =>
  ha H1 e _ fun x H2 G2 f hx => (hb.mono f.g) H2 f.k _ fun y H3 G3 f3 hy => h x y G3 H3 f3.k (p.up f3.g hx) hy Q (k H3 (f.h.trans f3.h))
theorem ev_eqD (ha : EvP ta σ G (en K a)) (hb : EvP tb σ G (en K b)) (l1 : E.lay a) (l2 : E.lay b) (hd : E.dep ≤ 64 := by exact Nat.le_of_ble_eq_true rfl) : Ev (tOp (rEqD K) ta tb) σ G (.bl (decide (a = b))) :=
  ev_two ha hb fun x y G2 H2 e hx hy Q k => ⟨E.enc a, E.enc b, E.toD ((en K a).up e hx), E.toD ((en K b).up e hy), en_shaped l1 hd, en_shaped l2 hd, by rw [en_eqv]; exact k⟩
theorem ev_neD (ha : EvP ta σ G (en K a)) (hb : EvP tb σ G (en K b)) (l1 : E.lay a) (l2 : E.lay b) (hd : E.dep ≤ 64 := by exact Nat.le_of_ble_eq_true rfl) : Ev (tOp (rNeD K) ta tb) σ G (.bl (!decide (a = b))) :=
  ev_two ha hb fun x y G2 H2 e hx hy Q k => ⟨E.enc a, E.enc b, E.toD ((en K a).up e hx), E.toD ((en K b).up e hy), en_shaped l1 hd, en_shaped l2 hd, by rw [en_eqv]; exact k⟩
theorem any_eqv (l : List α) (a : α) : ((l.map E.enc).any fun z => PyData.eqv z (E.enc a)) = decide (a ∈ l) := by
  rw [Bool.eq_iff_iff, List.any_eq_true, decide_eq_true_eq]
  refine ⟨fun h => ?_, fun h => ⟨E.enc a, List.mem_map.mpr ⟨a, h, rfl⟩, (E.inj a a).mpr rfl⟩⟩
  obtain ⟨z, hz, he⟩ := h
  obtain ⟨b, hb, rfl⟩ := List.mem_map.mp hz
  rw [← (E.inj b a).mp he]
  exact hb
theorem ev_inD {l : List α} (ha : EvP ta σ G (en K a)) (hb : EvP tb σ G (en K l)) (l1 : E.lay a) (l2 : ∀ x ∈ l, E.lay x) (hd : E.dep + 1 ≤ 64 := by exact Nat.le_of_ble_eq_true rfl) : Ev (tOp (rInD K) ta tb) σ G (.bl (decide (a ∈ l))) :=
  ev_two ha hb fun x y G2 H2 e hx hy Q k => ⟨E.enc a, l.map E.enc, E.toD ((en K a).up e hx), Enc.toD (a := l) ((en K l).up e hy), en_shaped l1 (by omega), en_shaped (K := K) (α := List α) (a := l) l2 hd, by rw [any_eqv]; exact k⟩
theorem ev_niD {l : List α} (ha : EvP ta σ G (en K a)) (hb : EvP tb σ G (en K l)) (l1 : E.lay a) (l2 : ∀ x ∈ l, E.lay x) (hd : E.dep + 1 ≤ 64 := by exact Nat.le_of_ble_eq_true rfl) : Ev (tOp (rNotInD K) ta tb) σ G (.bl (!decide (a ∈ l))) :=
  ev_two ha hb fun x y G2 H2 e hx hy Q k => ⟨E.enc a, l.map E.enc, E.toD ((en K a).up e hx), Enc.toD (a := l) ((en K l).up e hy), en_shaped l1 (by omega), en_shaped (K := K) (α := List α) (a := l) l2 hd, by rw [any_eqv]; exact k⟩
end
end
end OP

namespace OP
open PySem PySem.Spec PyProof.Rows L2 Evl
variable {K : PySem.W.Frag}
section
variable {σ : L2.St} {G G' H H' : Hp} {ta tb te tx ts tl : TE} {t u : TT} {x y z v : V} {p q : Pr} {ps qs : List Pr} {j : Nat} {vs : List Nat}
/-- the list that grows: not known, made of what is known -/
def Cp (G H : Hp) (D : Addr) (ps : List Pr) (H' : Hp) : Prop := ∃ G' xs, Fr G H G' H' ∧ H D = none ∧ G' D = none ∧ H' D = some (.lst xs) ∧ Al G' ps xs
theorem Cp.ini {D : Addr} (e : Ex G H) (hD : H D = none) : Cp G H D [] (upd H D (.lst [])) := ⟨G, [], Fr.same e (Ex.new hD), hD, fresh_back e hD, upd_same, trivial⟩
/-- a turn that adds p -/
theorem Cp.turn {D : Addr} {σ2 : L2.St} (h : Cp G H D ps H') (hz : ps.length < 100000) (hp : ∀ G', Ex G G' → EvP te σ2 G' p) : te σ2 H' fun y H4 => ∃ acc, H4 D = some (.lst acc) ∧ acc.length < sizeLine ∧ Cp G H D (ps ++ [p]) (upd H4 D (.lst (acc ++ [y]))) := by
  obtain ⟨G', xs, f, h1, h2, h3, h4⟩ := h
  refine hp G' f.g H' f.k _ fun y H4 G4 f4 hy => ⟨xs, f4.h D _ h3, sz_lt (by rw [h4.len]; exact hz), G4, xs ++ [y], ?_, h1, f4.n D h2 (by rw [h3]; exact fun c => nomatch c), upd_same, (h4.up f4.g).app ⟨hy, trivial⟩⟩
  have g := f.trans f4
  refine ⟨g.g, Ex.mut g.h h1, fun a o ha => ?_, g.n⟩
  have : a ≠ D := fun c => by
    subst c
    rw [f4.n a h2 (by rw [h3]; exact fun c => nomatch c)] at ha
    cases ha
  rw [upd_ne this]
  exact g.k a o ha
theorem Cp.more {D : Addr} {H4 : Hp} {G4 : Hp} (h : Cp G H D ps H') (f : ∀ G', Ex G G' → Ex G' H' → G' D = none → ∃ G4, Fr G' H' G4 H4) : Cp G H D ps H4 := by
  obtain ⟨G', xs, f1, h1, h2, h3, h4⟩ := h
  obtain ⟨G4, f4⟩ := f G' f1.g f1.k h2
  exact ⟨G4, xs, f1.trans f4, h1, f4.n D h2 (by rw [h3]; exact fun c => nomatch c), f4.h D _ h3, h4.up f4.g⟩
/-- a turn with a test -/
theorem Cp.step {D : Addr} {σ2 : L2.St} {b : Bool} (h : Cp G H D ps H') (hz : ps.length < 100000) (ht : ∀ G', Ex G G' → EvT t σ2 G' b) (hp : b = true → ∀ G', Ex G G' → EvP te σ2 G' p) :
    t σ2 H' fun b H3 => if b = true then te σ2 H3 fun y H4 => ∃ acc, H4 D = some (.lst acc) ∧ acc.length < sizeLine ∧ Cp G H D (if b then ps ++ [p] else ps) (upd H4 D (.lst (acc ++ [y]))) else Cp G H D (if b then ps ++ [p] else ps) H3 := by
  have h0 := h
  obtain ⟨G', xs, f, h1, h2, h3, h4⟩ := h
  refine ht G' f.g H' f.k _ fun H3 e3 => ?_
  have h5 : Cp G H D ps H3 := h0.more (G4 := G') fun G1 _ e1 _ => ⟨G1, Fr.same e1 e3⟩
  cases b with
  | true => exact h5.turn hz fun G1 e1 => hp rfl G1 e1
  | false => exact h5
theorem Cp.done {D : Addr} (h : Cp G H D ps H') {Q : VK} (k : ∀ p xs H2 G2, Fr G H G2 H2 → H p = none → G2 p = none → H2 p = some (.lst xs) → Al G2 ps xs → Q (.ref p) H2) : Q (.ref D) H' := by
  obtain ⟨G', xs, f, h1, h2, h3, h4⟩ := h
  exact k D xs H' G' f h1 h2 h3 h4
theorem filt_snoc {α : Type} (f : α → Bool) (c : α → Pr) (l : List α) (a : α) : ((l ++ [a]).filter f).map c = if f a then (l.filter f).map c ++ [c a] else (l.filter f).map c := by
  rw [List.filter_append, List.map_append]
  by_cases h : f a = true
  · simp [h]
  · simp [h]
theorem take_snoc {α : Type} {l : List α} {i : Nat} {a : α} (h : l[i]? = some a) : l.take (i + 1) = l.take i ++ [a] := by
  rw [List.take_succ, h]
  rfl
theorem filt_len {α : Type} (f : α → Bool) (c : α → Pr) (l : List α) (i : Nat) : (((l.take i).filter f).map c).length ≤ l.length := by
  rw [List.length_map]
  exact Nat.le_trans (List.length_filter_le _ _) (by rw [List.length_take]; exact Nat.min_le_right _ _)
theorem Al.nil : ∀ {xs : List V}, Al G [] xs → xs = []
  | [], _ => rfl
  | _ :: _, h => h.elim
theorem Al.uncons : ∀ {xs : List V}, Al G (p :: ps) xs → ∃ x r, xs = x :: r ∧ p.on G x ∧ Al G ps r
  | [], h => h.elim
  | x :: r, h => ⟨x, r, rfl, h.1, h.2⟩
theorem Al.one {xs : List V} (h : Al G [p] xs) : ∃ x, xs = [x] ∧ p.on G x := by
  obtain ⟨x, r, rfl, h1, h2⟩ := h.uncons
  obtain rfl := Al.nil h2
  exact ⟨x, rfl, h1⟩
theorem Al.two {xs : List V} (h : Al G [p, q] xs) : ∃ x y, xs = [x, y] ∧ p.on G x ∧ q.on G y := by
  obtain ⟨x, r, rfl, h1, h2⟩ := h.uncons
  obtain ⟨y, rfl, h3⟩ := h2.one
  exact ⟨x, y, rfl, h1, h3⟩
/-! ### what is gone over -/
/-- at each turn of l an item that stands for c a -/
structure Gw {α : Type} (J : It) (G2 : Hp) (l : List α) (c : α → Pr) : Prop where
  go : ∀ i H, i < l.length → Ex G2 H → J.go i H
  stop : ∀ H, Ex G2 H → J.stop l.length H
  yld : ∀ i H x H', i < l.length → Ex G2 H → J.yld i H x H' → ∃ a, l[i]? = some a ∧ ∀ G', Ex G2 G' → Ex G' H → ∃ G3, Fr G' H G3 H' ∧ (c a).on G3 x
theorem Gw.walk {α : Type} {J : It} {G2 : Hp} {l : List α} {c : α → Pr} (w : Gw J G2 l c) : Walk J l.length (fun H => Ex G2 H) (fun i H x H' => ∃ a, l[i]? = some a ∧ ∀ G', Ex G2 G' → Ex G' H → ∃ G3, Fr G' H G3 H' ∧ (c a).on G3 x) :=
  ⟨w.go, w.stop, w.yld⟩
def EvI {α : Type} (wi : TI) (σ : L2.St) (G : Hp) (l : List α) (c : α → Pr) : Prop := ∀ H1, Ex G H1 → ∀ R : It → Hp → Prop, (∀ J H2 G2, Fr G H1 G2 H2 → Gw J G2 l c → R J H2) → wi σ H1 R
theorem map_at {α : Type} {l : List α} {c : α → Pr} {xs : List V} {i : Nat} {x : V} (h : Al G (l.map c) xs) (hx : xs[i]? = some x) : ∃ a, l[i]? = some a ∧ (c a).on G x := by
  obtain ⟨pr, hp, hon⟩ := h.get hx
  rw [List.getElem?_map] at hp
  cases hla : l[i]? with
  | none =>
    rw [hla] at hp
    cases hp
  | some b =>
    rw [hla] at hp
    cases hp
    exact ⟨b, rfl, hon⟩
theorem ei_list {α : Type} {l : List α} {c : α → Pr} (h : EvP tl σ G (pLst K (l.map c))) : EvI (iList K tl) σ G l c := fun H0 e R k => h H0 e _ fun v H1 G1 f1 hv => by
  obtain ⟨a, xs, rfl, h1, h2⟩ := hv
  have hl : xs.length = l.length := by rw [h2.len, List.length_map]
  have w : Walk (Itl K a) xs.length (fun H => SqL K H a xs) (YAt xs) := walk_list
  refine ⟨a, rfl, ⟨xs, ex_l f1.k (sq_of h1)⟩, k _ H1 G1 f1 ⟨fun i H hi e => w.goes i H (by omega) (ex_l e (sq_of h1)), fun H e => hl ▸ w.stops H (ex_l e (sq_of h1)), fun i H x H' hi e y => ?_⟩⟩
  obtain ⟨rfl, hx⟩ := w.yields i H x H' (by omega) (ex_l e (sq_of h1)) y
  obtain ⟨b, hb, hon⟩ := map_at h2 hx
  exact ⟨b, hb, fun G' e1 e2 => ⟨G', Fr.refl e2, (c b).up e1 hon⟩⟩
theorem ei_tup {α : Type} {l : List α} {c : α → Pr} (h : EvP tl σ G (pTup K (l.map c))) : EvI (iTup K tl) σ G l c := fun H0 e R k => h H0 e _ fun v H1 G1 f1 hv => by
  obtain ⟨a, xs, rfl, h1, h2⟩ := hv
  have hl : xs.length = l.length := by rw [h2.len, List.length_map]
  have w : Walk (Itt K a) xs.length (fun H => SqT K H a xs) (YAt xs) := walk_tup
  refine ⟨a, rfl, ⟨xs, ex_t f1.k h1⟩, k _ H1 G1 f1 ⟨fun i H hi e => w.goes i H (by omega) (ex_t e h1), fun H e => hl ▸ w.stops H (ex_t e h1), fun i H x H' hi e y => ?_⟩⟩
  obtain ⟨rfl, hx⟩ := w.yields i H x H' (by omega) (ex_t e h1) y
  obtain ⟨b, hb, hon⟩ := map_at h2 hx
  exact ⟨b, hb, fun G' e1 e2 => ⟨G', Fr.refl e2, (c b).up e1 hon⟩⟩
theorem range_at {n i : Nat} (h : i < n) : (List.range n)[i]? = some i := by rw [List.getElem?_range h]
theorem ei_range {ta : TA} {n : Nat} (h : EvA ta σ G [.int n]) (hn : n ≤ 1000000) : EvI (iRng1 ta) σ G (List.range n) (fun i => pV (.int (i : Nat))) := fun H0 e R k => h H0 e _ fun H1 e1 => by
  refine ⟨n, rfl, by omega, by omega, k _ H1 G (Fr.same e e1) ⟨fun i H hi _ => ?_, fun H _ => ?_, fun i H x H' hi _ y => ?_⟩⟩
  · rw [List.length_range] at hi
    exact hi
  · rw [List.length_range]
    exact Nat.le_refl _
  · rw [List.length_range] at hi
    obtain ⟨rfl, rfl⟩ := y
    exact ⟨i, range_at hi, fun G' _ e2 => ⟨G', Fr.refl e2, by show V.int _ = V.int _; rw [Int.zero_add]⟩⟩
/-- range(lo, hi), lo not above hi -/
theorem ei_range2 {ta : TA} {lo n : Nat} (h : EvA ta σ G [.int lo, .int (lo + n : Nat)]) (hn : lo + n ≤ 1000000) : EvI (iRng2 ta) σ G (List.range n) (fun i => pV (.int (lo + i : Nat))) := fun H0 e R k => h H0 e _ fun H1 e1 => by
  have en : ((lo + n : Nat) - (lo : Nat) : Int).toNat = n := by omega
  refine ⟨lo, (lo + n : Nat), rfl, by omega, k _ H1 G (Fr.same e e1) ?_⟩
  rw [en]
  refine ⟨fun i H hi _ => ?_, fun H _ => ?_, fun i H x H' hi _ y => ?_⟩
  · rw [List.length_range] at hi
    exact hi
  · rw [List.length_range]
    exact Nat.le_refl _
  · rw [List.length_range] at hi
    obtain ⟨rfl, rfl⟩ := y
    exact ⟨i, range_at hi, fun G' _ e2 => ⟨G', Fr.refl e2, by show V.int _ = V.int _; simp⟩⟩
theorem ei_str {s : Str} (h : Ev ts σ G (.str s)) : EvI (iStr ts) σ G s.cps.toList (fun c => pV (.str ⟨#[c]⟩)) := fun H0 e R k => h H0 e _ fun H1 e1 => by
  refine ⟨s, rfl, k _ H1 G (Fr.same e e1) ⟨fun i H hi _ => ?_, fun H _ => ?_, fun i H x H' hi _ y => ?_⟩⟩
  · rw [Array.length_toList] at hi
    exact hi
  · rw [Array.length_toList]
    exact Nat.le_refl _
  · obtain ⟨rfl, c, hc, rfl⟩ := y
    exact ⟨c, by simpa using hc, fun G' _ e2 => ⟨G', Fr.refl e2, rfl⟩⟩
theorem pair_on {T : Addr} {x y : V} {c d : Pr} {G' H : Hp} (e : Ex G' H) (hT : H T = none) (hx : c.on G' x) (hy : d.on G' y) : Fr G' H (upd G' T (.tup [x, y])) (upd H T (.tup [x, y])) ∧ (pTup K [c, d]).on (upd G' T (.tup [x, y])) (.ref T) :=
  ⟨Fr.new e hT, T, _, rfl, st_of upd_same, c.up (Ex.new (fresh_back e hT)) hx, d.up (Ex.new (fresh_back e hT)) hy, trivial⟩
/-- enumerate(list): each with its place -/
theorem ei_enum {α : Type} {l : List α} {c : α → Pr} {ta : TA} (h : EvPs ta σ G [pLst K (l.map c)]) : EvI (iEnum K ta) σ G l.zipIdx (fun x => pTup K [pV (.int (x.2 : Nat)), c x.1]) := fun H0 e R k => h H0 e _ fun vs H1 G1 f1 hv => by
  obtain ⟨v, rfl, a, xs, rfl, h1, h2⟩ := hv.one
  have hl : xs.length = l.length := by rw [h2.len, List.length_map]
  have w : Walk (Ite K a) xs.length (fun H => SqL K H a xs) (YPair (fun i => some (.int (i : Nat))) (fun i => xs[i]?)) := walk_enum
  refine ⟨a, xs, rfl, ex_l f1.k (sq_of h1), k _ H1 G1 f1 ⟨fun i H hi e => w.goes i H (by rw [List.length_zipIdx] at hi; omega) (ex_l e (sq_of h1)), fun H e => by rw [List.length_zipIdx, ← hl]; exact w.stops H (ex_l e (sq_of h1)), fun i H x H' hi e y => ?_⟩⟩
  rw [List.length_zipIdx] at hi
  obtain ⟨T, x', y', rfl, hT, rfl, h3, h4⟩ := w.yields i H x H' (by omega) (ex_l e (sq_of h1)) y
  obtain ⟨b, hb, hon⟩ := map_at h2 h4
  cases h3
  exact ⟨(b, i), by rw [List.getElem?_zipIdx, hb]; simp, fun G' e1 e2 => ⟨_, pair_on e2 hT rfl ((c b).up e1 hon)⟩⟩
/-- enumerate(zip(a, b)) of two texts of one length -/
theorem ei_ez {ta : TA} {a b : Str} (h : EvA ta σ G [.str a, .str b]) (hl : a.cps.size = b.cps.size) :
    EvI (iEz ta) σ G (a.cps.toList.zip b.cps.toList).zipIdx (fun x => pTup K [pV (.int (x.2 : Nat)), pTup K [pV (.str ⟨#[x.1.1]⟩), pV (.str ⟨#[x.1.2]⟩)]]) := fun H0 e R k => h H0 e _ fun H1 e1 => by
  have hl2 : ((a.cps.toList.zip b.cps.toList).zipIdx).length = a.cps.size := by
    rw [List.length_zipIdx, List.length_zip, Array.length_toList, Array.length_toList]
    omega
  refine ⟨a, b, rfl, hl, k _ H1 G (Fr.same e e1) ⟨fun i H hi _ => ?_, fun H _ => ?_, fun i H x H' hi _ y => ?_⟩⟩
  · rw [hl2] at hi
    exact hi
  · rw [hl2]
    rfl
  · obtain ⟨T, U, c, d, rfl, hT, hU, hn, rfl, h1, h2⟩ := y
    refine ⟨((c, d), i), ?_, fun G' _ e2 => ?_⟩
    · rw [List.getElem?_zipIdx, List.getElem?_zip_eq_some (z := (c, d)) |>.mpr ⟨by simpa using h1, by simpa using h2⟩]
      simp
    · have p1 := pair_on (K := K) (c := pV (.str ⟨#[c]⟩)) (d := pV (.str ⟨#[d]⟩)) e2 hT rfl rfl
      have p2 := pair_on (K := K) (T := U) (x := .int (i : Nat)) (c := pV (.int (i : Nat))) p1.1.k (by rw [upd_ne hn]; exact hU) rfl p1.2
      exact ⟨_, p1.1.trans p2.1, p2.2⟩
/-! ### targets -/
def Tg (g : TG) (p : Pr) (σ : L2.St) (F : Hp → L2.St → Prop) : Prop := ∀ G x H, p.on G x → Ex G H → ∀ k : L2.St → Hp → Prop, (∀ σ', F G σ' → k σ' H) → g x σ H k
theorem tg_name {j : Nat} : Tg (gName j) p σ (fun G σ' => ∃ x, p.on G x ∧ σ' = σ.set j (some x)) := fun G x H hx e k q => q _ ⟨x, hx, rfl⟩
theorem tg_pair {i j : Nat} : Tg (gTup K 2 (gCons (gName i) (gCons (gName j) gNil))) (pTup K [p, q]) σ (fun G σ' => ∃ x y, p.on G x ∧ q.on G y ∧ σ' = (σ.set i (some x)).set j (some y)) := fun G v H hv e k r => by
  obtain ⟨a, xs, rfl, h1, h2⟩ := hv
  obtain ⟨x, y, rfl, h3, h4⟩ := h2.two
  exact ⟨a, [x, y], rfl, ex_t e h1, rfl, x, [y], rfl, y, [], rfl, rfl, r _ ⟨x, y, h3, h4, rfl⟩⟩
theorem tg_pairB {i j m : Nat} {p2 : Pr} : Tg (gTup K 2 (gCons (gName i) (gCons (gTup K 2 (gCons (gName j) (gCons (gName m) gNil))) gNil))) (pTup K [p, pTup K [q, p2]]) σ (fun G σ' => ∃ x y z, p.on G x ∧ q.on G y ∧ p2.on G z ∧ σ' = ((σ.set i (some x)).set j (some y)).set m (some z)) := fun G v H hv e k r => by
  obtain ⟨a, xs, rfl, h1, h2⟩ := hv
  obtain ⟨x, w, rfl, h3, h4⟩ := h2.two
  obtain ⟨b, ys, rfl, h5, h6⟩ := h4
  obtain ⟨y, z, rfl, h7, h8⟩ := h6.two
  exact ⟨a, _, rfl, ex_t e h1, rfl, x, _, rfl, _, [], rfl, ⟨b, _, rfl, ex_t e h5, rfl, y, _, rfl, z, [], rfl, rfl, rfl, r _ ⟨x, y, z, h3, h7, h8, rfl⟩⟩⟩
/-- [e for target in it if t] -/
theorem en_lc {α : Type} {wi : TI} {g : TG} {l : List α} {c : α → Pr} {F : α → Hp → L2.St → Prop} (f : α → Bool) (d : α → Pr) (h : EvI wi σ G l c) (hg : ∀ a, Tg g (c a) (wipe σ vs) (F a)) (hz : l.length < 100000) (hw : ∀ a G σ', F a G σ' → wipe σ' vs = wipe σ vs)
    (ht : ∀ a σ' G1, a ∈ l → Ex G G1 → F a G1 σ' → EvT t σ' G1 (f a)) (he : ∀ a σ' G1, a ∈ l → f a = true → Ex G G1 → F a G1 σ' → EvP te σ' G1 (d a)) :
    EvN (tLc wi g t te vs) σ G ((l.filter f).map d) := fun H0 e Q k => h H0 e _ fun J H1 G1 f1 w D hD => by
  refine lc_it w.walk (fun i H' => Cp G1 H1 D (((l.take i).filter f).map d) H') (Cp.ini f1.k hD) (fun i H' _ hc => ?_) (fun i x H2 H3 hi hc y => ?_) (fun H' hc => ?_)
  · obtain ⟨G', _, g, _⟩ := hc
    exact g.g.trans g.k
  · obtain ⟨a, hla, hy⟩ := y
    have hm := List.mem_of_getElem? hla
    obtain ⟨G', xs, g1, g2, g3, g4, g5⟩ := hc
    obtain ⟨G3, f3, hx⟩ := hy G' g1.g g1.k
    have hc3 : Cp G1 H1 D (((l.take i).filter f).map d) H3 := ⟨G3, xs, g1.trans f3, g2, f3.n D g3 (by rw [g4]; exact fun c => nomatch c), f3.h D _ g4, g5.up f3.g⟩
    refine hg a G3 x H3 hx f3.k _ fun σ' hσ => ⟨hw a G3 σ' hσ, ?_⟩
    rw [take_snoc hla, filt_snoc]
    have hz' := filt_len f d l i
    have eG : Ex G G3 := f1.g.trans (g1.g.trans f3.g)
    refine (ht a σ' G3 hm eG hσ) H3 f3.k _ fun H4 e4 => ?_
    have f4 : Fr G3 H3 G3 H4 := Fr.same f3.k e4
    have hD4 : H4 D = some (.lst xs) := e4 D _ (f3.h D _ g4)
    have hG3 : G3 D = none := f3.n D g3 (by rw [g4]; exact fun c => nomatch c)
    cases hb : f a with
    | false => exact ⟨G3, xs, (g1.trans f3).trans f4, g2, hG3, hD4, g5.up f3.g⟩
    | true =>
      refine (he a σ' G3 hm hb eG hσ) H4 f4.k _ fun y H5 G5 f5 hy => ⟨xs, f5.h D _ hD4, sz_lt (by rw [g5.len]; omega), G5, xs ++ [y], ?_, g2, f5.n D hG3 (by rw [hD4]; exact fun c => nomatch c), upd_same, (g5.up (f3.g.trans f5.g)).app ⟨hy, trivial⟩⟩
      have g := (((g1.trans f3).trans f4).trans f5)
      refine ⟨g.g, Ex.mut g.h g2, fun u o hu => ?_, g.n⟩
      have : u ≠ D := fun c => by
        subst c
        rw [f5.n u hG3 (by rw [hD4]; exact fun c => nomatch c)] at hu
        cases hu
      rw [upd_ne this]
      exact g.k u o hu
  · rw [List.take_length] at hc
    exact hc.done fun p xs H2 G2 f2 hp1 hp2 => k p xs H2 G2 (f1.trans f2) (fresh_back f1.h hp1) hp2
end
end OP

namespace OP
open PySem PySem.Spec PyProof.Rows L2 Evl
variable {K : PySem.W.Frag}
/-! ### promises of defs -/
/-- a def that computes a datum -/
def spF (A : List Pr → Pr → Prop) : Sp := fun vs H Q _ => ∃ G ps p, A ps p ∧ Ex G H ∧ Al G ps vs ∧ ∀ v H2 G2, Fr G H G2 H2 → p.on G2 v → Q v H2
/-- a def that makes a new list -/
def spN (A : List Pr → List Pr → Prop) : Sp := fun vs H Q _ => ∃ G ps qs, A ps qs ∧ Ex G H ∧ Al G ps vs ∧ ∀ p xs H2 G2, Fr G H G2 H2 → H p = none → G2 p = none → H2 p = some (.lst xs) → Al G2 qs xs → Q (.ref p) H2
section
variable {σ : L2.St} {G G' H H' : Hp} {ta tb te tx ts tl : TE} {t u : TT} {x y z v : V} {p q : Pr} {ps qs : List Pr} {i j : Nat} {vs : List Nat} {D : Ends} {tu tz : TS} {E : XK}
theorem ep_call {A : List Pr → Pr → Prop} {ta : TA} (h : EvPs ta σ G ps) (a : A ps p) : EvP (tCall (spF A) [] E ta) σ G p := fun H1 e Q k => h H1 e _ fun vs H2 G2 f hvs =>
  ⟨G2, ps, p, a, f.k, by rw [List.append_nil]; exact hvs, fun v H3 G3 f3 hv => k v H3 G3 (f.trans f3) hv⟩
theorem en_call {A : List Pr → List Pr → Prop} {ta : TA} (h : EvPs ta σ G ps) (a : A ps qs) : EvN (tCall (spN A) [] E ta) σ G qs := fun H1 e Q k => h H1 e _ fun vs H2 G2 f hvs =>
  ⟨G2, ps, qs, a, f.k, by rw [List.append_nil]; exact hvs, fun p xs H3 G3 f3 hp => k p xs H3 G3 (f.trans f3) (fresh_back f.h hp)⟩
/-! ### statements -/
theorem s_retP {Q : VK} (e : Ex G H) (h : EvP te σ G p) (k : ∀ v H2 G2, Fr G H G2 H2 → p.on G2 v → D.rt v H2) : tRet te D σ H := h H e _ fun v H2 G2 f hv => k v H2 G2 f hv
theorem s_retN {Q : VK} (e : Ex G H) (h : EvN te σ G ps) (k : ∀ p xs H2 G2, Fr G H G2 H2 → H p = none → G2 p = none → H2 p = some (.lst xs) → Al G2 ps xs → D.rt (.ref p) H2) : tRet te D σ H := h H e _ fun p xs H2 G2 f h1 h2 h3 h4 => k p xs H2 G2 f h1 h2 h3 h4
theorem q_asgP (e : Ex G H) (h : EvP te σ G p) (k : ∀ v H2 G2, Fr G H G2 H2 → p.on G2 v → tz D (σ.set i (some v)) H2) : tSeq (tAsg te (gName i)) tz D σ H := h H e _ fun v H2 G2 f hv => k v H2 G2 f hv
theorem s_asgP (e : Ex G H) (h : EvP te σ G p) (k : ∀ v H2 G2, Fr G H G2 H2 → p.on G2 v → D.nx (σ.set i (some v)) H2) : tAsg te (gName i) D σ H := h H e _ fun v H2 G2 f hv => k v H2 G2 f hv
theorem q_asgN (e : Ex G H) (h : EvN te σ G ps) (k : ∀ p xs H2 G2, Fr G H G2 H2 → H p = none → G2 p = none → H2 p = some (.lst xs) → Al G2 ps xs → tz D (σ.set i (some (.ref p))) H2) : tSeq (tAsg te (gName i)) tz D σ H := h H e _ fun p xs H2 G2 f h1 h2 h3 h4 => k p xs H2 G2 f h1 h2 h3 h4
theorem s_asgN (e : Ex G H) (h : EvN te σ G ps) (k : ∀ p xs H2 G2, Fr G H G2 H2 → H p = none → G2 p = none → H2 p = some (.lst xs) → Al G2 ps xs → D.nx (σ.set i (some (.ref p))) H2) : tAsg te (gName i) D σ H := h H e _ fun p xs H2 G2 f h1 h2 h3 h4 => k p xs H2 G2 f h1 h2 h3 h4
theorem q_dropP (e : Ex G H) (h : EvP te σ G p) (k : ∀ v H2 G2, Fr G H G2 H2 → p.on G2 v → tz D σ H2) : tSeq (tDrop te) tz D σ H := h H e _ fun v H2 G2 f hv => k v H2 G2 f hv
theorem q_whenP {b : Bool} (e : Ex G H) (h : EvT t σ G b) (h1 : b = true → ∀ H1, Fr G H G H1 → tu { D with nx := tz D } σ H1) (h2 : b = false → ∀ H1, Fr G H G H1 → tz D σ H1) : tSeq (tIfS t tu tNext) tz D σ H :=
  q_when (h.mono e) (fun hb H1 e1 => h1 hb H1 (Fr.same e e1)) (fun hb H1 e1 => h2 hb H1 (Fr.same e e1))
theorem s_whenP {b : Bool} (e : Ex G H) (h : EvT t σ G b) (h1 : b = true → ∀ H1, Fr G H G H1 → tu D σ H1) (h2 : b = false → ∀ H1, Fr G H G H1 → D.nx σ H1) : tIfS t tu tNext D σ H :=
  s_when (h.mono e) (fun hb H1 e1 => h1 hb H1 (Fr.same e e1)) (fun hb H1 e1 => h2 hb H1 (Fr.same e e1))
/-- a list of our own, made since (G, H), that may still grow -/
structure Cq (G H : Hp) (a : Addr) (ps : List Pr) (G' H' : Hp) : Prop where
  f : Fr G H G' H'
  new : H a = none
  out : G' a = none
  at_ : ∃ xs, H' a = some (.lst xs) ∧ Al G' ps xs
theorem Cq.of {a : Addr} {xs : List V} (f : Fr G H G' H') (h1 : H a = none) (h2 : G' a = none) (h3 : H' a = some (.lst xs)) (h4 : Al G' ps xs) : Cq G H a ps G' H' := ⟨f, h1, h2, xs, h3, h4⟩
theorem Cq.go {a : Addr} {G2 H2 : Hp} (c : Cq G H a ps G' H') (f : Fr G' H' G2 H2) : Cq G H a ps G2 H2 := by
  obtain ⟨f1, h1, h2, xs, h3, h4⟩ := c
  exact ⟨f1.trans f, h1, f.n a h2 (by rw [h3]; exact fun c => nomatch c), xs, f.h a _ h3, h4.up f.g⟩
theorem Cq.k {a : Addr} (c : Cq G H a ps G' H') : Ex G' H' := c.f.k
/-- known from now on -/
theorem Cq.known {a : Addr} (c : Cq G H a ps G' H') : ∃ G2, Fr G H G2 H' ∧ Ex G' G2 ∧ (pLst K ps).on G2 (.ref a) := by
  obtain ⟨f1, h1, h2, xs, h3, h4⟩ := c
  obtain ⟨e1, e2⟩ := Fr.freeze f1.k h2 h3
  refine ⟨upd G' a (.lst xs), ⟨f1.g.trans e1, f1.h, e2, fun b hb1 hb2 => ?_⟩, e1, a, xs, rfl, upd_same, h4.up e1⟩
  have : b ≠ a := fun c => by subst c; exact hb2 h1
  rw [upd_ne this]
  exact f1.n b hb1 hb2
theorem Cq.add {a : Addr} {xs : List V} (c : Cq G H a ps G' H') (h3 : H' a = some (.lst xs)) (hv : p.on G' v) : Cq G H a (ps ++ [p]) G' (upd H' a (.lst (xs ++ [v]))) := by
  obtain ⟨f1, h1, h2, xs', h3', h4⟩ := c
  rw [h3] at h3'
  cases h3'
  refine ⟨⟨f1.g, Ex.mut f1.h h1, fun b o hb => ?_, f1.n⟩, h1, h2, xs ++ [v], upd_same, h4.app ⟨hv, trivial⟩⟩
  have : b ≠ a := fun c => by
    subst c
    rw [h2] at hb
    cases hb
  rw [upd_ne this]
  exact f1.k b o hb
/-- x.append(e) -/
theorem s_addP {a : Addr} {G0 H0 : Hp} (c : Cq G0 H0 a ps G H) (hv : σ[i]? = some (some (.ref a))) (h : EvP te σ G p) (hz : ps.length < 100000) (k : ∀ H2 G2, Cq G0 H0 a (ps ++ [p]) G2 H2 → Ex G G2 → D.nx σ H2) : tDrop (tBM K "list" rAppend (tVar i) (tCons te tNil)) D σ H := by
  obtain ⟨ys, h1, _⟩ := c.at_
  refine ⟨.ref a, hv, Or.inl ⟨rfl, ys, sq_of h1⟩, h H c.k _ fun v H2 G2 f hp => ?_⟩
  have c2 := c.go f
  obtain ⟨xs, h3, h4⟩ := c2.at_
  exact ⟨a, xs, v, rfl, rfl, h3, sz_lt (by rw [h4.len]; exact hz), k _ G2 (c2.add h3 hp) f.g⟩
theorem q_addP {a : Addr} {G0 H0 : Hp} (c : Cq G0 H0 a ps G H) (hv : σ[i]? = some (some (.ref a))) (h : EvP te σ G p) (hz : ps.length < 100000) (k : ∀ H2 G2, Cq G0 H0 a (ps ++ [p]) G2 H2 → Ex G G2 → tz D σ H2) : tSeq (tDrop (tBM K "list" rAppend (tVar i) (tCons te tNil))) tz D σ H :=
  s_addP (D := { D with nx := tz D }) c hv h hz k
/-- behind a turn: what is known has grown, the invariant holds -/
def Nx (Gb : Hp) (Pv : L2.St → Hp → Hp → Prop) : L2.St → Hp → Prop := fun σ H => ∃ G, Ex Gb G ∧ Ex G H ∧ Pv σ G H
/-- for target in it -/
theorem s_forP {α : Type} {wi : TI} {g : TG} {l : List α} {c : α → Pr} {F : α → L2.St → Hp → L2.St → Prop} (e : Ex G H) (h : EvI wi σ G l c) (hg : ∀ a σ', Tg g (c a) σ' (F a σ')) (Pv : Nat → L2.St → Hp → Hp → Prop)
    (h0 : ∀ H2 G2, Fr G H G2 H2 → Pv 0 σ G2 H2) (hst : ∀ i σ' G1 H1 G2 H2, Pv i σ' G1 H1 → Ex G1 H1 → Fr G1 H1 G2 H2 → Pv i σ' G2 H2)
    (hs : ∀ i a σ' Gb G1 H1 σ2, l[i]? = some a → Ex G Gb → Ex Gb G1 → Ex G1 H1 → Pv i σ' G1 H1 → F a σ' G1 σ2 → tu { D with nx := Nx Gb (Pv (i + 1)), ct := Nx Gb (Pv (i + 1)), bk := D.nx } σ2 H1)
    (hd : ∀ σ' G1 H1, Ex G G1 → Ex G1 H1 → Pv l.length σ' G1 H1 → D.nx σ' H1) : tFor wi g tu D σ H := h H e _ fun J H2 G2 f w =>
  for_it w.walk (fun i => Nx G2 (Pv i)) ⟨G2, Ex.refl G2, f.k, h0 H2 G2 f⟩ (fun i σ' H' _ hp => by
    obtain ⟨G1, e1, e2, _⟩ := hp
    exact e1.trans e2) (fun i x σ' H1 H3 hi hp y => by
    obtain ⟨G1, e1, e2, hp⟩ := hp
    obtain ⟨a, hla, hy⟩ := y
    obtain ⟨G3, f3, hx⟩ := hy G1 e1 e2
    exact hg a σ' G3 x H3 hx f3.k _ fun σ2 hσ => hs i a σ' G2 G3 H3 σ2 hla f.g (e1.trans f3.g) f3.k (hst i σ' G1 H1 G3 H3 hp e2 f3) hσ) (fun σ' H' hp => by
    obtain ⟨G1, e1, e2, hp⟩ := hp
    exact hd σ' G1 H' (f.g.trans e1) e2 hp)
theorem q_forP {α : Type} {wi : TI} {g : TG} {l : List α} {c : α → Pr} {F : α → L2.St → Hp → L2.St → Prop} (e : Ex G H) (h : EvI wi σ G l c) (hg : ∀ a σ', Tg g (c a) σ' (F a σ')) (Pv : Nat → L2.St → Hp → Hp → Prop)
    (h0 : ∀ H2 G2, Fr G H G2 H2 → Pv 0 σ G2 H2) (hst : ∀ i σ' G1 H1 G2 H2, Pv i σ' G1 H1 → Ex G1 H1 → Fr G1 H1 G2 H2 → Pv i σ' G2 H2)
    (hs : ∀ i a σ' Gb G1 H1 σ2, l[i]? = some a → Ex G Gb → Ex Gb G1 → Ex G1 H1 → Pv i σ' G1 H1 → F a σ' G1 σ2 → tu { D with nx := Nx Gb (Pv (i + 1)), ct := Nx Gb (Pv (i + 1)), bk := tz D } σ2 H1)
    (hd : ∀ σ' G1 H1, Ex G G1 → Ex G1 H1 → Pv l.length σ' G1 H1 → tz D σ' H1) : tSeq (tFor wi g tu) tz D σ H := s_forP (D := { D with nx := tz D }) e h hg Pv h0 hst hs hd
/-! ### more readings -/
/-- all, any of a new list of truth values -/
theorem ev_allP {bs : List Bool} (h : EvP ta σ G (pLst K (bs.map fun b => pV (.bl b)))) : Ev (tCB (rAll K) (tCons ta tNil)) σ G (.bl (bs.all id)) := fun H1 e Q k => h H1 e _ fun v H2 G2 f hv => by
  obtain ⟨a, xs, rfl, h1, h2⟩ := hv
  have ex : ∀ (bs : List Bool) (xs : List V), Al G2 (bs.map fun b => pV (.bl b)) xs → xs = bs.map V.bl := fun bs => by
    induction bs with
    | nil => exact fun xs h => Al.nil h
    | cons b r ih =>
      intro xs h
      obtain ⟨x, t, rfl, h3, h4⟩ := Al.uncons h
      rw [show x = V.bl b from h3, ih t h4]
      rfl
  rw [ex bs xs h2] at h1
  exact ⟨a, bs, rfl, ex_l f.k (sq_of h1), k H2 f.h⟩
theorem ev_anyP {bs : List Bool} (h : EvP ta σ G (pLst K (bs.map fun b => pV (.bl b)))) : Ev (tCB (rAny K) (tCons ta tNil)) σ G (.bl (bs.any id)) := fun H1 e Q k => h H1 e _ fun v H2 G2 f hv => by
  obtain ⟨a, xs, rfl, h1, h2⟩ := hv
  have ex : ∀ (bs : List Bool) (xs : List V), Al G2 (bs.map fun b => pV (.bl b)) xs → xs = bs.map V.bl := fun bs => by
    induction bs with
    | nil => exact fun xs h => Al.nil h
    | cons b r ih =>
      intro xs h
      obtain ⟨x, t, rfl, h3, h4⟩ := Al.uncons h
      rw [show x = V.bl b from h3, ih t h4]
      rfl
  rw [ex bs xs h2] at h1
  exact ⟨a, bs, rfl, ex_l f.k (sq_of h1), k H2 f.h⟩
/-- g.join(list of texts) -/
theorem al_strs : ∀ {ss : List Str} {xs : List V}, Al G (ss.map fun s => pV (.str s)) xs → xs = ss.map V.str
  | [], xs, h => Al.nil h
  | s :: r, xs, h => by
    obtain ⟨x, t, rfl, h3, h4⟩ := Al.uncons h
    rw [show x = V.str s from h3, al_strs h4]
    rfl
theorem al_ints : ∀ {ss : List Int} {xs : List V}, Al G (ss.map fun s => pV (.int s)) xs → xs = ss.map V.int
  | [], xs, h => Al.nil h
  | s :: r, xs, h => by
    obtain ⟨x, t, rfl, h3, h4⟩ := Al.uncons h
    rw [show x = V.int s from h3, al_ints h4]
    rfl
end
end OP

/-! PreOwn: == and != of instances by an own __eq__; data in a tuple; instances as data (pObj), their fields, properties, methods, making. -/
namespace OP
open PySem PySem.Spec PyProof.Rows L2 Evl
theorem ns_at {K : PySem.W.Frag} {h : Heap} {N : Addr} {mg : Str → Option Value} {n : Str} {v : Value} (X : K.In h) (G : h.Ns N mg) (e : PySem.W.nsIn K N n = some (some v)) : mg n = some v := by
  obtain ⟨o, es, ep, ho, hd, _, hf⟩ := G
  unfold PySem.W.nsIn at e
  split at e
  · rename_i c d es' n' sl q
    have := X _ _ q
    rw [this] at ho
    cases ho
    cases hd
    split at e
    · rename_i e' he
      cases e
      rw [← hf]
      unfold nsFind findBy
      rw [← Array.find?_toList, he]
      rfl
    · split at e <;> cases e
  · cases e
/-- instances of the class at C: what isinstance asks -/
structure InsT (K : PySem.W.Frag) (C : Addr) : Prop where
  ha : PySem.W.findIn K (.ref C) "__class__" = some (some (.builtin "object.__class__"))
  hn : PySem.W.specialIn K (.builtin "object.__class__") "__get__" = some (some (.builtin "getset_descriptor.__get__"))
  htk : PySem.W.takesIn K (.builtin "object.__class__") = some true
  hm : PySem.W.mroIn K C (.type "object") = some true
def keysOk (es : Array DictEntry) : Bool := es.toList.all fun e => match e.key with | .str _ _ => true | _ => false
theorem nsOk_of {K : PySem.W.Frag} {N : Addr} {c : Value} {d : Option Addr} {es : Array DictEntry} {n : Nat} {sl : Array (Option Value)} (h : K.lookup N = some ⟨c, d, .dict es n, sl⟩) (k : keysOk es = true) : PySem.W.nsOkIn K N = true := by
  unfold PySem.W.nsOkIn
  rw [h]
  unfold keysOk at k
  rw [Array.all_toList] at k
  exact k
/-- the class at C has __eq__ at f, no __ne__, and object alone above it -/
structure OwnE (K : PySem.W.Frag) (C f : Addr) : Prop where
  cls : ∃ (nm q : Str) (N : Addr) (bs : List Value) (hdct : Bool) (sn : List Str) (sub : List Value) (ab : Bool) (col : Option Bool) (dd : Option Addr) (k0 k1 k2 k3 k5 : Option Value) (newId : String),
    K.lookup C = some (excClassObj nm q C N bs [.type "object"] hdct sn sub ab col dd k0 k1 k2 k3 k5 newId) ∧ PySem.W.nsOkIn K N = true ∧ PySem.W.nsIn K N "__eq__" = some (some (.ref f)) ∧ PySem.W.nsIn K N "__ne__" = some none
  fo : ∃ of, K.lookup f = some of ∧ of.cls = .type "function"
  at_ : PySem.W.findIn K (.ref C) "__eq__" = some (some (.ref f))
  fn : PySem.W.isFn K (.ref f) = true
section
variable {X : Cx} {CX : CXT} {n : Nat} {C f : Addr} {fd : FuncData} {ps : List Str} {sp : Sp} {E : XK}
def rOwnE (C : Addr) (sp : Sp) (E : XK) (neg : Bool) : R2 := fun x y H Q => ∃ a dx fs b dy gs, x = .ref a ∧ y = .ref b ∧ H a = some (.ins C dx fs) ∧ H b = some (.ins C dy gs) ∧
  sp [x, y] H (fun v H' => ∃ c, v = .bl c ∧ Q (.bl (if neg then !c else c)) H') E
theorem op_ownEq (O : OwnE X.K C f) (F : FnOk X.prog X.w X.K X.mg X.base CX n f fd ps sp) (hr : Room n X.A) (hb : Binds X.K fd ps []) (hx : Passes CX X E) : OpR X (compareOp .Eq) (rOwnE C sp E false) := by
  intro pins s σ H x y v u Q I rx ry h
  obtain ⟨a, dx, fs, b, dy, gs, rfl, rfl, ha, hbb, q⟩ := h
  cases rx
  cases ry
  obtain ⟨mA, J, _⟩ := ins_get I.hok ha
  obtain ⟨mB, J', _⟩ := ins_get I.hok hbb
  obtain ⟨od, J, _⟩ := J.look
  obtain ⟨od', J', _⟩ := J'.look
  obtain ⟨m, hF⟩ := I.fr
  unfold compareOp
  refine PySem.W.cmp_K (op := .Eq) (tb := .ref C) hr.units0 hF I.ok.mod.kin J J'.type (by simp [PySem.W.notFirst]) O.at_ O.fn ?_
  refine wpAny_mono (run_fn (us := [.ref a, .ref b]) (vs := [.ref a, .ref b]) (dvs := []) F hr hb .nil hx I (.cons rfl (.cons rfl .nil)) q) (fun w s' z => ?_) fun _ _ x => x
  obtain ⟨z', H', I', rz, c, rfl, qz⟩ := z
  cases rz
  exact ⟨.bl c, H', I', rfl, qz⟩
theorem op_ownNe (O : OwnE X.K C f) (F : FnOk X.prog X.w X.K X.mg X.base CX n f fd ps sp) (hr : Room (n + 1) X.A) (hb : Binds X.K fd ps []) (hx : Passes CX X E) : OpR X (compareOp .NotEq) (rOwnE C sp E true) := by
  intro pins s σ H x y v u Q I rx ry h
  obtain ⟨a, dx, fs, b, dy, gs, rfl, rfl, ha, hbb, q⟩ := h
  cases rx
  cases ry
  obtain ⟨mA, J, _⟩ := ins_get I.hok ha
  obtain ⟨mB, J', _⟩ := ins_get I.hok hbb
  obtain ⟨od, J, _⟩ := J.look
  obtain ⟨od', J', _⟩ := J'.look
  obtain ⟨⟨nm, q', N, bs, hdct, sn, sub, ab, col, dd, k0, k1, k2, k3, k5, newId, hC, hN, he, hne⟩, ⟨of, hfo, hfc⟩, _, _⟩ := O
  have KI := I.kIn
  have Y : s.heap.OwnEqNoNe a C f "object" [.type "object"] := by
    refine ⟨_, of, nm, q', N, bs, hdct, sn, sub, ab, col, dd, k0, k1, k2, k3, k5, newId, s.heap.nsMap N, _, J.at_, J.cls, KI _ _ hC, .of_isNs (PySem.W.isNs_of_in KI hN), ns_at KI (.of_isNs (PySem.W.isNs_of_in KI hN)) he, KI _ _ hfo, hfc, PySem.F.mro_object, PySem.F.cmp_object.eq.lookup, PySem.W.nsMap_none_of_in KI hN hne⟩
  obtain ⟨hh, g, d, t, os⟩ := s
  refine compareOp_ne_ownEq PySem.F.cmp_object Y J'.at_ J'.cls (by have := hr.units; omega) ?_
  refine wpAny_call (codeAny_mono (F.run X.A.in1 X.stack _ H ⟨[.ref a, .ref b], []⟩ [.ref a, .ref b] [.ref a, .ref b] _ E hr.in1 I.env0.in1 (by
    have hl := F.len _ _ _ _ q
    have := hb _ [.ref a, .ref b] KI (by simpa using hl)
    simpa using this) (.cons rfl (.cons rfl .nil)) q) fun r s' hq => ?_)
  cases r with
  | error e => exact hx pins σ H _ e s' I hq
  | ok fl =>
    cases fl with
    | ret w =>
      obtain ⟨z, H', I', rz, c, rfl, qz⟩ := I.after hq
      cases rz
      exact ⟨c, rfl, .bl (!c), H', I', rfl, qz⟩
    | next => exact False.elim hq
    | brk => exact False.elim hq
    | cont => exact False.elim hq
/-- x in (..), x not in (..), data of any depth -/
def rInT (K : PySem.W.Frag) : R2 := fun x y H Q => ∃ d ds, Dp K H x d ∧ Dp K H y (.tuple ds) ∧ SeqAt.shaped d = true ∧ SeqAt.shaped (.tuple ds) = true ∧ Q (.bl (ds.any fun z => PyData.eqv z d)) H
def rNotInT (K : PySem.W.Frag) : R2 := fun x y H Q => ∃ d ds, Dp K H x d ∧ Dp K H y (.tuple ds) ∧ SeqAt.shaped d = true ∧ SeqAt.shaped (.tuple ds) = true ∧ Q (.bl (!ds.any fun z => PyData.eqv z d)) H
theorem op_inT (hu : X.A.units + 65 < cLine) : OpR X (compareOp .In) (rInT X.K) := by
  intro pins s σ H x y v u Q I rx ry h
  obtain ⟨d, ds, hd, he, sd, se, q⟩ := h
  obtain ⟨as, r1⟩ := Dp.reads I d x v hd rx
  obtain ⟨bs, r2⟩ := Dp.reads I (.tuple ds) y u he ry
  exact SeqAt.in_tuple_reads r2 r1 (SeqAt.canLay_of_shaped se) (SeqAt.canLay_of_shaped sd) (room_in_shaped sd hu) ⟨.bl _, H, I, rfl, q⟩
theorem op_notInT (hu : X.A.units + 65 < cLine) : OpR X (compareOp .NotIn) (rNotInT X.K) := by
  intro pins s σ H x y v u Q I rx ry h
  obtain ⟨d, ds, hd, he, sd, se, q⟩ := h
  obtain ⟨as, r1⟩ := Dp.reads I d x v hd rx
  obtain ⟨bs, r2⟩ := Dp.reads I (.tuple ds) y u he ry
  exact SeqAt.notIn_tuple_reads r2 r1 (SeqAt.canLay_of_shaped se) (SeqAt.canLay_of_shaped sd) (room_in_shaped sd hu) ⟨.bl _, H, I, rfl, q⟩
variable {K : PySem.W.Frag}
theorem op_inTK (hu : X.A.units + 65 < cLine) (h : X.K = K := by rfl) : OpR X (compareOp .In) (rInT K) := h ▸ op_inT hu
theorem op_notInTK (hu : X.A.units + 65 < cLine) (h : X.K = K := by rfl) : OpR X (compareOp .NotIn) (rNotInT K) := h ▸ op_notInT hu
theorem op_inDK (hu : X.A.units + 65 < cLine) (h : X.K = K := by rfl) : OpR X (compareOp .In) (rInD K) := h ▸ op_inD hu
theorem op_notInDK (hu : X.A.units + 65 < cLine) (h : X.K = K := by rfl) : OpR X (compareOp .NotIn) (rNotInD K) := h ▸ op_notInD hu
end
section
variable {K : PySem.W.Frag} {σ : L2.St} {G G' H H' : Hp} {ta tb te tx ts tl : TE} {t u : TT} {x y z v : V} {p q : Pr} {ps qs : List Pr} {i j : Nat} {vs : List Nat} {D : Ends} {tu tz : TS} {E : XK}
section
variable {α : Type} [En : Enc K α] [DecidableEq α] {a b : α}
theorem ev_inT {l : Tu α} (ha : EvP ta σ G (en K a)) (hb : EvP tb σ G (en K l)) (l1 : En.lay a) (l2 : ∀ x ∈ l.l, En.lay x) (hd : En.dep + 1 ≤ 64 := by exact Nat.le_of_ble_eq_true rfl) : Ev (tOp (rInT K) ta tb) σ G (.bl (decide (a ∈ l.l))) :=
  ev_two ha hb fun x y G2 H2 e hx hy Q k => ⟨En.enc a, l.l.map En.enc, En.toD ((en K a).up e hx), Enc.toD (a := l) ((en K l).up e hy), en_shaped l1 (by omega), en_shaped (K := K) (α := Tu α) (a := l) l2 hd, by rw [any_eqv]; exact k⟩
theorem ev_niT {l : Tu α} (ha : EvP ta σ G (en K a)) (hb : EvP tb σ G (en K l)) (l1 : En.lay a) (l2 : ∀ x ∈ l.l, En.lay x) (hd : En.dep + 1 ≤ 64 := by exact Nat.le_of_ble_eq_true rfl) : Ev (tOp (rNotInT K) ta tb) σ G (.bl (!decide (a ∈ l.l))) :=
  ev_two ha hb fun x y G2 H2 e hx hy Q k => ⟨En.enc a, l.l.map En.enc, En.toD ((en K a).up e hx), Enc.toD (a := l) ((en K l).up e hy), en_shaped l1 (by omega), en_shaped (K := K) (α := Tu α) (a := l) l2 hd, by rw [any_eqv]; exact k⟩
end
/-! ### instances -/
/-- an instance of the class at C with these fields -/
def pObj (C : Addr) (fs : List (Str × Pr)) : Pr := ⟨fun H v => ∃ a dx xs, v = .ref a ∧ H a = some (.ins C dx ((fs.map Prod.fst).zip xs)) ∧ Al H (fs.map Prod.snd) xs, fun e h => by
  obtain ⟨a, dx, xs, h1, h2, h3⟩ := h
  exact ⟨a, dx, xs, h1, e _ _ h2, h3.up e⟩⟩
theorem zip_lookup {f : Str} : ∀ {fs : List (Str × Pr)} {xs : List V}, Al H (fs.map Prod.snd) xs → fs.lookup f = some p → ∃ x, ((fs.map Prod.fst).zip xs).lookup f = some x ∧ p.on H x
  | [], _, _, h => by cases h
  | (n, q) :: r, xs, ha, h => by
    obtain ⟨x, t, rfl, h1, h2⟩ := Al.uncons ha
    show ∃ y, List.lookup f ((n, x) :: ((r.map Prod.fst).zip t)) = some y ∧ _
    rw [List.lookup_cons] at h ⊢
    cases hn : f == n with
    | true =>
      rw [hn] at h
      cases h
      exact ⟨x, rfl, h1⟩
    | false =>
      rw [hn] at h
      exact zip_lookup h2 h
theorem zip_none {f : Str} : ∀ {fs : List (Str × Pr)} {xs : List V}, fs.lookup f = none → ((fs.map Prod.fst).zip xs).lookup f = none
  | [], _, _ => rfl
  | (n, q) :: r, [], _ => rfl
  | (n, q) :: r, x :: t, h => by
    show List.lookup f ((n, x) :: ((r.map Prod.fst).zip t)) = none
    rw [List.lookup_cons] at h ⊢
    cases hn : f == n with
    | true =>
      rw [hn] at h
      cases h
    | false =>
      rw [hn] at h
      exact zip_none h
theorem ep_fld {C : Addr} {fs : List (Str × Pr)} {f : Str} (h : EvP te σ G (pObj C fs)) (c : Cls K C) (n : NoAttr K C f) (hf : fs.lookup f = some p) : EvP (tFld K te f) σ G p := fun H1 e Q k => h H1 e _ fun v H2 G2 g hv => by
  obtain ⟨a, dx, xs, rfl, h1, h2⟩ := hv
  obtain ⟨x, hx, hp⟩ := zip_lookup h2 hf
  exact ⟨a, C, dx, _, x, rfl, g.k _ _ h1, c, n, hx, k x H2 G2 g hp⟩
/-- a property whose getter computes a datum -/
theorem ep_prop {C : Addr} {fs : List (Str × Pr)} {A : List Pr → Pr → Prop} (h : EvP te σ G (pObj C fs)) (a : A [pObj C fs] p) : EvP (tProp C (spF A) [] E te) σ G p := fun H1 e Q k => h H1 e _ fun v H2 G2 g hv => by
  have hv' := hv
  obtain ⟨b, dx, xs, rfl, h1, h2⟩ := hv
  exact ⟨b, dx, _, rfl, g.k _ _ h1, G2, [pObj C fs], p, a, g.k, ⟨hv', trivial⟩, fun v H3 G3 f3 hv => k v H3 G3 (g.trans f3) hv⟩
theorem ep_meth {C : Addr} {m : Str} {fs : List (Str × Pr)} {A : List Pr → Pr → Prop} {tr : TA} (h : EvP te σ G (pObj C fs)) (hr : EvPs tr σ G ps) (hm : fs.lookup m = none) (a : A (pObj C fs :: ps) p) : EvP (tMeth C m (spF A) [] E te tr) σ G p := fun H1 e Q k => h H1 e _ fun v H2 G2 g hv => by
  have hv' := hv
  obtain ⟨b, dx, xs, rfl, h1, h2⟩ := hv
  refine ⟨b, dx, _, rfl, g.k _ _ h1, zip_none hm, (hr.mono g.g) H2 g.k _ fun vs H3 G3 g3 hvs => ?_⟩
  exact ⟨G3, pObj C fs :: ps, p, a, g3.k, by rw [List.append_nil]; exact ⟨(pObj C fs).up g3.g hv', hvs⟩, fun v H4 G4 f4 hv => k v H4 G4 ((g.trans g3).trans f4) hv⟩
theorem en_meth {C : Addr} {m : Str} {fs : List (Str × Pr)} {A : List Pr → List Pr → Prop} {tr : TA} (h : EvP te σ G (pObj C fs)) (hr : EvPs tr σ G ps) (hm : fs.lookup m = none) (a : A (pObj C fs :: ps) qs) : EvN (tMeth C m (spN A) [] E te tr) σ G qs := fun H1 e Q k => h H1 e _ fun v H2 G2 g hv => by
  have hv' := hv
  obtain ⟨b, dx, xs, rfl, h1, h2⟩ := hv
  refine ⟨b, dx, _, rfl, g.k _ _ h1, zip_none hm, (hr.mono g.g) H2 g.k _ fun vs H3 G3 g3 hvs => ?_⟩
  exact ⟨G3, pObj C fs :: ps, qs, a, g3.k, by rw [List.append_nil]; exact ⟨(pObj C fs).up g3.g hv', hvs⟩, fun p xs H4 G4 f4 hp => k p xs H4 G4 ((g.trans g3).trans f4) (fresh_back (g.trans g3).h hp)⟩
/-- == of two instances, by __eq__ -/
theorem ev_ownE {C : Addr} {fs gs : List (Str × Pr)} {A : List Pr → Pr → Prop} {c : Bool} {neg : Bool} (h1 : EvP ta σ G (pObj C fs)) (h2 : EvP tb σ G (pObj C gs)) (a : A [pObj C fs, pObj C gs] (pV (.bl c))) : Ev (tOp (rOwnE C (spF A) E neg) ta tb) σ G (.bl (if neg then !c else c)) := fun H1 e Q k =>
  h1 H1 e _ fun v H2 G2 g hv => (h2.mono g.g) H2 g.k _ fun w H3 G3 g3 hw => by
  have hv2 := (pObj C fs).up g3.g hv
  have hw' := hw
  have hv' := hv2
  obtain ⟨b, dx, xs, rfl, q1, q2⟩ := hv2
  obtain ⟨b2, dx2, xs2, rfl, q3, q4⟩ := hw
  refine ⟨b, dx, _, b2, dx2, _, rfl, rfl, g3.k _ _ q1, g3.k _ _ q3, G3, _, _, a, g3.k, ⟨hv', hw', trivial⟩, fun v H4 G4 f4 hv => ⟨c, hv, k H4 ((g.h.trans g3.h).trans f4.h)⟩⟩
/-- __init__: the new instance's fields are set -/
def spI (C : Addr) (A : List Pr → List (Str × Pr) → Prop) : Sp := fun vs H Q _ => ∃ G x dx ws ps fs, vs = .ref x :: ws ∧ A ps fs ∧ Ex G H ∧ G x = none ∧ H x = some (.ins C dx []) ∧ Al G ps ws ∧
  ∀ xs H2 G2, Ex G G2 → Ex G2 H2 → (∀ a o, a ≠ x → H a = some o → H2 a = some o) → (∀ a, G a = none → H a ≠ none → G2 a = none) → H2 x = some (.ins C dx ((fs.map Prod.fst).zip xs)) → Al G2 (fs.map Prod.snd) xs → Q .non H2
theorem ep_make {C : Addr} {fs : List (Str × Pr)} {A : List Pr → List (Str × Pr) → Prop} {tr : TA} (hr : EvPs tr σ G ps) (a : A ps fs) : EvP (tMake C (spI C A) [] E tr) σ G (pObj C fs) := fun H1 e Q k => hr H1 e _ fun vs H2 G2 g hvs x dx hx hdx hne => by
  have g3 : Fr G2 H2 (upd G2 dx (.own x)) (upd H2 dx (.own x)) := Fr.new g.k hdx
  have hx3 : upd H2 dx (.own x) x = none := by rw [upd_ne hne.symm]; exact hx
  have e4 : Ex (upd G2 dx (.own x)) (upd (upd H2 dx (.own x)) x (.ins C dx [])) := g3.k.trans (Ex.new hx3)
  have hGx : upd G2 dx (.own x) x = none := fresh_back g3.k hx3
  refine ⟨upd G2 dx (.own x), x, dx, vs, ps, fs, by rw [List.append_nil], a, e4, hGx, upd_same, hvs.up g3.g, fun xs H5 G5 e5 e6 e7 e8 h9 h10 => ⟨rfl, ?_⟩⟩
  have hG5 : G5 x = none := e8 x hGx (by rw [upd_same]; exact fun c => nomatch c)
  obtain ⟨f1, f2⟩ := Fr.freeze e6 hG5 h9
  refine k (.ref x) H5 (upd G5 x (.ins C dx ((fs.map Prod.fst).zip xs))) ⟨(g.g.trans g3.g).trans (e5.trans f1), fun b o hb => ?_, f2, fun b hb1 hb2 => ?_⟩ ⟨x, dx, xs, rfl, upd_same, h10.up f1⟩
  · have hb' := g3.h b o (g.h b o hb)
    have hbx : b ≠ x := fun c => by
      subst c
      rw [hx3] at hb'
      cases hb'
    exact e7 b o hbx (by rw [upd_ne hbx]; exact hb')
  · have hb' := ne_up (g.h.trans g3.h) hb2
    have hbx : b ≠ x := fun c => by
      subst c
      exact hb' hx3
    have hbd : b ≠ dx := fun c => by
      subst c
      exact (ne_up g.h hb2) hdx
    rw [upd_ne hbx]
    refine e8 b ?_ ?_
    · rw [upd_ne hbd]
      exact g.n b hb1 hb2
    · rw [upd_ne hbx]
      exact hb'
/-! ### isinstance -/
/-- what p stands for is of type t -/
def PTy (K : PySem.W.Frag) (p : Pr) (t : Value) : Prop := ∀ G v, p.on G v → TyX K G v t
theorem pty_v_int {i : Int} : PTy K (pV (.int i)) (.type "int") := fun G v h => by cases h; exact .base (.int i)
theorem pty_v_str {i : Str} : PTy K (pV (.str i)) (.type "str") := fun G v h => by cases h; exact .base (.str i)
theorem pty_v_bl {i : Bool} : PTy K (pV (.bl i)) (.type "bool") := fun G v h => by cases h; exact .base (.bl i)
theorem pty_lst : PTy K (pLst K ps) (.type "list") := fun G v h => by
  obtain ⟨a, xs, rfl, h1, _⟩ := h
  exact .base (.lst h1)
theorem pty_tup : PTy K (pTup K ps) (.type "tuple") := fun G v h => by
  obtain ⟨a, xs, rfl, h1, _⟩ := h
  rcases h1 with (h1 | ⟨o, h1⟩) | ⟨o, its, n, h1, h2, _⟩
  · exact .base (.tup h1)
  · exact .fTuple h1
  · exact .kTuple h1 h2
theorem pty_obj {C : Addr} {fs : List (Str × Pr)} (c : Cls K C) (t : InsT K C) : PTy K (pObj C fs) (.ref C) := fun G v h => by
  obtain ⟨a, dx, xs, rfl, h1, _⟩ := h
  exact .base (.ins h1 c t.ha t.hn t.htk t.hm)
theorem TyX.up {v : V} {t : Value} (e : Ex G G') (h : TyX K G v t) : TyX K G' v t := by
  have h1 := TyZ.mono e (.x h)
  cases h1 with
  | x h => exact h
  | exc T e1 e2 =>
    cases h with
    | base b => cases b with
      | ins e3 => 
        have := e _ _ e3
        rw [e1] at this
        cases this
theorem ev_isA {tc : TE} {t w : Value} {c : V} {b : Bool} (h : EvP te σ G p) (hc : Ev tc σ G c) (kc : ClsV c w) (ht : PTy K p t) (hk : PySem.W.kitOne K t w = some b) : Ev (tCB (rIsZ K) (tCons te (tCons tc tNil))) σ G (.bl b) := fun H1 e Q k =>
  h H1 e _ fun v H2 G2 g hv => (hc.mono g.g) H2 g.k _ fun H3 e3 => ⟨v, c, t, w, b, rfl, kc, .x (TyX.up (g.k.trans e3) (ht G2 v hv)), hk, k H3 (g.h.trans e3)⟩
theorem call_isiTK {X : Cx} (h : X.K = K := by rfl) : CallR X (.builtin "isinstance") (rIsiT K) := h ▸ call_isiT
theorem ev_isT2 {t : Value} {a b : String} {c d : Bool} (h : EvP te σ G p) (ht : PTy K p t) (h1 : PySem.W.kitOne K t (.type a) = some c) (h2 : PySem.W.kitOne K t (.type b) = some d) :
    Ev (tCB (rIsiT K) (tCons te (tCons (tTup (tCons (tC (.ty a)) (tCons (tC (.ty b)) tNil))) tNil))) σ G (.bl (c || d)) := fun H1 e Q k =>
  h H1 e _ fun v H2 G2 g hv => ⟨by show 2 ≤ sizeLine; decide, fun q hq => ⟨v, q, _, t, [.type a, .type b], c || d, rfl, upd_same, .cons (.ty a) (.cons (.ty b) .nil), TyX.up (g.k.trans (Ex.new hq)) (ht G2 v hv), kitAny_cons h1 (fun hc => by
    rw [hc, Bool.false_or]
    exact kitAny_cons h2 (fun hd => by rw [hd]; rfl) fun hd => hd) (fun hc => by rw [hc]; rfl), k _ (g.h.trans (Ex.new hq))⟩⟩
/-- max of a list of whole numbers -/
theorem cr_maxK {X : Cx} (hc : X.calm = true) (h : X.K = K := by rfl) : CallR X (.builtin "max") (rMax K) := h ▸ cr_max hc
theorem cr_minK {X : Cx} (hc : X.calm = true) (h : X.K = K := by rfl) : CallR X (.builtin "min") (rMin K) := h ▸ cr_min hc
theorem _root_.L2.Room.units1 {k : Nat} {A : Around} (r : Room k A) : A.units + 65 < cLine := by have := r.un; omega
end
end OP

namespace OP
open PySem PySem.Spec PyProof.Rows L2 Evl
/-- enumerate(text): the i-th turn gives a new pair of i and the sign -/
def Ites (x : Str) : It :=
  ⟨fun i _ => i < x.cps.size, fun i H v H' => ∃ T c, v = .ref T ∧ H T = none ∧ H' = upd H T (.tup [.int (i : Nat), .str ⟨#[c]⟩]) ∧ x.cps[i]? = some c, fun i _ => i = x.cps.size⟩
theorem turn_es {P : Program} {w : World} {K : PySem.W.Frag} {elts : List Expr} {kk : Nat} {tpos : Pos} {x : Str} {t : Tok} {e it : Addr} (hne : e ≠ it) :
    Turn P w K (.Tuple elts kk tpos) (Ites x) [e, it] e (fun i h => (∃ old, IsEnum h e it i old) ∧ h.IsStrIter it (strIterType x) x t i) where
  mem := by simp
  obj := fun i h st b hb => by
    obtain ⟨⟨old, he⟩, o, ho, hc, hd⟩ := st
    have e' : b = e ∨ b = it := by simpa using hb
    rcases e' with z | z
    · rw [z]; exact ⟨_, he, fun v q => nomatch q⟩
    · rw [z]; exact ⟨o, ho, fun v q => by rw [hd] at q; cases q⟩
  keep := fun i h h' st k => let ⟨⟨old, he⟩, o, ho, r⟩ := st; ⟨⟨old, k e (by simp) _ he⟩, o, k it (by simp) _ ho, r⟩
  item := by
    intro X hP hw hK hc i pins s σ H E I hf st hg
    subst hP hw hK
    obtain ⟨⟨old, he⟩, hit⟩ := st
    have hh : X.A.in1.handled = none := I.ok.hd hc
    have D1 : Draws X.prog X.w X.A.in1 it [it] x.cps.size _ _ := Draws.text hh it x t
    have hel : e < s.heap.objs.size := Heap.lt_size he
    have hil : it < s.heap.objs.size := by obtain ⟨_, q, _⟩ := hit; exact Heap.lt_size q
    refine wpAny_pyNext_enum_itemD D1 he hit hg hne (by simpa using hne) fun u h' tk hP ho hit' hT hsz hk => ?_
    obtain ⟨c, t1, hc1, rfl⟩ := hP
    refine ⟨_, rfl, wpAny_letOwnedTupleGo_enum (s := { s with heap := h', toks := tk + 1 }) ho fun h'' he' sb => ?_⟩
    have hT2 : h''.get? s.heap.objs.size = some { cls := .type "tuple", data := .seq #[.int i tk, .str ⟨#[c]⟩ t1] } := (sb.2 _ (Nat.ne_of_gt hel)).trans hT
    have new : ObjOk X.prog X.w (upd H s.heap.objs.size (.tup [.int (i : Nat), .str ⟨#[c]⟩])) h'' s.heap.objs.size (.tup [.int (i : Nat), .str ⟨#[c]⟩]) :=
      ⟨by show 2 ≤ sizeLine; decide, [.int i tk, .str ⟨#[c]⟩ t1], .cons ⟨_, rfl⟩ (.cons ⟨_, rfl⟩ .nil), ⟨_, hT2, rfl, _, rfl⟩⟩
    have I1 : Inv X pins σ (upd H s.heap.objs.size (.tup [.int (i : Nat), .str ⟨#[c]⟩])) { s with heap := h'', toks := tk + 1 } :=
      I.turnedNew (ch := [e, it]) (fun b ob hb q => (sb.2 b (fun z => hb (by simp [z]))).trans (hk b ob (fun z => hb (by simp [z])) (fun z => hb (by simp [z])) q)) hf (Nat.le_refl _) new
    refine ⟨.ref s.heap.objs.size, _, I1, rfl, ⟨_, c, rfl, I.hok.fresh (Nat.le_refl _), rfl, hc1⟩, ⟨⟨.str ⟨#[c]⟩ t1, ?_⟩, D1.frame _ _ _ hit' fun b hb o q => (sb.2 b (fun z => by
        rw [z] at hb
        exact hne (by simpa using hb))).trans q⟩, fun b hb => ?_⟩
    · have e1 : ((i + 1 : Nat) : Int) = (i : Int) + 1 := by omega
      rw [e1]; exact he'
    · have hb' : b < s.heap.objs.size := by
        have e' : b = e ∨ b = it := by simpa using hb
        rcases e' with z | z
        · rw [z]; exact hel
        · rw [z]; exact hil
      rw [upd_ne (Nat.ne_of_lt hb')]
      exact (hf b hb).1
  done := by
    intro X hP hw hK hc i pins s σ H E I hf st hg
    subst hP hw hK
    obtain ⟨⟨old, he⟩, hit⟩ := st
    have hh : X.A.in1.handled = none := I.ok.hd hc
    have D1 : Draws X.prog X.w X.A.in1 it [it] x.cps.size _ _ := Draws.text hh it x t
    have hg' : i = x.cps.size := hg
    subst hg'
    obtain ⟨f0, f1, f2, f3, f4, f5⟩ := hf it (by simp)
    exact wpAny_pyNext_enum_endD D1 he hit fun h' eb => ⟨rfl, I.turned (t' := s.toks) (fun b o hb q => eb b o hb q) f0 f1 f3 f4 f5⟩
  self := fun A i s Q E st h => let ⟨⟨_, he⟩, _⟩ := st; wpAny_pyIter_enum he h
def iEs (te : TE) : TI := fun σ H R => te σ H fun v H1 => ∃ x : Str, v = .str x ∧ R (Ites x) H1
theorem pi_enumS {X : Cx} {e : Expr} {te : TE} {p pos tpos : Pos} {elts : List Expr} {kk : Nat} (hg : Gl X "enumerate") (hm : X.mg "enumerate" = none) (ha : PE X e te) (hs : starEach [e] X.env = [(false, eval e X.env)] := by rfl) :
    PI X (.Tuple elts kk tpos) (.Call (.Name "enumerate" p) [e] [] pos) (iEs te) := by
  refine ⟨fun pins s σ H R I h => ?_⟩
  refine Call_ (ld_blt I hg hm boot_enumerate (PyProof.Rows.callWith_type1 ?_ hs rfl))
  rw [hs]
  show wpAny _ _ (spliced [(false, eval e X.env)]) _ _ s
  refine Calls.spliced_cons (thn (ha.run pins s σ H _ I h) fun u s1 ⟨v, H1, I1, r1, x, ev, q⟩ => Calls.spliced_nil ?_)
  subst ev
  obtain ⟨t, rfl⟩ := r1
  refine call_enumerate_str fun h' he hit hsz hk => wpAny_pyIter_enum he ?_
  have I2 : Inv X pins σ H1 { s1 with heap := h' } := I1.kept (t' := s1.toks) hk
  refine ⟨s1.heap.objs.size + 1, [s1.heap.objs.size + 1, s1.heap.objs.size], _, _, H1, rfl, I2, turn_es (Nat.succ_ne_self _), ⟨⟨.none, he⟩, hit⟩, fun b hb => ?_, q⟩
  have e' : b = s1.heap.objs.size + 1 ∨ b = s1.heap.objs.size := by simpa using hb
  have hle : s1.heap.objs.size ≤ b := by
    rcases e' with z | z
    · rw [z]; exact Nat.le_add_right _ _
    · rw [z]; exact Nat.le_refl _
  exact I1.fpOk hle (I1.hok.fresh hle)
section
variable {K : PySem.W.Frag} {σ : L2.St} {G : Hp} {te : TE}
theorem ei_enumS {s : Str} (h : Ev te σ G (.str s)) : EvI (iEs te) σ G s.cps.toList.zipIdx (fun x => pTup K [pV (.int (x.2 : Nat)), pV (.str ⟨#[x.1]⟩)]) := fun H0 e R k => h H0 e _ fun H1 e1 => by
  refine ⟨s, rfl, k _ H1 G (Fr.same e e1) ⟨fun i H hi _ => ?_, fun H _ => ?_, fun i H x H' hi _ y => ?_⟩⟩
  · rw [List.length_zipIdx, Array.length_toList] at hi
    exact hi
  · rw [List.length_zipIdx, Array.length_toList]
    rfl
  · obtain ⟨T, c, rfl, hT, rfl, hc⟩ := y
    refine ⟨(c, i), ?_, fun G' _ e2 => ⟨_, pair_on e2 hT rfl rfl⟩⟩
    have : s.cps.toList[i]? = some c := by simpa using hc
    rw [List.getElem?_zipIdx, this]
    simp
end
end OP

/-! PreW: words of signs as data; small readings used everywhere -/
namespace OP
open PySem PySem.Spec PyProof.Rows L2 Evl
/-- two rules for one expression: either reading will do -/
theorem pe_alt {X : Cx} {e : Expr} {t u : TE} (h1 : PE X e t) (h2 : PE X e u) : PE X e (fun σ H Q => t σ H Q ∨ u σ H Q) := ⟨fun pins s σ H Q I h => h.elim (h1.run pins s σ H Q I) (h2.run pins s σ H Q I)⟩
theorem pi_alt {X : Cx} {tg e : Expr} {t u : TI} (h1 : PI X tg e t) (h2 : PI X tg e u) : PI X tg e (fun σ H Q => t σ H Q ∨ u σ H Q) := ⟨fun pins s σ H Q I h => h.elim (h1.run pins s σ H Q I) (h2.run pins s σ H Q I)⟩
theorem pt_alt {X : Cx} {e : Expr} {t u : TT} (h1 : PT X e t) (h2 : PT X e u) : PT X e (fun σ H Q => t σ H Q ∨ u σ H Q) := ⟨fun pins s σ H Q I h => h.elim (h1.run pins s σ H Q I) (h2.run pins s σ H Q I)⟩
theorem ps_alt {X : Cx} {e : Stmt} {t u : TS} (h1 : PS X e t) (h2 : PS X e u) : PS X e (fun D σ H => t D σ H ∨ u D σ H) := ⟨fun pins s σ H D I h => h.elim (h1.run pins s σ H D I) (h2.run pins s σ H D I)⟩
theorem op_alt {X : Cx} {m : Value → Value → Sem Value} {r q : R2} (h1 : OpR X m r) (h2 : OpR X m q) : OpR X m (fun x y H Q => r x y H Q ∨ q x y H Q) := fun pins s σ H x y v u Q I rx ry h => h.elim (h1 pins s σ H x y v u Q I rx ry) (h2 pins s σ H x y v u Q I rx ry)
def okc (c : Nat) : Bool := decide (c ∈ (("01*" : Str)).cps.toList)
def okS (z : Str) : Bool := decide (z.length ≤ 60) && z.cps.toList.all okc
theorem okS_len {z : Str} (h : okS z = true) : z.length ≤ 60 := by
  unfold okS at h
  rw [Bool.and_eq_true] at h
  exact of_decide_eq_true h.1
theorem okc_lt {c : Nat} (h : okc c = true) : c < 1114112 := by
  have h1 : c ∈ [48, 49, 42] := of_decide_eq_true h
  rcases List.mem_cons.mp h1 with h | h
  · omega
  rcases List.mem_cons.mp h with h | h
  · omega
  · rw [List.mem_singleton.mp h]
    omega
theorem strOk_of {z : Str} (h : ∀ c ∈ z.cps.toList, c < 1114112) : PyData.strOk z = true := by
  show (z.cps.all (· < 0x110000)) = true
  rw [Array.all_eq_true']
  intro c hc
  exact decide_eq_true (h c (by simpa using hc))
theorem okS_lay {z : Str} (h : okS z = true) : PyData.strOk z = true := strOk_of fun c hc => by
  unfold okS at h
  rw [Bool.and_eq_true] at h
  exact okc_lt (List.all_eq_true.mp h.2 c hc)
theorem okS_all {z : Str} (h : okS z = true) : ∀ c ∈ z.cps.toList, okc c = true := by
  unfold okS at h
  rw [Bool.and_eq_true] at h
  exact List.all_eq_true.mp h.2
theorem sgn_lay {c : Nat} (h : okc c = true) : PyData.strOk ⟨#[c]⟩ = true := strOk_of fun x hx => by
  rw [List.mem_singleton.mp (show x ∈ [c] from hx)]
  exact okc_lt h
theorem _root_.List.mem_of_mem_zipIdx_fst {α : Type} {l : List α} {x : α × Nat} (h : x ∈ l.zipIdx) : (x.1) ∈ l := by
  obtain ⟨a, i⟩ := x
  exact (List.mem_zipIdx' h).2 ▸ List.getElem_mem _
section
variable {K : PySem.W.Frag} {σ : L2.St} {G G' H H' : Hp} {ta tb te tx ts tl : TE} {t u : TT} {x y z v : V} {p q : Pr} {ps qs : List Pr} {i j : Nat} {vs : List Nat} {D : Ends} {tu tz : TS} {E : XK}
theorem pV_is {w : V} (h : (pV w).on G v) : v = w := h
/-- variable that holds a scalar -/
theorem ev_at {w : V} (h : σ[i]? = some (some v)) (hv : (pV w).on G v) : Ev (tVar i) σ G w := by
  rw [← pV_is hv]
  exact ev_var h
theorem et_yesP : EvT tYes σ G true := fun H1 _ Q q => q H1 (Ex.refl H1)
theorem filt_true {α : Type} (l : List α) : l.filter (fun _ => true) = l := List.filter_eq_self.mpr fun _ _ => rfl
/-- [e for x in it]: no test, a name as target -/
theorem en_lcN {α : Type} {wi : TI} {l : List α} {c : α → Pr} {j : Nat} {vs : List Nat} (d : α → Pr) (h : EvI wi σ G l c) (hz : l.length < 100000) (hw : ∀ x, wipe ((wipe σ vs).set j (some x)) vs = wipe σ vs)
    (he : ∀ a x G1, a ∈ l → Ex G G1 → (c a).on G1 x → EvP te ((wipe σ vs).set j (some x)) G1 (d a)) : EvN (tLc wi (gName j) tYes te vs) σ G (l.map d) := by
  have := en_lc (g := gName j) (t := tYes) (te := te) (fun _ => true) d h (fun a => tg_name) hz (fun a G σ' hσ => by
    obtain ⟨x, _, rfl⟩ := hσ
    exact hw x) (fun a σ' G1 _ _ _ => et_yesP) (fun a σ' G1 ha _ e hσ => by
    obtain ⟨x, hx, rfl⟩ := hσ
    exact he a x G1 ha e hx)
  rw [filt_true] at this
  exact this
/-- [e for x in it if t] -/
theorem en_lcF {α : Type} {wi : TI} {l : List α} {c : α → Pr} {j : Nat} {vs : List Nat} (f : α → Bool) (d : α → Pr) (h : EvI wi σ G l c) (hz : l.length < 100000) (hw : ∀ x, wipe ((wipe σ vs).set j (some x)) vs = wipe σ vs)
    (ht : ∀ a x G1, a ∈ l → Ex G G1 → (c a).on G1 x → EvT t ((wipe σ vs).set j (some x)) G1 (f a))
    (he : ∀ a x G1, a ∈ l → f a = true → Ex G G1 → (c a).on G1 x → EvP te ((wipe σ vs).set j (some x)) G1 (d a)) : EvN (tLc wi (gName j) t te vs) σ G ((l.filter f).map d) :=
  en_lc (g := gName j) f d h (fun a => tg_name) hz (fun a G σ' hσ => by
    obtain ⟨x, _, rfl⟩ := hσ
    exact hw x) (fun a σ' G1 ha e hσ => by
    obtain ⟨x, hx, rfl⟩ := hσ
    exact ht a x G1 ha e hx) (fun a σ' G1 ha hf e hσ => by
    obtain ⟨x, hx, rfl⟩ := hσ
    exact he a x G1 ha hf e hx)
/-- [e for i, x in it if t] -/
theorem en_lcP {α : Type} {wi : TI} {l : List α} {c d0 : α → Pr} {i j : Nat} {vs : List Nat} (f : α → Bool) (d : α → Pr) (h : EvI wi σ G l (fun a => pTup K [c a, d0 a])) (hz : l.length < 100000) (hw : ∀ x y, wipe (((wipe σ vs).set i (some x)).set j (some y)) vs = wipe σ vs)
    (ht : ∀ a x y G1, a ∈ l → Ex G G1 → (c a).on G1 x → (d0 a).on G1 y → EvT t (((wipe σ vs).set i (some x)).set j (some y)) G1 (f a))
    (he : ∀ a x y G1, a ∈ l → f a = true → Ex G G1 → (c a).on G1 x → (d0 a).on G1 y → EvP te (((wipe σ vs).set i (some x)).set j (some y)) G1 (d a)) : EvN (tLc wi (gTup K 2 (gCons (gName i) (gCons (gName j) gNil))) t te vs) σ G ((l.filter f).map d) :=
  en_lc f d h (fun a => tg_pair) hz (fun a G σ' hσ => by
    obtain ⟨x, y, _, _, rfl⟩ := hσ
    exact hw x y) (fun a σ' G1 ha e hσ => by
    obtain ⟨x, y, hx, hy, rfl⟩ := hσ
    exact ht a x y G1 ha e hx hy) (fun a σ' G1 ha hf e hσ => by
    obtain ⟨x, y, hx, hy, rfl⟩ := hσ
    exact he a x y G1 ha hf e hx hy)
/-- tuple(list), tuple(tuple) -/
theorem ep_tupleL (ha : EvP ta σ G (pLst K ps)) : EvP (tCB (rTupS K) (tCons ta tNil)) σ G (pTup K ps) := fun H1 e Q k => ha H1 e _ fun v H2 G2 f hv => by
  obtain ⟨a, xs, rfl, h1, h2⟩ := hv
  exact ⟨a, xs, rfl, .inl ⟨ex_l f.k (sq_of h1), fun l hl => k _ _ (upd G2 l (.tup xs)) (f.trans (Fr.new f.k hl)) ⟨l, xs, rfl, st_of upd_same, h2.up (Ex.new (fresh_back f.k hl))⟩⟩⟩
theorem ep_tupleT (ha : EvP ta σ G (pTup K ps)) : EvP (tCB (rTupS K) (tCons ta tNil)) σ G (pTup K ps) := fun H1 e Q k => ha H1 e _ fun v H2 G2 f hv => by
  have hv' := hv
  obtain ⟨a, xs, rfl, h1, h2⟩ := hv
  exact ⟨a, xs, rfl, .inr ⟨ex_t f.k h1, k _ _ G2 f hv'⟩⟩
/-- text.join(list of texts) -/
theorem ev_joinL {s : Str} {ss : List Str} (h : Ev ta σ G (.str s)) (hl : EvP tb σ G (pLst K (ss.map fun s => pV (.str s)))) (hz : (ss.map (·.length)).sum + ss.length * s.length ≤ 16777216) : Ev (tBM K "str" (rJoin K) ta (tCons tb tNil)) σ G (.str (Txt.join s ss)) := fun H1 e Q k =>
  h H1 e _ fun H2 e2 => ⟨(rfl : "str" = "str"), (hl.mono (Ex.refl G)) H2 (e.trans e2) _ fun v H3 G3 f hv => by
    obtain ⟨a, xs, rfl, h1, h2⟩ := hv
    rw [al_strs h2] at h1
    exact ⟨s, a, ss, rfl, rfl, .inl (ex_l f.k (sq_of h1)), hz, k H3 (e2.trans f.h)⟩⟩
/-- a op b op c -/
theorem ev_chain {r r' : R2} {ta tb tc : TE} {x y z : V} {a b : Bool} (h1 : Ev ta σ G x) (h2 : Ev tb σ G y) (h3 : Ev tc σ G z) (hr : RV r x y G (.bl a)) (hr' : RV r' y z G (.bl b)) : Ev (tChain r r' ta tb tc) σ G (.bl (a && b)) := fun H1 e Q k =>
  h1 H1 e _ fun H2 e2 => h2 H2 (e.trans e2) _ fun H3 e3 => hr H3 ((e.trans e2).trans e3) _ fun H4 e4 => ⟨a, rfl, by
    have e5 := (e2.trans e3).trans e4
    cases a with
    | false => exact k H4 e5
    | true => exact h3 H4 (e.trans e5) _ fun H5 e6 => hr' H5 (e.trans (e5.trans e6)) _ fun H6 e7 => k H6 (e5.trans (e6.trans e7))⟩
/-- list + list, list * n -/
theorem en_cat (h1 : EvP ta σ G (pLst K ps)) (h2 : EvP tb σ G (pLst K qs)) (hz : ps.length + qs.length ≤ 100000) : EvN (tOp rCat ta tb) σ G (ps ++ qs) := fun H1 e Q k => h1 H1 e _ fun v H2 G2 g hv => (h2.mono g.g) H2 g.k _ fun w H3 G3 g3 hw => by
  obtain ⟨a, xs, rfl, q1, q2⟩ := (pLst K ps).up g3.g hv
  obtain ⟨b, ys, rfl, q3, q4⟩ := hw
  have g4 := g.trans g3
  exact ⟨a, b, xs, ys, rfl, rfl, g3.k _ _ q1, g3.k _ _ q3, sz_of (by rw [q2.len, q4.len]; exact hz), fun p hp => k p (xs ++ ys) _ G3 ⟨g4.g, g4.h.trans (Ex.new hp), g4.k.trans (Ex.new hp), g4.n⟩ (fresh_back g4.h hp) (fresh_back g4.k hp) upd_same (q2.app q4)⟩
theorem al_rep {xs : List V} (h : Al G ps xs) : ∀ n : Nat, Al G (List.replicate n ps).flatten (List.replicate n xs).flatten
  | 0 => trivial
  | n + 1 => by
    rw [List.replicate_succ, List.replicate_succ, List.flatten_cons, List.flatten_cons]
    exact h.app (al_rep h n)
theorem en_rep {n : Int} (h1 : EvP ta σ G (pLst K ps)) (h2 : Ev tb σ G (.int n)) (hn : n ≤ 100000) (hn' : -100000 ≤ n) (hz : ps.length * n.toNat ≤ 100000) : EvN (tOp rRep ta tb) σ G (List.replicate n.toNat ps).flatten := fun H1 e Q k => h1 H1 e _ fun v H2 G2 g hv => (h2.mono g.g) H2 g.k _ fun H3 e3 => by
  obtain ⟨a, xs, rfl, q1, q2⟩ := hv
  have k3 := g.k.trans e3
  exact ⟨a, n, xs, rfl, rfl, k3 _ _ q1, by omega, by omega, sz_of (by rw [q2.len]; exact hz), fun p hp => k p _ _ G2 ⟨g.g, (g.h.trans e3).trans (Ex.new hp), k3.trans (Ex.new hp), g.n⟩ (fresh_back (g.h.trans e3) hp) (fresh_back k3 hp) upd_same (al_rep q2 _)⟩
/-- x in / not in a list of texts, of whole numbers -/
theorem inV_strs (s : Str) (ss : List Str) : inV (.str s) (ss.map V.str) = decide (s ∈ ss) := by
  unfold inV
  rw [List.any_map, Bool.eq_iff_iff, List.any_eq_true, decide_eq_true_eq]
  exact ⟨fun ⟨x, hx, he⟩ => by
    have : x = s := by simpa [eqV] using he
    rw [← this]
    exact hx, fun h => ⟨s, h, by simp [eqV]⟩⟩
theorem inV_ints (s : Int) (ss : List Int) : inV (.int s) (ss.map V.int) = decide (s ∈ ss) := by
  unfold inV
  rw [List.any_map, Bool.eq_iff_iff, List.any_eq_true, decide_eq_true_eq]
  exact ⟨fun ⟨x, hx, he⟩ => by
    have : x = s := by simpa [eqV] using he
    rw [← this]
    exact hx, fun h => ⟨s, h, by simp [eqV]⟩⟩
theorem flat_strs (ss : List Str) : (ss.map V.str).all flatV = true := by
  rw [List.all_map, List.all_eq_true]
  exact fun _ _ => rfl
theorem flat_ints (ss : List Int) : (ss.map V.int).all flatV = true := by
  rw [List.all_map, List.all_eq_true]
  exact fun _ _ => rfl
theorem ev_inSs {s : Str} {ss : List Str} {neg : Bool} (h1 : Ev ta σ G (.str s)) (h2 : EvP tb σ G (pLst K (ss.map fun s => pV (.str s)))) : Ev (tOp (rIn K neg) ta tb) σ G (.bl (if neg then !decide (s ∈ ss) else decide (s ∈ ss))) := fun H1 e Q k =>
  h1 H1 e _ fun H2 e2 => h2 H2 (e.trans e2) _ fun v H3 G3 g hv => by
  obtain ⟨a, xs, rfl, q1, q2⟩ := hv
  obtain rfl := al_strs q2
  exact ⟨a, _, rfl, .inl (sq_of (g.k _ _ q1)), rfl, flat_strs ss, by rw [inV_strs]; exact k H3 (e2.trans g.h)⟩
theorem ev_inIs {s : Int} {ss : List Int} {neg : Bool} (h1 : Ev ta σ G (.int s)) (h2 : EvP tb σ G (pLst K (ss.map fun s => pV (.int s)))) : Ev (tOp (rIn K neg) ta tb) σ G (.bl (if neg then !decide (s ∈ ss) else decide (s ∈ ss))) := fun H1 e Q k =>
  h1 H1 e _ fun H2 e2 => h2 H2 (e.trans e2) _ fun v H3 G3 g hv => by
  obtain ⟨a, xs, rfl, q1, q2⟩ := hv
  obtain rfl := al_ints q2
  exact ⟨a, _, rfl, .inl (sq_of (g.k _ _ q1)), rfl, flat_ints ss, by rw [inV_ints]; exact k H3 (e2.trans g.h)⟩
/-- max of whole numbers -/
theorem ev_maxL {ns : List Int} {m : Int} (h : EvP ta σ G (pLst K (ns.map fun s => pV (.int s)))) (hm : m ∈ ns) (hb : ∀ y ∈ ns, y ≤ m) : Ev (tCB (rMax K) (tCons ta tNil)) σ G (.int m) := fun H1 e Q k => h H1 e _ fun v H3 G3 g hv => by
  obtain ⟨a, xs, rfl, q1, q2⟩ := hv
  obtain rfl := al_ints q2
  refine ⟨a, ns, rfl, sq_of (g.k _ _ q1), List.length_pos_of_mem hm, fun m' h1 h2 => ?_⟩
  have : m' = m := Int.le_antisymm (hb m' h1) (h2 m hm)
  rw [this]
  exact k H3 g.h
/-- text[i] -/
theorem ev_ixS {s : Str} {i : Int} {c : Nat} (h1 : Ev ta σ G (.str s)) (h2 : Ev tb σ G (.int i)) (hz : s.length ≤ 100000) (hc : atI s.cps.toList i = some c) : Ev (tOp rIxS ta tb) σ G (.str ⟨#[c]⟩) := ev_op h1 h2 (rv_ixS hz hc)
/-- int(truth value) -/
theorem ev_intB {b : Bool} (h : Ev ta σ G (.bl b)) : Ev (tCB (fun xs H Q => (∃ i, xs = [.int i] ∧ Q (.int i) H) ∨ ∃ k, xs = [.bl k] ∧ Q (.int (if k then 1 else 0)) H) (tCons ta tNil)) σ G (.int (if b then 1 else 0)) := fun H1 e Q k => h H1 e _ fun H2 e2 => .inr ⟨b, rfl, k H2 e2⟩
end
end OP

/-! PreBx: the law's box beside what is known; draws, comprehensions that draw. -/
namespace OP
open PySem PySem.Spec PyProof.Rows L2 Evl
/-- all is known as G, the box stands at b with k draws left -/
structure Wb (b : Addr) (G H : Hp) (k : Nat) : Prop where
  e : Ex G H
  o : G b = none
  bx : ∃ n, BoxAt H b n ∧ n + k ≤ 1000000000
structure Fb (b : Addr) (G H G2 H2 : Hp) : Prop where
  g : Ex G G2
  h : Eb b H H2
  k : Ex G2 H2
  n : ∀ a, G a = none → H a ≠ none → G2 a = none
theorem Fr.fb {b : Addr} {G H G2 H2 : Hp} (f : Fr G H G2 H2) : Fb b G H G2 H2 := ⟨f.g, Eb.of f.h, f.k, f.n⟩
theorem ne_upb {b : Addr} {H H' : Hp} {a : Addr} (e : Eb b H H') (hb : H' b ≠ none) (h : H a ≠ none) : H' a ≠ none := by
  by_cases c : a = b
  · rw [c]
    exact hb
  · cases q : H a with
    | none => exact absurd q h
    | some o => rw [e a o c q]; exact fun h => nomatch h
theorem BoxAt.ne {H : Hp} {b : Addr} {n : Nat} (h : BoxAt H b n) : H b ≠ none := by
  obtain ⟨o, h, _⟩ := h
  rw [h]
  exact fun c => nomatch c
theorem Wb.ne {b : Addr} {G H : Hp} {k : Nat} (w : Wb b G H k) : H b ≠ none := by
  obtain ⟨n, h, _⟩ := w.bx
  exact h.ne
theorem Fb.trans {b : Addr} {G H G2 H2 G3 H3 : Hp} (a : Fb b G H G2 H2) (c : Fb b G2 H2 G3 H3) (hb : H2 b ≠ none) : Fb b G H G3 H3 :=
  ⟨a.g.trans c.g, a.h.trans c.h, c.k, fun x h1 h2 => c.n x (a.n x h1 h2) (ne_upb a.h hb h2)⟩
theorem Wb.go {b : Addr} {G H G2 H2 : Hp} {k : Nat} (w : Wb b G H k) (f : Fr G H G2 H2) : Wb b G2 H2 k := by
  obtain ⟨n, h, hk⟩ := w.bx
  exact ⟨f.k, f.n b w.o h.ne, n, h.ex f.h, hk⟩
theorem Wb.less {b : Addr} {G H : Hp} {k m : Nat} (w : Wb b G H k) (h : m ≤ k) : Wb b G H m := by
  obtain ⟨n, h1, h2⟩ := w.bx
  exact ⟨w.e, w.o, n, h1, by omega⟩
/-- a def that draws from the box (its first argument) at most c times -/
def spB (c : Nat) (A : List Pr → Pr → Prop) : Sp := fun vs H Q _ => ∃ b G k us ps, vs = .ref b :: us ∧ Wb b G H (k + c) ∧ Al G ps us ∧ (∃ p, A ps p) ∧ ∀ p v H2 G2, A ps p → Fb b G H G2 H2 → Wb b G2 H2 k → p.on G2 v → Q v H2
section
variable {K : PySem.W.Frag} {σ : L2.St} {G G' H H' : Hp} {ta tb te tx ts tl : TE} {t u : TT} {x y z v : V} {p q : Pr} {ps qs : List Pr} {i j k : Nat} {vs : List Nat} {D : Ends} {tu tz : TS} {E : XK} {b : Addr}
/-- a pure part -/
theorem b_pure {Q : VK} (w : Wb b G H k) (h : EvP te σ G p) (q : ∀ v H2 G2, Fr G H G2 H2 → Wb b G2 H2 k → p.on G2 v → Q v H2) : te σ H Q := h H w.e Q fun v H2 G2 f hv => q v H2 G2 f (w.go f) hv
/-- a draw -/
theorem b_take {m : Int} {tm : TE} {Q : VK} (w : Wb b G H (k + 1)) (hv : σ[i]? = some (some (.ref b))) (ht : Ev tm σ G (.int m)) (hm : 0 < m) (hm2 : m ≤ 1000000)
    (q : ∀ (d : Int) H', 0 ≤ d → d < m → Fb b G H G H' → Wb b G H' k → Q (.int d) H') : tCall spTake [] E (tCons (tVar i) (tCons tm tNil)) σ H Q := by
  refine ⟨.ref b, hv, ht H w.e _ fun H1 e1 => ?_⟩
  obtain ⟨n, h1, h2⟩ := (w.go (Fr.same w.e e1)).bx
  refine ⟨b, m, n, rfl, h1, by omega, hm, hm2, fun d o d1 d2 hB => ?_⟩
  have eb : Eb b H (upd H1 b o) := (Eb.of e1).trans Eb.upd
  have ek : Ex G (upd H1 b o) := fun a u ha => by
    have : a ≠ b := fun c => by
      subst c
      rw [w.o] at ha
      cases ha
    rw [upd_ne this]
    exact e1 a u (w.e a u ha)
  exact q d _ d1 d2 ⟨Ex.refl G, eb, ek, fun _ h _ => h⟩ ⟨ek, w.o, n + 1, ⟨o, upd_same, hB⟩, by omega⟩
/-- a call that draws -/
theorem b_call {c : Nat} {A : List Pr → Pr → Prop} {tr : TA} {Q : VK} (w : Wb b G H (k + c)) (hv : σ[i]? = some (some (.ref b))) (hr : EvPs tr σ G ps) (a : ∃ p, A ps p)
    (q : ∀ p v H2 G2, A ps p → Fb b G H G2 H2 → Wb b G2 H2 k → p.on G2 v → Q v H2) : tCall (spB c A) [] E (tCons (tVar i) tr) σ H Q :=
  ⟨.ref b, hv, hr H w.e _ fun us H1 G1 f1 hus => ⟨b, G1, k, us, ps, by rw [List.append_nil], w.go f1, hus, a, fun p v H2 G2 ha f2 w2 hp => q p v H2 G2 ha (f1.fb.trans f2 (w.go f1).ne) w2 hp⟩⟩
/-- one by one -/
def F2 {α β : Type} (R : α → β → Prop) (l : List α) (ys : List β) : Prop := ys.length = l.length ∧ ∀ (i : Nat) (a : α) (y : β), l[i]? = some a → ys[i]? = some y → R a y
theorem F2.mem {α β : Type} {R : α → β → Prop} {l : List α} {ys : List β} (h : F2 R l ys) {y : β} (hy : y ∈ ys) : ∃ a ∈ l, R a y := by
  obtain ⟨i, hi⟩ := List.mem_iff_getElem?.mp hy
  have hl := (List.getElem?_eq_some_iff.mp hi).1
  have h2 : i < l.length := by rw [← h.1]; exact hl
  exact ⟨l[i], List.getElem_mem _, h.2 i _ y (List.getElem?_eq_getElem h2) hi⟩
/-- [e for target in it], e draws -/
theorem b_lc {α β : Type} {wi : TI} {g : TG} {l : List α} {c : α → Pr} {F : α → Hp → L2.St → Prop} {d : β → Pr} {R : α → β → Prop} {c0 : Nat} {Q : VK} (w : Wb b G H (k + l.length * c0)) (h : EvI wi σ G l c) (hg : ∀ a, Tg g (c a) (wipe σ vs) (F a)) (hz : l.length < 100000)
    (hw : ∀ a G σ', F a G σ' → wipe σ' vs = wipe σ vs)
    (he : ∀ a σ' G1 H1 k1 (Q' : VK), a ∈ l → Ex G G1 → Wb b G1 H1 (k1 + c0) → F a G1 σ' → (∀ y v H2 G2, R a y → Fb b G1 H1 G2 H2 → Wb b G2 H2 k1 → (d y).on G2 v → Q' v H2) → te σ' H1 Q')
    (q : ∀ ys D xs H2 G2, F2 R l ys → Fb b G H G2 H2 → Wb b G2 H2 k → H D = none → G2 D = none → H2 D = some (.lst xs) → Al G2 (ys.map d) xs → Q (.ref D) H2) : tLc wi g tYes te vs σ H Q := h H w.e _ fun J H1 G1 f1 wk D hD => by
  have w1 := w.go f1
  have hDb : D ≠ b := fun c => by
    rw [c] at hD
    exact w1.ne hD
  refine lc_it wk.walk (fun i H' => ∃ (ys : List β) (G' : Hp) (xs : List V), ys.length = i ∧ (∀ (m : Nat) (a : α) (y : β), l[m]? = some a → ys[m]? = some y → R a y) ∧ Fb b G1 H1 G' H' ∧ Wb b G' H' (k + (l.length - i) * c0) ∧ G' D = none ∧ H' D = some (.lst xs) ∧ Al G' (ys.map d) xs)
    ⟨[], G1, [], rfl, fun m a y _ hy => (by simp at hy), ⟨Ex.refl G1, Eb.of (Ex.new hD), w1.e.trans (Ex.new hD), fun _ h _ => h⟩, w1.go (Fr.same w1.e (Ex.new hD)), fresh_back w1.e hD, upd_same, trivial⟩ (fun i H' _ hc => ?_) (fun i x H2 H3 hi hc y => ?_) (fun H' hc => ?_)
  · obtain ⟨ys, G', xs, _, _, g, _⟩ := hc
    exact g.g.trans g.k
  · obtain ⟨a, hla, hy⟩ := y
    have hm := List.mem_of_getElem? hla
    obtain ⟨ys, G', xs, h1, h2, f2, w2, h3, h4, h5⟩ := hc
    obtain ⟨G3, f3, hx⟩ := hy G' f2.g f2.k
    have w3 := w2.go f3
    refine hg a G3 x H3 hx f3.k _ fun σ' hσ => ⟨hw a G3 σ' hσ, ?_⟩
    refine et_yesP (σ := σ') (G := G3) H3 f3.k _ fun H4 e4 => ?_
    have f4 : Fr G3 H3 G3 H4 := Fr.same f3.k e4
    have w4 := w3.go f4
    have hsub : k + (l.length - i) * c0 = k + (l.length - (i + 1)) * c0 + c0 := by
      have : l.length - i = (l.length - (i + 1)) + 1 := by omega
      rw [this, Nat.add_mul, Nat.one_mul]
      omega
    rw [hsub] at w4
    have hD4 : H4 D = some (.lst xs) := e4 D _ (f3.h D _ h4)
    have hG3 : G3 D = none := f3.n D h3 (by rw [h4]; exact fun c => nomatch c)
    refine he a σ' G3 H4 _ _ hm (f1.g.trans (f2.g.trans f3.g)) w4 hσ fun y v H5 G5 hr f5 w5 hv => ?_
    have hD5 : H5 D = some (.lst xs) := f5.h D _ hDb hD4
    have hG5 : G5 D = none := f5.n D hG3 (by rw [hD4]; exact fun c => nomatch c)
    have fall : Fb b G1 H1 G5 H5 := (f2.trans ((f3.trans f4).fb) w2.ne).trans f5 w4.ne
    have kall : Ex G5 (upd H5 D (.lst (xs ++ [v]))) := fun u o hu => by
      have : u ≠ D := fun c => by
        subst c
        rw [hG5] at hu
        cases hu
      rw [upd_ne this]
      exact fall.k u o hu
    refine ⟨xs, hD5, sz_lt ?_, ys ++ [y], G5, xs ++ [v], by rw [List.length_append, h1]; rfl, fun m a' y' q1 q2 => ?_, ⟨fall.g, fun u o hub hu => ?_, kall, fall.n⟩, ⟨kall, w5.o, ?_⟩, hG5, upd_same, ?_⟩
    · rw [h5.len, List.length_map, h1]
      omega
    · rcases Nat.lt_or_ge m ys.length with hlt | hge
      · rw [List.getElem?_append_left hlt] at q2
        exact h2 m a' y' q1 q2
      · rw [List.getElem?_append_right hge] at q2
        have hm0 : m - ys.length = 0 := by
          rcases Nat.eq_zero_or_pos (m - ys.length) with h | h
          · exact h
          · rw [List.getElem?_eq_none (by simp; omega)] at q2
            cases q2
        rw [hm0] at q2
        cases q2
        have : m = i := by omega
        rw [this, hla] at q1
        cases q1
        exact hr
    · have : u ≠ D := fun c => by
        subst c
        rw [hD] at hu
        cases hu
      rw [upd_ne this]
      exact fall.h u o hub hu
    · obtain ⟨n, ⟨o, ho, hB⟩, hn⟩ := w5.bx
      exact ⟨n, ⟨o, by rw [upd_ne hDb.symm]; exact ho, hB⟩, hn⟩
    · rw [List.map_append]
      exact (h5.up (f3.g.trans f5.g)).app ⟨hv, trivial⟩
  · obtain ⟨ys, G', xs, h1, h2, f2, w2, h3, h4, h5⟩ := hc
    rw [Nat.sub_self, Nat.zero_mul, Nat.add_zero] at w2
    exact q ys D xs H' G' ⟨h1, h2⟩ (f1.fb.trans f2 w1.ne) w2 (fresh_back f1.h hD) h3 h4 h5
/-- what stands at D becomes known -/
theorem b_known {G0 H0 : Hp} {xs : List V} {D0 : Addr} (f : Fb b G0 H0 G H) (w : Wb b G H k) (h0 : H0 D0 = none) (hb0 : H0 b ≠ none) (hG : G D0 = none) (hD : H D0 = some (.lst xs)) (ha : Al G ps xs) : ∃ G2, Fb b G0 H0 G2 H ∧ Wb b G2 H k ∧ Ex G G2 ∧ (pLst K ps).on G2 (.ref D0) := by
  obtain ⟨e1, e2⟩ := Fr.freeze w.e hG hD
  have hDb : D0 ≠ b := fun c => by
    rw [c] at h0
    exact hb0 h0
  refine ⟨upd G D0 (.lst xs), ⟨f.g.trans e1, f.h, e2, fun a h1 h2 => ?_⟩, ⟨e2, ?_, w.bx⟩, e1, D0, xs, rfl, upd_same, ha.up e1⟩
  · have : a ≠ D0 := fun c => by
      subst c
      exact h2 h0
    rw [upd_ne this]
    exact f.n a h1 h2
  · rw [upd_ne hDb.symm]
    exact w.o
/-- the same, the list known -/
theorem b_lcP {α β : Type} {wi : TI} {g : TG} {l : List α} {c : α → Pr} {F : α → Hp → L2.St → Prop} {d : β → Pr} {R : α → β → Prop} {c0 : Nat} {Q : VK} (w : Wb b G H (k + l.length * c0)) (h : EvI wi σ G l c) (hg : ∀ a, Tg g (c a) (wipe σ vs) (F a)) (hz : l.length < 100000)
    (hw : ∀ a G σ', F a G σ' → wipe σ' vs = wipe σ vs)
    (he : ∀ a σ' G1 H1 k1 (Q' : VK), a ∈ l → Ex G G1 → Wb b G1 H1 (k1 + c0) → F a G1 σ' → (∀ y v H2 G2, R a y → Fb b G1 H1 G2 H2 → Wb b G2 H2 k1 → (d y).on G2 v → Q' v H2) → te σ' H1 Q')
    (q : ∀ ys v H2 G2, F2 R l ys → Fb b G H G2 H2 → Wb b G2 H2 k → (pLst K (ys.map d)).on G2 v → Q v H2) : tLc wi g tYes te vs σ H Q :=
  b_lc w h hg hz hw he fun ys D xs H2 G2 h1 f2 w2 h3 h4 h5 h6 => by
    obtain ⟨G3, f3, w3, _, on⟩ := b_known (K := K) f2 w2 h3 w.ne h4 h5 h6
    exact q ys _ H2 G3 h1 f3 w3 on
/-- a list shown, its items drawn one by one: by a reading of the arguments -/
def EvB (b : Addr) (c : Nat) (ta : TA) (σ : L2.St) (G : Hp) (A : List Pr → Prop) : Prop := ∀ H1 k, Wb b G H1 (k + c) → ∀ Q : List V → Hp → Prop, (∀ ps vs H2 G2, A ps → Fb b G H1 G2 H2 → Wb b G2 H2 k → Al G2 ps vs → Q vs H2) → ta σ H1 Q
/-- behind a turn that may draw -/
def NxB (b : Addr) (Gb : Hp) (k : Nat) (Pv : L2.St → Hp → Hp → Prop) : L2.St → Hp → Prop := fun σ H => ∃ G, Ex Gb G ∧ Wb b G H k ∧ Pv σ G H
/-- for target in it, the body draws at most c0 times -/
theorem b_for {α : Type} {wi : TI} {g : TG} {l : List α} {c : α → Pr} {F : α → L2.St → Hp → L2.St → Prop} {c0 : Nat} (w : Wb b G H (k + l.length * c0)) (h : EvI wi σ G l c) (hg : ∀ a σ', Tg g (c a) σ' (F a σ')) (Pv : Nat → L2.St → Hp → Hp → Prop)
    (h0 : ∀ H2 G2, Fr G H G2 H2 → Pv 0 σ G2 H2) (hst : ∀ i σ' G1 H1 G2 H2, Pv i σ' G1 H1 → H1 b ≠ none → Fr G1 H1 G2 H2 → Pv i σ' G2 H2)
    (hs : ∀ i a σ' Gb G1 H1 σ2 k1, l[i]? = some a → Ex G Gb → Ex Gb G1 → Wb b G1 H1 (k1 + c0) → Pv i σ' G1 H1 → F a σ' G1 σ2 → tu { D with nx := NxB b Gb k1 (Pv (i + 1)), ct := NxB b Gb k1 (Pv (i + 1)), bk := D.nx } σ2 H1)
    (hd : ∀ σ' G1 H1, Ex G G1 → Wb b G1 H1 k → Pv l.length σ' G1 H1 → D.nx σ' H1) : tFor wi g tu D σ H := h H w.e _ fun J H2 G2 f wk =>
  for_it wk.walk (fun i => NxB b G2 (k + (l.length - i) * c0) (Pv i)) ⟨G2, Ex.refl G2, w.go f, h0 H2 G2 f⟩ (fun i σ' H' _ hp => by
    obtain ⟨G1, e1, e2, _⟩ := hp
    exact e1.trans e2.e) (fun i x σ' H1 H3 hi hp y => by
    obtain ⟨G1, e1, w1, hp⟩ := hp
    obtain ⟨a, hla, hy⟩ := y
    obtain ⟨G3, f3, hx⟩ := hy G1 e1 w1.e
    have w3 := w1.go f3
    have hsub : k + (l.length - i) * c0 = k + (l.length - (i + 1)) * c0 + c0 := by
      have : l.length - i = (l.length - (i + 1)) + 1 := by omega
      rw [this, Nat.add_mul, Nat.one_mul]
      omega
    rw [hsub] at w3
    exact hg a σ' G3 x H3 hx f3.k _ fun σ2 hσ => hs i a σ' G2 G3 H3 σ2 _ hla f.g (e1.trans f3.g) w3 (hst i σ' G1 H1 G3 H3 hp w1.ne f3) hσ) (fun σ' H' hp => by
    obtain ⟨G1, e1, w1, hp⟩ := hp
    rw [Nat.sub_self, Nat.zero_mul, Nat.add_zero] at w1
    exact hd σ' G1 H' (f.g.trans e1) w1 hp)
theorem q_forB {α : Type} {wi : TI} {g : TG} {l : List α} {c : α → Pr} {F : α → L2.St → Hp → L2.St → Prop} {c0 : Nat} (w : Wb b G H (k + l.length * c0)) (h : EvI wi σ G l c) (hg : ∀ a σ', Tg g (c a) σ' (F a σ')) (Pv : Nat → L2.St → Hp → Hp → Prop)
    (h0 : ∀ H2 G2, Fr G H G2 H2 → Pv 0 σ G2 H2) (hst : ∀ i σ' G1 H1 G2 H2, Pv i σ' G1 H1 → H1 b ≠ none → Fr G1 H1 G2 H2 → Pv i σ' G2 H2)
    (hs : ∀ i a σ' Gb G1 H1 σ2 k1, l[i]? = some a → Ex G Gb → Ex Gb G1 → Wb b G1 H1 (k1 + c0) → Pv i σ' G1 H1 → F a σ' G1 σ2 → tu { D with nx := NxB b Gb k1 (Pv (i + 1)), ct := NxB b Gb k1 (Pv (i + 1)), bk := tz D } σ2 H1)
    (hd : ∀ σ' G1 H1, Ex G G1 → Wb b G1 H1 k → Pv l.length σ' G1 H1 → tz D σ' H1) : tSeq (tFor wi g tu) tz D σ H := b_for (D := { D with nx := tz D }) w h hg Pv h0 hst hs hd
/-! readings opened one by one -/
theorem c_asg (h : te σ H fun v H1 => tz D (σ.set i (some v)) H1) : tSeq (tAsg te (gName i)) tz D σ H := h
theorem c_asgS (h : te σ H fun v H1 => D.nx (σ.set i (some v)) H1) : tAsg te (gName i) D σ H := h
theorem c_op {r : R2} {Q : VK} (h : ta σ H fun x H1 => tb σ H1 fun y H2 => r x y H2 Q) : tOp r ta tb σ H Q := h
theorem c_ret (h : te σ H D.rt) : tRet te D σ H := h
theorem c_cons {tr : TA} {Q : List V → Hp → Prop} (h : te σ H fun v H1 => tr σ H1 fun vs H2 => Q (v :: vs) H2) : tCons te tr σ H Q := h
theorem c_cb {r : List V → Hp → VK → Prop} {ta : TA} {Q : VK} (h : ta σ H fun vs H1 => r vs H1 Q) : tCB r ta σ H Q := h
theorem c_par {i j : Nat} {ta : TA} (h : ta σ H fun vs H1 => ∃ v w, vs = [v, w] ∧ tz D ((σ.set i (some v)).set j (some w)) H1) : tSeq (tPar i j ta) tz D σ H := h
theorem c_lst {ta : TA} {Q : VK} (h : ta σ H fun vs H1 => vs.length ≤ sizeLine ∧ ∀ p, H1 p = none → Q (.ref p) (upd H1 p (.lst vs))) : tLst ta σ H Q := h
theorem c_tup {ta : TA} {Q : VK} (h : ta σ H fun vs H1 => vs.length ≤ sizeLine ∧ ∀ p, H1 p = none → Q (.ref p) (upd H1 p (.tup vs))) : tTup ta σ H Q := h
theorem c_asgG {g : TG} (h : te σ H fun v H1 => g v σ H1 fun σ2 H2 => tz D σ2 H2) : tSeq (tAsg te g) tz D σ H := h
theorem et_or2 {a c : Bool} (h1 : EvT t σ G a) (h2 : EvT u σ G c) (ha : a = false) (hc : c = false) : EvT (tOr t u) σ G false := et_is (et_or h1 fun _ => h2) (by rw [ha, hc]; rfl)
end
end OP

namespace K31
open PySem PySem.Spec PyProof.Rows L2 OP
def topS (i : Nat) : Stmt := PySem.Challenge.pw_openposts_k31_needless_places.main.body.getD i (.Pass ⟨0, 0, 0, 0⟩)
abbrev PP : Program := PySem.Challenge.pw_openposts_k31_needless_places
abbrev s_is_word : Stmt := topS 14
abbrev N_is_word : List Str := ["value", "sign"]
theorem sc_is_word : FnScope N_is_word ["value"] (defScope s_is_word) := ⟨rfl, rfl, rfl, by decide +kernel, rfl, by decide +kernel, by decide +kernel⟩
abbrev s_check_word : Stmt := topS 15
abbrev N_check_word : List Str := ["value"]
theorem sc_check_word : FnScope N_check_word ["value"] (defScope s_check_word) := ⟨rfl, rfl, rfl, by decide +kernel, rfl, by decide +kernel, by decide +kernel⟩
abbrev s_differing : Stmt := topS 16
abbrev N_differing : List Str := ["one", "other", "place", "signs"]
theorem sc_differing : FnScope N_differing ["one", "other"] (defScope s_differing) := ⟨rfl, rfl, rfl, by decide +kernel, rfl, by decide +kernel, by decide +kernel⟩
abbrev s_apart : Stmt := topS 17
abbrev N_apart : List Str := ["one", "other"]
theorem sc_apart : FnScope N_apart ["one", "other"] (defScope s_apart) := ⟨rfl, rfl, rfl, by decide +kernel, rfl, by decide +kernel, by decide +kernel⟩
abbrev s_are_words : Stmt := topS 21
abbrev N_are_words : List Str := ["value", "word"]
theorem sc_are_words : FnScope N_are_words ["value"] (defScope s_are_words) := ⟨rfl, rfl, rfl, by decide +kernel, rfl, by decide +kernel, by decide +kernel⟩
abbrev s_Addresses_init : Stmt := inClass (topS 22) 0
abbrev N_Addresses_init : List Str := ["self", "words"]
theorem sc_Addresses_init : FnScope N_Addresses_init ["self", "words"] (defScope s_Addresses_init) := ⟨rfl, rfl, rfl, by decide +kernel, rfl, by decide +kernel, by decide +kernel⟩
abbrev s_Addresses_words : Stmt := inClass (topS 22) 2
abbrev N_Addresses_words : List Str := ["self"]
theorem sc_Addresses_words : FnScope N_Addresses_words ["self"] (defScope s_Addresses_words) := ⟨rfl, rfl, rfl, by decide +kernel, rfl, by decide +kernel, by decide +kernel⟩
abbrev s_Addresses_length : Stmt := inClass (topS 22) 3
abbrev N_Addresses_length : List Str := ["self"]
theorem sc_Addresses_length : FnScope N_Addresses_length ["self"] (defScope s_Addresses_length) := ⟨rfl, rfl, rfl, by decide +kernel, rfl, by decide +kernel, by decide +kernel⟩
abbrev s_Addresses_eq : Stmt := inClass (topS 22) 7
abbrev N_Addresses_eq : List Str := ["self", "other"]
theorem sc_Addresses_eq : FnScope N_Addresses_eq ["self", "other"] (defScope s_Addresses_eq) := ⟨rfl, rfl, rfl, by decide +kernel, rfl, by decide +kernel, by decide +kernel⟩
abbrev s_Addresses_table : Stmt := inClass (topS 22) 13
abbrev N_Addresses_table : List Str := ["self", "other", "word"]
theorem sc_Addresses_table : FnScope N_Addresses_table ["self"] (defScope s_Addresses_table) := ⟨rfl, rfl, rfl, by decide +kernel, rfl, by decide +kernel, by decide +kernel⟩
abbrev s_check_addresses : Stmt := topS 23
abbrev N_check_addresses : List Str := ["value"]
theorem sc_check_addresses : FnScope N_check_addresses ["value"] (defScope s_check_addresses) := ⟨rfl, rfl, rfl, by decide +kernel, rfl, by decide +kernel, by decide +kernel⟩
abbrev s_needless : Stmt := topS 25
abbrev N_needless : List Str := ["addresses", "found", "place", "signs", "word"]
theorem sc_needless : FnScope N_needless ["addresses"] (defScope s_needless) := ⟨rfl, rfl, rfl, by decide +kernel, rfl, by decide +kernel, by decide +kernel⟩
abbrev s_trimmed : Stmt := topS 26
abbrev N_trimmed : List Str := ["addresses", "dropped", "kept", "place", "word"]
theorem sc_trimmed : FnScope N_trimmed ["addresses"] (defScope s_trimmed) := ⟨rfl, rfl, rfl, by decide +kernel, rfl, by decide +kernel, by decide +kernel⟩
abbrev s_law_cell_at : Stmt := topS 28
abbrev N_law_cell_at : List Str := ["_law_script", "_law_k"]
theorem sc_law_cell_at : FnScope N_law_cell_at ["_law_script", "_law_k"] (defScope s_law_cell_at) := ⟨rfl, rfl, rfl, by decide +kernel, rfl, by decide +kernel, by decide +kernel⟩
abbrev s_law_box : Stmt := topS 29
abbrev N_law_box : List Str := ["_law_cell"]
theorem sc_law_box : FnScope N_law_box ["_law_cell"] (defScope s_law_box) := ⟨rfl, rfl, rfl, by decide +kernel, rfl, by decide +kernel, by decide +kernel⟩
abbrev s_law_take : Stmt := topS 30
abbrev N_law_take : List Str := ["_law_box_here", "_law_many", "_law_digit", "_law_mixed_here"]
theorem sc_law_take : FnScope N_law_take ["_law_box_here", "_law_many"] (defScope s_law_take) := ⟨rfl, rfl, rfl, by decide +kernel, rfl, by decide +kernel, by decide +kernel⟩
abbrev s_law_apart : Stmt := topS 32
abbrev N_law_apart : List Str := ["_law_one", "_law_other", "_law_k"]
theorem sc_law_apart : FnScope N_law_apart ["_law_one", "_law_other"] (defScope s_law_apart) := ⟨rfl, rfl, rfl, by decide +kernel, rfl, by decide +kernel, by decide +kernel⟩
abbrev s_law_words : Stmt := topS 33
abbrev N_law_words : List Str := ["_law_box_here", "_law_count", "_law_size", "_law_words_here", "_law_k", "_law_place", "_law_signs", "_law_word"]
theorem sc_law_words : FnScope N_law_words ["_law_box_here"] (defScope s_law_words) := ⟨rfl, rfl, rfl, by decide +kernel, rfl, by decide +kernel, by decide +kernel⟩
abbrev s_law_needless : Stmt := topS 34
abbrev N_law_needless : List Str := ["_law_words_here", "_law_found", "_law_place", "_law_signs", "_law_word", "_law_ways", "_law_other", "_law_one"]
theorem sc_law_needless : FnScope N_law_needless ["_law_words_here"] (defScope s_law_needless) := ⟨rfl, rfl, rfl, by decide +kernel, rfl, by decide +kernel, by decide +kernel⟩
abbrev s_law : Stmt := topS 35
abbrev N_law : List Str := ["_law_script", "_law_k", "_law_box_here", "_law_rows", "_law_books", "_law_words_here", "_law_turn", "_law_book", "_law_due", "_law_told", "_law_less", "_law_kept", "_law_place", "_law_sign", "_law_word"]
theorem sc_law : FnScope N_law ["_law_script"] (defScope s_law) := ⟨rfl, rfl, rfl, by decide +kernel, rfl, by decide +kernel, by decide +kernel⟩
structure TX (K : PySem.W.Frag) (mg : Str → Option Value) : Type where
  C_Addresses : Addr
  gC_Addresses : mg "Addresses" = some (.ref C_Addresses)
  cl_Addresses : Cls K C_Addresses
  it_Addresses : InsT K C_Addresses
  kk_Addresses : PySem.W.kitOne K (.ref C_Addresses) (.ref C_Addresses) = some true
  na_Addresses_kept : NoAttr K C_Addresses "kept"
  f_is_word : Addr
  d_is_word : FuncData
  F_is_word : Fun K "is_word" "is_word" s_is_word f_is_word d_is_word
  b_is_word : Binds K d_is_word ["value"] []
  g_is_word : mg "is_word" = some (.ref f_is_word)
  f_check_word : Addr
  d_check_word : FuncData
  F_check_word : Fun K "check_word" "check_word" s_check_word f_check_word d_check_word
  b_check_word : Binds K d_check_word ["value"] []
  g_check_word : mg "check_word" = some (.ref f_check_word)
  f_differing : Addr
  d_differing : FuncData
  F_differing : Fun K "differing" "differing" s_differing f_differing d_differing
  b_differing : Binds K d_differing ["one", "other"] []
  g_differing : mg "differing" = some (.ref f_differing)
  f_apart : Addr
  d_apart : FuncData
  F_apart : Fun K "apart" "apart" s_apart f_apart d_apart
  b_apart : Binds K d_apart ["one", "other"] []
  g_apart : mg "apart" = some (.ref f_apart)
  f_are_words : Addr
  d_are_words : FuncData
  F_are_words : Fun K "are_words" "are_words" s_are_words f_are_words d_are_words
  b_are_words : Binds K d_are_words ["value"] []
  g_are_words : mg "are_words" = some (.ref f_are_words)
  f_Addresses_init : Addr
  d_Addresses_init : FuncData
  F_Addresses_init : Fun K "__init__" "Addresses.__init__" s_Addresses_init f_Addresses_init d_Addresses_init
  b_Addresses_init : Binds K d_Addresses_init ["self", "words"] []
  mk_Addresses : Mk K C_Addresses f_Addresses_init
  f_Addresses_words : Addr
  d_Addresses_words : FuncData
  F_Addresses_words : Fun K "words" "Addresses.words" s_Addresses_words f_Addresses_words d_Addresses_words
  b_Addresses_words : Binds K d_Addresses_words ["self"] []
  q_Addresses_words : Addr
  p_Addresses_words : PropOf K C_Addresses "words" q_Addresses_words f_Addresses_words
  f_Addresses_length : Addr
  d_Addresses_length : FuncData
  F_Addresses_length : Fun K "length" "Addresses.length" s_Addresses_length f_Addresses_length d_Addresses_length
  b_Addresses_length : Binds K d_Addresses_length ["self"] []
  q_Addresses_length : Addr
  p_Addresses_length : PropOf K C_Addresses "length" q_Addresses_length f_Addresses_length
  f_Addresses_eq : Addr
  d_Addresses_eq : FuncData
  F_Addresses_eq : Fun K "__eq__" "Addresses.__eq__" s_Addresses_eq f_Addresses_eq d_Addresses_eq
  b_Addresses_eq : Binds K d_Addresses_eq ["self", "other"] []
  oe_Addresses : OwnE K C_Addresses f_Addresses_eq
  f_Addresses_table : Addr
  d_Addresses_table : FuncData
  F_Addresses_table : Fun K "table" "Addresses.table" s_Addresses_table f_Addresses_table d_Addresses_table
  b_Addresses_table : Binds K d_Addresses_table ["self"] []
  m_Addresses_table : Meth K C_Addresses "table" f_Addresses_table
  f_check_addresses : Addr
  d_check_addresses : FuncData
  F_check_addresses : Fun K "check_addresses" "check_addresses" s_check_addresses f_check_addresses d_check_addresses
  b_check_addresses : Binds K d_check_addresses ["value"] []
  g_check_addresses : mg "check_addresses" = some (.ref f_check_addresses)
  f_needless : Addr
  d_needless : FuncData
  F_needless : Fun K "needless" "needless" s_needless f_needless d_needless
  b_needless : Binds K d_needless ["addresses"] []
  g_needless : mg "needless" = some (.ref f_needless)
  f_trimmed : Addr
  d_trimmed : FuncData
  F_trimmed : Fun K "trimmed" "trimmed" s_trimmed f_trimmed d_trimmed
  b_trimmed : Binds K d_trimmed ["addresses"] []
  g_trimmed : mg "trimmed" = some (.ref f_trimmed)
  f_law_cell_at : Addr
  d_law_cell_at : FuncData
  F_law_cell_at : Fun K "_law_cell_at" "_law_cell_at" s_law_cell_at f_law_cell_at d_law_cell_at
  b_law_cell_at : Binds K d_law_cell_at ["_law_script", "_law_k"] []
  g_law_cell_at : mg "_law_cell_at" = some (.ref f_law_cell_at)
  f_law_box : Addr
  d_law_box : FuncData
  F_law_box : Fun K "_law_box" "_law_box" s_law_box f_law_box d_law_box
  b_law_box : Binds K d_law_box ["_law_cell"] []
  g_law_box : mg "_law_box" = some (.ref f_law_box)
  f_law_take : Addr
  d_law_take : FuncData
  F_law_take : Fun K "_law_take" "_law_take" s_law_take f_law_take d_law_take
  b_law_take : Binds K d_law_take ["_law_box_here", "_law_many"] []
  g_law_take : mg "_law_take" = some (.ref f_law_take)
  f_law_apart : Addr
  d_law_apart : FuncData
  F_law_apart : Fun K "_law_apart" "_law_apart" s_law_apart f_law_apart d_law_apart
  b_law_apart : Binds K d_law_apart ["_law_one", "_law_other"] []
  g_law_apart : mg "_law_apart" = some (.ref f_law_apart)
  f_law_words : Addr
  d_law_words : FuncData
  F_law_words : Fun K "_law_words" "_law_words" s_law_words f_law_words d_law_words
  b_law_words : Binds K d_law_words ["_law_box_here"] []
  g_law_words : mg "_law_words" = some (.ref f_law_words)
  f_law_needless : Addr
  d_law_needless : FuncData
  F_law_needless : Fun K "_law_needless" "_law_needless" s_law_needless f_law_needless d_law_needless
  b_law_needless : Binds K d_law_needless ["_law_words_here"] []
  g_law_needless : mg "_law_needless" = some (.ref f_law_needless)
  f_law : Addr
  d_law : FuncData
  F_law : Fun K "law" "law" s_law f_law d_law
  b_law : Binds K d_law ["_law_script"] []
  g_law : mg "law" = some (.ref f_law)
  g_apart_words : mg "apart_words" = some (.ref f_apart)
  z_isinstance : mg "isinstance" = none
  z_str : mg "str" = none
  z_all : mg "all" = none
  z_len : mg "len" = none
  z_enumerate : mg "enumerate" = none
  z_zip : mg "zip" = none
  z_list : mg "list" = none
  z_tuple : mg "tuple" = none
  z_range : mg "range" = none
  z_max : mg "max" = none
  z_int : mg "int" = none
  z_min : mg "min" = none
  t_MOST_SIGNS : Tok
  c_MOST_SIGNS : mg "MOST_SIGNS" = some (.int 60 t_MOST_SIGNS)
  t_SIGNS : Tok
  c_SIGNS : mg "SIGNS" = some (.str "01*" t_SIGNS)
  t_MOST_HOUSES : Tok
  c_MOST_HOUSES : mg "MOST_HOUSES" = some (.int 40 t_MOST_HOUSES)
end K31

namespace K31
open PySem PySem.Spec PyProof.Rows L2 OP Evl
def s01 : List (Str × Str) := [("0", "1"), ("1", "0")]
def farC (x : Nat × Nat) : Bool := decide (((⟨#[x.1]⟩, ⟨#[x.2]⟩) : Str × Str) ∈ s01)
def diffL (a b : Str) : List Nat := ((a.cps.toList.zip b.cps.toList).zipIdx.filter fun x => farC x.1).map (·.2)
def apartN (a b : Str) : Nat := (diffL a b).length
theorem s01_lay {K : PySem.W.Frag} : ∀ x ∈ s01, (inferInstance : Enc K (Str × Str)).lay x := fun x hx => by
  rcases List.mem_cons.mp hx with rfl | hx
  · exact ⟨(by decide +kernel : PyData.strOk _ = true), (by decide +kernel : PyData.strOk _ = true)⟩
  · rw [List.mem_singleton.mp hx]
    exact ⟨(by decide +kernel : PyData.strOk _ = true), (by decide +kernel : PyData.strOk _ = true)⟩
def A_isw : List Pr → Pr → Prop := fun ps p => ∃ w : Str, ps = [pV (.str w)] ∧ w.length ≤ 1000 ∧ p = pV (.bl (okS w))
def A_chk : List Pr → Pr → Prop := fun ps p => ∃ w : Str, ps = [pV (.str w)] ∧ okS w = true ∧ p = pV .non
def A_dif (K : PySem.W.Frag) : List Pr → List Pr → Prop := fun ps qs => ∃ a b : Str, ps = [pV (.str a), pV (.str b)] ∧ okS a = true ∧ okS b = true ∧ a.length = b.length ∧ qs = (diffL a b).map (en K)
def A_apt : List Pr → Pr → Prop := fun ps p => ∃ a b : Str, ps = [pV (.str a), pV (.str b)] ∧ okS a = true ∧ okS b = true ∧ a.length = b.length ∧ p = pV (.int (apartN a b))
section
variable {w : World} {K : PySem.W.Frag} {mg : Str → Option Value} {base : Heap}
theorem G_is_word (T : TX K mg) : FnOk PP w K mg base CX0 1 T.f_is_word T.d_is_word ["value"] (spF A_isw) := by
  refine T.F_is_word.ok sc_is_word (fun vs H Q E h => ?_) (fun cdv A outer s H vs Q E hr h => ?_)
  · obtain ⟨G, ps, p, ⟨w, rfl, _⟩, _, ha, _⟩ := h
    exact ha.len
  · obtain ⟨G, ps, p, ⟨z, rfl, hz, rfl⟩, e, ha, q⟩ := h
    obtain ⟨v, rfl, hv⟩ := ha.one
    refine ⟨_,
    (pss_one (ps_ret (pe_and (pe_callB (call_isZK K) (by rfl) T.z_isinstance (by decide +kernel) (pa_cons (pv 0) (pa_cons (pe_bltn (v := .ty "str") (u := .type "str") (by rfl) T.z_str (by decide +kernel) rfl) pa_nil))) (pe_and (pe_cmpR op_le (pe_callB call_len_str (by rfl) T.z_len (by decide +kernel) (pa_cons (pv 0) pa_nil)) (pe_glob (v := .int 60) rfl T.c_MOST_SIGNS ⟨_, rfl⟩) (nomark _)) (pe_one (pe_callB (cr_allK K rfl) (by rfl) T.z_all (by decide +kernel) (pa_cons (pe_lc (own := [("sign", 1)]) rfl sc_is_word.nd (pi_str (pv 0)) (blkOk_by (N := N_is_word) (sc := defScope s_is_word) (by decide +kernel)) (fun _ _ _ _ _ => (pg_name (i := 1) sc_is_word.nd rfl (.inl rfl))) (fun _ _ _ _ _ => pts_nil) (fun _ _ _ _ _ => (pe_cmpR op_in_sign (pv 1) (pe_glob (v := .str "01*") rfl T.c_SIGNS ⟨_, rfl⟩) (by rfl)))) pa_nil)))))))
    , ?_⟩
    refine s_retP (Q := Q) e (ep_v (ev_is (ev_andV (ev_isA (b := true) (ep_var rfl hv) ev_c (.ty _) pty_v_str (kit_ty (by decide +kernel))) fun _ => ev_andV (ev_op (ev_lenS (ev_at rfl hv) (by omega)) ev_c rv_I0) fun _ =>
      ev_allP (K := K) (bs := z.cps.toList.map okc) (by
        rw [List.map_map]
        exact (en_lcN _ (ei_str (ev_at rfl hv)) (by show z.cps.size < _; have : z.cps.size ≤ 1000 := hz; omega) (fun _ => rfl) fun c x G1 _ _ hx => ep_v (ev_inS (ev_at rfl hx) ev_c)).ep)) ?_)) q
    show V.bl (true && (decide ((z.length : Int) ≤ 60) && (List.map okc z.cps.toList).all id)) = V.bl (okS z)
    have e1 : decide ((z.length : Int) ≤ 60) = decide (z.length ≤ 60) := decide_eq_decide.mpr ⟨fun h => by omega, fun h => by omega⟩
    rw [e1, List.all_map]
    rfl
theorem G_check_word (T : TX K mg) : FnOk PP w K mg base CX0 2 T.f_check_word T.d_check_word ["value"] (spF A_chk) := by
  refine T.F_check_word.ok sc_check_word (fun vs H Q E h => ?_) (fun cdv A outer s H vs Q E hr h => ?_)
  · obtain ⟨G, ps, p, ⟨w, rfl, _⟩, _, ha, _⟩ := h
    exact ha.len
  · obtain ⟨G, ps, p, ⟨z, rfl, hz, rfl⟩, e, ha, q⟩ := h
    obtain ⟨v, rfl, hv⟩ := ha.one
    refine ⟨_,
    (pss_one (ps_if (pt_not (pt_val (pe_call (G_is_word T) (hr.mono (by decide)) (by rfl) T.g_is_word T.F_is_word.kp T.b_is_word .nil pass0 (pa_cons (pv 0) pa_nil)))) (pss_one ps_never) pss_nil))
    , ?_⟩
    refine s_whenP e (et_not (et_B (ev_p (ep_call (es_cons (ep_var rfl hv) es_nil) ⟨z, rfl, by have := okS_len hz; omega, rfl⟩)))) (fun hb => ?_) (fun hb H1 f1 => q .non H1 G f1 rfl)
    rw [hz] at hb
    cases hb
theorem G_differing (T : TX K mg) : FnOk PP w K mg base CX0 3 T.f_differing T.d_differing ["one", "other"] (spN (A_dif K)) := by
  refine T.F_differing.ok sc_differing (fun vs H Q E h => ?_) (fun cdv A outer s H vs Q E hr h => ?_)
  · obtain ⟨G, ps, p, ⟨_, _, rfl, _⟩, _, ha, _⟩ := h
    exact ha.len
  · obtain ⟨G, ps, p, ⟨a, b, rfl, ha1, hb1, hl, rfl⟩, e, ha, q⟩ := h
    obtain ⟨v, u, rfl, hv, hu⟩ := ha.two
    refine ⟨_,
    (pss_cons (ps_expr (pe_call (G_check_word T) (hr.mono (by decide)) (by rfl) T.g_check_word T.F_check_word.kp T.b_check_word .nil pass0 (pa_cons (pv 0) pa_nil)))
      (pss_cons (ps_expr (pe_call (G_check_word T) (hr.mono (by decide)) (by rfl) T.g_check_word T.F_check_word.kp T.b_check_word .nil pass0 (pa_cons (pv 1) pa_nil)))
      (pss_cons (ps_if (pt_cmpR op_ne (pe_callB call_len_str (by rfl) T.z_len (by decide +kernel) (pa_cons (pv 0) pa_nil)) (pe_callB call_len_str (by rfl) T.z_len (by decide +kernel) (pa_cons (pv 1) pa_nil)) (nomark _)) (pss_one ps_never) pss_nil)
      (pss_one (ps_ret (pe_lc (own := [("place", 2), ("signs", 3)]) rfl sc_differing.nd (pi_ez (by rfl) T.z_enumerate (by rfl) T.z_zip (pa_cons (pv 0) (pa_cons (pv 1) pa_nil))) (blkOk_by (N := N_differing) (sc := defScope s_differing) (by decide +kernel)) (fun _ _ _ _ _ => (pg_tupK K (n := 2) (by rfl) (pgs_cons (pg_name (i := 2) sc_differing.nd rfl (.inl rfl)) (pgs_cons (pg_name (i := 3) sc_differing.nd rfl (.inl rfl)) pgs_nil)))) (fun _ _ _ _ _ => (pts_one (pt_cmpR (op_inTK hr.units1) (pv 3) (pe_tup (pa_cons (pe_tup (pa_cons pe_str (pa_cons pe_str pa_nil))) (pa_cons (pe_tup (pa_cons pe_str (pa_cons pe_str pa_nil))) pa_nil))) (by rfl)))) (fun _ _ _ _ _ => (pv 2))))))))
    , ?_⟩
    refine q_dropP e (ep_call (es_cons (ep_var rfl hv) es_nil) ⟨a, rfl, ha1, rfl⟩) fun _ H1 G1 f1 _ => ?_
    refine q_dropP f1.k (ep_call (es_cons (ep_var rfl ((pV _).up f1.g hu)) es_nil) ⟨b, rfl, hb1, rfl⟩) fun _ H2 G2 f2 _ => ?_
    have g2 := f1.trans f2
    have hv2 := (pV _).up g2.g hv
    have hu2 := (pV _).up g2.g hu
    have la := okS_len ha1
    have lb := okS_len hb1
    refine q_whenP g2.k (et_test (ev_op (ev_lenS (ev_at rfl hv2) (by omega)) (ev_lenS (ev_at rfl hu2) (by omega)) (rv_ne rfl))) (fun hb => ?_) fun hb H3 f3 => ?_
    · rw [hl, decide_eq_true rfl] at hb
      cases hb
    have g3 := g2.trans f3
    refine s_retN (Q := Q) g3.k (en_lcP (K := K) (fun x => farC x.1) (fun x => pV (.int (x.2 : Nat))) (ei_ez (ea_cons (ev_at rfl hv2) (ea_cons (ev_at rfl hu2) ea_nil)) hl) ?_ (fun _ _ => rfl)
      (fun x y z G4 hm e4 hy hz => et_test (ev_is (ev_inT (α := Str × Str) (a := (⟨#[x.1.1]⟩, ⟨#[x.1.2]⟩)) (l := ⟨s01⟩) (ep_var rfl hz)
        (ep_tup (es_cons (ep_tup (es_cons (ep_v ev_c) (es_cons (ep_v ev_c) es_nil)) (by show 2 ≤ 100000; decide)) (es_cons (ep_tup (es_cons (ep_v ev_c) (es_cons (ep_v ev_c) es_nil)) (by show 2 ≤ 100000; decide)) es_nil)) (by show 2 ≤ 100000; decide)) ?_ ?_) (congrArg V.bl (decide_eq_decide.mpr Iff.rfl))))
      (fun x y z G4 _ _ e4 hy hz => ep_var rfl hy)) fun p xs H4 G4 f4 h1 h2 h3 h4 => ?_
    · rw [List.length_zipIdx, List.length_zip]
      have : a.cps.toList.length ≤ 60 := la
      omega
    · have h1 := (List.of_mem_zip (a := x.1.1) (b := x.1.2) (List.mem_of_mem_zipIdx_fst hm))
      exact ⟨sgn_lay (okS_all ha1 _ h1.1), sgn_lay (okS_all hb1 _ h1.2)⟩
    · exact s01_lay
    · refine q p xs H4 G4 (g3.trans f4) (fresh_back g3.h h1) h2 h3 ?_
      unfold diffL
      rw [List.map_map]
      exact h4
theorem G_apart (T : TX K mg) : FnOk PP w K mg base CX0 4 T.f_apart T.d_apart ["one", "other"] (spF A_apt) := by
  refine T.F_apart.ok sc_apart (fun vs H Q E h => ?_) (fun cdv A outer s H vs Q E hr h => ?_)
  · obtain ⟨G, ps, p, ⟨_, _, rfl, _⟩, _, ha, _⟩ := h
    exact ha.len
  · obtain ⟨G, ps, p, ⟨a, b, rfl, ha1, hb1, hl, rfl⟩, e, ha, q⟩ := h
    obtain ⟨v, u, rfl, hv, hu⟩ := ha.two
    refine ⟨_,
    (pss_one (ps_ret (pe_callB (call_lenK K) (by rfl) T.z_len (by decide +kernel) (pa_cons (pe_call (G_differing T) (hr.mono (by decide)) (by rfl) T.g_differing T.F_differing.kp T.b_differing .nil pass0 (pa_cons (pv 0) (pa_cons (pv 1) pa_nil))) pa_nil))))
    , ?_⟩
    refine s_retP (Q := Q) e (ep_v (ev_is (ev_lenL (K := K) (en_call (es_cons (ep_var rfl hv) (es_cons (ep_var rfl hu) es_nil)) ⟨a, b, rfl, ha1, hb1, hl, rfl⟩).ep) ?_)) q
    rw [List.length_map]
    rfl
end
end K31

namespace K31
open PySem PySem.Spec PyProof.Rows L2 OP Evl
structure Gd (ws : List Str) : Prop where
  ne : 0 < ws.length
  le : ws.length ≤ 40
  ok : ∀ w ∈ ws, okS w = true
  al : ∀ w ∈ ws, w.length = (ws.headD "").length
def pAds (K : PySem.W.Frag) (C : Addr) (ws : List Str) : Pr := pObj C [(("kept" : Str), en K (Tu.mk ws))]
def A_arw (K : PySem.W.Frag) : List Pr → Pr → Prop := fun ps p => ∃ ws : List Str, ps = [en K ws] ∧ Gd ws ∧ p = pV (.bl true)
def A_ini (K : PySem.W.Frag) : List Pr → List (Str × Pr) → Prop := fun ps fs => ∃ ws : List Str, ps = [en K ws] ∧ Gd ws ∧ fs = [(("kept" : Str), en K (Tu.mk ws))]
def A_wds (K : PySem.W.Frag) (C : Addr) : List Pr → Pr → Prop := fun ps p => ∃ ws : List Str, ps = [pAds K C ws] ∧ p = en K (Tu.mk ws)
def A_len (K : PySem.W.Frag) (C : Addr) : List Pr → Pr → Prop := fun ps p => ∃ ws : List Str, ps = [pAds K C ws] ∧ Gd ws ∧ p = pV (.int (ws.headD "").length)
def A_eq (K : PySem.W.Frag) (C : Addr) : List Pr → Pr → Prop := fun ps p => ∃ ws us : List Str, ps = [pAds K C ws, pAds K C us] ∧ Gd ws ∧ Gd us ∧ p = pV (.bl (decide (ws = us)))
def tabL (ws : List Str) : List (Tu Nat) := ws.map fun w => ⟨ws.map fun o => apartN w o⟩
def A_tab (K : PySem.W.Frag) (C : Addr) : List Pr → List Pr → Prop := fun ps qs => ∃ ws : List Str, ps = [pAds K C ws] ∧ Gd ws ∧ qs = (tabL ws).map (en K)
def A_cha (K : PySem.W.Frag) (C : Addr) : List Pr → Pr → Prop := fun ps p => ∃ ws : List Str, ps = [pAds K C ws] ∧ p = pV .non
theorem head_at {K : PySem.W.Frag} {ws : List Str} (g : Gd ws) : atI (ws.map (en K)) 0 = some (pV (.str (ws.headD ""))) := by
  obtain ⟨h, _⟩ := g
  cases ws with
  | nil => exact absurd h (by decide)
  | cons w r => exact atI_nat (xs := (w :: r).map (en K)) (j := 0) rfl
section
variable {w : World} {K : PySem.W.Frag} {mg : Str → Option Value} {base : Heap}
theorem G_are_words (T : TX K mg) : FnOk PP w K mg base CX0 2 T.f_are_words T.d_are_words ["value"] (spF (A_arw K)) := by
  refine T.F_are_words.ok sc_are_words (fun vs H Q E h => ?_) (fun cdv A outer s H vs Q E hr h => ?_)
  · obtain ⟨G, ps, p, ⟨w, rfl, _⟩, _, ha, _⟩ := h
    exact ha.len
  · obtain ⟨G, ps, p, ⟨ws, rfl, g, rfl⟩, e, ha, q⟩ := h
    obtain ⟨v, rfl, hv⟩ := ha.one
    refine ⟨_,
    (pss_cons (ps_if (PW.pt (pw_or (pt_not (pt_val (pe_callB call_isiTK (by rfl) T.z_isinstance (by decide +kernel) (pa_cons (pv 0) (pa_cons (pe_tup (pa_cons (pe_bltn (v := .ty "list") (u := .type "list") (by rfl) T.z_list (by decide +kernel) rfl) (pa_cons (pe_bltn (v := .ty "tuple") (u := .type "tuple") (by rfl) T.z_tuple (by decide +kernel) rfl) pa_nil))) pa_nil))))) (pw_or1 (pt_not (pt_chain op_le op_le pe_int (pe_callB (call_lenK K) (by rfl) T.z_len (by decide +kernel) (pa_cons (pv 0) pa_nil)) (pe_glob (v := .int 40) rfl T.c_MOST_HOUSES ⟨_, rfl⟩)))))) (pss_one (ps_ret pe_bl)) pss_nil)
      (pss_one (ps_ret (pe_and (pe_callB (cr_allK K rfl) (by rfl) T.z_all (by decide +kernel) (pa_cons (pe_lc (own := [("word", 1)]) rfl sc_are_words.nd (pi_listK K (pv 0)) (blkOk_by (N := N_are_words) (sc := defScope s_are_words) (by decide +kernel)) (fun _ _ _ _ _ => (pg_name (i := 1) sc_are_words.nd rfl (.inl rfl))) (fun _ _ _ _ _ => pts_nil) (fun _ _ _ _ _ => (pe_call (G_is_word T) (hr.mono (by decide)) (by rfl) T.g_is_word T.F_is_word.kp T.b_is_word .nil pass0 (pa_cons (pv 1) pa_nil)))) pa_nil)) (pe_one (pe_callB (cr_allK K rfl) (by rfl) T.z_all (by decide +kernel) (pa_cons (pe_lc (own := [("word", 1)]) rfl sc_are_words.nd (pi_listK K (pv 0)) (blkOk_by (N := N_are_words) (sc := defScope s_are_words) (by decide +kernel)) (fun _ _ _ _ _ => (pg_name (i := 1) sc_are_words.nd rfl (.inl rfl))) (fun _ _ _ _ _ => pts_nil) (fun _ _ _ _ _ => (pe_cmpR op_eq (pe_callB call_len_str (by rfl) T.z_len (by decide +kernel) (pa_cons (pv 1) pa_nil)) (pe_callB call_len_str (by rfl) T.z_len (by decide +kernel) (pa_cons (pe_ix (ix_listK K) (pv 0) pe_int (fun _ _ => rfl)) pa_nil)) (nomark _)))) pa_nil)))))))
    , ?_⟩
    have hlw : ∀ w ∈ ws, w.length ≤ 60 := fun w hw => okS_len (g.ok w hw)
    have hh : (ws.headD "").length ≤ 60 := by
      cases ws with
      | nil => exact absurd g.ne (by decide)
      | cons w r => exact hlw w (List.mem_cons_self ..)
    have hws : 0 < ws.length ∧ ws.length ≤ 40 := ⟨g.ne, g.le⟩
    have evL : EvP (tVar 0) (L2.start N_are_words [v]) G (pLst K (ws.map (en K))) := ep_var rfl hv
    refine q_whenP e (et_or (et_not (et_B (ev_isT2 (c := true) (d := false) evL pty_lst (kit_ty (by decide +kernel)) (kit_ty (by decide +kernel))))) fun _ => et_not (et_test (ev_chain ev_c (ev_lenL evL) ev_c rv_I0 rv_I0))) (fun hb => ?_) fun hb H1 f1 => ?_
    · rw [List.length_map] at hb
      have h1 : decide ((1 : Int) ≤ (ws.length : Int)) = true := decide_eq_true (by omega)
      have h2 : decide ((ws.length : Int) ≤ 40) = true := decide_eq_true (by omega)
      rw [h1, h2] at hb
      cases hb
    · refine s_retP (Q := Q) f1.k (ep_v (ev_is (ev_andV (ev_allP (K := K) (bs := ws.map okS) ?_) fun _ => ev_allP (K := K) (bs := ws.map fun w => decide (V.int w.length = V.int (ws.headD "").length)) ?_) ?_)) fun v2 H2 G2 f2 h2 => q v2 H2 G2 (f1.trans f2) h2
      · rw [List.map_map]
        exact (en_lcN _ (ei_list (l := ws) (c := en K) (ep_var rfl hv)) (by omega) (fun _ => rfl) fun a x G2 ha e2 hx => ep_call (es_cons (ep_var rfl hx) es_nil) ⟨a, rfl, by have := hlw a ha; omega, rfl⟩).ep
      · rw [List.map_map]
        exact (en_lcN _ (ei_list (l := ws) (c := en K) (ep_var rfl hv)) (by omega) (fun _ => rfl) fun a x G2 ha e2 hx => ep_v (ev_op (ev_lenS (ev_at rfl hx) (by have := hlw a ha; omega)) (ev_lenS (ev_p (ep_ixL (ps := ws.map (en K)) (ep_var rfl ((en K ws).up e2 hv)) ev_c (head_at g))) (by omega)) (rv_eq rfl))).ep
      · congr 1
        rw [List.all_map, List.all_map, Bool.and_eq_true, List.all_eq_true, List.all_eq_true]
        exact ⟨fun w hw => g.ok w hw, fun w hw => by
          show decide _ = true
          rw [g.al w hw]
          exact decide_eq_true rfl⟩
theorem G_Addresses_init (T : TX K mg) : FnOk PP w K mg base CX0 3 T.f_Addresses_init T.d_Addresses_init ["self", "words"] (spI T.C_Addresses (A_ini K)) := by
  refine T.F_Addresses_init.ok sc_Addresses_init (fun vs H Q E h => ?_) (fun cdv A outer s H vs Q E hr h => ?_)
  · obtain ⟨G, x, dx, us, ps, fs, rfl, ⟨w, rfl, _⟩, _, _, _, ha, _⟩ := h
    obtain ⟨v, rfl, hv⟩ := ha.one
    rfl
  · obtain ⟨G, x, dx, us, ps, fs, rfl, ⟨ws, rfl, g, rfl⟩, e, hGx, hx, ha, q⟩ := h
    obtain ⟨v, rfl, hv⟩ := ha.one
    refine ⟨_,
    (pss_cons (ps_if (pt_not (pt_val (pe_call (G_are_words T) (hr.mono (by decide)) (by rfl) T.g_are_words T.F_are_words.kp T.b_are_words .nil pass0 (pa_cons (pv 1) pa_nil)))) (pss_one ps_never) pss_nil)
      (pss_one (ps_fld (pv 0) (pe_callTy (call_tupleK K) (by rfl) T.z_tuple (by decide +kernel) (pa_cons (pv 1) pa_nil)) rfl)))
    , ?_⟩
    refine q_whenP e (et_not (et_B (ev_p (ep_call (es_cons (ep_var rfl hv) es_nil) ⟨ws, rfl, g, rfl⟩)))) (fun hb => nomatch hb) fun hb H1 f1 => ?_
    refine (ep_tupleL (K := K) (ps := ws.map (en K)) (ep_var (i := 1) rfl hv)) H1 f1.k _ fun y H2 G2 f2 hy => ?_
    have g2 := f1.trans f2
    refine ⟨.ref x, rfl, x, T.C_Addresses, dx, [], rfl, g2.h _ _ hx, T.cl_Addresses, T.na_Addresses_kept, by decide, ?_⟩
    have hG2 : G2 x = none := g2.n x hGx (by rw [hx]; exact fun c => nomatch c)
    refine q [y] _ G2 g2.g (fun a o ha => ?_) (fun a o hne ha => ?_) g2.n upd_same ⟨hy, trivial⟩
    · have : a ≠ x := fun c => by
        subst c
        rw [hG2] at ha
        cases ha
      rw [upd_ne this]
      exact g2.k a o ha
    · rw [upd_ne hne]
      exact g2.h a o ha
theorem G_Addresses_words (T : TX K mg) : FnOk PP w K mg base CX0 1 T.f_Addresses_words T.d_Addresses_words ["self"] (spF (A_wds K T.C_Addresses)) := by
  refine T.F_Addresses_words.ok sc_Addresses_words (fun vs H Q E h => ?_) (fun cdv A outer s H vs Q E hr h => ?_)
  · obtain ⟨G, ps, p, ⟨w, rfl, _⟩, _, ha, _⟩ := h
    exact ha.len
  · obtain ⟨G, ps, p, ⟨ws, rfl, rfl⟩, e, ha, q⟩ := h
    obtain ⟨v, rfl, hv⟩ := ha.one
    refine ⟨_,
    (pss_one (ps_ret (pe_fldK K (pv 0) rfl)))
    , ?_⟩
    exact s_retP (Q := Q) e (ep_fld (ep_var rfl hv) T.cl_Addresses T.na_Addresses_kept rfl) q
theorem G_Addresses_length (T : TX K mg) : FnOk PP w K mg base CX0 1 T.f_Addresses_length T.d_Addresses_length ["self"] (spF (A_len K T.C_Addresses)) := by
  refine T.F_Addresses_length.ok sc_Addresses_length (fun vs H Q E h => ?_) (fun cdv A outer s H vs Q E hr h => ?_)
  · obtain ⟨G, ps, p, ⟨w, rfl, _⟩, _, ha, _⟩ := h
    exact ha.len
  · obtain ⟨G, ps, p, ⟨ws, rfl, g, rfl⟩, e, ha, q⟩ := h
    obtain ⟨v, rfl, hv⟩ := ha.one
    refine ⟨_,
    (pss_one (ps_ret (pe_callB call_len_str (by rfl) T.z_len (by decide +kernel) (pa_cons (pe_ix (ix_tupK K) (pe_fldK K (pv 0) rfl) pe_int (fun _ _ => rfl)) pa_nil))))
    , ?_⟩
    have hh : (ws.headD "").length ≤ 60 := by
      cases ws with
      | nil => exact absurd g.ne (by decide)
      | cons w r => exact okS_len (g.ok w (List.mem_cons_self ..))
    exact s_retP (Q := Q) e (ep_v (ev_lenS (ev_p (ep_ixT (K := K) (ps := ws.map (en K)) (ep_fld (ep_var rfl hv) T.cl_Addresses T.na_Addresses_kept rfl) ev_c (head_at g))) (by omega))) q
theorem G_Addresses_eq (T : TX K mg) : FnOk PP w K mg base CX0 1 T.f_Addresses_eq T.d_Addresses_eq ["self", "other"] (spF (A_eq K T.C_Addresses)) := by
  refine T.F_Addresses_eq.ok sc_Addresses_eq (fun vs H Q E h => ?_) (fun cdv A outer s H vs Q E hr h => ?_)
  · obtain ⟨G, ps, p, ⟨_, _, rfl, _⟩, _, ha, _⟩ := h
    exact ha.len
  · obtain ⟨G, ps, p, ⟨ws, us, rfl, g, g', rfl⟩, e, ha, q⟩ := h
    obtain ⟨v, u, rfl, hv, hu⟩ := ha.two
    refine ⟨_,
    (pss_one (ps_ret (pe_and (pe_callB (call_isZK K) (by rfl) T.z_isinstance (by decide +kernel) (pa_cons (pv 1) (pa_cons (pe_glob (v := .ref T.C_Addresses) rfl T.gC_Addresses rfl) pa_nil))) (pe_one (pe_cmpR (op_eqDK K hr.units) (pe_fldK K (pv 0) rfl) (pe_fldK K (pv 1) rfl) (nomark _))))))
    , ?_⟩
    refine s_retP (Q := Q) e (ep_v (ev_is (ev_andV (ev_isA (b := true) (ep_var rfl hu) ev_c (.own _) (pty_obj T.cl_Addresses T.it_Addresses) T.kk_Addresses) fun _ => ev_eqD (K := K) (α := Tu Str) (a := ⟨ws⟩) (b := ⟨us⟩) (ep_fld (ep_var rfl hv) T.cl_Addresses T.na_Addresses_kept rfl) (ep_fld (ep_var rfl hu) T.cl_Addresses T.na_Addresses_kept rfl) (fun w hw => okS_lay (g.ok w hw)) (fun w hw => okS_lay (g'.ok w hw))) ?_)) q
    show V.bl (true && decide _) = V.bl (decide _)
    rw [Bool.true_and]
    congr 1
    rw [decide_eq_decide, Tu.mk.injEq]
theorem G_Addresses_table (T : TX K mg) : FnOk PP w K mg base CX0 5 T.f_Addresses_table T.d_Addresses_table ["self"] (spN (A_tab K T.C_Addresses)) := by
  refine T.F_Addresses_table.ok sc_Addresses_table (fun vs H Q E h => ?_) (fun cdv A outer s H vs Q E hr h => ?_)
  · obtain ⟨G, ps, p, ⟨_, rfl, _⟩, _, ha, _⟩ := h
    exact ha.len
  · obtain ⟨G, ps, p, ⟨ws, rfl, g, rfl⟩, e, ha, q⟩ := h
    obtain ⟨v, rfl, hv⟩ := ha.one
    refine ⟨_,
    (pss_one (ps_ret (pe_lc (own := [("word", 2)]) rfl sc_Addresses_table.nd (pi_tupK K (pe_fldK K (pv 0) rfl)) (blkOk_by (N := N_Addresses_table) (sc := defScope s_Addresses_table) (by decide +kernel)) (fun _ _ _ _ _ => (pg_name (i := 2) sc_Addresses_table.nd rfl (.inr rfl))) (fun _ _ _ _ _ => pts_nil) (fun _ _ _ _ _ => (pe_callTy (call_tupleK K) (by rfl) T.z_tuple (by decide +kernel) (pa_cons (pe_lc (own := [("other", 1)]) rfl sc_Addresses_table.nd (pi_tupK K (pe_fldK K (pv 0) rfl)) (blkOk_by (by rfl)) (fun _ _ _ _ _ => (pg_name (i := 1) sc_Addresses_table.nd rfl (.inl rfl))) (fun _ _ _ _ _ => pts_nil) (fun _ _ _ _ _ => (pe_call (G_apart T) (hr.mono (by decide)) (by rfl) T.g_apart_words T.F_apart.kp T.b_apart .nil pass0 (pa_cons (pv 2) (pa_cons (pv 1) pa_nil))))) pa_nil))))))
    , ?_⟩
    have hl := g.le
    refine s_retN (Q := Q) e (en_lcN (fun w => en K (Tu.mk (ws.map fun o => apartN w o))) (ei_tup (l := ws) (c := en K) (ep_fld (ep_var rfl hv) T.cl_Addresses T.na_Addresses_kept rfl)) (by omega) (fun _ => rfl) fun a x G1 hm e1 hx => ?_) fun p xs H4 G4 f4 h1 h2 h3 h4 => ?_
    · refine (ep_tupleL (K := K) (en_lcN (fun o => pV (.int (apartN a o))) (ei_tup (l := ws) (c := en K) (ep_fld (ep_var rfl ((pAds K _ ws).up e1 hv)) T.cl_Addresses T.na_Addresses_kept rfl)) (by omega) (fun _ => rfl) fun b y G2 hm2 e2 hy => ?_).ep).is ?_
      · exact ep_call (es_cons (ep_var rfl ((en K a).up e2 hx)) (es_cons (ep_var rfl hy) es_nil)) ⟨a, b, rfl, g.ok a hm, g.ok b hm2, by rw [g.al a hm, g.al b hm2], rfl⟩
      · rw [en_tu, List.map_map]
        rfl
    · refine q p xs H4 G4 f4 h1 h2 h3 ?_
      unfold tabL
      rw [List.map_map]
      exact h4
theorem G_check_addresses (T : TX K mg) : FnOk PP w K mg base CX0 1 T.f_check_addresses T.d_check_addresses ["value"] (spF (A_cha K T.C_Addresses)) := by
  refine T.F_check_addresses.ok sc_check_addresses (fun vs H Q E h => ?_) (fun cdv A outer s H vs Q E hr h => ?_)
  · obtain ⟨G, ps, p, ⟨w, rfl, _⟩, _, ha, _⟩ := h
    exact ha.len
  · obtain ⟨G, ps, p, ⟨ws, rfl, rfl⟩, e, ha, q⟩ := h
    obtain ⟨v, rfl, hv⟩ := ha.one
    refine ⟨_,
    (pss_one (ps_if (pt_not (pt_val (pe_callB (call_isZK K) (by rfl) T.z_isinstance (by decide +kernel) (pa_cons (pv 0) (pa_cons (pe_glob (v := .ref T.C_Addresses) rfl T.gC_Addresses rfl) pa_nil))))) (pss_one ps_never) pss_nil))
    , ?_⟩
    exact s_whenP e (et_not (et_B (ev_isA (b := true) (ep_var rfl hv) ev_c (.own _) (pty_obj T.cl_Addresses T.it_Addresses) T.kk_Addresses))) (fun hb => nomatch hb) (fun hb H1 f1 => q .non H1 G f1 rfl)
end
end K31

namespace K31
open PySem PySem.Spec PyProof.Rows L2 OP Evl
theorem getD_at {l : List Nat} {k : Nat} (h : k < l.length) : l.getD k 0 = l[k] := by simp [List.getD, List.getElem?_eq_getElem h]
def sgn (k : Nat) (w : Str) : Str := ⟨#[w.cps.toList.getD k 0]⟩
def needP (ws : List Str) (k : Nat) : Bool := !decide (("0" : Str) ∈ ws.map (sgn k)) || !decide (("1" : Str) ∈ ws.map (sgn k))
def lenW (ws : List Str) : Nat := (ws.headD "").length
def needL (ws : List Str) : List Nat := (List.range (lenW ws)).filter (needP ws)
def keptL (ws : List Str) : List Nat := (List.range (lenW ws)).filter fun k => !decide (k ∈ needL ws)
def pick (ks : List Nat) (w : Str) : Str := ⟨(ks.map fun k => w.cps.toList.getD k 0).toArray⟩
def trimL (ws : List Str) : List Str := ws.map (pick (keptL ws))
theorem at_sgn {w : Str} {k : Nat} (h : k < w.length) : atI w.cps.toList (k : Nat) = some (w.cps.toList.getD k 0) := by
  have h' : k < w.cps.toList.length := by rw [Array.length_toList]; exact h
  refine atI_nat ?_
  rw [List.getElem?_eq_getElem h', getD_at h']
theorem lenW_le {ws : List Str} (g : Gd ws) : lenW ws ≤ 60 := by
  unfold lenW
  cases ws with
  | nil => exact absurd g.ne (by decide)
  | cons w r => exact okS_len (g.ok w (List.mem_cons_self ..))
theorem pick_ok {ks : List Nat} {w : Str} (h : okS w = true) (hk : ∀ k ∈ ks, k < w.length) (hl : ks.length ≤ 60) : okS (pick ks w) = true := by
  unfold okS
  rw [Bool.and_eq_true]
  refine ⟨decide_eq_true ?_, ?_⟩
  · show (List.toArray _).size ≤ 60
    rw [List.size_toArray, List.length_map]
    exact hl
  · rw [List.all_eq_true]
    intro c hc
    obtain ⟨k, hk1, rfl⟩ := List.mem_map.mp (show c ∈ ks.map fun k => w.cps.toList.getD k 0 from hc)
    have h' : k < w.cps.toList.length := by rw [Array.length_toList]; exact hk k hk1
    rw [getD_at h']
    exact okS_all h _ (List.getElem_mem _)
theorem kept_lt {ws : List Str} : ∀ k ∈ keptL ws, k < lenW ws := fun k hk => by
  have := (List.mem_filter.mp hk).1
  exact List.mem_range.mp this
theorem kept_len {ws : List Str} : (keptL ws).length ≤ lenW ws := by
  have := List.length_filter_le (fun k => !decide (k ∈ needL ws)) (List.range (lenW ws))
  rw [List.length_range] at this
  exact this
theorem pick_len (ks : List Nat) (w : Str) : (pick ks w).length = ks.length := by
  show (List.toArray _).size = _
  rw [List.size_toArray, List.length_map]
theorem lenW_trim {ws : List Str} (g : Gd ws) : lenW (trimL ws) = (keptL ws).length := by
  have h := g.ne
  unfold lenW trimL
  cases ws with
  | nil => exact absurd h (by decide)
  | cons w r => exact pick_len _ _
theorem trim_good {ws : List Str} (g : Gd ws) : Gd (trimL ws) := by
  refine ⟨by unfold trimL; rw [List.length_map]; exact g.ne, by unfold trimL; rw [List.length_map]; exact g.le, fun w hw => ?_, fun w hw => ?_⟩
  · obtain ⟨u, hu, rfl⟩ := List.mem_map.mp hw
    have hl := lenW_le g
    have h2 := kept_len (ws := ws)
    exact pick_ok (g.ok u hu) (fun k hk => by rw [g.al u hu]; exact kept_lt k hk) (by omega)
  · obtain ⟨u, hu, rfl⟩ := List.mem_map.mp hw
    rw [pick_len]
    exact (lenW_trim g).symm
def A_need (K : PySem.W.Frag) (C : Addr) : List Pr → List Pr → Prop := fun ps qs => ∃ ws : List Str, ps = [pAds K C ws] ∧ Gd ws ∧ qs = (needL ws).map (en K)
def A_trim (K : PySem.W.Frag) (C : Addr) : List Pr → Pr → Prop := fun ps p => ∃ ws : List Str, ps = [pAds K C ws] ∧ Gd ws ∧ p = pAds K C (trimL ws)
section
variable {w : World} {K : PySem.W.Frag} {mg : Str → Option Value} {base : Heap}
theorem G_needless (T : TX K mg) : FnOk PP w K mg base CX0 3 T.f_needless T.d_needless ["addresses"] (spN (A_need K T.C_Addresses)) := by
  refine T.F_needless.ok sc_needless (fun vs H Q E h => ?_) (fun cdv A outer s H vs Q E hr h => ?_)
  · obtain ⟨G, ps, p, ⟨_, rfl, _⟩, _, ha, _⟩ := h
    exact ha.len
  · obtain ⟨G, ps, p, ⟨ws, rfl, g, rfl⟩, e, ha, q⟩ := h
    obtain ⟨v, rfl, hv⟩ := ha.one
    refine ⟨_,
    (pss_cons (ps_expr (pe_call (G_check_addresses T) (hr.mono (by decide)) (by rfl) T.g_check_addresses T.F_check_addresses.kp T.b_check_addresses .nil pass0 (pa_cons (pv 0) pa_nil)))
      (pss_cons (ps_set (i := 1) sc_needless.nd rfl (.inl rfl) (pe_lst pa_nil))
      (pss_cons (ps_for PassesOwn.never rfl (pi_range1 (by rfl) T.z_range (pa_cons (pe_prop (pv 0) T.cl_Addresses T.p_Addresses_length (G_Addresses_length T) (hr.mono (by decide)) T.b_Addresses_length .nil pass0 rfl) pa_nil)) (pg_name (i := 2) sc_needless.nd rfl (.inr rfl))
        (pss_cons (ps_setLc (i := 3) (own := [("word", 4)]) rfl sc_needless.nd rfl rfl (sw_true rfl rfl rfl (by decide +kernel)) (pi_tupK K (pe_prop (pv 0) T.cl_Addresses T.p_Addresses_words (G_Addresses_words T) (hr.mono (by decide)) T.b_Addresses_words .nil pass0 rfl)) (blkOk_by (N := N_needless) (sc := defScope s_needless) (by decide +kernel)) (fun _ _ _ _ _ => (pg_name (i := 4) sc_needless.nd rfl (.inl rfl))) (fun _ _ _ _ _ => pts_nil) (fun _ _ _ _ _ => (pe_ix ix_str (pv 4) (pv 2) (fun _ _ => rfl))))
      (pss_one (ps_if (PW.pt (pw_or (pt_cmpR (op_notIn_seqK K) pe_str (pv 3) (by rfl)) (pw_or1 (pt_cmpR (op_notIn_seqK K) pe_str (pv 3) (by rfl))))) (pss_one (ps_expr (pe_bmK K PySem.F.plainAttrs_list PySem.F.slot_list_append PySem.F.type_list_append mt_append (pv 1) (pa_cons (pv 2) pa_nil)))) pss_nil))))
      (pss_one (ps_ret (pv 1))))))
    , ?_⟩
    have hn := lenW_le g
    have hle := g.le
    refine q_dropP e (ep_call (es_cons (ep_var rfl hv) es_nil) ⟨ws, rfl, rfl⟩) fun _ H1 G1 f1 _ => ?_
    refine q_asgN f1.k (en_lst es_nil (by decide)) fun p xs H2 G2 f2 h1 h2 h3 h4 => ?_
    have c2 : Cq G H p [] G2 H2 := Cq.of (f1.trans f2) (fresh_back f1.h h1) h2 h3 h4
    refine q_forP c2.k (ei_range (n := lenW ws) (ea_cons (ev_p (ep_prop (ep_var rfl ((pAds K _ ws).up c2.f.g hv)) ⟨ws, rfl, g, rfl⟩)) ea_nil) (by omega)) (fun a σ' => tg_name)
      (fun i σ' G' H' => (∃ x2 x3 x4, σ' = [some v, some (.ref p), x2, x3, x4]) ∧ Cq G H p (((List.range i).filter (needP ws)).map (en K)) G' H')
      (fun H3 G3 f3 => ⟨⟨_, _, _, rfl⟩, c2.go f3⟩) (fun i σ' Ga Ha Gc Hc hp _ f => ⟨hp.1, hp.2.go f⟩) (fun i a σ' Gb G3 H3 σ2 hla eb1 eb2 e3 hp hF => ?_) (fun σ' G3 H3 _ e3 hp => ?_)
    · obtain ⟨⟨x2, x3, x4, rfl⟩, c3⟩ := hp
      obtain ⟨x, hx, rfl⟩ := hF
      have hi : i < lenW ws := by
        have := (List.getElem?_eq_some_iff.mp hla).1
        rwa [List.length_range] at this
      rw [range_at hi] at hla
      cases hla
      have hx' : x = .int (i : Nat) := hx
      subst hx'
      have hv3 := (pAds K _ ws).up c3.f.g hv
      refine q_asgP c3.k (p := pLst K ((ws.map (sgn i)).map fun s => pV (.str s))) ?_ fun y H4 G4 f4 hy => ?_
      · rw [List.map_map]
        exact (en_lcN _ (ei_tup (l := ws) (c := en K) (ep_prop (ep_var rfl hv3) ⟨ws, rfl, rfl⟩)) (by omega) (fun _ => rfl) fun a x G5 hm e5 hx => ep_v (ev_ixS (ev_at rfl hx) (ev_var rfl) (by have := okS_len (g.ok a hm); omega) (at_sgn (by rw [g.al a hm]; exact hi)))).ep
      have c4 := c3.go f4
      have hz : (((List.range i).filter (needP ws)).map (en K)).length < 100000 := by
        rw [List.length_map]
        have := List.length_filter_le (needP ws) (List.range i)
        rw [List.length_range] at this
        omega
      refine s_whenP c4.k (et_or (et_test (ev_inSs (K := K) (neg := true) ev_c (ep_var rfl hy))) fun _ => et_test (ev_inSs (K := K) (neg := true) ev_c (ep_var rfl hy))) (fun hb H5 f5 => ?_) fun hb H5 f5 => ?_
      · refine s_addP (c4.go f5) rfl (ep_v (ev_var rfl)) hz fun H6 G6 c6 e6 => ?_
        refine ⟨G6, eb2.trans (f4.g.trans e6), c6.k, ⟨_, _, _, rfl⟩, ?_⟩
        rw [List.range_succ, List.filter_append, List.map_append]
        have hb' : needP ws i = true := hb
        rw [show [i].filter (needP ws) = [i] from by simp [hb']]
        exact c6
      · refine ⟨G4, eb2.trans f4.g, f5.k, ⟨_, _, _, rfl⟩, ?_⟩
        rw [List.range_succ, List.filter_append, List.map_append]
        have hb' : needP ws i = false := hb
        rw [show [i].filter (needP ws) = [] from by simp [hb'], List.map_nil, List.append_nil]
        exact c4.go f5
    · obtain ⟨⟨x2, x3, x4, rfl⟩, c3⟩ := hp
      rw [List.length_range] at c3
      obtain ⟨ys, y1, y2⟩ := c3.at_
      exact ⟨.ref p, rfl, q p ys H3 G3 c3.f c3.new c3.out y1 y2⟩
theorem G_trimmed (T : TX K mg) : FnOk PP w K mg base CX0 5 T.f_trimmed T.d_trimmed ["addresses"] (spF (A_trim K T.C_Addresses)) := by
  refine T.F_trimmed.ok sc_trimmed (fun vs H Q E h => ?_) (fun cdv A outer s H vs Q E hr h => ?_)
  · obtain ⟨G, ps, p, ⟨_, rfl, _⟩, _, ha, _⟩ := h
    exact ha.len
  · obtain ⟨G, ps, p, ⟨ws, rfl, g, rfl⟩, e, ha, q⟩ := h
    obtain ⟨v, rfl, hv⟩ := ha.one
    refine ⟨_,
    (pss_cons (ps_set (i := 1) sc_trimmed.nd rfl (.inr rfl) (pe_call (G_needless T) (hr.mono (by decide)) (by rfl) T.g_needless T.F_needless.kp T.b_needless .nil pass0 (pa_cons (pv 0) pa_nil)))
      (pss_cons (ps_set (i := 2) sc_trimmed.nd rfl (.inr rfl) (pe_lc (own := [("place", 3)]) rfl sc_trimmed.nd (pi_range1 (by rfl) T.z_range (pa_cons (pe_prop (pv 0) T.cl_Addresses T.p_Addresses_length (G_Addresses_length T) (hr.mono (by decide)) T.b_Addresses_length .nil pass0 rfl) pa_nil)) (blkOk_by (N := N_trimmed) (sc := defScope s_trimmed) (by decide +kernel)) (fun _ _ _ _ _ => (pg_name (i := 3) sc_trimmed.nd rfl (.inl rfl))) (fun _ _ _ _ _ => (pts_one (pt_cmpR (op_notIn_seqK K) (pv 3) (pv 1) (by rfl)))) (fun _ _ _ _ _ => (pv 3))))
      (pss_one (ps_ret (pe_make T.mk_Addresses (G_Addresses_init T) (hr.mono (by decide)) (by rfl) T.gC_Addresses T.b_Addresses_init .nil pass0 (pa_cons (pe_lc (own := [("word", 4)]) rfl sc_trimmed.nd (pi_tupK K (pe_prop (pv 0) T.cl_Addresses T.p_Addresses_words (G_Addresses_words T) (hr.mono (by decide)) T.b_Addresses_words .nil pass0 rfl)) (blkOk_by (N := N_trimmed) (sc := defScope s_trimmed) (by decide +kernel)) (fun _ _ _ _ _ => (pg_name (i := 4) sc_trimmed.nd rfl (.inr rfl))) (fun _ _ _ _ _ => pts_nil) (fun _ _ _ _ _ => (pe_bmK K PySem.F.plainAttrs_str PySem.F.slot_str_join PySem.F.type_str_join (mt_joinK K) pe_str (pa_cons (pe_lc (own := [("place", 3)]) rfl sc_trimmed.nd (pi_listK K (pv 2)) (blkOk_by (by rfl)) (fun _ _ _ _ _ => (pg_name (i := 3) sc_trimmed.nd rfl (.inl rfl))) (fun _ _ _ _ _ => pts_nil) (fun _ _ _ _ _ => (pe_ix ix_str (pv 4) (pv 3) (fun _ _ => rfl)))) pa_nil)))) pa_nil))))))
    , ?_⟩
    have hn := lenW_le g
    have hle := g.le
    have hk := kept_len (ws := ws)
    refine q_asgP (p := pLst K ((needL ws).map (en K))) e (en_call (es_cons (ep_var rfl hv) es_nil) ⟨ws, rfl, g, rfl⟩).ep fun y H1 G1 f1 hy => ?_
    have hv1 := (pAds K _ ws).up f1.g hv
    refine q_asgP (p := pLst K ((keptL ws).map (en K))) f1.k (en_lcF (fun k => !decide (k ∈ needL ws)) (en K) (ei_range (n := lenW ws) (ea_cons (ev_p (ep_prop (ep_var rfl hv1) ⟨ws, rfl, g, rfl⟩)) ea_nil) (by omega)) (by rw [List.length_range]; omega) (fun _ => rfl)
      (fun k x G2 hm e2 hx => et_test (ev_is (ev_inIs (K := K) (ss := (needL ws).map fun k : Nat => (k : Int)) (neg := true) (ev_at rfl hx) ?_) ?_)) (fun k x G2 hm _ e2 hx => ep_var rfl hx)).ep fun z H2 G2 f2 hz => ?_
    · rw [List.map_map]
      exact ep_var rfl ((pLst K _).up e2 hy)
    · show V.bl (!decide _) = V.bl (!decide _)
      congr 2
      refine decide_eq_decide.mpr ⟨fun h => ?_, fun h => List.mem_map.mpr ⟨k, h, rfl⟩⟩
      obtain ⟨m, h1, h2⟩ := List.mem_map.mp h
      have : m = k := by omega
      rw [← this]
      exact h1
    have g2 := f1.trans f2
    have hv2 := (pAds K _ ws).up g2.g hv
    refine s_retP (Q := Q) g2.k (ep_make (C := T.C_Addresses) (A := A_ini K) (fs := [(("kept" : Str), en K (Tu.mk (trimL ws)))]) (es_cons (p := en K (trimL ws)) ?_ es_nil) ⟨trimL ws, rfl, trim_good g, rfl⟩) fun v2 H3 G3 f3 h3 => q v2 H3 G3 (g2.trans f3) h3
    refine EvP.is (p := pLst K (ws.map fun w => pV (.str (pick (keptL ws) w)))) (EvN.ep (en_lcN _ (ei_tup (l := ws) (c := en K) (ep_prop (ep_var rfl hv2) ⟨ws, rfl, rfl⟩)) (by omega) (fun _ => rfl) fun a x G3 hm e3 hx => ep_v (ev_is (ev_joinL (K := K) (ss := (keptL ws).map fun k => sgn k a) ev_c ?_ ?_) ?_))) ?_
    · rw [List.map_map]
      exact (en_lcN _ (ei_list (l := keptL ws) (c := en K) (ep_var rfl ((pLst K _).up e3 hz))) (by omega) (fun _ => rfl) fun k y G4 hm4 e4 hy => ep_v (ev_ixS (ev_at rfl ((en K a).up e4 hx)) (ev_at rfl hy) (by have := okS_len (g.ok a hm); omega) (at_sgn (by rw [g.al a hm]; exact kept_lt k hm4)))).ep
    · have e1 : (keptL ws).map (fun k => sgn k a) = ((keptL ws).map fun k => a.cps.toList.getD k 0).map fun c => ⟨#[c]⟩ := by rw [List.map_map]; rfl
      rw [e1, signs_sum, List.length_map, List.length_map, List.length_map]
      show _ + _ * 0 ≤ _
      omega
    · have e1 : (keptL ws).map (fun k => sgn k a) = ((keptL ws).map fun k => a.cps.toList.getD k 0).map fun c => ⟨#[c]⟩ := by rw [List.map_map]; rfl
      rw [e1, join_signs]
      rfl
    · rw [en_list]
      unfold trimL
      rw [List.map_map]
      rfl
end
end K31

namespace K31
open PySem PySem.Spec PyProof.Rows L2 OP
section
variable {w : World} {K : PySem.W.Frag} {mg : Str → Option Value} {base : Heap}
theorem G_law_cell_at (T : TX K mg) : FnOk PP w K mg base CX0 1 T.f_law_cell_at T.d_law_cell_at ["_law_script", "_law_k"] (spCell K) := by
  refine T.F_law_cell_at.ok sc_law_cell_at (fun vs H Q E h => ?_) (fun cdv A outer s H vs Q E hr h => ?_)
  · obtain ⟨a, ns, k, rfl, _⟩ := h
    rfl
  · obtain ⟨a, ns, k, rfl, hS, hk, q⟩ := h
    refine ⟨_,
    (pss_cons (ps_if (pt_cmpR op_lt (pv 1) (pe_callB (call_lenK K) (by rfl) T.z_len (by decide +kernel) (pa_cons (pv 0) pa_nil)) (nomark _)) (pss_one (ps_ret (pe_ix (ix_listK K) (pv 0) (pv 1) (fun _ _ => rfl)))) pss_nil)
      (pss_one (ps_ret (pe_op op_add (pe_op op_mul pe_int (pv 1)) pe_int))))
    , ?_⟩
    refine ⟨.int k, rfl, .ref a, rfl, a, _, rfl, .inl hS, _, _, rfl, rfl, _, rfl, ite2 (fun e => ?_) (fun e => ?_)⟩
    · have e1 := of_decide_eq_true e
      rw [List.length_map] at e1
      have h1 : k < ns.length := by omega
      refine ⟨.ref a, rfl, .int k, rfl, a, _, k, .int ns[k], rfl, rfl, hS, atI_nat ?_, q _⟩
      rw [List.getElem?_map, List.getElem?_eq_getElem h1]
      rfl
    · exact ⟨.int k, rfl, _, _, rfl, rfl, .inl ⟨by decide, by decide⟩, _, _, rfl, rfl, q _⟩
theorem G_law_box (T : TX K mg) : FnOk PP w K mg base CX0 1 T.f_law_box T.d_law_box ["_law_cell"] spBox := by
  refine T.F_law_box.ok sc_law_box (fun vs H Q E h => ?_) (fun cdv A outer s H vs Q E hr h => ?_)
  · obtain ⟨i, rfl, _⟩ := h
    rfl
  · obtain ⟨i, rfl, q⟩ := h
    refine ⟨_,
    (pss_one (ps_ret (pe_lst (pa_cons (pe_callB (call_max2 rfl) (by rfl) T.z_max (by decide +kernel) (pa_cons pe_int (pa_cons (pe_op op_sub (pv 0) (pe_op op_pow pe_int pe_int)) pa_nil))) (pa_cons (pe_op op_modN (pe_callTy call_int1 (by rfl) T.z_int (by decide +kernel) (pa_cons (pv 0) pa_nil)) pe_int) (pa_cons pe_int pa_nil))))))
    , ?_⟩
    refine ⟨.int i, rfl, _, _, rfl, rfl, ⟨by decide, by decide, by decide⟩, _, _, rfl, rfl, _, _, rfl, .int i, rfl, .inl ⟨_, rfl, _, _, rfl, rfl, (by dsimp only; decide), (by show 3 ≤ sizeLine; decide), fun p hp => q p _ hp ⟨_, _, _, rfl, ?_, (fmod_nn (by decide)).1, Int.lt_trans (fmod_nn (by decide)).2 (by decide), by decide, by decide⟩⟩⟩
    split <;> omega
theorem G_law_take (T : TX K mg) : FnOk PP w K mg base CX0 1 T.f_law_take T.d_law_take ["_law_box_here", "_law_many"] spTake := by
  refine T.F_law_take.ok sc_law_take (fun vs H Q E h => ?_) (fun cdv A outer s H vs Q E hr h => ?_)
  · obtain ⟨b, m, n, rfl, _⟩ := h
    rfl
  · obtain ⟨b, m, n, rfl, ⟨o, hb, x, y, c, rfl, hx, hy, hy2, hc, hcn⟩, hn, hm, hm2, q⟩ := h
    refine ⟨_,
    (pss_cons (ps_if (pt_cmpR op_gt (pe_ix (ix_listK K) (pv 0) pe_int (fun _ _ => rfl)) pe_int (nomark _)) (pss_cons (ps_set (i := 2) sc_law_take.nd rfl (.inl rfl) (pe_op op_modN (pe_callTy call_int1 (by rfl) T.z_int (by decide +kernel) (pa_cons (pe_ix (ix_listK K) (pv 0) pe_int (fun _ _ => rfl)) pa_nil)) (pv 1)))
      (pss_cons (ps_asg (pe_op op_fdivN (pe_ix (ix_listK K) (pv 0) pe_int (fun _ _ => rfl)) (pv 1)) (pg_sub (pv 0) pe_int set_list))
      (pss_one (ps_ret (pv 2))))) pss_nil)
      (pss_cons (ps_asg (pe_op op_add (pe_ix (ix_listK K) (pv 0) pe_int (fun _ _ => rfl)) pe_int) (pg_sub (pv 0) pe_int set_list))
      (pss_cons (ps_set (i := 3) sc_law_take.nd rfl (.inl rfl) (pe_op op_modN (pe_op op_pow (pe_callTy call_int1 (by rfl) T.z_int (by decide +kernel) (pa_cons (pe_op op_add (pe_op op_add (pe_ix (ix_listK K) (pv 0) pe_int (fun _ _ => rfl)) (pe_op op_mul pe_int (pe_ix (ix_listK K) (pv 0) pe_int (fun _ _ => rfl)))) pe_int) pa_nil)) pe_int) pe_int))
      (pss_cons (ps_set (i := 3) sc_law_take.nd rfl (.inl rfl) (pe_op op_modN (pe_op op_pow (pe_callTy call_int1 (by rfl) T.z_int (by decide +kernel) (pa_cons (pe_op op_add (pv 3) (pe_op op_mul pe_int (pe_ix (ix_listK K) (pv 0) pe_int (fun _ _ => rfl)))) pa_nil)) pe_int) pe_int))
      (pss_one (ps_ret (pe_op op_modN (pe_callTy call_int1 (by rfl) T.z_int (by decide +kernel) (pa_cons (pe_op op_fdivN (pv 3) pe_int) pa_nil)) (pv 1))))))))
    , ?_⟩
    have g0 : atI [V.int x, V.int y, V.int c] 0 = some (.int x) := rfl
    refine ⟨.ref b, rfl, b, _, 0, .int x, rfl, rfl, SqL.of hb, rfl, _, _, rfl, rfl, _, rfl, ite2 (fun e => ?_) (fun e => ?_)⟩
    · have e1 := of_decide_eq_true e
      refine ⟨.ref b, rfl, b, _, 0, .int x, rfl, rfl, SqL.of hb, rfl, .inl ⟨_, rfl, .int m, rfl, _, _, rfl, rfl, by omega, ?_⟩⟩
      refine ⟨.ref b, rfl, b, _, 0, .int x, rfl, rfl, SqL.of hb, rfl, .int m, rfl, _, _, rfl, rfl, ⟨by omega, by omega⟩, ?_⟩
      refine ⟨.ref b, rfl, b, _, 0, 0, rfl, rfl, hb, rfl, .int (x.fmod m), rfl, ?_⟩
      exact q _ _ (fmod_nn hm).1 (fmod_nn hm).2 ⟨_, _, _, rfl, fdiv_nn hx hm, hy, hy2, hc, by omega⟩
    · refine ⟨.ref b, rfl, b, _, 2, .int c, rfl, rfl, SqL.of hb, rfl, _, _, rfl, rfl, ?_⟩
      refine ⟨.ref b, rfl, b, _, 2, 2, rfl, rfl, hb, rfl, ?_⟩
      have hb2 : upd H b (.lst [V.int x, V.int y, V.int (c + 1)]) b = some (.lst [V.int x, V.int y, V.int (c + 1)]) := upd_same
      refine ⟨.ref b, rfl, b, _, 1, .int y, rfl, rfl, SqL.of hb2, rfl, .ref b, rfl, b, _, 2, .int (c + 1), rfl, rfl, SqL.of hb2, rfl, _, _, rfl, rfl, .inl ⟨by decide, by decide⟩, _, _, rfl, rfl, _, _, rfl, rfl, .inl ⟨_, rfl, _, _, rfl, rfl, ⟨by decide, by decide, by omega⟩, _, _, rfl, rfl, (by dsimp only; decide), ?_⟩⟩
      have f1 := fmod_nn (a := (y + 7727 * (c + 1) + 173) ^ (5 : Int).toNat) (b := 2147483647) (by decide)
      refine ⟨_, rfl, .ref b, rfl, b, _, 2, .int (c + 1), rfl, rfl, SqL.of hb2, rfl, _, _, rfl, rfl, .inl ⟨by decide, by decide⟩, _, _, rfl, rfl, .inl ⟨_, rfl, _, _, rfl, rfl, ⟨by decide, by decide, by omega⟩, _, _, rfl, rfl, (by dsimp only; decide), ?_⟩⟩
      refine ⟨_, rfl, _, _, rfl, rfl, ⟨by decide, by decide⟩, .inl ⟨_, rfl, .int m, rfl, _, _, rfl, rfl, by omega, ?_⟩⟩
      exact q _ _ (fmod_nn hm).1 (fmod_nn hm).2 ⟨_, _, _, rfl, hx, hy, hy2, by omega, by omega⟩
end
end K31

namespace K31
open PySem PySem.Spec PyProof.Rows L2 OP Evl
def l01 : List (List Str) := [["0", "1"], ["1", "0"]]
def lapP (a b : Str) (k : Nat) : Bool := decide ([sgn k a, sgn k b] ∈ l01)
def lap (a b : Str) : Nat := ((List.range a.length).filter (lapP a b)).length
def A_lap : List Pr → Pr → Prop := fun ps p => ∃ a b : Str, ps = [pV (.str a), pV (.str b)] ∧ okS a = true ∧ okS b = true ∧ a.length = b.length ∧ p = pV (.int (lap a b))
theorem sgn_ok {k : Nat} {w : Str} (h : okS w = true) (hk : k < w.length) : okc (w.cps.toList.getD k 0) = true := by
  have h' : k < w.cps.toList.length := by rw [Array.length_toList]; exact hk
  rw [getD_at h']
  exact okS_all h _ (List.getElem_mem _)
theorem l01_lay {K : PySem.W.Frag} : ∀ x ∈ l01, (inferInstance : Enc K (List Str)).lay x := fun x hx s hs => by
  have : ∀ x ∈ l01, ∀ s ∈ x, PyData.strOk s = true := by decide +kernel
  exact this x hx s hs
/-- the words that are drawn -/
structure Wd (ws : List Str) : Prop where
  gd : Gd ws
  le : ws.length ≤ 9
  sz : lenW ws ≤ 12
def A_wd (K : PySem.W.Frag) : List Pr → Pr → Prop := fun ps p => ps = [] ∧ ∃ ws : List Str, Wd ws ∧ p = en K ws
section
variable {w : World} {K : PySem.W.Frag} {mg : Str → Option Value} {base : Heap}
theorem G_law_apart (T : TX K mg) : FnOk PP w K mg base CX0 1 T.f_law_apart T.d_law_apart ["_law_one", "_law_other"] (spF A_lap) := by
  refine T.F_law_apart.ok sc_law_apart (fun vs H Q E h => ?_) (fun cdv A outer s H vs Q E hr h => ?_)
  · obtain ⟨G, ps, p, ⟨_, _, rfl, _⟩, _, ha, _⟩ := h
    exact ha.len
  · obtain ⟨G, ps, p, ⟨a, b, rfl, ha1, hb1, hl, rfl⟩, e, ha, q⟩ := h
    obtain ⟨v, u, rfl, hv, hu⟩ := ha.two
    refine ⟨_,
    (pss_one (ps_ret (pe_callB (call_lenK K) (by rfl) T.z_len (by decide +kernel) (pa_cons (pe_lc (own := [("_law_k", 2)]) rfl sc_law_apart.nd (pi_range1 (by rfl) T.z_range (pa_cons (pe_callB call_len_str (by rfl) T.z_len (by decide +kernel) (pa_cons (pv 0) pa_nil)) pa_nil)) (blkOk_by (N := N_law_apart) (sc := defScope s_law_apart) (by decide +kernel)) (fun _ _ _ _ _ => (pg_name (i := 2) sc_law_apart.nd rfl (.inl rfl))) (fun _ _ _ _ _ => (pts_one (pt_cmpR (op_inDK hr.units1) (pe_lst (pa_cons (pe_ix ix_str (pv 0) (pv 2) (fun _ _ => rfl)) (pa_cons (pe_ix ix_str (pv 1) (pv 2) (fun _ _ => rfl)) pa_nil))) (pe_lst (pa_cons (pe_lst (pa_cons pe_str (pa_cons pe_str pa_nil))) (pa_cons (pe_lst (pa_cons pe_str (pa_cons pe_str pa_nil))) pa_nil))) (by rfl)))) (fun _ _ _ _ _ => (pv 2))) pa_nil))))
    , ?_⟩
    have la := okS_len ha1
    have lb := okS_len hb1
    refine s_retP (Q := Q) e (ep_v (ev_is (ev_lenL (K := K) (en_lcF (lapP a b) (fun k => en K k) (ei_range (n := a.length) (ea_cons (ev_lenS (ev_at rfl hv) (by omega)) ea_nil) (by omega)) (by rw [List.length_range]; omega) (fun _ => rfl) (fun k x G1 hm e1 hx => ?_) (fun k x G1 hm _ e1 hx => ep_var rfl hx)).ep) ?_)) q
    · have hk : k < a.length := List.mem_range.mp hm
      refine et_test (ev_is (ev_inD (K := K) (α := List Str) (a := [sgn k a, sgn k b]) (l := l01) (ep_lst (K := K) (es_cons (ep_v (ev_ixS (ev_at rfl hv) (ev_at rfl hx) (by omega) (at_sgn hk))) (es_cons (ep_v (ev_ixS (ev_at rfl hu) (ev_at rfl hx) (by omega) (at_sgn (by omega)))) es_nil)) (by show 2 ≤ 100000; decide))
        (ep_lst (K := K) (es_cons (ep_lst (K := K) (es_cons (ep_v ev_c) (es_cons (ep_v ev_c) es_nil)) (by show 2 ≤ 100000; decide)) (es_cons (ep_lst (K := K) (es_cons (ep_v ev_c) (es_cons (ep_v ev_c) es_nil)) (by show 2 ≤ 100000; decide)) es_nil)) (by show 2 ≤ 100000; decide)) (fun s hs => ?_) l01_lay) (congrArg V.bl (decide_eq_decide.mpr Iff.rfl)))
      rcases List.mem_cons.mp hs with rfl | hs
      · exact sgn_lay (sgn_ok ha1 hk)
      · rw [List.mem_singleton.mp hs]
        exact sgn_lay (sgn_ok hb1 (by omega))
    · rw [List.length_map]
      rfl
theorem G_law_words (T : TX K mg) : FnOk PP w K mg base CX0 2 T.f_law_words T.d_law_words ["_law_box_here"] (spB 200 (A_wd K)) := by
  refine T.F_law_words.ok sc_law_words (fun vs H Q E h => ?_) (fun cdv A outer s H vs Q E hr h => ?_)
  · obtain ⟨b, G, k, us, ps, rfl, _, ha, ⟨_, rfl, _⟩, _⟩ := h
    rw [Al.nil ha]
    rfl
  · obtain ⟨b, G, k, us, ps, rfl, w0, ha, ⟨_, rfl, _⟩, q⟩ := h
    obtain rfl := Al.nil ha
    refine ⟨_,
    (pss_cons (ps_par (i := 1) (j := 2) (by rfl) sc_law_words.nd rfl rfl (by decide) rfl rfl (pa_cons (pe_op op_add pe_int (pe_call (G_law_take T) (hr.mono (by decide)) (by rfl) T.g_law_take T.F_law_take.kp T.b_law_take .nil pass0 (pa_cons (pv 0) (pa_cons pe_int pa_nil)))) (pa_cons (pe_call (G_law_take T) (hr.mono (by decide)) (by rfl) T.g_law_take T.F_law_take.kp T.b_law_take .nil pass0 (pa_cons (pv 0) (pa_cons pe_int pa_nil))) pa_nil)) (by rfl))
      (pss_cons (ps_setLc (i := 3) (own := [("_law_k", 4)]) rfl sc_law_words.nd rfl rfl (sw_true rfl rfl rfl (by decide +kernel)) (pi_range1 (by rfl) T.z_range (pa_cons (pv 1) pa_nil)) (blkOk_by (N := N_law_words) (sc := defScope s_law_words) (by decide +kernel)) (fun _ _ _ _ _ => (pg_name (i := 4) sc_law_words.nd rfl (.inl rfl))) (fun _ _ _ _ _ => pts_nil) (fun _ _ _ _ _ => pe_str))
      (pss_cons (ps_for PassesOwn.never rfl (pi_range1 (by rfl) T.z_range (pa_cons (pv 2) pa_nil)) (pg_name (i := 5) sc_law_words.nd rfl (.inl rfl))
        (pss_cons (ps_set (i := 6) sc_law_words.nd rfl (.inr rfl) (pe_ix (ix_listK K) (pe_lst (pa_cons pe_str (pa_cons pe_str (pa_cons pe_str (pa_cons pe_str (pa_cons pe_str (pa_cons pe_str pa_nil))))))) (pe_call (G_law_take T) (hr.mono (by decide)) (by rfl) T.g_law_take T.F_law_take.kp T.b_law_take .nil pass0 (pa_cons (pv 0) (pa_cons pe_int pa_nil))) (fun _ _ => rfl)))
      (pss_one (ps_setLc (i := 3) (own := [("_law_word", 7)]) rfl sc_law_words.nd rfl rfl (sw_true rfl rfl rfl (by decide +kernel)) (pi_listK K (pv 3)) (blkOk_by (N := N_law_words) (sc := defScope s_law_words) (by decide +kernel)) (fun _ _ _ _ _ => (pg_name (i := 7) sc_law_words.nd rfl (.inl rfl))) (fun _ _ _ _ _ => pts_nil) (fun _ _ _ _ _ => (pe_op op_add_str (pv 7) (pe_ix ix_str (pv 6) (pe_call (G_law_take T) (hr.mono (by decide)) (by rfl) T.g_law_take T.F_law_take.kp T.b_law_take .nil pass0 (pa_cons (pv 0) (pa_cons (pe_callB call_len_str (by rfl) T.z_len (by decide +kernel) (pa_cons (pv 6) pa_nil)) pa_nil))) (fun _ _ => rfl))))))))
      (pss_one (ps_ret (pv 3))))))
    , ?_⟩
    refine b_take (k := k + 199) w0 rfl ev_c (by decide) (by decide) fun d1 H1 a1 a2 f1 w1 => ?_
    refine ⟨_, _, rfl, rfl, ?_⟩
    refine b_take (k := k + 198) w1 rfl ev_c (by decide) (by decide) fun d2 H2 a3 a4 f2 w2 => ?_
    refine ⟨_, _, rfl, ?_⟩
    obtain ⟨n, rfl⟩ := Int.eq_ofNat_of_zero_le a1
    obtain ⟨m, rfl⟩ := Int.eq_ofNat_of_zero_le a3
    have g2 := f1.trans f2 w1.ne
    refine q_asgP (p := en K (List.replicate (1 + n) ("" : Str))) w2.e (EvP.is (EvN.ep (K := K) (en_lcN (fun _ => pV (.str "")) (ei_range (n := 1 + n) (ea_cons (ev_is (ev_var rfl) (by rw [Int.natCast_add]; rfl)) ea_nil) (by omega)) (by rw [List.length_range]; omega) (fun _ => rfl) fun a x G3 _ _ _ => ep_v ev_c)) ?_) fun y H3 G3 f3 hy => ?_
    · rw [en_list, List.map_replicate, List.map_const', List.length_range]
      rfl
    have w3 := w2.go f3
    have g3 := g2.trans f3.fb w2.ne
    refine q_forB (k := k) (c0 := 10) (b := b) (G := G3) (w3.less (by rw [List.length_range]; omega)) (ei_range (n := m) (ea_cons (ev_var rfl) ea_nil) (by omega)) (fun a σ' => tg_name)
      (fun i σ' G' H' => ∃ x4 x5 x6 x7 v ws, σ' = [some (.ref b), some (.int (1 + (n : Int))), some (.int (m : Int)), some v, x4, x5, x6, x7] ∧ Fb b G H G' H' ∧ (en K ws).on G' v ∧ ws.length = 1 + n ∧ (∀ w ∈ ws, w.length = i ∧ ∀ c ∈ w.cps.toList, okc c = true))
      (fun H4 G4 f4 => ⟨_, _, _, _, y, _, rfl, g3.trans f4.fb w3.ne, (en K _).up f4.g hy, by rw [List.length_replicate], fun w hw => by
        rw [(List.mem_replicate.mp hw).2]
        exact ⟨rfl, fun c hc => nomatch hc⟩⟩)
      (fun i σ' Ga Ha Gc Hc hp hb f => by
        obtain ⟨x4, x5, x6, x7, v, ws, rfl, h1, h2, h3, h4⟩ := hp
        exact ⟨_, _, _, _, v, ws, rfl, h1.trans f.fb hb, (en K ws).up f.g h2, h3, h4⟩)
      (fun i a σ' Gb G4 H4 σ2 k1 hla _ eb w4 hp hF => ?_) (fun σ' G4 H4 _ w4 hp => ?_)
    · obtain ⟨x4, x5, x6, x7, v, ws, rfl, h1, h2, h3, h4⟩ := hp
      obtain ⟨x, hx, rfl⟩ := hF
      have hi : i < m := by
        have := (List.getElem?_eq_some_iff.mp hla).1
        rwa [List.length_range] at this
      -- the signs of this place
      refine c_asg (c_op ((ep_lst (K := K) (es_cons (ep_v ev_c) (es_cons (ep_v ev_c) (es_cons (ep_v ev_c) (es_cons (ep_v ev_c) (es_cons (ep_v ev_c) (es_cons (ep_v ev_c) es_nil)))))) (by show 6 ≤ 100000; decide)) H4 w4.e _ fun u H5 G5 f5 hu => ?_))
      have w5 := w4.go f5
      refine b_take (k := k1 + 9) w5 rfl ev_c (by decide) (by decide) fun d H6 c1 c2 f6 w6 => ?_
      obtain ⟨p, xs, rfl, p1, p2⟩ := hu
      have hsg : ∃ z : Str, atI xs d = some (.str z) ∧ 0 < z.length ∧ z.length ≤ 5 ∧ ∀ c ∈ z.cps.toList, okc c = true := by
        obtain rfl := al_strs (ss := ["01*", "0*", "1*", "*", "0", "0011*"]) p2
        rcases (show d = 0 ∨ d = 1 ∨ d = 2 ∨ d = 3 ∨ d = 4 ∨ d = 5 by omega) with rfl | rfl | rfl | rfl | rfl | rfl
        · exact ⟨_, rfl, by decide, by decide, by decide +kernel⟩
        · exact ⟨_, rfl, by decide, by decide, by decide +kernel⟩
        · exact ⟨_, rfl, by decide, by decide, by decide +kernel⟩
        · exact ⟨_, rfl, by decide, by decide, by decide +kernel⟩
        · exact ⟨_, rfl, by decide, by decide, by decide +kernel⟩
        · exact ⟨_, rfl, by decide, by decide, by decide +kernel⟩
      obtain ⟨z, hz1, hz2, hz3, hz4⟩ := hsg
      refine ⟨p, xs, d, .str z, rfl, rfl, sq_of (f6.k _ _ p1), hz1, ?_⟩
      have h2' := (en K ws).up f5.g h2
      refine b_lcP (K := K) (b := b) (k := k1) (c0 := 1) (G := G5) (l := ws) (c := en K) (d := fun s : Str => en K s) (R := fun w w' => ∃ c, okc c = true ∧ w' = w ++ ⟨#[c]⟩) (w6.less (by omega)) (ei_list (ep_var rfl h2')) (fun a => tg_name) (by omega) (fun a G' σ' hσ => by
        obtain ⟨x, _, rfl⟩ := hσ
        rfl) (fun a σ' G7 H7 k7 Q' hm e7 w7 hσ k' => ?_) fun ys v7 H7 G7 hys f7 w7 on7 => ?_
      · obtain ⟨x, hx, rfl⟩ := hσ
        have hx' : x = .str a := hx
        subst hx'
        refine ⟨_, rfl, _, rfl, ?_⟩
        refine b_take (k := k7) w7 rfl (ev_lenS (ev_var rfl) (by omega)) (by omega) (by omega) fun d' H8 d1 d2 f8 w8 => ?_
        obtain ⟨jj, rfl⟩ := Int.eq_ofNat_of_zero_le d1
        have hj : jj < z.length := by omega
        refine ⟨z, jj, z.cps.toList.getD jj 0, rfl, rfl, sz_of (by omega), at_sgn hj, ?_⟩
        have hjc : okc (z.cps.toList.getD jj 0) = true := by
          have h' : jj < z.cps.toList.length := by rw [Array.length_toList]; exact hj
          rw [getD_at h']
          exact hz4 _ (List.getElem_mem _)
        refine ⟨a, _, rfl, rfl, sz_of ?_, k' _ _ H8 G7 ⟨_, hjc, rfl⟩ f8 w8 rfl⟩
        have := (h4 a hm).1
        show a.length + 1 ≤ _
        omega
      · refine ⟨G7, eb.trans (f5.g.trans f7.g), w7, _, _, _, _, v7, ys, rfl, ?_, on7, by rw [hys.1, h3], fun w hw => ?_⟩
        · exact ((h1.trans f5.fb w4.ne).trans f6 w5.ne).trans f7 w6.ne
        · obtain ⟨a, ha, c, hc, rfl⟩ := hys.mem hw
          obtain ⟨q1, q2⟩ := h4 a ha
          refine ⟨?_, fun x hx => ?_⟩
          · show (a.cps ++ #[c]).size = _
            rw [Array.size_append]
            show a.length + 1 = _
            omega
          · rw [app_cps] at hx
            rcases List.mem_append.mp hx with hx | hx
            · exact q2 x hx
            · rw [List.mem_singleton.mp hx]
              exact hc
    · obtain ⟨x4, x5, x6, x7, v, ws, rfl, h1, h2, h3, h4⟩ := hp
      rw [List.length_range] at h4
      refine ⟨v, rfl, q (en K ws) v H4 G4 ⟨rfl, ws, ?_, rfl⟩ h1 w4 h2⟩
      have hh : lenW ws = m := by
        unfold lenW
        cases ws with
        | nil => exact absurd h3 (by simp; omega)
        | cons w r => exact (h4 w (List.mem_cons_self ..)).1
      refine ⟨⟨by omega, by omega, fun w hw => ?_, fun w hw => ?_⟩, by omega, by omega⟩
      · unfold okS
        rw [Bool.and_eq_true, List.all_eq_true]
        exact ⟨decide_eq_true (by rw [(h4 w hw).1]; omega), (h4 w hw).2⟩
      · rw [(h4 w hw).1]
        exact hh.symm
end
end K31

namespace K31
open PySem PySem.Spec PyProof.Rows L2 OP Evl
def maxN (l : List Nat) : Nat := l.foldr max 0
theorem maxN_le : ∀ {l : List Nat} {x : Nat}, x ∈ l → x ≤ maxN l
  | a :: l, x, h => by
    show x ≤ max a (maxN l)
    rcases List.mem_cons.mp h with rfl | h
    · exact Nat.le_max_left _ _
    · exact Nat.le_trans (maxN_le h) (Nat.le_max_right _ _)
theorem maxN_mem : ∀ {l : List Nat}, 0 < l.length → maxN l ∈ l
  | [a], _ => by
    show max a 0 ∈ [a]
    rw [Nat.max_eq_left (Nat.zero_le _)]
    exact List.mem_cons_self ..
  | a :: b :: l, _ => by
    show max a (maxN (b :: l)) ∈ _
    rcases Nat.le_total a (maxN (b :: l)) with h | h
    · rw [Nat.max_eq_right h]
      exact List.mem_cons_of_mem _ (maxN_mem (by rw [List.length_cons]; omega))
    · rw [Nat.max_eq_left h]
      exact List.mem_cons_self ..
def wayN (ws : List Str) (k : Nat) (one : Str) : Nat := maxN ((ws.map (sgn k)).map fun o => lap one o)
def lnP (ws : List Str) (k : Nat) : Bool := decide (maxN ((ws.map (sgn k)).map (wayN ws k)) = 0)
def lneed (ws : List Str) : List Nat := (List.range (lenW ws)).filter (lnP ws)
def A_ln (K : PySem.W.Frag) : List Pr → Pr → Prop := fun ps p => ∃ ws : List Str, ps = [en K ws] ∧ Gd ws ∧ p = en K (lneed ws)
theorem sgn_okS {k : Nat} {w : Str} (h : okS w = true) (hk : k < w.length) : okS (sgn k w) = true := by
  unfold okS
  rw [Bool.and_eq_true, List.all_eq_true]
  refine ⟨decide_eq_true (show 1 ≤ 60 by decide), fun c hc => ?_⟩
  rw [List.mem_singleton.mp (show c ∈ [w.cps.toList.getD k 0] from hc)]
  exact sgn_ok h hk
section
variable {K : PySem.W.Frag} {σ : L2.St} {G : Hp} {ta : TE}
theorem ev_maxN {l : List Nat} (h : EvP ta σ G (pLst K (l.map fun n => pV (.int (n : Nat))))) (hl : 0 < l.length) : Ev (tCB (rMax K) (tCons ta tNil)) σ G (.int (maxN l : Nat)) :=
  ev_maxL (K := K) (ns := l.map fun n : Nat => (n : Int)) (by rw [List.map_map]; exact h) (List.mem_map.mpr ⟨_, maxN_mem hl, rfl⟩) (fun y hy => by
    obtain ⟨n, hn, rfl⟩ := List.mem_map.mp hy
    have := maxN_le hn
    omega)
end
section
variable {w : World} {K : PySem.W.Frag} {mg : Str → Option Value} {base : Heap}
theorem G_law_needless (T : TX K mg) : FnOk PP w K mg base CX0 2 T.f_law_needless T.d_law_needless ["_law_words_here"] (spF (A_ln K)) := by
  refine T.F_law_needless.ok sc_law_needless (fun vs H Q E h => ?_) (fun cdv A outer s H vs Q E hr h => ?_)
  · obtain ⟨G, ps, p, ⟨_, rfl, _⟩, _, ha, _⟩ := h
    exact ha.len
  · obtain ⟨G, ps, p, ⟨ws, rfl, g, rfl⟩, e, ha, q⟩ := h
    obtain ⟨v, rfl, hv⟩ := ha.one
    refine ⟨_,
    (pss_cons (ps_set (i := 1) sc_law_needless.nd rfl (.inl rfl) (pe_lst pa_nil))
      (pss_cons (ps_for PassesOwn.never rfl (pi_range1 (by rfl) T.z_range (pa_cons (pe_callB call_len_str (by rfl) T.z_len (by decide +kernel) (pa_cons (pe_ix (ix_listK K) (pv 0) pe_int (fun _ _ => rfl)) pa_nil)) pa_nil)) (pg_name (i := 2) sc_law_needless.nd rfl (.inr rfl))
        (pss_cons (ps_set (i := 3) sc_law_needless.nd rfl (.inr rfl) (pe_lc (own := [("_law_word", 4)]) rfl sc_law_needless.nd (pi_listK K (pv 0)) (blkOk_by (N := N_law_needless) (sc := defScope s_law_needless) (by decide +kernel)) (fun _ _ _ _ _ => (pg_name (i := 4) sc_law_needless.nd rfl (.inl rfl))) (fun _ _ _ _ _ => pts_nil) (fun _ _ _ _ _ => (pe_ix ix_str (pv 4) (pv 2) (fun _ _ => rfl)))))
      (pss_cons (ps_setLc (i := 5) (own := [("_law_one", 7)]) rfl sc_law_needless.nd rfl rfl (sw_true rfl rfl rfl (by decide +kernel)) (pi_listK K (pv 3)) (blkOk_by (N := N_law_needless) (sc := defScope s_law_needless) (by decide +kernel)) (fun _ _ _ _ _ => (pg_name (i := 7) sc_law_needless.nd rfl (.inr rfl))) (fun _ _ _ _ _ => pts_nil) (fun _ _ _ _ _ => (pe_callB (cr_maxK rfl) (by rfl) T.z_max (by decide +kernel) (pa_cons (pe_lc (own := [("_law_other", 6)]) rfl sc_law_needless.nd (pi_listK K (pv 3)) (blkOk_by (by rfl)) (fun _ _ _ _ _ => (pg_name (i := 6) sc_law_needless.nd rfl (.inl rfl))) (fun _ _ _ _ _ => pts_nil) (fun _ _ _ _ _ => (pe_call (G_law_apart T) (hr.mono (by decide)) (by rfl) T.g_law_apart T.F_law_apart.kp T.b_law_apart .nil pass0 (pa_cons (pv 7) (pa_cons (pv 6) pa_nil))))) pa_nil))))
      (pss_one (ps_set (i := 1) sc_law_needless.nd rfl (.inl rfl) (pe_op op_cat (pv 1) (pe_op op_rep (pe_lst (pa_cons (pv 2) pa_nil)) (pe_callTy call_int1 (by rfl) T.z_int (by decide +kernel) (pa_cons (pe_cmpR op_eq (pe_callB (cr_maxK rfl) (by rfl) T.z_max (by decide +kernel) (pa_cons (pv 5) pa_nil)) pe_int (nomark _)) pa_nil)))))))))
      (pss_one (ps_ret (pv 1)))))
    , ?_⟩
    have hn := lenW_le g
    have hle := g.le
    have hne := g.ne
    refine q_asgP (p := en K ([] : List Nat)) e (ep_lst (K := K) es_nil (Nat.zero_le _)) fun y H1 G1 f1 hy => ?_
    refine q_forP f1.k (ei_range (n := lenW ws) (ea_cons (ev_lenS (ev_p (ep_ixL (K := K) (ps := ws.map (en K)) (ep_var rfl ((en K ws).up f1.g hv)) ev_c (head_at g))) (by unfold lenW at hn; omega)) ea_nil) (by omega)) (fun a σ' => tg_name)
      (fun i σ' G' H' => ∃ x2 x3 x4 x5 x6 x7 u, σ' = [some v, some u, x2, x3, x4, x5, x6, x7] ∧ Fr G H G' H' ∧ (en K ((List.range i).filter (lnP ws))).on G' u)
      (fun H3 G3 f3 => ⟨_, _, _, _, _, _, y, rfl, f1.trans f3, (en K ([] : List Nat)).up f3.g hy⟩) (fun i σ' Ga Ha Gc Hc hp _ f => by
        obtain ⟨x2, x3, x4, x5, x6, x7, u, rfl, h1, h2⟩ := hp
        exact ⟨_, _, _, _, _, _, u, rfl, h1.trans f, (en K _).up f.g h2⟩) (fun i a σ' Gb G3 H3 σ2 hla eb1 eb2 e3 hp hF => ?_) (fun σ' G3 H3 _ e3 hp => ?_)
    · obtain ⟨x2, x3, x4, x5, x6, x7, u, rfl, h1, h2⟩ := hp
      obtain ⟨x, hx, rfl⟩ := hF
      have hi : i < lenW ws := by
        have := (List.getElem?_eq_some_iff.mp hla).1
        rwa [List.length_range] at this
      rw [range_at hi] at hla
      cases hla
      have hx' : x = .int (i : Nat) := hx
      subst hx'
      have hv3 := (en K ws).up h1.g hv
      refine q_asgP (p := en K (ws.map (sgn i))) e3 ?_ fun y4 H4 G4 f4 hy4 => ?_
      · rw [en_list, List.map_map]
        exact (en_lcN _ (ei_list (l := ws) (c := en K) (ep_var rfl hv3)) (by omega) (fun _ => rfl) fun a x G5 hm e5 hx => ep_v (ev_ixS (ev_at rfl hx) (ev_var rfl) (by have := okS_len (g.ok a hm); omega) (at_sgn (by rw [g.al a hm]; exact hi)))).ep
      have hok : ∀ s ∈ ws.map (sgn i), okS s = true := fun s hs => by
        obtain ⟨w, hw, rfl⟩ := List.mem_map.mp hs
        exact sgn_okS (g.ok w hw) (by rw [g.al w hw]; exact hi)
      have hl1 : ∀ s ∈ ws.map (sgn i), s.length = 1 := fun s hs => by
        obtain ⟨w, hw, rfl⟩ := List.mem_map.mp hs
        rfl
      refine q_asgP (p := en K ((ws.map (sgn i)).map (wayN ws i))) f4.k ?_ fun y5 H5 G5 f5 hy5 => ?_
      · rw [en_list, List.map_map]
        refine (en_lcN _ (ei_list (l := ws.map (sgn i)) (c := en K) (ep_var rfl hy4)) (by rw [List.length_map]; omega) (fun _ => rfl) fun a x G6 hm e6 hx => ep_v (ev_maxN (K := K) ?_ ?_)).ep
        · rw [List.map_map]
          exact (en_lcN _ (ei_list (l := ws.map (sgn i)) (c := en K) (ep_var rfl ((en K _).up e6 hy4))) (by rw [List.length_map]; omega) (fun _ => rfl) fun b y G7 hm7 e7 hy => ep_call (es_cons (ep_var rfl ((en K a).up e7 hx)) (es_cons (ep_var rfl hy) es_nil)) ⟨a, b, rfl, hok a hm, hok b hm7, by rw [hl1 a hm, hl1 b hm7], rfl⟩).ep
        · rw [List.length_map, List.length_map]
          exact hne
      have hu5 := (en K ((List.range i).filter (lnP ws))).up (f4.g.trans f5.g) h2
      have hlen : ((List.range i).filter (lnP ws)).length ≤ i := by
        have := List.length_filter_le (lnP ws) (List.range i)
        rwa [List.length_range] at this
      refine s_asgP f5.k (EvN.ep (K := K) (en_cat (K := K) (ps := ((List.range i).filter (lnP ws)).map (en K)) (ep_var rfl hu5) (en_rep (K := K) (n := if lnP ws i then 1 else 0) (ep_lst (K := K) (es_cons (ep_v (ev_var rfl)) es_nil) (by show 1 ≤ 100000; decide)) (ev_is (ev_intB (ev_op (ev_maxN (K := K) (l := (ws.map (sgn i)).map (wayN ws i)) (ep_var rfl ?_) ?_) ev_c (rv_eq rfl))) ?_) (by split <;> omega) (by split <;> omega) (by split <;> simp)).ep ?_)) fun y6 H6 G6 f6 hy6 => ?_
      · rw [en_list] at hy5
        exact hy5
      · rw [List.length_map, List.length_map]
        exact hne
      · show V.int (if decide (V.int _ = V.int 0) = true then 1 else 0) = V.int (if lnP ws i = true then 1 else 0)
        have : decide (V.int ((maxN ((ws.map (sgn i)).map (wayN ws i)) : Nat) : Int) = V.int 0) = lnP ws i := by
          unfold lnP
          exact decide_eq_decide.mpr ⟨fun h => by have := V.int.inj h; omega, fun h => by rw [h]; rfl⟩
        rw [this]
      · rw [List.length_map]
        have : (List.replicate (if lnP ws i = true then (1 : Int) else 0).toNat [pV (V.int (i : Nat))]).flatten.length ≤ 1 := by
          split <;> simp
        omega
      refine ⟨G6, eb2.trans (f4.g.trans (f5.g.trans f6.g)), f6.k, _, _, _, _, _, _, y6, rfl, ((h1.trans f4).trans f5).trans f6, ?_⟩
      rw [List.range_succ, List.filter_append, en_list, List.map_append]
      cases hb : lnP ws i with
      | true =>
        rw [hb] at hy6
        rw [show [i].filter (lnP ws) = [i] from by simp [hb]]
        exact hy6
      | false =>
        rw [hb] at hy6
        rw [show [i].filter (lnP ws) = [] from by simp [hb]]
        exact hy6
    · obtain ⟨x2, x3, x4, x5, x6, x7, u, rfl, h1, h2⟩ := hp
      rw [List.length_range] at h2
      exact ⟨u, rfl, q u H3 G3 h1 h2⟩
end
end K31

namespace K31
open PySem PySem.Spec PyProof.Rows L2 OP Evl
/-! the plain law -/
theorem zipIdx_range (l : List Nat) : l.zipIdx = (List.range l.length).map fun k => (l.getD k 0, k) := by
  apply List.ext_getElem?
  intro i
  rw [List.getElem?_zipIdx, List.getElem?_map]
  by_cases h : i < l.length
  · rw [List.getElem?_eq_getElem h, List.getElem?_range h]
    simp [List.getD, List.getElem?_eq_getElem h]
  · rw [List.getElem?_eq_none (by omega), List.getElem?_eq_none (by rw [List.length_range]; omega)]
    rfl
theorem zip_range (a b : List Nat) (h : a.length = b.length) : a.zip b = (List.range a.length).map fun k => (a.getD k 0, b.getD k 0) := by
  apply List.ext_getElem?
  intro i
  rw [List.getElem?_map]
  by_cases hi : i < a.length
  · have hb : i < b.length := by omega
    rw [List.getElem?_range hi, (List.getElem?_zip_eq_some (z := (a[i], b[i]))).mpr ⟨List.getElem?_eq_getElem hi, List.getElem?_eq_getElem hb⟩]
    simp [List.getD, List.getElem?_eq_getElem hi, List.getElem?_eq_getElem hb]
  · rw [List.getElem?_eq_none (by rw [List.length_zip]; omega), List.getElem?_eq_none (by rw [List.length_range]; omega)]
    rfl
theorem idx_len {α : Type} (f : α → Bool) : ∀ (l : List α) (n : Nat), ((l.zipIdx n).filter fun x => f x.1).length = (l.filter f).length
  | [], _ => rfl
  | a :: l, n => by
    rw [List.zipIdx_cons, List.filter_cons, List.filter_cons]
    show (if f a = true then _ else _ : List _).length = _
    split
    · rw [List.length_cons, List.length_cons, idx_len f l]
    · exact idx_len f l _
def cd (w : Str) (k : Nat) : Nat := w.cps.toList.getD k 0
theorem apart_count {a b : Str} (h : a.length = b.length) : apartN a b = ((List.range a.length).filter fun k => farC (cd a k, cd b k)).length := by
  unfold apartN diffL
  have h' : a.cps.toList.length = b.cps.toList.length := by rw [Array.length_toList, Array.length_toList]; exact h
  rw [List.length_map, idx_len farC, zip_range _ _ h', List.filter_map, List.length_map, Array.length_toList]
  rfl
theorem cd_pick (ks : List Nat) (w : Str) {i : Nat} (h : i < ks.length) : cd (pick ks w) i = cd w (ks.getD i 0) := by
  show (ks.map fun k => w.cps.toList.getD k 0).getD i 0 = _
  simp [cd, List.getD, List.getElem?_map, List.getElem?_eq_getElem h]
theorem map_getD (ks : List Nat) : (List.range ks.length).map (fun i => ks.getD i 0) = ks := by
  apply List.ext_getElem?
  intro i
  rw [List.getElem?_map]
  by_cases h : i < ks.length
  · rw [List.getElem?_range h, List.getElem?_eq_getElem h]
    simp [List.getD, List.getElem?_eq_getElem h]
  · rw [List.getElem?_eq_none (by rw [List.length_range]; omega), List.getElem?_eq_none (by omega)]
    rfl
theorem apart_pick (ks : List Nat) (a b : Str) : apartN (pick ks a) (pick ks b) = (ks.filter fun k => farC (cd a k, cd b k)).length := by
  rw [apart_count (by rw [pick_len, pick_len]), pick_len]
  have e : (List.range ks.length).filter (fun k => farC (cd (pick ks a) k, cd (pick ks b) k)) = (List.range ks.length).filter ((fun k => farC (cd a k, cd b k)) ∘ fun i => ks.getD i 0) := by
    apply List.filter_congr
    intro i hi
    have hi := List.mem_range.mp hi
    show farC (cd (pick ks a) i, cd (pick ks b) i) = farC (cd a (ks.getD i 0), cd b (ks.getD i 0))
    rw [cd_pick ks a hi, cd_pick ks b hi]
  rw [e]
  have m := congrArg (fun l => (l.filter fun k => farC (cd a k, cd b k)).length) (map_getD ks)
  rw [List.filter_map, List.length_map] at m
  exact m
theorem sgn_inj {k m : Nat} {a b : Str} : sgn k a = sgn m b ↔ cd a k = cd b m := by
  unfold sgn cd
  exact ⟨fun h => by injection h with h; injection h with h; injection h, fun h => by rw [h]⟩
theorem sgn0 {k : Nat} {a : Str} : sgn k a = "0" ↔ cd a k = 48 := by
  show (⟨#[_]⟩ : Str) = ⟨#[48]⟩ ↔ _
  exact ⟨fun h => by injection h with h; injection h with h; injection h, fun h => by rw [← h]; rfl⟩
theorem sgn1 {k : Nat} {a : Str} : sgn k a = "1" ↔ cd a k = 49 := by
  show (⟨#[_]⟩ : Str) = ⟨#[49]⟩ ↔ _
  exact ⟨fun h => by injection h with h; injection h with h; injection h, fun h => by rw [← h]; rfl⟩
theorem far_iff {x y : Nat} : farC (x, y) = true ↔ (x = 48 ∧ y = 49) ∨ (x = 49 ∧ y = 48) := by
  unfold farC s01
  rw [decide_eq_true_eq, List.mem_cons, List.mem_singleton, Prod.mk.injEq, Prod.mk.injEq]
  have e : ∀ a b : Nat, ((⟨#[a]⟩ : Str) = ⟨#[b]⟩) ↔ a = b := fun a b => ⟨fun h => by injection h with h; injection h with h; injection h, fun h => by rw [h]⟩
  rw [show ("0" : Str) = ⟨#[48]⟩ from rfl, show ("1" : Str) = ⟨#[49]⟩ from rfl, e, e, e, e]
theorem need_iff {ws : List Str} {k : Nat} : needP ws k = true ↔ ¬ ((∃ u ∈ ws, cd u k = 48) ∧ (∃ u ∈ ws, cd u k = 49)) := by
  unfold needP
  rw [Bool.or_eq_true, Bool.not_eq_true', Bool.not_eq_true', decide_eq_false_iff_not, decide_eq_false_iff_not, List.mem_map, List.mem_map, Classical.not_and_iff_not_or_not]
  have e0 : (∃ a, a ∈ ws ∧ sgn k a = "0") ↔ ∃ u ∈ ws, cd u k = 48 := ⟨fun ⟨a, h, q⟩ => ⟨a, h, sgn0.mp q⟩, fun ⟨a, h, q⟩ => ⟨a, h, sgn0.mpr q⟩⟩
  have e1 : (∃ a, a ∈ ws ∧ sgn k a = "1") ↔ ∃ u ∈ ws, cd u k = 49 := ⟨fun ⟨a, h, q⟩ => ⟨a, h, sgn1.mp q⟩, fun ⟨a, h, q⟩ => ⟨a, h, sgn1.mpr q⟩⟩
  rw [e0, e1]
theorem lap_one (k : Nat) (u w : Str) : lap (sgn k u) (sgn k w) = if farC (cd u k, cd w k) = true then 1 else 0 := by
  have e : ∀ k (u : Str), sgn 0 (sgn k u) = sgn k u := fun k u => rfl
  have hb : lapP (sgn k u) (sgn k w) 0 = farC (cd u k, cd w k) := by
    unfold lapP
    rw [e, e, Bool.eq_iff_iff, far_iff, decide_eq_true_eq]
    unfold l01
    rw [List.mem_cons, List.mem_singleton, List.cons.injEq, List.cons.injEq, List.cons.injEq, List.cons.injEq, sgn0, sgn1, sgn0, sgn1]
    simp
  show ((List.range 1).filter (lapP (sgn k u) (sgn k w))).length = _
  rw [show List.range 1 = [0] from rfl, List.filter_cons, List.filter_nil, hb]
  split <;> rfl
theorem ln_need (ws : List Str) (k : Nat) : lnP ws k = needP ws k := by
  rw [Bool.eq_iff_iff, need_iff]
  unfold lnP
  rw [decide_eq_true_eq]
  constructor
  · intro h ⟨⟨u, hu, hu0⟩, ⟨w, hw, hw1⟩⟩
    have h1 : wayN ws k (sgn k u) ≤ 0 := by
      rw [← h]
      exact maxN_le (List.mem_map.mpr ⟨sgn k u, List.mem_map.mpr ⟨u, hu, rfl⟩, rfl⟩)
    have h2 : lap (sgn k u) (sgn k w) ≤ wayN ws k (sgn k u) := maxN_le (List.mem_map.mpr ⟨sgn k w, List.mem_map.mpr ⟨w, hw, rfl⟩, rfl⟩)
    rw [lap_one, if_pos (far_iff.mpr (.inl ⟨hu0, hw1⟩))] at h2
    omega
  · intro h
    have z : ∀ l : List Nat, (∀ x ∈ l, x = 0) → maxN l = 0 := fun l => by
      induction l with
      | nil => exact fun _ => rfl
      | cons a r ih =>
        intro hl
        show max a (maxN r) = 0
        rw [hl a (List.mem_cons_self ..), ih fun x hx => hl x (List.mem_cons_of_mem _ hx)]
        rfl
    refine z _ fun x hx => ?_
    obtain ⟨s, hs, rfl⟩ := List.mem_map.mp hx
    obtain ⟨u, hu, rfl⟩ := List.mem_map.mp hs
    refine z _ fun y hy => ?_
    obtain ⟨s', hs', rfl⟩ := List.mem_map.mp hy
    obtain ⟨w, hw, rfl⟩ := List.mem_map.mp hs'
    rw [lap_one, if_neg]
    intro hf
    rcases far_iff.mp hf with ⟨p, q⟩ | ⟨p, q⟩
    · exact h ⟨⟨u, hu, p⟩, ⟨w, hw, q⟩⟩
    · exact h ⟨⟨w, hw, q⟩, ⟨u, hu, p⟩⟩
theorem lneed_eq (ws : List Str) : lneed ws = needL ws := by
  unfold lneed needL
  rw [show lnP ws = needP ws from funext fun k => ln_need ws k]
theorem kept_iff {ws : List Str} {k : Nat} (h : k < lenW ws) : (!decide (k ∈ needL ws)) = !needP ws k := by
  congr 1
  rw [Bool.eq_iff_iff, decide_eq_true_eq]
  unfold needL
  rw [List.mem_filter, List.mem_range]
  exact ⟨fun q => q.2, fun q => ⟨h, q⟩⟩
theorem keptL_eq (ws : List Str) : keptL ws = (List.range (lenW ws)).filter fun k => !needP ws k := by
  unfold keptL
  apply List.filter_congr
  intro k hk
  exact kept_iff (List.mem_range.mp hk)
theorem apart_trim {ws : List Str} (g : Gd ws) {a b : Str} (ha : a ∈ ws) (hb : b ∈ ws) : apartN (pick (keptL ws) a) (pick (keptL ws) b) = apartN a b := by
  rw [apart_pick, apart_count (by rw [g.al a ha, g.al b hb]), keptL_eq, List.filter_filter, g.al a ha]
  congr 1
  apply List.filter_congr
  intro k hk
  cases hf : farC (cd a k, cd b k) with
  | false => rfl
  | true =>
    have : needP ws k = false := by
      rw [← Bool.not_eq_true, need_iff, Classical.not_not]
      rcases far_iff.mp hf with ⟨p, q⟩ | ⟨p, q⟩
      · exact ⟨⟨a, ha, p⟩, ⟨b, hb, q⟩⟩
      · exact ⟨⟨b, hb, q⟩, ⟨a, ha, p⟩⟩
    rw [this]
    rfl
theorem tab_trim {ws : List Str} (g : Gd ws) : tabL (trimL ws) = tabL ws := by
  unfold tabL trimL
  rw [List.map_map]
  apply List.map_congr_left
  intro a ha
  show Tu.mk _ = Tu.mk _
  congr 1
  rw [List.map_map]
  apply List.map_congr_left
  intro b hb
  exact apart_trim g ha hb
theorem need_trim {ws : List Str} (g : Gd ws) : needL (trimL ws) = [] := by
  unfold needL
  rw [List.filter_eq_nil_iff]
  intro i hi
  have hi := List.mem_range.mp hi
  rw [lenW_trim g] at hi
  rw [need_iff, Classical.not_not]
  have hk : (keptL ws).getD i 0 ∈ keptL ws := by
    rw [getD_at hi]
    exact List.getElem_mem _
  have hn : needP ws ((keptL ws).getD i 0) = false := by
    have h2 := hk
    rw [keptL_eq] at h2
    have := (List.mem_filter.mp h2).2
    rw [← keptL_eq] at this
    simpa using this
  rw [← Bool.not_eq_true, need_iff, Classical.not_not] at hn
  obtain ⟨⟨u, hu, p⟩, ⟨w, hw, q⟩⟩ := hn
  exact ⟨⟨_, List.mem_map.mpr ⟨u, hu, rfl⟩, by rw [cd_pick _ _ hi]; exact p⟩, ⟨_, List.mem_map.mpr ⟨w, hw, rfl⟩, by rw [cd_pick _ _ hi]; exact q⟩⟩
theorem pick_range {w : Str} {n : Nat} (h : w.length = n) : pick (List.range n) w = w := by
  apply str_ext
  show (List.range n).map (fun k => w.cps.toList.getD k 0) = w.cps.toList
  have := map_getD w.cps.toList
  rw [Array.length_toList] at this
  rw [← h]
  exact this
theorem trim_trim {ws : List Str} (g : Gd ws) : trimL (trimL ws) = trimL ws := by
  have hk : keptL (trimL ws) = List.range (keptL ws).length := by
    unfold keptL
    rw [need_trim g]
    show (List.range (lenW (trimL ws))).filter _ = _
    rw [lenW_trim g, List.filter_eq_self.mpr]
    · rfl
    · intro k _
      simp
  show (trimL ws).map (pick (keptL (trimL ws))) = trimL ws
  rw [hk]
  have : ∀ w ∈ trimL ws, pick (List.range (keptL ws).length) w = w := fun w hw => by
    obtain ⟨u, _, rfl⟩ := List.mem_map.mp hw
    exact pick_range (pick_len _ _)
  rw [List.map_congr_left this, List.map_id']
theorem pick_enum {ws : List Str} (g : Gd ws) {w : Str} (hw : w ∈ ws) : pick (keptL ws) w = ⟨((w.cps.toList.zipIdx.filter fun x => !decide (x.2 ∈ needL ws)).map (·.1)).toArray⟩ := by
  unfold pick
  congr 2
  rw [zipIdx_range, List.filter_map, List.map_map]
  unfold keptL
  rw [Array.length_toList, show w.cps.size = lenW ws from g.al w hw]
  rfl
end K31

namespace K31
open PySem PySem.Spec PyProof.Rows L2 OP Evl
def spLaw (K : PySem.W.Frag) : Sp := fun vs H Q _ => ∃ (a : Addr) (ns : List Int), vs = [.ref a] ∧ SqL K H a (ns.map V.int) ∧ ns.length ≤ 63 ∧ ∀ H', Q (.bl true) H'
section
variable {w : World} {K : PySem.W.Frag} {mg : Str → Option Value} {base : Heap}
theorem G_law_end (T : TX K mg) {f : Addr} {fd : FuncData} (F : Fun K "law" "law" s_law f fd) : FnOk PP w K mg base CX0 8 f fd ["_law_script"] (spLaw K) := by
  refine F.ok sc_law (fun vs H Q E h => ?_) (fun cdv A outer s H vs Q E hr h => ?_)
  · obtain ⟨a, ns, rfl, _⟩ := h
    rfl
  · obtain ⟨a, ns, rfl, hS, hl, q⟩ := h
    refine ⟨_,
    (pss_cons (ps_for PassesOwn.never rfl (pi_range1 (by rfl) T.z_range (pa_cons (pe_callB (call_max2 rfl) (by rfl) T.z_max (by decide +kernel) (pa_cons pe_int (pa_cons (pe_callB (call_min2 rfl) (by rfl) T.z_min (by decide +kernel) (pa_cons pe_int (pa_cons (pe_callB (call_lenK K) (by rfl) T.z_len (by decide +kernel) (pa_cons (pv 0) pa_nil)) pa_nil))) pa_nil))) pa_nil)) (pg_name (i := 1) sc_law.nd rfl (.inl rfl))
        (pss_cons (ps_set (i := 2) sc_law.nd rfl (.inl rfl) (pe_call (G_law_box T) (hr.mono (by decide)) (by rfl) T.g_law_box T.F_law_box.kp T.b_law_box .nil pass0 (pa_cons (pe_call (G_law_cell_at T) (hr.mono (by decide)) (by rfl) T.g_law_cell_at T.F_law_cell_at.kp T.b_law_cell_at .nil pass0 (pa_cons (pv 0) (pa_cons (pv 1) pa_nil))) pa_nil)))
      (pss_cons (ps_set (i := 3) sc_law.nd rfl (.inl rfl) (pe_lst (pa_cons (pe_call (G_law_words T) (hr.mono (by decide)) (by rfl) T.g_law_words T.F_law_words.kp T.b_law_words .nil pass0 (pa_cons (pv 2) pa_nil)) (pa_cons (pe_call (G_law_words T) (hr.mono (by decide)) (by rfl) T.g_law_words T.F_law_words.kp T.b_law_words .nil pass0 (pa_cons (pv 2) pa_nil)) pa_nil))))
      (pss_cons (ps_setLc (i := 4) (own := [("_law_words_here", 5)]) rfl sc_law.nd rfl rfl (sw_true rfl rfl rfl (by decide +kernel)) (pi_listK K (pv 3)) (blkOk_by (N := N_law) (sc := defScope s_law) (by decide +kernel)) (fun _ _ _ _ _ => (pg_name (i := 5) sc_law.nd rfl (.inl rfl))) (fun _ _ _ _ _ => pts_nil) (fun _ _ _ _ _ => (pe_make T.mk_Addresses (G_Addresses_init T) (hr.mono (by decide)) (by rfl) T.gC_Addresses T.b_Addresses_init .nil pass0 (pa_cons (pv 5) pa_nil))))
      (pss_one (ps_for PassesOwn.never rfl (pi_listK K (pe_lst (pa_cons pe_int (pa_cons pe_int (pa_cons pe_int pa_nil))))) (pg_name (i := 6) sc_law.nd rfl (.inl rfl))
        (pss_cons (ps_par (i := 5) (j := 7) (by rfl) sc_law.nd rfl rfl (by decide) rfl rfl (pa_cons (pe_ix (ix_listK K) (pv 3) (pv 6) (fun _ _ => rfl)) (pa_cons (pe_ix (ix_listK K) (pv 4) (pv 6) (fun _ _ => rfl)) pa_nil)) (by rfl))
      (pss_cons (ps_asg (pe_tup (pa_cons (pe_call (G_law_needless T) (hr.mono (by decide)) (by rfl) T.g_law_needless T.F_law_needless.kp T.b_law_needless .nil pass0 (pa_cons (pv 5) pa_nil)) (pa_cons (pe_call (G_needless T) (hr.mono (by decide)) (by rfl) T.g_needless T.F_needless.kp T.b_needless .nil pass0 (pa_cons (pv 7) pa_nil)) (pa_cons (pe_call (G_trimmed T) (hr.mono (by decide)) (by rfl) T.g_trimmed T.F_trimmed.kp T.b_trimmed .nil pass0 (pa_cons (pv 7) pa_nil)) pa_nil)))) (pg_tupK K (n := 3) (by rfl) (pgs_cons (pg_name (i := 8) sc_law.nd rfl (.inr rfl)) (pgs_cons (pg_name (i := 9) sc_law.nd rfl (.inl rfl)) (pgs_cons (pg_name (i := 10) sc_law.nd rfl (.inl rfl)) pgs_nil)))))
      (pss_cons (ps_if (PW.pt (pw_or (pt_cmpR (op_neDK K hr.units) (pv 9) (pv 8) (nomark _)) (pw_or1 (pt_not (pt_val (pe_callB (call_isZK K) (by rfl) T.z_isinstance (by decide +kernel) (pa_cons (pv 9) (pa_cons (pe_bltn (v := .ty "list") (u := .type "list") (by rfl) T.z_list (by decide +kernel) rfl) pa_nil)))))))) (pss_one (ps_ret pe_bl)) pss_nil)
      (pss_cons (ps_expr (pe_bmK K PySem.F.plainAttrs_list PySem.F.slot_list_append PySem.F.type_list_append mt_append (pv 9) (pa_cons pe_int pa_nil)))
      (pss_cons (ps_setLc (i := 11) (own := [("_law_word", 14)]) rfl sc_law.nd rfl rfl (sw_true rfl rfl rfl (by decide +kernel)) (pi_listK K (pv 5)) (blkOk_by (N := N_law) (sc := defScope s_law) (by decide +kernel)) (fun _ _ _ _ _ => (pg_name (i := 14) sc_law.nd rfl (.inl rfl))) (fun _ _ _ _ _ => pts_nil) (fun _ _ _ _ _ => (pe_bmK K PySem.F.plainAttrs_str PySem.F.slot_str_join PySem.F.type_str_join (mt_joinK K) pe_str (pa_cons (pe_lc (own := [("_law_place", 12), ("_law_sign", 13)]) rfl sc_law.nd (pi_enumS (by rfl) T.z_enumerate (pv 14)) (blkOk_by (by rfl)) (fun _ _ _ _ _ => (pg_tupK K (n := 2) (by rfl) (pgs_cons (pg_name (i := 12) sc_law.nd rfl (.inl rfl)) (pgs_cons (pg_name (i := 13) sc_law.nd rfl (.inl rfl)) pgs_nil)))) (fun _ _ _ _ _ => (pts_one (pt_cmpR (op_notIn_seqK K) (pv 12) (pv 8) (by rfl)))) (fun _ _ _ _ _ => (pv 13))) pa_nil))))
      (pss_cons (ps_if (PW.pt (pw_or (pt_cmpR (op_neDK K hr.units) (pe_callTy (call_listK K) (by rfl) T.z_list (by decide +kernel) (pa_cons (pe_prop (pv 10) T.cl_Addresses T.p_Addresses_words (G_Addresses_words T) (hr.mono (by decide)) T.b_Addresses_words .nil pass0 rfl) pa_nil)) (pv 11) (nomark _)) (pw_or (pt_cmpR (op_neDK K hr.units) (pe_meth0 (pv 10) T.cl_Addresses T.m_Addresses_table (G_Addresses_table T) (hr.mono (by decide)) T.b_Addresses_table .nil pass0) (pe_meth0 (pv 7) T.cl_Addresses T.m_Addresses_table (G_Addresses_table T) (hr.mono (by decide)) T.b_Addresses_table .nil pass0) (nomark _)) (pw_or1 (pt_cmpR (op_neDK K hr.units) (pe_call (G_needless T) (hr.mono (by decide)) (by rfl) T.g_needless T.F_needless.kp T.b_needless .nil pass0 (pa_cons (pv 7) pa_nil)) (pv 8) (nomark _)))))) (pss_one (ps_ret pe_bl)) pss_nil)
      (pss_one (ps_if (PW.pt (pw_or (pt_cmpR (op_neDK K hr.units) (pe_call (G_needless T) (hr.mono (by decide)) (by rfl) T.g_needless T.F_needless.kp T.b_needless .nil pass0 (pa_cons (pv 10) pa_nil)) (pe_lst pa_nil) (nomark _)) (pw_or (pt_cmpR (op_ownNe T.oe_Addresses (G_Addresses_eq T) (hr.mono (by decide)) T.b_Addresses_eq pass0) (pe_call (G_trimmed T) (hr.mono (by decide)) (by rfl) T.g_trimmed T.F_trimmed.kp T.b_trimmed .nil pass0 (pa_cons (pv 10) pa_nil)) (pv 10) (nomark _)) (pw_or1 (pt_cmpR (op_neDK K hr.units) (pe_callTy (call_listK K) (by rfl) T.z_list (by decide +kernel) (pa_cons (pe_prop (pv 7) T.cl_Addresses T.p_Addresses_words (G_Addresses_words T) (hr.mono (by decide)) T.b_Addresses_words .nil pass0 rfl) pa_nil)) (pv 5) (nomark _)))))) (pss_one (ps_ret pe_bl)) pss_nil))))))))))))))
      (pss_one (ps_ret pe_bl)))
    , ?_⟩
    have hN : ∀ m : Nat, m ≤ 63 → ∃ n : Int, (if (if (m : Int) < 6 then (m : Int) else 6) > 2 then (if (m : Int) < 6 then (m : Int) else 6) else 2) = n ∧ 0 ≤ n ∧ n ≤ 100 := fun m hm => ⟨_, rfl, by split <;> split <;> omega, by split <;> split <;> omega⟩
    obtain ⟨n, hn, hn0, hn1⟩ := hN ns.length hl
    have hev : Ev (tCB (rLenS K) (tCons (tVar 0) tNil)) (L2.start N_law [V.ref a]) H (.int ns.length) := by
      have e := ev_len (K := K) (ta := tVar 0) (σ := L2.start N_law [V.ref a]) (H := H) (ev_var rfl) hS
      rw [List.length_map] at e
      exact e
    refine q_forR1 (n := n) (ea_cons (ev_cb (ea_cons ev_c (ea_cons (ev_cb (ea_cons ev_c (ea_cons hev ea_nil)) fun H1 e Q k => ⟨_, _, rfl, k H1 (Ex.refl H1)⟩) ea_nil)) fun H1 e Q k => ⟨_, _, rfl, by rw [hn]; exact k H1 (Ex.refl H1)⟩) ea_nil) ⟨hn0, by omega⟩
      (fun i σ' H' => ∃ x1 x2 x3 x4 x5 x6 x7 x8 x9 x10 x11 x12 x13 x14, σ' = [some (.ref a), x1, x2, x3, x4, x5, x6, x7, x8, x9, x10, x11, x12, x13, x14] ∧ Ex H H') (fun H1 e => ⟨_, _, _, _, _, _, _, _, _, _, _, _, _, _, rfl, e⟩) (fun i σ' H' hi hp => ?_) (fun σ' H' _ => q H')
    obtain ⟨x1, x2, x3, x4, x5, x6, x7, x8, x9, x10, x11, x12, x13, x14, rfl, e0⟩ := hp
    refine ⟨.ref a, rfl, .int i, rfl, a, ns, i, rfl, ex_l e0 hS, by omega, fun c => ?_⟩
    refine ⟨c, rfl, fun b o hb ho => ?_⟩
    -- the box is at b; what is known: the heap ahead of it
    have w0 : Wb b H' (upd H' b o) (1000 + 200 + 200) := ⟨Ex.new hb, hb, 0, ⟨o, upd_same, ho⟩, by decide⟩
    refine c_asg (c_lst (c_cons (b_call (b := b) (c := 200) (k := 1200) (A := A_wd K) w0 rfl es_nil ⟨_, rfl, [""], ⟨⟨by decide, by decide, by decide +kernel, by decide⟩, by decide, by decide⟩, rfl⟩ fun p1 v1 H1 G1 hA1 f1 w1 h1 => c_cons (b_call (b := b) (c := 200) (k := 1000) (A := A_wd K) w1 rfl es_nil ⟨_, rfl, [""], ⟨⟨by decide, by decide, by decide +kernel, by decide⟩, by decide, by decide⟩, rfl⟩ fun p2 v2 H2 G2 hA2 f2 w2 h2 => ?_))))
    obtain ⟨_, ws1, wd1, rfl⟩ := hA1
    obtain ⟨_, ws2, wd2, rfl⟩ := hA2
    refine ⟨by show 2 ≤ sizeLine; decide, fun pr hpr => ?_⟩
    have f3 := Fr.new w2.e (o := .lst [v1, v2]) hpr
    have w3 := w2.go f3
    have g3 : Ex H' (upd G2 pr (.lst [v1, v2])) := (f1.g.trans f2.g).trans f3.g
    have hrow : (pLst K ([ws1, ws2].map (en K))).on (upd G2 pr (.lst [v1, v2])) (.ref pr) := ⟨pr, [v1, v2], rfl, upd_same, (en K ws1).up (f2.g.trans f3.g) h1, (en K ws2).up f3.g h2, trivial⟩
    generalize upd G2 pr (.lst [v1, v2]) = G3 at *
    generalize upd H2 pr (.lst [v1, v2]) = H3 at *
    have hgd : ∀ ws ∈ [ws1, ws2], Gd ws := fun ws h => by
      rcases List.mem_cons.mp h with rfl | h
      · exact wd1.gd
      · rw [List.mem_singleton.mp h]
        exact wd2.gd
    refine q_asgP (p := pLst K ([ws1, ws2].map (pAds K T.C_Addresses))) w3.e (EvN.ep (en_lcN (pAds K T.C_Addresses) (ei_list (l := [ws1, ws2]) (c := en K) (ep_var rfl hrow)) (by show 2 < 100000; decide) (fun _ => rfl) fun ws x G4 hm e4 hx => ep_make (A := A_ini K) (es_cons (ep_var rfl hx) es_nil) ⟨ws, rfl, hgd ws hm, rfl⟩)) fun vb H4 G4 f4 hbk => ?_
    have hrow4 := (pLst K _).up f4.g hrow
    refine s_forP f4.k (ei_list (l := [0, 1, 0]) (c := fun n : Nat => pV (.int (n : Nat))) (ep_lst (K := K) (es_cons (ep_v ev_c) (es_cons (ep_v ev_c) (es_cons (ep_v ev_c) es_nil))) (by show 3 ≤ 100000; decide))) (fun a σ' => tg_name)
      (fun i' σ' G' H' => ∃ x5 x6 x7 x8 x9 x10 x11 x12 x13 x14, σ' = [some (.ref a), some (.int i), some (.ref b), some (.ref pr), some vb, x5, x6, x7, x8, x9, x10, x11, x12, x13, x14])
      (fun H5 G5 f5 => ⟨_, _, _, _, _, _, _, _, _, _, rfl⟩) (fun i' σ' Ga Ha Gc Hc hp _ f => hp) (fun i' t σ' Gb G5 H5 σ2 hla eb1 eb2 e5 hp hF => ?_) (fun σ' G5 H5 e4 e5 hp => ?_)
    · obtain ⟨x5, x6, x7, x8, x9, x10, x11, x12, x13, x14, rfl⟩ := hp
      obtain ⟨x, hx, rfl⟩ := hF
      have hx' : x = .int (t : Nat) := hx
      subst hx'
      obtain ⟨ws, hm, q1, q2⟩ : ∃ ws, ws ∈ [ws1, ws2] ∧ atI ([ws1, ws2].map (en K)) (t : Nat) = some (en K ws) ∧ atI ([ws1, ws2].map (pAds K T.C_Addresses)) (t : Nat) = some (pAds K T.C_Addresses ws) := by
        have ht : t = 0 ∨ t = 1 := by
          have := List.mem_of_getElem? hla
          simp at this
          omega
        rcases ht with rfl | rfl
        · exact ⟨ws1, List.mem_cons_self .., rfl, rfl⟩
        · exact ⟨ws2, List.mem_cons_of_mem _ (List.mem_cons_self ..), rfl, rfl⟩
      have g := hgd ws hm
      have hnl : ((needL ws).map (en K)).length < 100000 := by
        rw [List.length_map]
        have h1 := List.length_filter_le (needP ws) (List.range (lenW ws))
        rw [List.length_range] at h1
        have h2 := lenW_le g
        unfold needL
        omega
      have gt := trim_good g
      have hle := g.le
      have layW : ∀ {us : List Str}, Gd us → ∀ s ∈ us, PyData.strOk s = true := fun gu s hs => okS_lay (gu.ok s hs)
      have eg5 := eb1.trans eb2
      refine c_par ((es_cons (ep_ixL (ep_var rfl ((pLst K _).up eg5 hrow4)) (ev_var rfl) q1) (es_cons (ep_ixL (ep_var rfl ((pLst K _).up eg5 hbk)) (ev_var rfl) q2) es_nil)) H5 e5 _ fun vs H6 G6 f6 hvs => ?_)
      obtain ⟨vw, vk, rfl, hvw, hvk⟩ := hvs.two
      refine ⟨vw, vk, rfl, ?_⟩
      -- due, told, less
      refine c_asgG (c_tup (c_cons ((ep_call (A := A_ln K) (es_cons (ep_var rfl hvw) es_nil) ⟨ws, rfl, g, rfl⟩) H6 f6.k _ fun vd H7 G7 f7 hvd => c_cons ((en_call (A := A_need K T.C_Addresses) (es_cons (ep_var rfl ((pAds K _ ws).up f7.g hvk)) es_nil) ⟨ws, rfl, g, rfl⟩) H7 f7.k _ fun pt xs8 H8 G8 f8 n1 n2 n3 n4 => c_cons ((ep_call (A := A_trim K T.C_Addresses) (es_cons (ep_var rfl ((pAds K _ ws).up (f7.g.trans f8.g) hvk)) es_nil) ⟨ws, rfl, g, rfl⟩) H8 f8.k _ fun vl H9 G9 f9 hvl => ?_)))))
      have c8 : Cq G7 H7 pt ((needL ws).map (en K)) G8 H8 := Cq.of f8 n1 n2 n3 n4
      refine ⟨by show 3 ≤ sizeLine; decide, fun pu hpu => ?_⟩
      have f10 := Fr.new f9.k (o := .tup [vd, .ref pt, vl]) hpu
      have c10 := (c8.go f9).go f10
      refine ⟨pu, [vd, .ref pt, vl], rfl, st_of upd_same, rfl, vd, _, rfl, .ref pt, _, rfl, vl, _, rfl, rfl, ?_⟩
      have g10 : Ex G6 (upd G9 pu (.tup [vd, .ref pt, vl])) := (f7.g.trans f8.g).trans (f9.g.trans f10.g)
      have hvd10 := (en K (lneed ws)).up ((f8.g.trans f9.g).trans f10.g) hvd
      have hvl10 := (pAds K T.C_Addresses (trimL ws)).up f10.g hvl
      have hvw10 := (en K ws).up g10 hvw
      have hvk10 := (pAds K T.C_Addresses ws).up g10 hvk
      generalize upd G9 pu (.tup [vd, .ref pt, vl]) = G10 at *
      generalize upd H9 pu (.tup [vd, .ref pt, vl]) = H10 at *
      rw [lneed_eq] at hvd10
      obtain ⟨G11, k11, e11, hon⟩ := c10.known (K := K)
      refine q_whenP k11.k (et_or2 (et_test (ev_neD (K := K) (α := List Nat) (a := needL ws) (b := needL ws) (ep_var rfl hon) (ep_var rfl ((en K (needL ws)).up e11 hvd10)) (fun _ _ => trivial) (fun _ _ => trivial))) (et_not (et_B (ev_isA (b := true) (ep_var rfl hon) ev_c (.ty _) pty_lst (kit_ty (by decide +kernel))))) (by rw [decide_eq_true rfl]; rfl) rfl) (fun hb => nomatch hb) fun _ H11 f11 => ?_
      have c11 := c10.go (Fr.same c10.k f11.h)
      refine q_addP c11 rfl (ep_v ev_c) hnl fun H12 G12 c12 e12 => ?_
      have hvd12 := (en K (needL ws)).up e12 hvd10
      have hvl12 := (pAds K T.C_Addresses (trimL ws)).up e12 hvl10
      have hvw12 := (en K ws).up e12 hvw10
      have hvk12 := (pAds K T.C_Addresses ws).up e12 hvk10
      -- kept
      refine q_asgP (p := en K (trimL ws)) c12.k (EvP.is (p := pLst K (ws.map fun w => pV (.str (pick (keptL ws) w)))) (EvN.ep (en_lcN _ (ei_list (l := ws) (c := en K) (ep_var rfl hvw12)) (by omega) (fun _ => rfl) fun u x G13 hm13 e13 hx => ep_v (ev_is (ev_joinL (K := K) (ss := (u.cps.toList.zipIdx.filter fun x => !decide (x.2 ∈ needL ws)).map fun x => ⟨#[x.1]⟩) ev_c ?_ ?_) ?_))) ?_) fun vq H13 G13 f13 hvq => ?_
      · rw [List.map_map]
        refine EvN.ep (en_lcP (K := K) (fun x => !decide (x.2 ∈ needL ws)) (fun x => pV (.str ⟨#[x.1]⟩)) (ei_enumS (K := K) (ev_at rfl hx)) ?_ (fun _ _ => rfl) (fun y z1 z2 G14 _ e14 h1 h2 => et_test (ev_is (ev_inIs (K := K) (ss := (needL ws).map fun k : Nat => (k : Int)) (neg := true) (ev_at rfl h1) ?_) ?_)) (fun y z1 z2 G14 _ _ e14 h1 h2 => ep_var rfl h2))
        · rw [List.length_zipIdx, Array.length_toList]
          have := okS_len (g.ok u hm13)
          have : u.cps.size ≤ 60 := this
          omega
        · rw [List.map_map]
          exact ep_var rfl ((en K (needL ws)).up (e13.trans e14) hvd12)
        · show V.bl (!decide _) = V.bl (!decide _)
          congr 2
          refine decide_eq_decide.mpr ⟨fun h => ?_, fun h => List.mem_map.mpr ⟨y.2, h, rfl⟩⟩
          obtain ⟨m, h1, h2⟩ := List.mem_map.mp h
          have : m = y.2 := by omega
          rw [← this]
          exact h1
      · have e1 : ∀ l : List (Nat × Nat), (l.map fun x => (⟨#[x.1]⟩ : Str)) = (l.map (·.1)).map fun c => ⟨#[c]⟩ := fun l => by rw [List.map_map]; rfl
        rw [e1, signs_sum, List.length_map, List.length_map, List.length_map]
        show _ + _ * 0 ≤ _
        have h1 := List.length_filter_le (fun x : Nat × Nat => !decide (x.2 ∈ needL ws)) u.cps.toList.zipIdx
        have h2 : u.cps.toList.zipIdx.length = u.cps.size := by rw [List.length_zipIdx, Array.length_toList]
        have h3 : u.cps.size ≤ 60 := okS_len (g.ok u hm13)
        omega
      · have e1 : ∀ l : List (Nat × Nat), (l.map fun x => (⟨#[x.1]⟩ : Str)) = (l.map (·.1)).map fun c => ⟨#[c]⟩ := fun l => by rw [List.map_map]; rfl
        rw [e1, join_signs, ← pick_enum g hm13]
      · rw [en_list]
        unfold trimL
        rw [List.map_map]
        rfl
      have hvd13 := (en K (needL ws)).up f13.g hvd12
      have hvl13 := (pAds K T.C_Addresses (trimL ws)).up f13.g hvl12
      have hvw13 := (en K ws).up f13.g hvw12
      have hvk13 := (pAds K T.C_Addresses ws).up f13.g hvk12
      refine q_whenP f13.k (et_or2 (et_test (ev_neD (K := K) (α := List Str) (a := trimL ws) (b := trimL ws) (en_listT (K := K) (ps := (trimL ws).map (en K)) (ep_prop (ep_var rfl hvl13) ⟨trimL ws, rfl, rfl⟩)).ep (ep_var rfl hvq) (layW gt) (layW gt)))
        (et_or2 (et_test (ev_neD (K := K) (α := List (Tu Nat)) (a := tabL (trimL ws)) (b := tabL ws) (en_meth (A := A_tab K T.C_Addresses) (ep_var rfl hvl13) es_nil rfl ⟨trimL ws, rfl, gt, rfl⟩).ep (en_meth (A := A_tab K T.C_Addresses) (ep_var rfl hvk13) es_nil rfl ⟨ws, rfl, g, rfl⟩).ep (fun _ _ _ _ => trivial) (fun _ _ _ _ => trivial)))
          (et_test (ev_neD (K := K) (α := List Nat) (a := needL ws) (b := needL ws) (en_call (A := A_need K T.C_Addresses) (es_cons (ep_var rfl hvk13) es_nil) ⟨ws, rfl, g, rfl⟩).ep (ep_var rfl hvd13) (fun _ _ => trivial) (fun _ _ => trivial))) (by rw [decide_eq_true (tab_trim g)]; rfl) (by rw [decide_eq_true rfl]; rfl)) (by rw [decide_eq_true rfl]; rfl) rfl) (fun hb => nomatch hb) fun _ H14 f14 => ?_
      refine s_whenP f14.k (et_or2 (et_test (ev_neD (K := K) (α := List Nat) (a := needL (trimL ws)) (b := []) (en_call (A := A_need K T.C_Addresses) (es_cons (ep_var rfl hvl13) es_nil) ⟨trimL ws, rfl, gt, rfl⟩).ep (ep_lst (K := K) es_nil (Nat.zero_le _)) (fun _ _ => trivial) (fun _ _ => trivial)))
        (et_or2 (et_test (ev_ownE (A := A_eq K T.C_Addresses) (neg := true) (ep_call (A := A_trim K T.C_Addresses) (es_cons (ep_var rfl hvl13) es_nil) ⟨trimL ws, rfl, gt, rfl⟩) (ep_var rfl hvl13) ⟨trimL (trimL ws), trimL ws, rfl, trim_good gt, gt, rfl⟩))
          (et_test (ev_neD (K := K) (α := List Str) (a := ws) (b := ws) (en_listT (K := K) (ps := ws.map (en K)) (ep_prop (ep_var rfl hvk13) ⟨ws, rfl, rfl⟩)).ep (ep_var rfl hvw13) (layW g) (layW g))) (by rw [decide_eq_true (trim_trim g)]; rfl) (by rw [decide_eq_true rfl]; rfl)) (by rw [decide_eq_true (need_trim g)]; rfl) rfl) (fun hb => nomatch hb) fun _ H15 f15 => ?_
      exact ⟨G13, eb2.trans ((f6.g.trans g10).trans (e12.trans f13.g)), f15.k, _, _, _, _, _, _, _, _, _, _, rfl⟩
    · obtain ⟨x5, x6, x7, x8, x9, x10, x11, x12, x13, x14, rfl⟩ := hp
      exact ⟨_, _, _, _, _, _, _, _, _, _, _, _, _, _, rfl, e0.trans ((g3.trans f4.g).trans (e4.trans e5))⟩
end
theorem all_mk {w : World} {K : PySem.W.Frag} {h : Heap} {mg : Str → Option Value} {fa : Addr} (X : K.In h) (G : h.Ns mainGlobals mg) (hfa : mg "law" = some (.ref fa))
    {C_Addresses : Addr}
    {f1 : Addr} {od1 an1 : Option Addr} {sl1 : Array (Option Value)} {oc1 kV1 dc1 pm1 cd1 ct1 : Value}
    {f2 : Addr} {od2 an2 : Option Addr} {sl2 : Array (Option Value)} {oc2 kV2 dc2 pm2 cd2 ct2 : Value}
    {f3 : Addr} {od3 an3 : Option Addr} {sl3 : Array (Option Value)} {oc3 kV3 dc3 pm3 cd3 ct3 : Value}
    {f4 : Addr} {od4 an4 : Option Addr} {sl4 : Array (Option Value)} {oc4 kV4 dc4 pm4 cd4 ct4 : Value}
    {f5 : Addr} {od5 an5 : Option Addr} {sl5 : Array (Option Value)} {oc5 kV5 dc5 pm5 cd5 ct5 : Value}
    {f6 : Addr} {od6 an6 : Option Addr} {sl6 : Array (Option Value)} {oc6 kV6 dc6 pm6 cd6 ct6 : Value}
    {f7 : Addr} {od7 an7 : Option Addr} {sl7 : Array (Option Value)} {oc7 kV7 dc7 pm7 cd7 ct7 : Value}
    {q7 : Addr} {rs7 : List Value}
    {f8 : Addr} {od8 an8 : Option Addr} {sl8 : Array (Option Value)} {oc8 kV8 dc8 pm8 cd8 ct8 : Value}
    {q8 : Addr} {rs8 : List Value}
    {f9 : Addr} {od9 an9 : Option Addr} {sl9 : Array (Option Value)} {oc9 kV9 dc9 pm9 cd9 ct9 : Value}
    {en9 eq9 : Str} {eN9 : Addr} {eb9 es9 : List Value} {eh9 ea9 : Bool} {esn9 : List Str} {ec9 : Option Bool} {ed9 : Option Addr} {e09 e19 e29 e39 e59 : Option Value} {ei9 : String} {ox9 : Value} {oy9 : Option Addr} {oz9 : Array DictEntry} {ow9 : Nat} {ov9 : Array (Option Value)}
    {f10 : Addr} {od10 an10 : Option Addr} {sl10 : Array (Option Value)} {oc10 kV10 dc10 pm10 cd10 ct10 : Value}
    {f11 : Addr} {od11 an11 : Option Addr} {sl11 : Array (Option Value)} {oc11 kV11 dc11 pm11 cd11 ct11 : Value}
    {f12 : Addr} {od12 an12 : Option Addr} {sl12 : Array (Option Value)} {oc12 kV12 dc12 pm12 cd12 ct12 : Value}
    {f13 : Addr} {od13 an13 : Option Addr} {sl13 : Array (Option Value)} {oc13 kV13 dc13 pm13 cd13 ct13 : Value}
    {f14 : Addr} {od14 an14 : Option Addr} {sl14 : Array (Option Value)} {oc14 kV14 dc14 pm14 cd14 ct14 : Value}
    {f15 : Addr} {od15 an15 : Option Addr} {sl15 : Array (Option Value)} {oc15 kV15 dc15 pm15 cd15 ct15 : Value}
    {f16 : Addr} {od16 an16 : Option Addr} {sl16 : Array (Option Value)} {oc16 kV16 dc16 pm16 cd16 ct16 : Value}
    {f17 : Addr} {od17 an17 : Option Addr} {sl17 : Array (Option Value)} {oc17 kV17 dc17 pm17 cd17 ct17 : Value}
    {f18 : Addr} {od18 an18 : Option Addr} {sl18 : Array (Option Value)} {oc18 kV18 dc18 pm18 cd18 ct18 : Value}
    {f19 : Addr} {od19 an19 : Option Addr} {sl19 : Array (Option Value)} {oc19 kV19 dc19 pm19 cd19 ct19 : Value}
    {f20 : Addr} {od20 an20 : Option Addr} {sl20 : Array (Option Value)} {oc20 kV20 dc20 pm20 cd20 ct20 : Value}
    {t0 : Tok}
    {t1 : Tok}
    {t2 : Tok} 
    (cg_Addresses : PySem.W.nsIn K mainGlobals "Addresses" = some (some (.ref C_Addresses)))
    (c1_Addresses : PySem.W.plainGet K C_Addresses Str.empty = true)
    (c2_Addresses : PySem.W.hasDictIn K C_Addresses = true)
    (c3_Addresses : PySem.W.plainOver K C_Addresses = true)
    (c4_Addresses : PySem.W.findIn K (.ref C_Addresses) "__setattr__" = some (some (.builtin "object.__setattr__")))
    (i1_Addresses : PySem.W.findIn K (.ref C_Addresses) "__class__" = some (some (.builtin "object.__class__")))
    (i2_Addresses : PySem.W.specialIn K (.builtin "object.__class__") "__get__" = some (some (.builtin "getset_descriptor.__get__")))
    (i3_Addresses : PySem.W.takesIn K (.builtin "object.__class__") = some true)
    (i4_Addresses : PySem.W.mroIn K C_Addresses (.type "object") = some true)
    (kk_Addresses : PySem.W.kitOne K (.ref C_Addresses) (.ref C_Addresses) = some true)
    (na_Addresses_kept : PySem.W.findIn K (.ref C_Addresses) "kept" = some none)
    (a1 : PySem.W.nsIn K mainGlobals "is_word" = some (some (.ref f1)))
    (l1 : K.lookup f1 = some ⟨oc1, od1, .func (PySem.W.fnOf "is_word" "is_word" (defArgs s_is_word) (defBody s_is_word) (defScope s_is_word) .none kV1 dc1 pm1 an1 cd1 ct1), sl1⟩)
    (c1 : PySem.W.codeIn K cd1 "is_word" = true)
    (k1 : PySem.W.keepIn K (.ref f1) = true)
    (a2 : PySem.W.nsIn K mainGlobals "check_word" = some (some (.ref f2)))
    (l2 : K.lookup f2 = some ⟨oc2, od2, .func (PySem.W.fnOf "check_word" "check_word" (defArgs s_check_word) (defBody s_check_word) (defScope s_check_word) .none kV2 dc2 pm2 an2 cd2 ct2), sl2⟩)
    (c2 : PySem.W.codeIn K cd2 "check_word" = true)
    (k2 : PySem.W.keepIn K (.ref f2) = true)
    (a3 : PySem.W.nsIn K mainGlobals "differing" = some (some (.ref f3)))
    (l3 : K.lookup f3 = some ⟨oc3, od3, .func (PySem.W.fnOf "differing" "differing" (defArgs s_differing) (defBody s_differing) (defScope s_differing) .none kV3 dc3 pm3 an3 cd3 ct3), sl3⟩)
    (c3 : PySem.W.codeIn K cd3 "differing" = true)
    (k3 : PySem.W.keepIn K (.ref f3) = true)
    (a4 : PySem.W.nsIn K mainGlobals "apart" = some (some (.ref f4)))
    (l4 : K.lookup f4 = some ⟨oc4, od4, .func (PySem.W.fnOf "apart" "apart" (defArgs s_apart) (defBody s_apart) (defScope s_apart) .none kV4 dc4 pm4 an4 cd4 ct4), sl4⟩)
    (c4 : PySem.W.codeIn K cd4 "apart" = true)
    (k4 : PySem.W.keepIn K (.ref f4) = true)
    (a5 : PySem.W.nsIn K mainGlobals "are_words" = some (some (.ref f5)))
    (l5 : K.lookup f5 = some ⟨oc5, od5, .func (PySem.W.fnOf "are_words" "are_words" (defArgs s_are_words) (defBody s_are_words) (defScope s_are_words) .none kV5 dc5 pm5 an5 cd5 ct5), sl5⟩)
    (c5 : PySem.W.codeIn K cd5 "are_words" = true)
    (k5 : PySem.W.keepIn K (.ref f5) = true)
    (a6 : PySem.W.findIn K (.ref C_Addresses) "__init__" = some (some (.ref f6)))
    (fn6 : PySem.W.isFn K (.ref f6) = true)
    (mm6 : PySem.W.makesIn K C_Addresses = true)
    (mk6 : PySem.W.keepIn K (.ref C_Addresses) = true)
    (l6 : K.lookup f6 = some ⟨oc6, od6, .func (PySem.W.fnOf "__init__" "Addresses.__init__" (defArgs s_Addresses_init) (defBody s_Addresses_init) (defScope s_Addresses_init) .none kV6 dc6 pm6 an6 cd6 ct6), sl6⟩)
    (c6 : PySem.W.codeIn K cd6 "Addresses.__init__" = true)
    (k6 : PySem.W.keepIn K (.ref f6) = true)
    (a7 : PySem.W.findIn K (.ref C_Addresses) "words" = some (some (.ref q7)))
    (pr7 : PySem.W.recIn K q7 "property" = some (.ref f7 :: rs7))
    (pg7 : PySem.W.specialIn K (.ref q7) "__get__" = some (some (.builtin "property.__get__")))
    (pt7 : PySem.W.takesIn K (.ref q7) = some true)
    (l7 : K.lookup f7 = some ⟨oc7, od7, .func (PySem.W.fnOf "words" "Addresses.words" (defArgs s_Addresses_words) (defBody s_Addresses_words) (defScope s_Addresses_words) .none kV7 dc7 pm7 an7 cd7 ct7), sl7⟩)
    (c7 : PySem.W.codeIn K cd7 "Addresses.words" = true)
    (k7 : PySem.W.keepIn K (.ref f7) = true)
    (a8 : PySem.W.findIn K (.ref C_Addresses) "length" = some (some (.ref q8)))
    (pr8 : PySem.W.recIn K q8 "property" = some (.ref f8 :: rs8))
    (pg8 : PySem.W.specialIn K (.ref q8) "__get__" = some (some (.builtin "property.__get__")))
    (pt8 : PySem.W.takesIn K (.ref q8) = some true)
    (l8 : K.lookup f8 = some ⟨oc8, od8, .func (PySem.W.fnOf "length" "Addresses.length" (defArgs s_Addresses_length) (defBody s_Addresses_length) (defScope s_Addresses_length) .none kV8 dc8 pm8 an8 cd8 ct8), sl8⟩)
    (c8 : PySem.W.codeIn K cd8 "Addresses.length" = true)
    (k8 : PySem.W.keepIn K (.ref f8) = true)
    (a9 : PySem.W.findIn K (.ref C_Addresses) "__eq__" = some (some (.ref f9)))
    (fn9 : PySem.W.isFn K (.ref f9) = true)
    (oa9 : K.lookup C_Addresses = some (excClassObj en9 eq9 C_Addresses eN9 eb9 [.type "object"] eh9 esn9 es9 ea9 ec9 ed9 e09 e19 e29 e39 e59 ei9))
    (ob9 : K.lookup eN9 = some ⟨ox9, oy9, .dict oz9 ow9, ov9⟩)
    (ok9 : keysOk oz9 = true)
    (oc9_ : PySem.W.nsIn K eN9 "__eq__" = some (some (.ref f9)))
    (od9_ : PySem.W.nsIn K eN9 "__ne__" = some none)
    (l9 : K.lookup f9 = some ⟨oc9, od9, .func (PySem.W.fnOf "__eq__" "Addresses.__eq__" (defArgs s_Addresses_eq) (defBody s_Addresses_eq) (defScope s_Addresses_eq) .none kV9 dc9 pm9 an9 cd9 ct9), sl9⟩)
    (oo9 : oc9 = .type "function")
    (c9 : PySem.W.codeIn K cd9 "Addresses.__eq__" = true)
    (k9 : PySem.W.keepIn K (.ref f9) = true)
    (a10 : PySem.W.findIn K (.ref C_Addresses) "table" = some (some (.ref f10)))
    (fn10 : PySem.W.isFn K (.ref f10) = true)
    (l10 : K.lookup f10 = some ⟨oc10, od10, .func (PySem.W.fnOf "table" "Addresses.table" (defArgs s_Addresses_table) (defBody s_Addresses_table) (defScope s_Addresses_table) .none kV10 dc10 pm10 an10 cd10 ct10), sl10⟩)
    (c10 : PySem.W.codeIn K cd10 "Addresses.table" = true)
    (k10 : PySem.W.keepIn K (.ref f10) = true)
    (a11 : PySem.W.nsIn K mainGlobals "check_addresses" = some (some (.ref f11)))
    (l11 : K.lookup f11 = some ⟨oc11, od11, .func (PySem.W.fnOf "check_addresses" "check_addresses" (defArgs s_check_addresses) (defBody s_check_addresses) (defScope s_check_addresses) .none kV11 dc11 pm11 an11 cd11 ct11), sl11⟩)
    (c11 : PySem.W.codeIn K cd11 "check_addresses" = true)
    (k11 : PySem.W.keepIn K (.ref f11) = true)
    (a12 : PySem.W.nsIn K mainGlobals "needless" = some (some (.ref f12)))
    (l12 : K.lookup f12 = some ⟨oc12, od12, .func (PySem.W.fnOf "needless" "needless" (defArgs s_needless) (defBody s_needless) (defScope s_needless) .none kV12 dc12 pm12 an12 cd12 ct12), sl12⟩)
    (c12 : PySem.W.codeIn K cd12 "needless" = true)
    (k12 : PySem.W.keepIn K (.ref f12) = true)
    (a13 : PySem.W.nsIn K mainGlobals "trimmed" = some (some (.ref f13)))
    (l13 : K.lookup f13 = some ⟨oc13, od13, .func (PySem.W.fnOf "trimmed" "trimmed" (defArgs s_trimmed) (defBody s_trimmed) (defScope s_trimmed) .none kV13 dc13 pm13 an13 cd13 ct13), sl13⟩)
    (c13 : PySem.W.codeIn K cd13 "trimmed" = true)
    (k13 : PySem.W.keepIn K (.ref f13) = true)
    (a14 : PySem.W.nsIn K mainGlobals "_law_cell_at" = some (some (.ref f14)))
    (l14 : K.lookup f14 = some ⟨oc14, od14, .func (PySem.W.fnOf "_law_cell_at" "_law_cell_at" (defArgs s_law_cell_at) (defBody s_law_cell_at) (defScope s_law_cell_at) .none kV14 dc14 pm14 an14 cd14 ct14), sl14⟩)
    (c14 : PySem.W.codeIn K cd14 "_law_cell_at" = true)
    (k14 : PySem.W.keepIn K (.ref f14) = true)
    (a15 : PySem.W.nsIn K mainGlobals "_law_box" = some (some (.ref f15)))
    (l15 : K.lookup f15 = some ⟨oc15, od15, .func (PySem.W.fnOf "_law_box" "_law_box" (defArgs s_law_box) (defBody s_law_box) (defScope s_law_box) .none kV15 dc15 pm15 an15 cd15 ct15), sl15⟩)
    (c15 : PySem.W.codeIn K cd15 "_law_box" = true)
    (k15 : PySem.W.keepIn K (.ref f15) = true)
    (a16 : PySem.W.nsIn K mainGlobals "_law_take" = some (some (.ref f16)))
    (l16 : K.lookup f16 = some ⟨oc16, od16, .func (PySem.W.fnOf "_law_take" "_law_take" (defArgs s_law_take) (defBody s_law_take) (defScope s_law_take) .none kV16 dc16 pm16 an16 cd16 ct16), sl16⟩)
    (c16 : PySem.W.codeIn K cd16 "_law_take" = true)
    (k16 : PySem.W.keepIn K (.ref f16) = true)
    (a17 : PySem.W.nsIn K mainGlobals "_law_apart" = some (some (.ref f17)))
    (l17 : K.lookup f17 = some ⟨oc17, od17, .func (PySem.W.fnOf "_law_apart" "_law_apart" (defArgs s_law_apart) (defBody s_law_apart) (defScope s_law_apart) .none kV17 dc17 pm17 an17 cd17 ct17), sl17⟩)
    (c17 : PySem.W.codeIn K cd17 "_law_apart" = true)
    (k17 : PySem.W.keepIn K (.ref f17) = true)
    (a18 : PySem.W.nsIn K mainGlobals "_law_words" = some (some (.ref f18)))
    (l18 : K.lookup f18 = some ⟨oc18, od18, .func (PySem.W.fnOf "_law_words" "_law_words" (defArgs s_law_words) (defBody s_law_words) (defScope s_law_words) .none kV18 dc18 pm18 an18 cd18 ct18), sl18⟩)
    (c18 : PySem.W.codeIn K cd18 "_law_words" = true)
    (k18 : PySem.W.keepIn K (.ref f18) = true)
    (a19 : PySem.W.nsIn K mainGlobals "_law_needless" = some (some (.ref f19)))
    (l19 : K.lookup f19 = some ⟨oc19, od19, .func (PySem.W.fnOf "_law_needless" "_law_needless" (defArgs s_law_needless) (defBody s_law_needless) (defScope s_law_needless) .none kV19 dc19 pm19 an19 cd19 ct19), sl19⟩)
    (c19 : PySem.W.codeIn K cd19 "_law_needless" = true)
    (k19 : PySem.W.keepIn K (.ref f19) = true)
    (a20 : PySem.W.nsIn K mainGlobals "law" = some (some (.ref f20)))
    (l20 : K.lookup f20 = some ⟨oc20, od20, .func (PySem.W.fnOf "law" "law" (defArgs s_law) (defBody s_law) (defScope s_law) .none kV20 dc20 pm20 an20 cd20 ct20), sl20⟩)
    (c20 : PySem.W.codeIn K cd20 "law" = true)
    (k20 : PySem.W.keepIn K (.ref f20) = true)
    (al0 : PySem.W.nsIn K mainGlobals "apart_words" = some (some (.ref f4)))
    (z0 : PySem.W.nsIn K mainGlobals "isinstance" = some none)
    (z1 : PySem.W.nsIn K mainGlobals "str" = some none)
    (z2 : PySem.W.nsIn K mainGlobals "all" = some none)
    (z3 : PySem.W.nsIn K mainGlobals "len" = some none)
    (z4 : PySem.W.nsIn K mainGlobals "enumerate" = some none)
    (z5 : PySem.W.nsIn K mainGlobals "zip" = some none)
    (z6 : PySem.W.nsIn K mainGlobals "list" = some none)
    (z7 : PySem.W.nsIn K mainGlobals "tuple" = some none)
    (z8 : PySem.W.nsIn K mainGlobals "range" = some none)
    (z9 : PySem.W.nsIn K mainGlobals "max" = some none)
    (z10 : PySem.W.nsIn K mainGlobals "int" = some none)
    (z11 : PySem.W.nsIn K mainGlobals "min" = some none)
    (q0 : PySem.W.nsIn K mainGlobals "MOST_SIGNS" = some (some (.int 60 t0)))
    (q1 : PySem.W.nsIn K mainGlobals "SIGNS" = some (some (.str "01*" t1)))
    (q2 : PySem.W.nsIn K mainGlobals "MOST_HOUSES" = some (some (.int 40 t2)))  :
    ∃ fd : FuncData, (∀ (s : Shared) (v : Value), BindsTo s fd ⟨[v], []⟩ [("_law_script", v)]) ∧ ∀ base : Heap, K.In base → base.Ns mainGlobals mg → FnOk PP w K mg base CX0 8 fa fd ["_law_script"] (spLaw K) := by
  have e := hfa.symm.trans (PySem.W.mg_of X G a20)
  cases e
  have F1 := fun_mk (st := s_is_word) l1 c1 k1
  have b1 := F1.binds (ps := ["value"]) fun _ _ _ _ _ _ us hl => match us, hl with | [_], _ => rfl
  have F2 := fun_mk (st := s_check_word) l2 c2 k2
  have b2 := F2.binds (ps := ["value"]) fun _ _ _ _ _ _ us hl => match us, hl with | [_], _ => rfl
  have F3 := fun_mk (st := s_differing) l3 c3 k3
  have b3 := F3.binds (ps := ["one", "other"]) fun _ _ _ _ _ _ us hl => match us, hl with | [_, _], _ => rfl
  have F4 := fun_mk (st := s_apart) l4 c4 k4
  have b4 := F4.binds (ps := ["one", "other"]) fun _ _ _ _ _ _ us hl => match us, hl with | [_, _], _ => rfl
  have F5 := fun_mk (st := s_are_words) l5 c5 k5
  have b5 := F5.binds (ps := ["value"]) fun _ _ _ _ _ _ us hl => match us, hl with | [_], _ => rfl
  have F6 := fun_mk (st := s_Addresses_init) l6 c6 k6
  have b6 := F6.binds (ps := ["self", "words"]) fun _ _ _ _ _ _ us hl => match us, hl with | [_, _], _ => rfl
  have F7 := fun_mk (st := s_Addresses_words) l7 c7 k7
  have b7 := F7.binds (ps := ["self"]) fun _ _ _ _ _ _ us hl => match us, hl with | [_], _ => rfl
  have F8 := fun_mk (st := s_Addresses_length) l8 c8 k8
  have b8 := F8.binds (ps := ["self"]) fun _ _ _ _ _ _ us hl => match us, hl with | [_], _ => rfl
  have F9 := fun_mk (st := s_Addresses_eq) l9 c9 k9
  have b9 := F9.binds (ps := ["self", "other"]) fun _ _ _ _ _ _ us hl => match us, hl with | [_, _], _ => rfl
  have F10 := fun_mk (st := s_Addresses_table) l10 c10 k10
  have b10 := F10.binds (ps := ["self"]) fun _ _ _ _ _ _ us hl => match us, hl with | [_], _ => rfl
  have F11 := fun_mk (st := s_check_addresses) l11 c11 k11
  have b11 := F11.binds (ps := ["value"]) fun _ _ _ _ _ _ us hl => match us, hl with | [_], _ => rfl
  have F12 := fun_mk (st := s_needless) l12 c12 k12
  have b12 := F12.binds (ps := ["addresses"]) fun _ _ _ _ _ _ us hl => match us, hl with | [_], _ => rfl
  have F13 := fun_mk (st := s_trimmed) l13 c13 k13
  have b13 := F13.binds (ps := ["addresses"]) fun _ _ _ _ _ _ us hl => match us, hl with | [_], _ => rfl
  have F14 := fun_mk (st := s_law_cell_at) l14 c14 k14
  have b14 := F14.binds (ps := ["_law_script", "_law_k"]) fun _ _ _ _ _ _ us hl => match us, hl with | [_, _], _ => rfl
  have F15 := fun_mk (st := s_law_box) l15 c15 k15
  have b15 := F15.binds (ps := ["_law_cell"]) fun _ _ _ _ _ _ us hl => match us, hl with | [_], _ => rfl
  have F16 := fun_mk (st := s_law_take) l16 c16 k16
  have b16 := F16.binds (ps := ["_law_box_here", "_law_many"]) fun _ _ _ _ _ _ us hl => match us, hl with | [_, _], _ => rfl
  have F17 := fun_mk (st := s_law_apart) l17 c17 k17
  have b17 := F17.binds (ps := ["_law_one", "_law_other"]) fun _ _ _ _ _ _ us hl => match us, hl with | [_, _], _ => rfl
  have F18 := fun_mk (st := s_law_words) l18 c18 k18
  have b18 := F18.binds (ps := ["_law_box_here"]) fun _ _ _ _ _ _ us hl => match us, hl with | [_], _ => rfl
  have F19 := fun_mk (st := s_law_needless) l19 c19 k19
  have b19 := F19.binds (ps := ["_law_words_here"]) fun _ _ _ _ _ _ us hl => match us, hl with | [_], _ => rfl
  have F20 := fun_mk (st := s_law) l20 c20 k20
  have b20 := F20.binds (ps := ["_law_script"]) fun _ _ _ _ _ _ us hl => match us, hl with | [_], _ => rfl
  have T : TX K mg := ⟨C_Addresses, (PySem.W.mg_of X G cg_Addresses), ⟨c1_Addresses, c2_Addresses, c3_Addresses, c4_Addresses⟩, ⟨i1_Addresses, i2_Addresses, i3_Addresses, i4_Addresses⟩, kk_Addresses, na_Addresses_kept, _, _, F1, b1, (PySem.W.mg_of X G a1), _, _, F2, b2, (PySem.W.mg_of X G a2), _, _, F3, b3, (PySem.W.mg_of X G a3), _, _, F4, b4, (PySem.W.mg_of X G a4), _, _, F5, b5, (PySem.W.mg_of X G a5), _, _, F6, b6, ⟨mm6, a6, fn6, mk6⟩, _, _, F7, b7, q7, ⟨a7, pg7, pt7, ⟨_, pr7⟩⟩, _, _, F8, b8, q8, ⟨a8, pg8, pt8, ⟨_, pr8⟩⟩, _, _, F9, b9, ⟨⟨_, _, _, _, _, _, _, _, _, _, _, _, _, _, _, _, oa9, nsOk_of ob9 ok9, oc9_, od9_⟩, ⟨_, l9, oo9⟩, a9, fn9⟩, _, _, F10, b10, ⟨a10, fn10, k10⟩, _, _, F11, b11, (PySem.W.mg_of X G a11), _, _, F12, b12, (PySem.W.mg_of X G a12), _, _, F13, b13, (PySem.W.mg_of X G a13), _, _, F14, b14, (PySem.W.mg_of X G a14), _, _, F15, b15, (PySem.W.mg_of X G a15), _, _, F16, b16, (PySem.W.mg_of X G a16), _, _, F17, b17, (PySem.W.mg_of X G a17), _, _, F18, b18, (PySem.W.mg_of X G a18), _, _, F19, b19, (PySem.W.mg_of X G a19), _, _, F20, b20, (PySem.W.mg_of X G a20), (PySem.W.mg_of X G al0), (PySem.W.mg_none_of X G z0), (PySem.W.mg_none_of X G z1), (PySem.W.mg_none_of X G z2), (PySem.W.mg_none_of X G z3), (PySem.W.mg_none_of X G z4), (PySem.W.mg_none_of X G z5), (PySem.W.mg_none_of X G z6), (PySem.W.mg_none_of X G z7), (PySem.W.mg_none_of X G z8), (PySem.W.mg_none_of X G z9), (PySem.W.mg_none_of X G z10), (PySem.W.mg_none_of X G z11), t0, (PySem.W.mg_of X G q0), t1, (PySem.W.mg_of X G q1), t2, (PySem.W.mg_of X G q2)⟩
  exact ⟨PySem.W.fnOf "law" "law" (defArgs s_law) (defBody s_law) (defScope s_law) .none kV20 dc20 pm20 an20 cd20 ct20, fun s v => .of_eq rfl, fun base _ _ => G_law_end T F20⟩
end K31

open PySem PySem.W PyProof.Rows
set_option maxHeartbeats 0 in
theorem PySem.Challenge.cw_openposts_k31_needless_places_holds : PySem.Challenge.rw_openposts_k31_needless_places.Holds := by
  w_on; o_law; k_head; (case hw => w_witness2)
  k_fill
  refine L2.walk_of (l := PySem.Challenge.rw_openposts_k31_needless_places) (n := 63) (k := 8) (x := "_law_script") (CX := fun _ => L2.CX0) (sp := fun w => K31.spLaw _) rfl (by decide) rfl ⟨rfl, by decide, by decide⟩ (fun w h Y => PySem.W.kIn_of Y) ?F (fun _ _ a ns hl _ hS => ⟨a, ns, rfl, hS, hl, fun _ => rfl⟩) (fun _ _ _ _ _ h => h)
  case F =>
    intro w mg fa h KX G hmg
    refine' K31.all_mk KX G hmg ?cg_Addresses ?c1_Addresses ?c2_Addresses ?c3_Addresses ?c4_Addresses ?i1_Addresses ?i2_Addresses ?i3_Addresses ?i4_Addresses ?kk_Addresses ?na_Addresses_kept ?a1 ?l1 ?c1 ?k1 ?a2 ?l2 ?c2 ?k2 ?a3 ?l3 ?c3 ?k3 ?a4 ?l4 ?c4 ?k4 ?a5 ?l5 ?c5 ?k5 ?a6 ?fn6 ?mm6 ?mk6 ?l6 ?c6 ?k6 ?a7 ?pr7 ?pg7 ?pt7 ?l7 ?c7 ?k7 ?a8 ?pr8 ?pg8 ?pt8 ?l8 ?c8 ?k8 ?a9 ?fn9 ?oa9 ?ob9 ?ok9 ?oc9_ ?od9_ ?l9 ?oo9 ?c9 ?k9 ?a10 ?fn10 ?l10 ?c10 ?k10 ?a11 ?l11 ?c11 ?k11 ?a12 ?l12 ?c12 ?k12 ?a13 ?l13 ?c13 ?k13 ?a14 ?l14 ?c14 ?k14 ?a15 ?l15 ?c15 ?k15 ?a16 ?l16 ?c16 ?k16 ?a17 ?l17 ?c17 ?k17 ?a18 ?l18 ?c18 ?k18 ?a19 ?l19 ?c19 ?k19 ?a20 ?l20 ?c20 ?k20 ?al0 ?z0 ?z1 ?z2 ?z3 ?z4 ?z5 ?z6 ?z7 ?z8 ?z9 ?z10 ?z11 ?q0 ?q1 ?q2 
    (case cg_Addresses => k_is)
    (case c1_Addresses => k_is)
    (case c2_Addresses => k_is)
    (case c3_Addresses => k_is)
    (case c4_Addresses => k_is)
    (case i1_Addresses => k_is)
    (case i2_Addresses => k_is)
    (case i3_Addresses => k_is)
    (case i4_Addresses => k_is)
    (case kk_Addresses => kit_is)
    (case na_Addresses_kept => k_is)
    (case a1 => k_is)
    (case l1 => k_is)
    (case c1 => k_is)
    (case k1 => k_is)
    (case a2 => k_is)
    (case l2 => k_is)
    (case c2 => k_is)
    (case k2 => k_is)
    (case a3 => k_is)
    (case l3 => k_is)
    (case c3 => k_is)
    (case k3 => k_is)
    (case a4 => k_is)
    (case l4 => k_is)
    (case c4 => k_is)
    (case k4 => k_is)
    (case a5 => k_is)
    (case l5 => k_is)
    (case c5 => k_is)
    (case k5 => k_is)
    (case a6 => k_is)
    (case fn6 => k_is)
    (case mm6 => k_is)
    (case mk6 => k_is)
    (case l6 => k_is)
    (case c6 => k_is)
    (case k6 => k_is)
    (case a7 => k_is)
    (case pr7 => k_is)
    (case pg7 => k_is)
    (case pt7 => k_is)
    (case l7 => k_is)
    (case c7 => k_is)
    (case k7 => k_is)
    (case a8 => k_is)
    (case pr8 => k_is)
    (case pg8 => k_is)
    (case pt8 => k_is)
    (case l8 => k_is)
    (case c8 => k_is)
    (case k8 => k_is)
    (case a9 => k_is)
    (case fn9 => k_is)
    (case oa9 => k_is)
    (case ob9 => k_is)
    (case ok9 => first | rfl | decide +kernel)
    (case oc9_ => k_is)
    (case od9_ => k_is)
    (case l9 => k_is)
    (case oo9 => rfl)
    (case c9 => k_is)
    (case k9 => k_is)
    (case a10 => k_is)
    (case fn10 => k_is)
    (case l10 => k_is)
    (case c10 => k_is)
    (case k10 => k_is)
    (case a11 => k_is)
    (case l11 => k_is)
    (case c11 => k_is)
    (case k11 => k_is)
    (case a12 => k_is)
    (case l12 => k_is)
    (case c12 => k_is)
    (case k12 => k_is)
    (case a13 => k_is)
    (case l13 => k_is)
    (case c13 => k_is)
    (case k13 => k_is)
    (case a14 => k_is)
    (case l14 => k_is)
    (case c14 => k_is)
    (case k14 => k_is)
    (case a15 => k_is)
    (case l15 => k_is)
    (case c15 => k_is)
    (case k15 => k_is)
    (case a16 => k_is)
    (case l16 => k_is)
    (case c16 => k_is)
    (case k16 => k_is)
    (case a17 => k_is)
    (case l17 => k_is)
    (case c17 => k_is)
    (case k17 => k_is)
    (case a18 => k_is)
    (case l18 => k_is)
    (case c18 => k_is)
    (case k18 => k_is)
    (case a19 => k_is)
    (case l19 => k_is)
    (case c19 => k_is)
    (case k19 => k_is)
    (case a20 => k_is)
    (case l20 => k_is)
    (case c20 => k_is)
    (case k20 => k_is)
    (case al0 => k_is)
    (case z0 => k_is)
    (case z1 => k_is)
    (case z2 => k_is)
    (case z3 => k_is)
    (case z4 => k_is)
    (case z5 => k_is)
    (case z6 => k_is)
    (case z7 => k_is)
    (case z8 => k_is)
    (case z9 => k_is)
    (case z10 => k_is)
    (case z11 => k_is)
    (case q0 => k_is)
    (case q1 => k_is)
    (case q2 => k_is)

