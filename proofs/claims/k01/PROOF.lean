import PyProof.Rows.All
import Wide.All
import OpenK.AllK
import Wide.FinOn
import HandS.ForMost
import HandS.ForExc
import HandS.ExcInit
import HandS.ExcSuper
import KE.KExcSuper
import PyProof.ListStr
import PyProof.StrOps2
import HandS.Evl
import HandS.IsInst
import HandS.RaiseMore
import KE.KExcIs
import HandS.ExcIs
import HandS.Walk
import HandS.TupAny
import PySem.Challenge.RW_openposts_k01_signs_and_words
set_option Elab.async false
set_option linter.all false
set_option maxRecDepth 100000
set_option maxHeartbeats 4000000
namespace OP
open PySem PySem.Spec PyProof.Rows L2
/-- what the written part says of the base class D of all errors, its __init__ at f -/
structure OpenB (P : Program) (K : PySem.W.Frag) (D cc cda : Addr) : Prop where
  cell : ∃ cl cld csl, K.lookup cc = some ⟨cl, cld, .cell (some (.ref D)), csl⟩
  code : ∃ ccl cdd vs ccs file tf, K.lookup cda = some ⟨ccl, cdd, .fields vs, ccs⟩ ∧ vs[2]? = some (.str file tf) ∧ ((P.main.file : Str) == file) = true
  cls : ∃ cdD, PySem.W.clsIn K D = some cdD
  top : (P.main.scope.names.lookup ("super" : Str)).isSome = false
  opq : PySem.W.nsIn K cStatics "thirdparty.any" = some none
/-- .. and of a class C of errors -/
structure OpenC (K : PySem.W.Frag) (D C : Addr) : Prop where
  ox : OexC K C
  sub : PySem.W.mroIn K C (.ref D) = some true
  ini : PySem.W.ks_superIn K C D "__init__" = some (some (.builtin "ValueError.__init__"))
  ve : PySem.W.subIn K (.ref C) (.type "ValueError") = some true
  nov : PySem.W.findIn K (.ref C) "value" = some none
def spInit (K : PySem.W.Frag) (D : Addr) : Sp := fun vs H Q _ => ∃ a C v, vs = [.ref a, v] ∧ OpenC K D C ∧ H a = some (exo a C none) ∧
  ∀ dx, H dx = none → dx ≠ a → Q .non (upd (upd H dx (exd dx [("value", v)])) a (exo a C (some dx)))

theorem fn_init {CX : CXT} {P : Program} {w : World} {K : PySem.W.Frag} {mg : Str → Option Value} {base : Heap} {k : Nat} {f D cc cda : Addr} {qual msg : Str} {params : Arguments} {scope : Scope} {dV kV doc pm ct oc : Value} {an od : Option Addr}
    {osl : Array (Option Value)} {j : Nat} {p0 p1 p2 p3 p4 p5 p6 p7 p8 p9 : Pos} {ar : Arg} {body : List Stmt}
    (hbd : body = [.Expr (.Call (.Attribute (.Call (.Name "super" p0) [] [] p1) "__init__" p2) [.Constant (.str msg) j p3] [] p4) p5, .Assign [.Attribute (.Name "self" p6) "value" p7] (.Name "value" p8) p9])
    (lk : K.lookup f = some ⟨oc, od, .func (PySem.W.ksFn "__init__" qual params body scope dV kV doc pm an (.ref cda) ct cc), osl⟩) (hcd : PySem.W.codeIn K (.ref cda) qual = true)
    (hpa : (params.posonlyargs ++ params.args).head? = some ar) (har : ar.arg = "self")
    (hcell : ∀ x ∈ scope.names, x.2 ≠ .cell) (hself : scope.names.lookup ("self" : Str) = some .local) (hval : scope.names.lookup ("value" : Str) = some .local)
    (hsup : scope.names.lookup ("super" : Str) = some .globalImplicit) (hcl : scope.names.lookup ("__class__" : Str) = some .free)
    (hk : scope.kind = .function) (hco : scope.isCoroutine = false) (hgen : scope.isGenerator = false)
    {pl : Sem Bool} (he : ∀ L, eval (.Call (.Attribute (.Call (.Name "super" p0) [] [] p1) "__init__" p2) [.Constant (.str msg) j p3] [] p4) (callEnv (PySem.W.ksFn "__init__" qual params body scope dV kV doc pm an (.ref cda) ct cc) L f) = (do
      let ov ← attributeBase (.Call (.Name "super" p0) [] [] p1) "__init__" (callEnv (PySem.W.ksFn "__init__" qual params body scope dV kV doc pm an (.ref cda) ct cc) L f) (eval (.Call (.Name "super" p0) [] [] p1) (callEnv (PySem.W.ksFn "__init__" qual params body scope dV kV doc pm an (.ref cda) ct cc) L f))
      standAt p2.atName
      let (g, first) ← holding [ov] (getMethod ov "__init__" pl)
      callWith p4 g first (backTo p4 (starEach [.Constant (.str msg) j p3] (callEnv (PySem.W.ksFn "__init__" qual params body scope dV kV doc pm an (.ref cda) ct cc) L f))) []))
    (hi : ∀ L, interactive (callEnv (PySem.W.ksFn "__init__" qual params body scope dV kV doc pm an (.ref cda) ct cc) L f) = false)
    (hs1 : ∀ L, swapsWith (.Call (.Attribute (.Call (.Name "super" p0) [] [] p1) "__init__" p2) [.Constant (.str msg) j p3] [] p4) none p5.line (callEnv (PySem.W.ksFn "__init__" qual params body scope dV kV doc pm an (.ref cda) ct cc) L f) = pure false)
    (hs2 : ∀ L, swapsWith (.Name "value" p8) (some (.Attribute (.Name "self" p6) "value" p7)) p9.line (callEnv (PySem.W.ksFn "__init__" qual params body scope dV kV doc pm an (.ref cda) ct cc) L f) = pure false)
    (hst : ∀ L, starEach [.Constant (.str msg) j p3] (callEnv (PySem.W.ksFn "__init__" qual params body scope dV kV doc pm an (.ref cda) ct cc) L f) = (false, eval (.Constant (.str msg) j p3) (callEnv (PySem.W.ksFn "__init__" qual params body scope dV kV doc pm an (.ref cda) ct cc) L f)) :: starEach [] (callEnv (PySem.W.ksFn "__init__" qual params body scope dV kV doc pm an (.ref cda) ct cc) L f))
    (B : OpenB P K D cc cda) (ms : mg "super" = none) :
    FnOk P w K mg base CX (k + 1) f (PySem.W.ksFn "__init__" qual params body scope dV kV doc pm an (.ref cda) ct cc) ["self", "value"] (spInit K D) := by
  refine ⟨fun vs H Q E h => ?_, fun A outer s H args us vs Q E hr e0 hb r hsp => ?_⟩
  · obtain ⟨a, C, v, rfl, _⟩ := h
    rfl
  · obtain ⟨a, C, v, rfl, T, ea, hq⟩ := hsp
    obtain ⟨u1, u2, rfl, r1, r2⟩ := vals2 r
    obtain rfl : u1 = Value.ref a := r1
    have KX : K.In s.heap := e0.mod.kin.keeps fun b o e => (e0.bs b o e).1
    have lim : s.heap.NoLimit := e0.mod.nolimit.keeps fun b o e => (e0.bs b o e).1
    obtain ⟨t1, hea⟩ := exo_at e0.hok ea
    refine ks_codeAny_call_defAt (fd := PySem.W.ksFn "__init__" qual params body scope dV kV doc pm an (.ref cda) ct cc) (body := body) (binds := [("self", .ref a), ("value", u2)]) hr.depth (KX _ _ lk) rfl lim (PySem.W.codeRec_of KX hcd) rfl hb hcell (fun x hx => ?_) (fun h0 hns hk0 => ?_) hco hgen hk
    · rcases List.mem_cons.mp hx with rfl | hx
      · exact hself
      · rcases List.mem_cons.mp hx with rfl | hx
        · exact hval
        · cases hx
    · have K0 : K.In h0 := fun b o e => hk0 _ _ (KX b o e)
      have hns' : h0.Ns s.heap.objs.size (fun x => if x = "value" then some u2 else if x = "self" then some (.ref a) else none) := by
        have hfe : (fun x => ([("self", Value.ref a), ("value", u2)] : List (Str × Value)).reverse.lookup x) = (fun x => if x = ("value" : Str) then some u2 else if x = ("self" : Str) then some (.ref a) else none) := ?_
        · rw [← hfe]
          exact hns
        funext x
        by_cases h1 : x = "value"
        · subst h1; rfl
        · by_cases h2 : x = "self"
          · subst h2; rfl
          · rw [if_neg h1, if_neg h2]
            have e1 : (x == ("value" : Str)) = false := by simpa using h1
            have e2 : (x == ("self" : Str)) = false := by simpa using h2
            simp [List.lookup, e1, e2]
      obtain ⟨nm, qn, N, bs, bm, sn, sub, ab, col, dd, k0, k1, k2, k3, k5, hC, hbm⟩ := T.ox.cls
      obtain ⟨cl, cld, csl, hcc⟩ := B.cell
      obtain ⟨ccl, cdd, cvs, ccs, file, tf, hcda, hvs, hfile⟩ := B.code
      obtain ⟨cdD, hD⟩ := B.cls
      obtain ⟨oD, hD1, hD2⟩ : ∃ oD, h0.get? D = some oD ∧ oD.data = .cls cdD := by
        unfold PySem.W.clsIn at hD
        split at hD
        · rename_i c d cd' sl ho
          cases hD
          exact ⟨_, K0 _ _ ho, rfl⟩
        · cases hD
      have a0 := hk0 _ _ hea
      have E0 : ∀ L, (callEnv (PySem.W.ksFn "__init__" qual params body scope dV kV doc pm an (.ref cda) ct cc) L f) = PySem.W.ksEnv qual scope L f (.ref cda) cc := fun L => rfl
      generalize hfd : PySem.W.ksFn "__init__" qual params body scope dV kV doc pm an (.ref cda) ct cc = fd at *
      rw [hbd]
      refine ks_wpAt_execs_cons (ks_wpAt_Expr_any (ks_wpAt_MethodCall (pl := pl) ?_ (he _)) (hi _) (hs1 _))
      have C0 : (K.In h0) := K0
      obtain ⟨mB, hmB, hmBx⟩ := e0.mod.blt
      rw [E0]
      have G0 : h0.Ns mainGlobals mg := e0.mod.glob.keeps fun b o e => hk0 _ _ (e0.bs b o e).1
      have B0 : h0.Ns builtinsNs mB := hmB.keeps fun b o e => hk0 _ _ (e0.bs b o e).1
      refine ks_wpAt_super_base (env := PySem.W.ksEnv qual scope s.heap.objs.size f (.ref cda) cc) hsup hcl rfl rfl (hk0 _ _ (KX _ _ lk)) rfl (by rw [← hfd]; exact hpa) rfl (K0 _ _ hcda) rfl hvs hfile B.top ?_
      refine PySem.W.ks_loadName_global hk hsup (PySem.Calls.loadGlobal_builtin (env := PySem.W.ksEnv qual scope s.heap.objs.size f (.ref cda) cc) G0 ms B0 ((hmBx "super" (by decide)).trans (by kernel_rfl)) ⟨rfl, ?_⟩)
      refine wpAny_loadName_free hk hcl rfl ⟨_, K0 _ _ hcc, rfl⟩ ?_
      refine wpAny_loadName_local hk (by rw [har]; exact hself) hns' (by rw [har]; rfl) ?_
      refine ks_wpAny_isType_cls hD1 hD2 ⟨rfl, ?_⟩
      have I0 : PySem.W.InstAt h0 a { cls := .ref C, data := .fields #[.ref t1, .none, .none, .none, .bool false, .none] } C none := ⟨a0, rfl, rfl, trivial⟩
      have hCl : ∃ cd, PySem.W.clsIn K C = some cd := by unfold PySem.W.clsIn; rw [hC]; exact ⟨_, rfl⟩
      obtain ⟨cdC, hcC⟩ := hCl
      refine ks_wpAny_call_super hD1 hD2 a0 rfl (fun c e => by cases e) (PySem.W.looks_mroIn K0 T.sub) (fun h1 hso hk1 => ?_)
      have K1 : K.In h1 := fun b o e => hk1 _ _ (K0 b o e)
      have a1 := hk1 _ _ a0
      have I1 : PySem.W.InstAt h1 a { cls := .ref C, data := .fields #[.ref t1, .none, .none, .none, .bool false, .none] } C none := ⟨a1, rfl, rfl, trivial⟩
      have hI : PySem.W.Looks (model P w) h1 (isInstance (.ref a) (.type "ValueError")) true := I1.type.andThen (PySem.W.looks_subIn K1 T.ve)
      have hm := T.ini
      unfold PySem.W.ks_superIn at hm
      rw [hcC] at hm
      refine PySem.W.kxs_getMethod PySem.W.kxs_ValueError hso (PySem.W.looks_opaque K1 B.opq) (l₀ := cdC.mro) (fun A Q E s k q => wpAny_bind ((PySem.W.looks_clsIn K1 hcC) A _ E s k (wpAny_pure q))) rfl K1 hm hI (PySem.W.ks_ne K1 I1 hcC) rfl ?_
      dsimp only
      rw [← E0, hst, E0]
      refine PySem.W.kxs_callWith (i := "ValueError.__init__") (x := a) rfl (PySem.Calls.evalArgs_plain ?_)
      refine PySem.Calls.spliced_cons (PySem.Calls.Constant_str (k := j) (pos := p3) (PySem.Calls.spliced_nil ⟨?_, ?_⟩))
      · exact Heap.get?_push_at rfl rfl
      have hg2 : ∀ {b : Addr} {o : Obj}, h1.get? b = some o → (h1.push (PySem.W.kxs_mw "ValueError.__init__" a)).get? b = some o := fun {b o} e => Heap.get?_push_of_some _ e
      have hw2 : (h1.push (PySem.W.kxs_mw "ValueError.__init__" a)).get? h1.objs.size = some (PySem.W.kxs_mw "ValueError.__init__" a) := Heap.get?_push_at rfl rfl
      generalize h1.push (PySem.W.kxs_mw "ValueError.__init__" a) = h2 at *
      have a2 := hg2 a1
      refine wpAny_call (codeAny_of_tree ?_)
      show wpAny _ (A.deeper _).in1 (callAny (.ref h1.objs.size) ⟨[.str msg _], []⟩) _ _ _
      simp only [callAny]
      refine wpAny_bind (wpAny_load hw2 ?_)
      simp only [PySem.W.kxs_mw, show (Value.type "method-wrapper" == Value.type "method" || Value.type "method-wrapper" == Value.type "builtin_function_or_method" || Value.type "method-wrapper" == Value.type "method-wrapper") = true by decide, if_true]
      refine PySem.W.KFB.if_so (by decide) ?_
      refine wpAny_bind (PySem.W.check_bound_init F.excBase_ValueError.toExcCallFacts (hg2 (K1 _ _ hC)) a2 rfl ?_)
      refine wpAny_bind (wpAny_pure (wpAny_pure ?_))
      refine ⟨plainId_quiet F.excBase_ValueError.init.plain _, codeAny_builtin F.excBase_ValueError.initEntry ?_⟩
      refine PySem.W.exc_init_tree (cls := .ref C) (t0 := t1) (dv := none) (c2 := .none) (c3 := .none) (b4 := .bool false) a2 (by show 1 ≤ sizeLine; decide) (fun h3 hk3 a3 htup => ?_)
      show PySem.wpAt (model P w) (A.deeper (PySem.W.ksEnv qual scope s.heap.objs.size f (Value.ref cda) cc)) _ (execs [Stmt.Assign [(Expr.Name (Str.ofString "self") p6).Attribute (Str.ofString "value") p7] (Expr.Name (Str.ofString "value") p8) p9] (PySem.W.ksEnv qual scope s.heap.objs.size f (Value.ref cda) cc)) _ _ _
      have neL : s.heap.objs.size ≠ a := Ne.symm (Nat.ne_of_lt (Heap.lt_size hea))
      have k03 : ∀ b o, b ≠ a → h0.get? b = some o → h3.get? b = some o := fun b o hb e => hk3 b o hb (hg2 (hk1 b o e))
      have n3 : h3.Ns s.heap.objs.size (fun x => if x = ("value" : Str) then some u2 else if x = ("self" : Str) then some (.ref a) else none) := by
        obtain ⟨oL, es, ep, hL, rr⟩ := hns'
        exact ⟨oL, es, ep, k03 _ _ neL hL, rr⟩
      have naC : ∀ b o, K.lookup b = some o → b ≠ a := fun b o e z => by
        have e1 := (e0.bs b o (e0.mod.kin b o e)).2
        rw [z, ea] at e1
        cases e1
      have K3 : K.In h3 := fun b o e => k03 _ _ (naC b o e) (K0 b o e)
      have hs2' := hs2 s.heap.objs.size
      rw [E0] at hs2'
      refine ks_wpAt_execs_cons (ks_wpAt_Assign_Attr (wpAt_of_wpAny (PySem.ESX.ldL n3 (by rfl) (PySem.ESX.ldL n3 (by rfl) ?_ hk hself) hk hval)) hs2')
      have hcl3 : PySem.W.clsIn K C = some { name := nm, bases := bs, mro := .ref C :: bm, ns := N, qualname := qn, hasDict := true, slotNames := sn, subclasses := sub, abstract := ab, collection := col, hasDel := false } := by unfold PySem.W.clsIn; rw [hC] <;> rfl
      refine PySem.W.set_plain (s := { heap := h3, gens := s.gens, drawn := s.drawn, toks := s.toks + 2 + 1 + 1, os := s.os }) K3 (ox := { cls := .ref C, dict := none, data := .fields #[.ref h2.objs.size, .none, .none, .none, .bool false, .none] }) (od := none) ⟨a3, rfl, rfl, trivial⟩ T.ox.sa ?_
      refine PySem.HandSPX.exc_osa K3 a3 hcl3 (show PySem.HandSPX.refsVE (.ref C :: bm) = true from hbm) rfl T.nov (fun h4 tk4 dx k4 dn dne hx4 hn4 => ?_)
      show PySem.wpAt _ _ _ (execs [] _) _ _ _
      refine wpAt_of_wpAny (wpAny_execs_nil ?_)
      show CE outer P w H s Q Value.none _
      have kk : ∀ b o, b ≠ a → s.heap.get? b = some o → h4.get? b = some o := fun b o hb e => k4 b o hb (k03 b o hb (hk0 b o e))
      have size3 : s.heap.objs.size ≤ dx := by
        have q1 : s.heap.objs.size < h3.objs.size := by
          obtain ⟨oL, _, _, hL, _⟩ := n3
          exact Heap.lt_size hL
        exact Nat.le_trans (Nat.le_of_lt q1) dn
      have hnd : H dx = none := e0.hok.fresh size3
      have nd : ∀ {b : Addr} {o : Obj}, s.heap.get? b = some o → b ≠ dx := fun {b o} q => Nat.ne_of_lt (Nat.lt_of_lt_of_le (Heap.lt_size q) size3)
      have na : ∀ {b : Addr}, H b = none → b ≠ a := fun {b} n z => by
        rw [z, ea] at n
        cases n
      have Un1 : Un (frs outer) [] H (upd (upd H dx (exd dx [("value", v)])) a (exo a C (some dx))) s.heap h4 := {
        keep := fun b o q n _ _ => kk b o (na n) q
        slot := fun b o q n _ _ => ⟨o.slots, kk b o (na n) q⟩
        free := fun b o q n _ => by rw [upd_ne (na n), upd_ne (nd q)]; exact n
        there := fun b o q _ => by
          by_cases hb : b = a
          · exact ⟨_, by rw [hb]; exact hx4⟩
          · exact ⟨o, kk b o hb q⟩
        tups := fun b xs q => by rw [upd_ne (at_ne ea q exo_tup), upd_ne (ne_of_none q hnd)]; exact q
        frzs := fun b o v q => by rw [upd_ne (at_ne ea q exo_frz), upd_ne (ne_of_none q hnd)]; exact q
        tbls := fun b ps q => ⟨#[], by rw [upd_ne (at_ne ea q exo_tbl), upd_ne (ne_of_none q hnd), q]; simp⟩ }
      refine ⟨.non, _, rfl, e0.bare, Un1, fun b o q => ?_, rfl, hq dx hnd dne⟩
      by_cases hb : b = a
      · subst hb
        rw [upd_same] at q
        cases q
        exact exo_ok hx4
      · rw [upd_ne hb] at q
        by_cases hd : b = dx
        · subst hd
          rw [upd_same] at q
          cases q
          exact exd_ok hn4 (relO_put (fs := []) r2 fun g => True.intro)
        · rw [upd_ne hd] at q
          exact (e0.hok b o q).stay (fun c v hc z => kk c v (by
              rcases hc with hc | hc
              · rw [hc]
                exact hb
              · exact at_ne ea hc exo_own) z)
            (fun c hc => by rw [upd_ne (at_ne ea hc exo_own), upd_ne (ne_of_none hc hnd)]; exact hc) (fun c xs hc => by rw [upd_ne (at_ne ea hc exo_tup), upd_ne (ne_of_none hc hnd)]; exact hc)
end OP

namespace OP
open PySem PySem.Spec PyProof.Rows L2
section
variable {X : Cx}
/-- the text of a truth value -/
def bText (b : Bool) : Str := if b then "True" else "False"
theorem bText_inj {a b : Bool} (h : bText a = bText b) : a = b := by
  cases a <;> cases b
  · rfl
  · exact absurd h (by decide +kernel)
  · exact absurd h (by decide +kernel)
  · rfl
theorem call_repr_bl : CallR X (.builtin "repr") (fun xs H Q => ∃ b, xs = [.bl b] ∧ Q (.str (bText b)) H) := by
  intro pins s σ H xs us Q I r h
  obtain ⟨b, rfl, q⟩ := h
  obtain ⟨u, rfl, rb⟩ := vals1 r
  obtain rfl : u = Value.bool b := rb
  exact PySem.P.repr_of_bool ⟨.str _, H, I.tok _, ⟨_, rfl⟩, q⟩
/-- the signs of a text as texts of one sign -/
def signsV (z : Str) : List V := z.cps.toList.map fun c => V.str ⟨#[c]⟩
theorem signsV_length (z : Str) : (signsV z).length = z.length := by
  unfold signsV
  rw [List.length_map]
  rfl
theorem call_list_text (hc : X.calm = true) : CallR X (.type "list") (fun xs H Q => ∃ z : Str, xs = [.str z] ∧ z.length ≤ sizeLine ∧ ∀ p, H p = none → Q (.ref p) (upd H p (.lst (signsV z)))) := by
  intro pins s σ H xs us Q I r h
  obtain ⟨z, rfl, hz, q⟩ := h
  obtain ⟨u, rfl, t, rfl⟩ := vals1 r
  refine call_list_str (I.ok.hd hc) z t (fun h' tk acc' c' hk hS hit => ?_) hz
  have hf : H s.heap.objs.size = none := I.hok.fresh (Nat.le_refl _)
  refine ⟨.ref s.heap.objs.size, upd H s.heap.objs.size (.lst (signsV z)), I.laid (t' := tk) hk (Nat.le_refl _) ?_, rfl, q _ hf⟩
  refine ⟨by rw [signsV_length]; exact hz, acc'.toList, c', ?_, by simpa using hS⟩
  obtain ⟨hl, hi⟩ := hit
  have key : ∀ (l : List Nat) (ys : List Value), l.length = ys.length → (∀ (i : Nat) v, ys[i]? = some v → ∃ c u, l[i]? = some c ∧ v = Value.str ⟨#[c]⟩ u) → Vals (l.map fun c => V.str ⟨#[c]⟩) ys := by
    intro l
    induction l with
    | nil =>
      intro ys e _
      cases ys with
      | nil => exact .nil
      | cons y r => cases e
    | cons c l ih =>
      intro ys e hh
      cases ys with
      | nil => cases e
      | cons y r =>
        obtain ⟨c', u, e1, e2⟩ := hh 0 y rfl
        cases e1
        exact .cons ⟨u, e2⟩ (ih r (Nat.succ.inj e) fun i v q => hh (i + 1) v q)
  refine key z.cps.toList acc'.toList (by simpa using hl.symm) fun i v hv => ?_
  obtain ⟨c, u, e1, e2⟩ := hi i v (by simpa using hv)
  exact ⟨c, u, by simpa using e1, e2⟩
/-- a text n times -/
def repS (z : Str) (n : Nat) : Str := ⟨(List.replicate n z.cps.toList).flatten.toArray⟩
theorem repS_fold (z : Str) (n : Nat) : (⟨(List.replicate n z.cps).foldl (· ++ ·) #[]⟩ : Str) = repS z n := by
  have key : ∀ (n : Nat) (a : Array Nat), (List.replicate n z.cps).foldl (· ++ ·) a = a ++ (List.replicate n z.cps.toList).flatten.toArray := by
    intro n
    induction n with
    | zero => intro a; simp
    | succ n ih =>
      intro a
      rw [List.replicate_succ, List.foldl_cons, ih, List.replicate_succ, List.flatten_cons]
      apply Array.ext'
      simp
  unfold repS
  rw [key n #[]]
  simp
theorem repS_length (z : Str) (n : Nat) : (repS z n).length = z.length * n := by
  show (List.replicate n z.cps.toList).flatten.toArray.size = z.cps.size * n
  rw [List.size_toArray, List.length_flatten, List.map_replicate, Array.length_toList]
  induction n with
  | zero => rfl
  | succ n ih =>
    rw [List.replicate_succ, List.sum_cons, ih, Nat.mul_succ, Nat.add_comm]
theorem op_mul_str : OpR X (binaryOp .Mult) (fun x y H Q => ∃ (z : Str) (n : Int), x = .str z ∧ y = .int n ∧ 0 ≤ n ∧ n ≤ 10000 ∧ z.length ≤ 1000 ∧ Q (.str (repS z n.toNat)) H) := by
  intro pins s σ H x y u v Q I rx ry h
  obtain ⟨z, n, rfl, rfl, h0, h1, hz, q⟩ := h
  obtain ⟨t, rfl⟩ := rx
  obtain ⟨t2, rfl⟩ := ry
  have hr : (decide (n < -(2 ^ 63 : Int)) || decide (n ≥ 2 ^ 63)) = false := by
    rw [decide_eq_false (by omega), decide_eq_false (by omega)]
    rfl
  refine PySem.P.mul_str hr (fun hn _ => ?_) (fun hn _ => ?_) ?_
  · have e : (1000 : Int) ≤ (2 ^ 63 - 1) / n := by
      rw [Int.le_ediv_iff_mul_le (by omega)]
      omega
    omega
  · have : z.length * n.toNat ≤ 1000 * 10000 := Nat.mul_le_mul hz (by omega)
    unfold Builtin.Str.tooLong
    have e : ¬ (z.length * n.toNat > sizeLine) := by rw [sizeLine_eq]; omega
    simpa using Nat.le_of_not_gt e
  · by_cases hn : n < 1
    · rw [if_pos hn]
      have e : n.toNat = 0 := by omega
      rw [e] at q
      exact ⟨by decide, .str _, H, I.tok _, ⟨_, rfl⟩, q⟩
    · rw [if_neg hn]
      by_cases h2 : (n == 1 || z.length == 0) = true
      · rw [if_pos h2]
        have e : repS z n.toNat = z := by
          rcases Bool.or_eq_true_iff.mp h2 with e | e
          · have : n = 1 := by simpa using e
            subst this
            show repS z 1 = z
            unfold repS
            simp
          · have e0 : z.cps = #[] := by
              have : z.length = 0 := by simpa using e
              exact Array.eq_empty_of_size_eq_zero this
            obtain ⟨cps⟩ := z
            dsimp only at e0
            subst e0
            unfold repS
            simp
        rw [e] at q
        exact ⟨.str z, H, I, ⟨_, rfl⟩, q⟩
      · rw [if_neg h2]
        refine ⟨?_, .str (repS z n.toNat), H, I.tok _, ⟨s.toks, ?_⟩, q⟩
        · have e := repS_length z n.toNat
          rw [← repS_fold] at e
          have : z.length * n.toNat ≤ 1000 * 10000 := Nat.mul_le_mul hz (by omega)
          rw [e, sizeLine_eq]
          omega
        · rw [← repS_fold]
end
end OP

namespace OP
open PySem PySem.Spec PyProof.Rows L2
theorem upd_over {H : Hp} {a b : Addr} {o1 o2 o3 : HO} : upd (upd (upd H a o1) b o2) a o3 = upd (upd H b o2) a o3 := by
  funext c
  by_cases h : c = a
  · subst h
    rw [upd_same, upd_same]
  · rw [upd_ne h, upd_ne h]
    by_cases h2 : c = b
    · subst h2
      rw [upd_same, upd_same]
    · rw [upd_ne h2, upd_ne h2, upd_ne h]
section
variable {X : Cx} {e : Expr} {te : TE} {p pos : Pos}
/-- C(e), an error as a value -/
theorem pe_excV {CX : CXT} {x : Str} {C D fI : Addr} {k : Nat} {fd : FuncData} (T : OpenC X.K D C) (iC : PySem.W.findIn X.K (.ref C) "__init__" = some (some (.ref fI))) (tI : PySem.W.typeIn X.K (.ref fI) = some (.type "function"))
    (F1 : FnOk X.prog X.w X.K X.mg X.base CX k fI fd ["self", "value"] (spInit X.K D)) (hr : Room (k + 1) X.A) (hb : Binds X.K fd ["self", "value"] []) (hx : Passes CX X (fun _ _ _ => False)) (hg : Gl X x) (hm : X.mg x = some (.ref C)) (he : PE X e te)
    (hdb : (x == ("__debug__" : Str)) = false := by decide) (hst : starEach [e] X.env = (false, eval e X.env) :: starEach [] X.env := by rfl) :
    PE X (.Call (.Name x p) [e] [] pos) (fun σ H Q => te σ H fun v H1 => ∀ a d, H1 a = none → H1 d = none → d ≠ a → Q (.ref a) (upd (upd H1 d (exd d [("value", v)])) a (exo a C (some d)))) := by
  refine ⟨fun pins s σ H Q I h => ?_⟩
  obtain ⟨nm, q, N, bs, bm, sn, sub, ab, col, dd, k0, k1, k2, k3, k5, hC, hbm⟩ := T.ox.cls
  refine wpAny_Call_Name_kw (ld_glob I hg hm ?_ hdb)
  refine PySem.W.callWith_K (h₀ := X.base) I.ok.mod.kin T.ox.kC ?_ hst (by rfl)
  rw [hst]
  show wpAny _ _ (spliced ((false, eval e X.env) :: backTo pos (starEach [] X.env))) _ _ s
  refine Calls.spliced_cons (thn (he.run pins s σ H _ I h) fun u s1 ⟨v, H1, I1, r1, q1⟩ => ?_)
  refine Calls.spliced_nil ⟨I1.kIn, ?_⟩
  show wpAny _ _ (call (.ref C) [u]) _ _ _
  obtain ⟨hp, g, dr, tk, os⟩ := s1
  have hsz : hp.objs.size ≤ hp.objs.size + 1 := Nat.le_succ _
  have hn : H1 (hp.objs.size + 1) = none := I1.hok.fresh hsz
  have kk : ∀ b o, hp.get? b = some o → ((hp.push (PySem.W.kdv_tup [u])).push (PySem.HandSPX.excO C hp.objs.size)).get? b = some o := fun b o e => Heap.get?_push_of_some _ (Heap.get?_push_of_some _ e)
  have hget : ((hp.push (PySem.W.kdv_tup [u])).push (PySem.HandSPX.excO C hp.objs.size)).get? (hp.objs.size + 1) = some (PySem.HandSPX.excO C hp.objs.size) := by heap_get
  have I2 : Inv X pins σ (upd H1 (hp.objs.size + 1) (exo (hp.objs.size + 1) C none)) ⟨(hp.push (PySem.W.kdv_tup [u])).push (PySem.HandSPX.excO C hp.objs.size), g, dr, tk, os⟩ :=
    I1.laid (t' := tk) (a := hp.objs.size + 1) (o := exo (hp.objs.size + 1) C none) (h' := (hp.push (PySem.W.kdv_tup [u])).push (PySem.HandSPX.excO C hp.objs.size)) kk hsz (exo_ok hget)
  have r2 : Vals [V.ref (hp.objs.size + 1), v] [Value.ref (hp.objs.size + 1), u] := .cons rfl (.cons r1 .nil)
  have hq : spInit X.K D [V.ref (hp.objs.size + 1), v] (upd H1 (hp.objs.size + 1) (exo (hp.objs.size + 1) C none)) (fun w2 H2 => w2 = .non ∧ Q (.ref (hp.objs.size + 1)) H2) (fun _ _ _ => False) := by
    refine ⟨_, C, v, rfl, T, upd_same, fun dx hd hne => ⟨rfl, ?_⟩⟩
    rw [upd_over]
    rw [upd_ne hne] at hd
    exact q1 _ dx hn hd hne
  refine wpAny_call (PySem.HandSPX.call_own F.excBase_ValueError (fun Y => PySem.HandSPX.refsVE_contains Y bm hbm) (I1.kIn _ _ hC) (PySem.W.looks_findIn I1.kIn iC) (fun self => PySem.W.bind_fn I1.kIn self tI) (by show 1 ≤ sizeLine; decide)
    (codeAny_mono (F1.run _ X.stack _ _ ⟨Value.ref (hp.objs.size + 1) :: [u], []⟩ [Value.ref (hp.objs.size + 1), u] _ _ (fun _ _ _ => False) (hr.make C [u] []) (I2.env0.make C [u] []) (hb _ [Value.ref (hp.objs.size + 1), u] I2.kIn rfl) r2 hq) fun r s' hq' => ?_))
  cases r with
  | error er => exact hx pins σ _ _ er s' I2 hq'
  | ok fl =>
    cases fl with
    | ret w2 =>
      obtain ⟨w3, H2, os2, bare2, un2, hok2, rv, ev, q2⟩ := hq'
      subst ev
      have un : Un (frs X.stack) [] H1 H2 hp s'.heap := Un.trans (Un.laid kk hsz hn) un2
      exact ⟨rv, .ref (hp.objs.size + 1), H2, I1.call' (ch := []) os2 un hok2 bare2 (fun b z => absurd z (by simp)), rfl, q2⟩
    | next => exact False.elim hq'
    | brk => exact False.elim hq'
    | cont => exact False.elim hq'
end
/-- a value's type, errors of the package too -/
inductive TyZ (K : PySem.W.Frag) (H : Hp) : V → Value → Prop where
  | x {v : V} {t : Value} (h : TyX K H v t) : TyZ K H v t
  | exc {a C d : Addr} {fs : List (Str × V)} (T : ExcC K C) (e : H a = some (exo a C (some d))) (ed : H d = some (exd d fs)) : TyZ K H (.ref a) (.ref C)
theorem TyZ.mono {K : PySem.W.Frag} {H H' : Hp} {v : V} {t : Value} (e : Evl.Ex H H') (h : TyZ K H v t) : TyZ K H' v t := by
  cases h with
  | exc T h1 h2 => exact .exc T (e _ _ h1) (e _ _ h2)
  | x h =>
    refine .x ?_
    cases h with
    | byt b => exact .byt b
    | set h => exact .set (e _ _ h)
    | kList h c => exact .kList h c
    | kTuple h c => exact .kTuple h c
    | kDict h c => exact .kDict h c
    | fTuple h => exact .fTuple (e _ _ h)
    | fDict h => exact .fDict (e _ _ h)
    | base h =>
      refine .base ?_
      cases h with
      | non => exact .non
      | bl b => exact .bl b
      | int b => exact .int b
      | str b => exact .str b
      | flt b => exact .flt b
      | lst h => exact .lst (e _ _ h)
      | frz h => exact .frz (e _ _ h)
      | tup h => exact .tup (e _ _ h)
      | dK h => exact .dK (e _ _ h)
      | dT h => exact .dT (e _ _ h)
      | ins h a b c d f => exact .ins (e _ _ h) a b c d f
def rIsZ (K : PySem.W.Frag) : List V → Hp → VK → Prop := fun xs H Q => ∃ (x c : V) (t u : Value) (b : Bool), xs = [x, c] ∧ ClsV c u ∧ TyZ K H x t ∧ PySem.W.kitOne K t u = some b ∧ Q (.bl b) H
theorem call_isZ {X : Cx} : CallR X (.builtin "isinstance") (rIsZ X.K) := by
  intro pins s σ H xs us Q I r h
  obtain ⟨x, c, t, u, b, rfl, k, ty, e, q⟩ := h
  cases ty with
  | x ty => exact call_isi pins s σ H _ us Q I r ⟨x, c, t, u, b, rfl, k, ty, e, q⟩
  | @exc a C d fs T ea ed =>
    obtain ⟨u1, u2, rfl, r1, r2⟩ := vals2 r
    obtain rfl : u1 = Value.ref a := r1
    obtain rfl := k.eq r2
    obtain ⟨t1, hx⟩ := exo_at I.hok ea
    obtain ⟨mA, ⟨od, es, ep, hd, _⟩, _⟩ := exd_at I.hok ed
    have hcl : (PySem.W.clsIn X.K C).isSome = true := by
      obtain ⟨cd, hc, _⟩ := PySem.W.any_some T.hd
      rw [hc]
      rfl
    have J : PySem.W.InstAt s.heap a { cls := .ref C, dict := some d, data := .fields #[.ref t1, .none, .none, .none, .bool false, .none] } C (some od) := ⟨hx, rfl, rfl, hd⟩
    exact PySem.W.kia_one (PySem.W.kitx_exc hcl T.hg T.hk T.hs T.ha T.hn T.ht T.hm) I.kIn J e (fun z => nomatch z) fun tk => ⟨.bl b, H, I.tok tk, rfl, q⟩
end OP

namespace OP
open PySem PySem.Spec PyProof.Rows L2
/-! ### the law's box: three ints, the third counts the draws -/
def Box (n : Nat) (o : HO) : Prop := ∃ x y c : Int, o = .lst [.int x, .int y, .int c] ∧ 0 ≤ x ∧ 0 ≤ y ∧ y < 2147483648 ∧ 0 ≤ c ∧ c ≤ n
def BoxAt (H : Hp) (b : Addr) (n : Nat) : Prop := ∃ o, H b = some o ∧ Box n o
/-- all but b stands as it stood -/
def Eb (b : Addr) (H H' : Hp) : Prop := ∀ a o, a ≠ b → H a = some o → H' a = some o
theorem Eb.refl (b : Addr) (H : Hp) : Eb b H H := fun _ _ _ h => h
theorem Eb.trans {b : Addr} {H H1 H2 : Hp} (x : Eb b H H1) (y : Eb b H1 H2) : Eb b H H2 := fun a o n h => y a o n (x a o n h)
theorem Eb.of {b : Addr} {H H' : Hp} (x : Evl.Ex H H') : Eb b H H' := fun a o _ h => x a o h
theorem Eb.upd {b : Addr} {H : Hp} {o : HO} : Eb b H (upd H b o) := fun a u n h => by rw [upd_ne n]; exact h
theorem BoxAt.mono {H : Hp} {b : Addr} {n m : Nat} (h : BoxAt H b n) (l : n ≤ m) : BoxAt H b m := by
  obtain ⟨o, e, x, y, c, h1, h2, h3, h4, h5, h6⟩ := h
  exact ⟨o, e, x, y, c, h1, h2, h3, h4, h5, by omega⟩
theorem BoxAt.ex {H H' : Hp} {b : Addr} {n : Nat} (h : BoxAt H b n) (e : Evl.Ex H H') : BoxAt H' b n := by
  obtain ⟨o, q, r⟩ := h
  exact ⟨o, e _ _ q, r⟩
theorem BoxAt.upd {H : Hp} {b p : Addr} {n : Nat} {u : HO} (h : BoxAt H b n) (e : H p = none) : BoxAt (upd H p u) b n := h.ex (Evl.Ex.new e)
def spCell (K : PySem.W.Frag) : Sp := fun vs H Q _ => ∃ (a : Addr) (ns : List Int) (k : Nat), vs = [.ref a, .int k] ∧ SqL K H a (ns.map V.int) ∧ k ≤ 1000 ∧ ∀ i, Q (.int i) H
def spBox : Sp := fun vs H Q _ => ∃ i : Int, vs = [.int i] ∧ ∀ p o, H p = none → Box 0 o → Q (.ref p) (upd H p o)
def spTake : Sp := fun vs H Q _ => ∃ (b : Addr) (m : Int) (n : Nat), vs = [.ref b, .int m] ∧ BoxAt H b n ∧ n ≤ 1000000000 ∧ 0 < m ∧ m ≤ 1000000 ∧
  ∀ (d : Int) o, 0 ≤ d → d < m → Box (n + 1) o → Q (.int d) (upd H b o)
theorem fmod_nn {a b : Int} (hb : 0 < b) : 0 ≤ a.fmod b ∧ a.fmod b < b := ⟨Int.fmod_nonneg_of_pos a hb, Int.fmod_lt_of_pos a hb⟩
theorem fdiv_nn {a b : Int} (ha : 0 ≤ a) (hb : 0 < b) : 0 ≤ a.fdiv b := by
  rw [Int.fdiv_eq_ediv_of_nonneg a (by omega)]
  exact Int.ediv_nonneg ha (by omega)
/-- a draw, read -/
theorem rd_take {b : Addr} {m : Int} {n i : Nat} {σ : L2.St} {H : Hp} {Q : VK} {E : XK} {tm : TE} (hv : σ[i]? = some (some (.ref b))) (ht : ∀ Q : VK, Q (.int m) H → tm σ H Q) (hb : BoxAt H b n) (hn : n ≤ 1000000000) (hm : 0 < m) (hm2 : m ≤ 1000000)
    (q : ∀ (d : Int) H', 0 ≤ d → d < m → Eb b H H' → BoxAt H' b (n + 1) → Q (.int d) H') : tCall spTake [] E (tCons (tVar i) (tCons tm tNil)) σ H Q :=
  ⟨.ref b, hv, ht _ ⟨b, m, n, rfl, hb, hn, hm, hm2, fun d o h1 h2 h3 => q d _ h1 h2 Eb.upd ⟨o, upd_same, h3⟩⟩⟩
end OP

namespace OP
open PySem PySem.Spec PyProof.Rows L2 Evl
section
variable {K : PySem.W.Frag} {σ : L2.St} {H H' : Hp} {ta tb te tx ts : TE} {t u : TT} {x y z v : V}
theorem given_all {n : Nat} {v : Nat → V} : given n (fun _ => true) v = (List.range n).map v := by
  unfold given
  rw [List.filter_eq_self.mpr fun _ _ => rfl]
theorem given_str {α : Type} (l : List α) (d : α) (v : α → V) : given l.length (fun _ => true) (fun i => v (l.getD i d)) = l.map v := by
  rw [given_all]
  apply List.ext_getElem?
  intro i
  rw [List.getElem?_map, List.getElem?_map]
  by_cases h : i < l.length
  · rw [List.getElem?_range h, List.getElem?_eq_getElem h]
    simp [List.getD, List.getElem?_eq_getElem h]
  · rw [List.getElem?_eq_none (by rw [List.length_range]; omega), List.getElem?_eq_none (by omega)]
    rfl
theorem given_filter {α : Type} (p : α → Bool) (v : α → V) (d : α) : ∀ l : List α, given l.length (fun i => p (l.getD i d)) (fun i => v (l.getD i d)) = (l.filter p).map v := by
  intro l
  have key : ∀ n, n ≤ l.length → given n (fun i => p (l.getD i d)) (fun i => v (l.getD i d)) = ((l.take n).filter p).map v := by
    intro n
    induction n with
    | zero => intro _; rfl
    | succ n ih =>
      intro h
      have hn : n < l.length := h
      have e : l.getD n d = l[n] := by simp [List.getD, List.getElem?_eq_getElem hn]
      rw [List.take_succ, List.getElem?_eq_getElem hn, List.filter_append, List.map_append, ← ih (Nat.le_of_lt hn)]
      cases hp : p l[n] with
      | true =>
        rw [given_yes (by rw [e]; exact hp), e]
        simp [hp]
      | false =>
        rw [given_no (by rw [e]; exact hp)]
        simp [hp]
  rw [key l.length (Nat.le_refl _), List.take_length]
/-- [e for x in text if t] -/
theorem el_lcS {s : Str} {j : Nat} {vs : List Nat} (f : Nat → Bool) (v : Nat → V) (h : Ev ts σ H (.str s)) (hz : s.length ≤ 40000) (hw : ∀ x, wipe ((wipe σ vs).set j (some x)) vs = wipe σ vs)
    (ht : ∀ (i : Nat) (c : Nat) H1, Ex H H1 → s.cps[i]? = some c → EvT t ((wipe σ vs).set j (some (.str ⟨#[c]⟩))) H1 (f i))
    (he : ∀ (i : Nat) (c : Nat) H1, Ex H H1 → s.cps[i]? = some c → f i = true → Ev te ((wipe σ vs).set j (some (.str ⟨#[c]⟩))) H1 (v i)) :
    EvL (tLc (iStr ts) (gName j) t te vs) σ H (given s.length f v) := fun H0 e Q q => h H0 e _ fun H1 e1 => ⟨s, rfl, fun Dl hD =>
  lc_it walk_str (Cw H1 f v Dl) ⟨hD, Ex.new hD, upd_same⟩ (fun _ _ _ _ => trivial) (fun i x H2 H3 hi p y => by
    obtain ⟨rfl, c, hc, rfl⟩ := y
    have hi' : i < 50000 := Nat.lt_of_lt_of_le hi (Nat.le_trans hz (by decide))
    exact ⟨hw _, cw_turn p hi' (ht i c H1 (e.trans e1) hc) (fun hf => he i c H1 (e.trans e1) hc hf)⟩) (fun H' p => q Dl H' (fresh_back e1 p.1) (e1.trans p.2.1) p.2.2)⟩
/-- all([..]) of truth values -/
theorem ev_all {bs : List Bool} (ha : EvL ta σ H (bs.map V.bl)) : Ev (tCB (rAll K) (tCons ta tNil)) σ H (.bl (bs.all id)) := fun H1 e Q q =>
  ha H1 e _ fun p H2 _ e2 h2 => ⟨p, bs, rfl, SqL.of h2, q H2 e2⟩
theorem ev_any {bs : List Bool} (ha : EvL ta σ H (bs.map V.bl)) : Ev (tCB (rAny K) (tCons ta tNil)) σ H (.bl (bs.any id)) := fun H1 e Q q =>
  ha H1 e _ fun p H2 _ e2 h2 => ⟨p, bs, rfl, SqL.of h2, q H2 e2⟩
theorem ev_lenS {s : Str} (ha : Ev ta σ H (.str s)) (hz : s.length ≤ 100000) : Ev (tCB (fun xs H Q => ∃ z : Str, xs = [.str z] ∧ z.length ≤ sizeLine ∧ Q (.int z.length) H) (tCons ta tNil)) σ H (.int s.length) := fun H1 e Q q =>
  ha H1 e _ fun H2 e2 => ⟨s, rfl, sz_of hz, q H2 e2⟩
theorem ev_inS {c : Nat} {s : Str} (ha : Ev ta σ H (.str ⟨#[c]⟩)) (hb : Ev tb σ H (.str s)) :
    Ev (tOp (fun x y H Q => ∃ (c : Nat) (z : Str), x = .str ⟨#[c]⟩ ∧ y = .str z ∧ Q (.bl (decide (c ∈ z.cps.toList))) H) ta tb) σ H (.bl (decide (c ∈ s.cps.toList))) :=
  ev_op ha hb fun H1 _ Q q => ⟨c, s, rfl, rfl, q H1 (Ex.refl H1)⟩
/-- [f(sign) for sign in text], truth values -/
theorem el_lcSb {s : Str} {j : Nat} {vs : List Nat} (f : Nat → Bool) (h : Ev ts σ H (.str s)) (hz : s.length ≤ 40000) (hw : ∀ x, wipe ((wipe σ vs).set j (some x)) vs = wipe σ vs)
    (he : ∀ (c : Nat) H1, Ex H H1 → Ev te ((wipe σ vs).set j (some (.str ⟨#[c]⟩))) H1 (.bl (f c))) :
    EvL (tLc (iStr ts) (gName j) tYes te vs) σ H ((s.cps.toList.map f).map V.bl) := by
  have e : given s.length (fun _ => true) (fun i => V.bl (f (s.cps.toList.getD i 0))) = (s.cps.toList.map f).map V.bl := by
    rw [List.map_map]
    have := given_str s.cps.toList 0 (V.bl ∘ f)
    exact this
  rw [← e]
  refine el_lcS (fun _ => true) _ h hz hw (fun _ _ _ _ _ H1 _ Q q => q H1 (Ex.refl H1)) (fun i c H1 e1 hc _ => ?_)
  have e2 : s.cps.toList.getD i 0 = c := by
    have : s.cps.toList[i]? = some c := by simpa using hc
    simp [List.getD, this]
  rw [e2]
  exact he c H1 e1
/-- [sign for sign in text if p(sign)] -/
theorem el_lcSf {s : Str} {j : Nat} {vs : List Nat} (p : Nat → Bool) (v : Nat → V) (h : Ev ts σ H (.str s)) (hz : s.length ≤ 40000) (hw : ∀ x, wipe ((wipe σ vs).set j (some x)) vs = wipe σ vs)
    (ht : ∀ (c : Nat) H1, Ex H H1 → EvT t ((wipe σ vs).set j (some (.str ⟨#[c]⟩))) H1 (p c))
    (he : ∀ (c : Nat) H1, Ex H H1 → Ev te ((wipe σ vs).set j (some (.str ⟨#[c]⟩))) H1 (v c)) :
    EvL (tLc (iStr ts) (gName j) t te vs) σ H ((s.cps.toList.filter p).map v) := by
  rw [← given_filter p v 0 s.cps.toList]
  have key : ∀ {i c : Nat}, s.cps[i]? = some c → s.cps.toList.getD i 0 = c := fun {i c} hc => by
    have : s.cps.toList[i]? = some c := by simpa using hc
    simp [List.getD, this]
  exact el_lcS (fun i => p (s.cps.toList.getD i 0)) (fun i => v (s.cps.toList.getD i 0)) h hz hw (fun i c H1 e1 hc => by
    show EvT t _ H1 (p (s.cps.toList.getD i 0))
    rw [key hc]
    exact ht c H1 e1) (fun i c H1 e1 hc _ => by
    show Ev te _ H1 (v (s.cps.toList.getD i 0))
    rw [key hc]
    exact he c H1 e1)
theorem et_yes : EvT tYes σ H true := fun H1 _ Q q => q H1 (Ex.refl H1)
end
/-! ### texts of one sign each, put together -/
theorem str_ext {a b : Str} (h : a.cps.toList = b.cps.toList) : a = b := by
  obtain ⟨⟨a⟩⟩ := a
  obtain ⟨⟨b⟩⟩ := b
  dsimp only at h
  rw [h]
theorem app_cps (a b : Str) : (a ++ b).cps.toList = a.cps.toList ++ b.cps.toList := by
  show (a.cps ++ b.cps).toList = _
  simp
theorem join_fold (g : Str) : ∀ (ts : List Str) (a : Array Nat), (ts.foldl (fun acc p => acc ++ g.cps ++ p.cps) a).toList = a.toList ++ (ts.map fun p => g.cps.toList ++ p.cps.toList).flatten
  | [], a => by simp
  | t :: r, a => by
    rw [List.foldl_cons, join_fold g r, List.map_cons, List.flatten_cons]
    simp
theorem join_nil (g : Str) : Txt.join g [] = "" := rfl
theorem join_cons (g t : Str) (r : List Str) : (Txt.join g (t :: r)).cps.toList = t.cps.toList ++ (r.map fun p => g.cps.toList ++ p.cps.toList).flatten := join_fold g r t.cps
theorem flat_signs : ∀ cs : List Nat, (cs.map fun c => ([] : List Nat) ++ [c]).flatten = cs
  | [] => rfl
  | c :: r => by
    rw [List.map_cons, List.flatten_cons, flat_signs r]
    rfl
theorem join_signs : ∀ cs : List Nat, Txt.join "" (cs.map fun c => (⟨#[c]⟩ : Str)) = ⟨cs.toArray⟩
  | [] => rfl
  | c :: r => by
    apply str_ext
    rw [List.map_cons, join_cons, List.map_map]
    have e := flat_signs r
    show [c] ++ (r.map fun c => ([] : List Nat) ++ [c]).flatten = c :: r
    rw [e]
    rfl
theorem signs_sum : ∀ cs : List Nat, ((cs.map fun c => (⟨#[c]⟩ : Str)).map (·.length)).sum = cs.length
  | [] => rfl
  | c :: r => by
    show 1 + ((r.map fun c => (⟨#[c]⟩ : Str)).map (·.length)).sum = r.length + 1
    rw [signs_sum r, Nat.add_comm]
/-! ### data: lists of texts -/
theorem dpAll_strs {K : PySem.W.Frag} {H : Hp} : ∀ ss : List Str, DpAll K H (ss.map V.str) (ss.map PyData.str)
  | [] => .nil
  | s :: r => .cons (.str s) (dpAll_strs r)
theorem lay_strs : ∀ ss : List Str, (∀ s ∈ ss, PyData.strOk s = true) → PyData.canLayAll0 (ss.map PyData.str) = true
  | [], _ => rfl
  | s :: r, h => by
    show (PyData.canLay0 (.str s) && PyData.canLayAll0 (r.map PyData.str)) = true
    rw [lay_strs r fun x hx => h x (List.mem_cons_of_mem _ hx)]
    show (PyData.strOk s && true) = true
    rw [h s (List.mem_cons_self ..)]
    rfl
theorem depth_strs : ∀ ss : List Str, PyData.depthAll (ss.map PyData.str) = 0
  | [] => rfl
  | s :: r => by
    show max (PyData.depth (.str s)) (PyData.depthAll (r.map PyData.str)) = 0
    rw [depth_strs r]
    rfl
theorem shaped_strs {ss : List Str} (h : ∀ s ∈ ss, PyData.strOk s = true) : SeqAt.shaped (.list (ss.map PyData.str)) = true := by
  show (PyData.canLayAll0 (ss.map PyData.str) && decide (PyData.depthAll (ss.map PyData.str) + 1 ≤ 64)) = true
  rw [lay_strs ss h, depth_strs]
  decide
theorem eqv_strs : ∀ ss ts : List Str, PyData.eqvAll (ss.map PyData.str) (ts.map PyData.str) = decide (ss = ts)
  | [], [] => rfl
  | [], _ :: _ => rfl
  | _ :: _, [] => rfl
  | s :: r, t :: q => by
    show ((s == t) && PyData.eqvAll (r.map PyData.str) (q.map PyData.str)) = decide (s :: r = t :: q)
    rw [eqv_strs r q]
    by_cases h1 : s = t
    · subst h1
      by_cases h2 : r = q
      · subst h2
        simp
      · simp [h2]
    · have e : (s == t) = false := by simpa using h1
      rw [e]
      simp [h1]
section
variable {K : PySem.W.Frag} {σ : L2.St} {H H' : Hp} {ta tb te tx ts : TE}
theorem ev_eqS {ss qs : List Str} (ha : EvL ta σ H (ss.map V.str)) (hb : EvL tb σ H (qs.map V.str)) (h1 : ∀ s ∈ ss, PyData.strOk s = true) (h2 : ∀ s ∈ qs, PyData.strOk s = true) : Ev (tOp (rEqD K) ta tb) σ H (.bl (decide (ss = qs))) :=
  ev_opLL ha hb fun p q H1 hp hq _ H2 e Q k => ⟨_, _, .lst (SqL.of (e _ _ hp)) (dpAll_strs ss), .lst (SqL.of (e _ _ hq)) (dpAll_strs qs), shaped_strs h1, shaped_strs h2, by
    show Q (.bl (PyData.eqvAll (ss.map PyData.str) (qs.map PyData.str))) H2
    rw [eqv_strs]
    exact k H2 (Ex.refl H2)⟩
end
end OP

namespace OP
open PySem PySem.Spec PyProof.Rows L2 Evl
/-! ### rules with the written part K said outright (for comprehensions' blocks) -/
section
variable {X : Cx} (K : PySem.W.Frag)
theorem ix_listK (h : X.K = K := by rfl) : IxR X (rIxL K) := h ▸ ix_list
theorem ix_tupK (h : X.K = K := by rfl) : IxR X (rIxT K) := h ▸ ix_tup
theorem sl_listK (h : X.K = K := by rfl) : L2.SlR X (rSlL K) := h ▸ sl_list
theorem sl_tupK (h : X.K = K := by rfl) : L2.SlR X (rSlA K) := h ▸ sl_tupA
theorem op_in_seqK (h : X.K = K := by rfl) : OpR X (compareOp .In) (rIn K false) := h ▸ op_in_seq
theorem op_notIn_seqK (h : X.K = K := by rfl) : OpR X (compareOp .NotIn) (rIn K true) := h ▸ op_notIn_seq
theorem op_eqDK (hu : X.A.units + 64 < cLine) (h : X.K = K := by rfl) : OpR X (compareOp .Eq) (rEqD K) := h ▸ op_eqD hu
theorem op_neDK (hu : X.A.units + 64 < cLine) (h : X.K = K := by rfl) : OpR X (compareOp .NotEq) (rNeD K) := h ▸ op_neD hu
theorem call_lenK (h : X.K = K := by rfl) : CallR X (.builtin "len") (rLenS K) := by
  subst h
  exact call_len_seq
theorem call_listK (h : X.K = K := by rfl) : CallR X (.type "list") (rListS K) := by
  subst h
  exact call_list_of
def rTupS (K : PySem.W.Frag) : List V → Hp → VK → Prop := fun xs H Q => ∃ p ys, xs = [.ref p] ∧ ((SqL K H p ys ∧ ∀ l, H l = none → Q (.ref l) (upd H l (.tup ys))) ∨ (SqT K H p ys ∧ Q (.ref p) H))
theorem call_tupleK (h : X.K = K := by rfl) : CallR X (.type "tuple") (rTupS K) := by
  subst h
  exact call_tuple_of
theorem cr_allK (hc : X.calm = true) (h : X.K = K := by rfl) : CallR X (.builtin "all") (rAll K) := h ▸ cr_all hc
theorem cr_anyK (hc : X.calm = true) (h : X.K = K := by rfl) : CallR X (.builtin "any") (rAny K) := h ▸ cr_any hc
theorem call_isZK (h : X.K = K := by rfl) : CallR X (.builtin "isinstance") (rIsZ K) := h ▸ call_isZ
def rJoin (K : PySem.W.Frag) : V → List V → Hp → VK → Prop := fun x xs H Q => ∃ a p, ∃ ys : List Str, x = .str a ∧ xs = [.ref p] ∧ (SqL K H p (ys.map V.str) ∨ SqT K H p (ys.map V.str)) ∧ (ys.map (·.length)).sum + ys.length * a.length ≤ 16777216 ∧ Q (.str (Txt.join a ys)) H
theorem mt_joinK (h : X.K = K := by rfl) : MtR X "str.join" (rJoin K) := by
  subst h
  exact mt_join
variable {tg o e : Expr} {es : List Expr} {to tl : TE} {t : TA} {name : Str} {apos cpos pos : Pos} {T id : String} {r : V → List V → Hp → VK → Prop}
theorem pi_listK (hl : PE X e tl) (h : X.K = K := by rfl) : PI X tg e (iList K tl) := h ▸ pi_list hl
theorem pi_tupK (hl : PE X e tl) (h : X.K = K := by rfl) : PI X tg e (iTup K tl) := h ▸ pi_tup hl
theorem pe_bmK (pa : PlainAttrs T) (slot : Slot T name id) (hty : typeOf (.builtin id) = pure (.type "method_descriptor")) (hm : MtR X id r) (ho : PE X o to) (ha : PA X (e :: es) t)
    (hbase : attributeBase o name X.env (eval o X.env) = eval o X.env := by rfl)
    (hfew : ((backTo cpos (starEach (e :: es) X.env)).all (fun x => !x.1) && (backToKw cpos (keywordEach [] X.env)).all (fun x => x.1.isSome)
      && decide ((e :: es).length + ([] : List Keyword).length + (if ([] : List Keyword).isEmpty then 0 else 1) < 30)) = true := by rfl)
    (hline : (apos.endLine == cpos.line) = true := by rfl) (hs : starEach (e :: es) X.env = (false, eval e X.env) :: starEach es X.env := by rfl) (hplain : (backTo cpos (starEach es X.env)).any (·.1) = false := by rfl) (hK : X.K = K := by rfl) :
    PE X (.Call (.Attribute o name apos) (e :: es) [] cpos) (tBM K T r to t) := hK ▸ pe_bm pa slot hty hm ho ha hbase hfew hline hs hplain
theorem pe_bm0K (pa : PlainAttrs T) (slot : Slot T name id) (hty : typeOf (.builtin id) = pure (.type "method_descriptor")) (hm : MtR X id r) (ho : PE X o to)
    (hbase : attributeBase o name X.env (eval o X.env) = eval o X.env := by rfl) (hline : (apos.endLine == cpos.line) = true := by rfl) (hK : X.K = K := by rfl) : PE X (.Call (.Attribute o name apos) [] [] cpos) (tBM0 K T r to) := hK ▸ pe_bm0 pa slot hty hm ho hbase hline
theorem pg_tupK {k : Nat} {t : TGs} {n : Nat} (hc : X.calm = true) (h : PGs X es t)
    (hn : (assignEach es X.env).length = n := by rfl) (hst : (assignEach es X.env).findIdx? (·.1) = none := by rfl) (hK : X.K = K := by rfl) : PG X (.Tuple es k pos) (gTup K n t) := hK ▸ pg_tup hc h hn hst
theorem pe_fldK {f : Str} (he : PE X e tl) (hb : attributeBase e f X.env (eval e X.env) = eval e X.env) (hK : X.K = K := by rfl) : PE X (.Attribute e f pos) (tFld K tl f) := hK ▸ pe_fld he hb
def tTruK (K : PySem.W.Frag) (ta : TE) : TT := fun σ H Q => ta σ H fun x H' => ∃ k, TruV K x H' k ∧ Q k H'
theorem pt_truthK (ha : PE X e tl) (he : ∀ whole, isTrue e X.env whole = (do let v ← whole; standAt e.pos; holding [v] (truthy v))) (hK : X.K = K := by rfl) : PT X e (tTruK K tl) := by
  subst hK
  exact pt_truth ha he
end
end OP

namespace K01
open PySem PySem.Spec PyProof.Rows L2 OP
def topS (i : Nat) : Stmt := PySem.Challenge.pw_openposts_k01_signs_and_words.main.body.getD i (.Pass ⟨0, 0, 0, 0⟩)
abbrev PP : Program := PySem.Challenge.pw_openposts_k01_signs_and_words
abbrev s_init : Stmt := inClass (topS 1) 0
def initArg : Arg := (defArgs s_init).args.headD { arg := "self", annotation := none, pos := ⟨0, 0, 0, 0⟩ }
abbrev s_is_integer : Stmt := topS 6
abbrev N_is_integer : List Str := ["value"]
theorem sc_is_integer : FnScope N_is_integer ["value"] (defScope s_is_integer) := ⟨rfl, rfl, rfl, by decide +kernel, rfl, by decide +kernel, by decide +kernel⟩
abbrev s_is_sign : Stmt := topS 7
abbrev N_is_sign : List Str := ["value"]
theorem sc_is_sign : FnScope N_is_sign ["value"] (defScope s_is_sign) := ⟨rfl, rfl, rfl, by decide +kernel, rfl, by decide +kernel, by decide +kernel⟩
abbrev s_is_word : Stmt := topS 8
abbrev N_is_word : List Str := ["value", "sign"]
theorem sc_is_word : FnScope N_is_word ["value"] (defScope s_is_word) := ⟨rfl, rfl, rfl, by decide +kernel, rfl, by decide +kernel, by decide +kernel⟩
abbrev s_law_cell_at : Stmt := topS 10
abbrev N_law_cell_at : List Str := ["_law_script", "_law_k"]
theorem sc_law_cell_at : FnScope N_law_cell_at ["_law_script", "_law_k"] (defScope s_law_cell_at) := ⟨rfl, rfl, rfl, by decide +kernel, rfl, by decide +kernel, by decide +kernel⟩
abbrev s_law_box : Stmt := topS 11
abbrev N_law_box : List Str := ["_law_number"]
theorem sc_law_box : FnScope N_law_box ["_law_number"] (defScope s_law_box) := ⟨rfl, rfl, rfl, by decide +kernel, rfl, by decide +kernel, by decide +kernel⟩
abbrev s_law_take : Stmt := topS 12
abbrev N_law_take : List Str := ["_law_box_here", "_law_many", "_law_digit", "_law_number"]
theorem sc_law_take : FnScope N_law_take ["_law_box_here", "_law_many"] (defScope s_law_take) := ⟨rfl, rfl, rfl, by decide +kernel, rfl, by decide +kernel, by decide +kernel⟩
abbrev s_law_word : Stmt := topS 13
abbrev N_law_word : List Str := ["_law_box_here", "_law_many", "_law_k"]
theorem sc_law_word : FnScope N_law_word ["_law_box_here"] (defScope s_law_word) := ⟨rfl, rfl, rfl, by decide +kernel, rfl, by decide +kernel, by decide +kernel⟩
abbrev s_law_good : Stmt := topS 14
abbrev N_law_good : List Str := ["_law_value", "_law_sign"]
theorem sc_law_good : FnScope N_law_good ["_law_value"] (defScope s_law_good) := ⟨rfl, rfl, rfl, by decide +kernel, rfl, by decide +kernel, by decide +kernel⟩
abbrev s_law_values : Stmt := topS 15
abbrev N_law_values : List Str := ["_law_box_here", "_law_word_here", "_law_at", "_law_signs", "_law_sign", "_law_some"]
theorem sc_law_values : FnScope N_law_values ["_law_box_here"] (defScope s_law_values) := ⟨rfl, rfl, rfl, by decide +kernel, rfl, by decide +kernel, by decide +kernel⟩
abbrev s_law : Stmt := topS 16
abbrev N_law : List Str := ["_law_script", "_law_k", "_law_box_here", "_law_values_here", "_law_turn", "_law_value", "_law_number"]
theorem sc_law : FnScope N_law ["_law_script"] (defScope s_law) := ⟨rfl, rfl, rfl, by decide +kernel, rfl, by decide +kernel, by decide +kernel⟩
structure TX (K : PySem.W.Frag) (mg : Str → Option Value) : Type where
  f_is_integer : Addr
  d_is_integer : FuncData
  F_is_integer : Fun K "is_integer" "is_integer" s_is_integer f_is_integer d_is_integer
  b_is_integer : Binds K d_is_integer ["value"] []
  g_is_integer : mg "is_integer" = some (.ref f_is_integer)
  f_is_sign : Addr
  d_is_sign : FuncData
  F_is_sign : Fun K "is_sign" "is_sign" s_is_sign f_is_sign d_is_sign
  b_is_sign : Binds K d_is_sign ["value"] []
  g_is_sign : mg "is_sign" = some (.ref f_is_sign)
  f_is_word : Addr
  d_is_word : FuncData
  F_is_word : Fun K "is_word" "is_word" s_is_word f_is_word d_is_word
  b_is_word : Binds K d_is_word ["value"] []
  g_is_word : mg "is_word" = some (.ref f_is_word)
  f_law_cell_at : Addr
  d_law_cell_at : FuncData
  F_law_cell_at : Fun K "_law_cell_at" "_law_cell_at" s_law_cell_at f_law_cell_at d_law_cell_at
  b_law_cell_at : Binds K d_law_cell_at ["_law_script", "_law_k"] []
  g_law_cell_at : mg "_law_cell_at" = some (.ref f_law_cell_at)
  f_law_box : Addr
  d_law_box : FuncData
  F_law_box : Fun K "_law_box" "_law_box" s_law_box f_law_box d_law_box
  b_law_box : Binds K d_law_box ["_law_number"] []
  g_law_box : mg "_law_box" = some (.ref f_law_box)
  f_law_take : Addr
  d_law_take : FuncData
  F_law_take : Fun K "_law_take" "_law_take" s_law_take f_law_take d_law_take
  b_law_take : Binds K d_law_take ["_law_box_here", "_law_many"] []
  g_law_take : mg "_law_take" = some (.ref f_law_take)
  f_law_word : Addr
  d_law_word : FuncData
  F_law_word : Fun K "_law_word" "_law_word" s_law_word f_law_word d_law_word
  b_law_word : Binds K d_law_word ["_law_box_here"] []
  g_law_word : mg "_law_word" = some (.ref f_law_word)
  f_law_good : Addr
  d_law_good : FuncData
  F_law_good : Fun K "_law_good" "_law_good" s_law_good f_law_good d_law_good
  b_law_good : Binds K d_law_good ["_law_value"] []
  g_law_good : mg "_law_good" = some (.ref f_law_good)
  f_law_values : Addr
  d_law_values : FuncData
  F_law_values : Fun K "_law_values" "_law_values" s_law_values f_law_values d_law_values
  b_law_values : Binds K d_law_values ["_law_box_here"] []
  g_law_values : mg "_law_values" = some (.ref f_law_values)
  f_law : Addr
  d_law : FuncData
  F_law : Fun K "law" "law" s_law f_law d_law
  b_law : Binds K d_law ["_law_script"] []
  g_law : mg "law" = some (.ref f_law)
  z_isinstance : mg "isinstance" = none
  z_int : mg "int" = none
  z_bool : mg "bool" = none
  z_str : mg "str" = none
  z_len : mg "len" = none
  z_all : mg "all" = none
  z_max : mg "max" = none
  z_range : mg "range" = none
  z_list : mg "list" = none
  z_min : mg "min" = none
  z_repr : mg "repr" = none
  t_SIGNS : Tok
  c_SIGNS : mg "SIGNS" = some (.str "01*" t_SIGNS)
  t_MOST_SIGNS : Tok
  c_MOST_SIGNS : mg "MOST_SIGNS" = some (.int 60 t_MOST_SIGNS)
  D0 : Addr
  gD0 : mg "OpenpostsError" = some (.ref D0)
  fI : Addr
  dI : FuncData
  bI : Binds K dI ["self", "value"] []
  tI : PySem.W.typeIn K (.ref fI) = some (.type "function")
  okI : ∀ (w : World) (base : Heap) (CX : CXT), FnOk PP w K mg base CX 1 fI dI ["self", "value"] (spInit K D0)
  C_InvalidNumber : Addr
  gC_InvalidNumber : mg "InvalidNumber" = some (.ref C_InvalidNumber)
  oC_InvalidNumber : OpenC K D0 C_InvalidNumber
  eC_InvalidNumber : ExcC K C_InvalidNumber
  iC_InvalidNumber : PySem.W.findIn K (.ref C_InvalidNumber) "__init__" = some (some (.ref fI))
  kN_int : PySem.W.kitOne K (.ref C_InvalidNumber) (.type "int") = some false
  kN_bool : PySem.W.kitOne K (.ref C_InvalidNumber) (.type "bool") = some false
  kN_str : PySem.W.kitOne K (.ref C_InvalidNumber) (.type "str") = some false
end K01

namespace K01
open PySem PySem.Spec PyProof.Rows L2 OP
section
variable {w : World} {K : PySem.W.Frag} {mg : Str → Option Value} {base : Heap}
theorem G_law_cell_at (T : TX K mg) : FnOk PP w K mg base CX0 1 T.f_law_cell_at T.d_law_cell_at ["_law_script", "_law_k"] (spCell K) := by
  refine T.F_law_cell_at.ok sc_law_cell_at (fun vs H Q E h => ?_) (fun cdv A outer s H vs Q E hr h => ?_)
  · obtain ⟨a, ns, k, rfl, _⟩ := h
    rfl
  · obtain ⟨a, ns, k, rfl, hS, hk, q⟩ := h
    refine ⟨_,
    (pss_one (ps_ret (pe_ifExp (pt_cmpR op_lt (pv 1) (pe_callB (call_lenK K) (by rfl) T.z_len (by decide +kernel) (pa_cons (pv 0) pa_nil)) (nomark _)) (pe_ix (ix_listK K) (pv 0) (pv 1) (fun _ _ => rfl)) (pe_op op_add (pe_op op_mul pe_int (pv 1)) pe_int))))
    , ?_⟩
    refine ⟨.int k, rfl, .ref a, rfl, a, _, rfl, .inl hS, _, _, rfl, rfl, _, rfl, ite2 (fun e => ?_) (fun e => ?_)⟩
    · have e1 := of_decide_eq_true e
      rw [List.length_map] at e1
      have h1 : k < ns.length := by omega
      refine ⟨.ref a, rfl, .int k, rfl, a, _, k, .int ns[k], rfl, rfl, hS, atI_nat ?_, q _⟩
      rw [List.getElem?_map, List.getElem?_eq_getElem h1]
      rfl
    · exact ⟨.int k, rfl, _, _, rfl, rfl, .inl ⟨by decide, by decide⟩, _, _, rfl, rfl, q _⟩
theorem G_law_box (T : TX K mg) : FnOk PP w K mg base CX0 1 T.f_law_box T.d_law_box ["_law_number"] spBox := by
  refine T.F_law_box.ok sc_law_box (fun vs H Q E h => ?_) (fun cdv A outer s H vs Q E hr h => ?_)
  · obtain ⟨i, rfl, _⟩ := h
    rfl
  · obtain ⟨i, rfl, q⟩ := h
    refine ⟨_,
    (pss_one (ps_ret (pe_lst (pa_cons (pe_callB (call_max2 rfl) (by rfl) T.z_max (by decide +kernel) (pa_cons pe_int (pa_cons (pe_op op_sub (pv 0) (pe_op op_pow pe_int pe_int)) pa_nil))) (pa_cons (pe_op op_modN (pv 0) pe_int) (pa_cons pe_int pa_nil))))))
    , ?_⟩
    refine ⟨.int i, rfl, _, _, rfl, rfl, ⟨by decide, by decide, by decide⟩, _, _, rfl, rfl, _, _, rfl, .int i, rfl, _, _, rfl, rfl, (by dsimp only; decide), (by show 3 ≤ sizeLine; decide), fun p hp => q p _ hp ⟨_, _, _, rfl, ?_, (fmod_nn (by decide)).1, Int.lt_trans (fmod_nn (by decide)).2 (by decide), by decide, by decide⟩⟩
    split <;> omega
theorem G_law_take (T : TX K mg) : FnOk PP w K mg base CX0 1 T.f_law_take T.d_law_take ["_law_box_here", "_law_many"] spTake := by
  refine T.F_law_take.ok sc_law_take (fun vs H Q E h => ?_) (fun cdv A outer s H vs Q E hr h => ?_)
  · obtain ⟨b, m, n, rfl, _⟩ := h
    rfl
  · obtain ⟨b, m, n, rfl, ⟨o, hb, x, y, c, rfl, hx, hy, hy2, hc, hcn⟩, hn, hm, hm2, q⟩ := h
    refine ⟨_,
    (pss_cons (ps_if (pt_cmpR op_gt (pe_ix (ix_listK K) (pv 0) pe_int (fun _ _ => rfl)) pe_int (nomark _)) (pss_cons (ps_set (i := 2) sc_law_take.nd rfl (.inl rfl) (pe_op op_modN (pe_ix (ix_listK K) (pv 0) pe_int (fun _ _ => rfl)) (pv 1)))
      (pss_cons (ps_asg (pe_op op_fdivN (pe_ix (ix_listK K) (pv 0) pe_int (fun _ _ => rfl)) (pv 1)) (pg_sub (pv 0) pe_int set_list))
      (pss_one (ps_ret (pv 2))))) pss_nil)
      (pss_cons (ps_asg (pe_op op_add (pe_ix (ix_listK K) (pv 0) pe_int (fun _ _ => rfl)) pe_int) (pg_sub (pv 0) pe_int set_list))
      (pss_cons (ps_set (i := 3) sc_law_take.nd rfl (.inl rfl) (pe_op op_modN (pe_op op_pow (pe_op op_add (pe_op op_add (pe_ix (ix_listK K) (pv 0) pe_int (fun _ _ => rfl)) (pe_op op_mul pe_int (pe_ix (ix_listK K) (pv 0) pe_int (fun _ _ => rfl)))) pe_int) pe_int) pe_int))
      (pss_cons (ps_set (i := 3) sc_law_take.nd rfl (.inl rfl) (pe_op op_modN (pe_op op_pow (pe_op op_add (pv 3) (pe_op op_mul pe_int (pe_ix (ix_listK K) (pv 0) pe_int (fun _ _ => rfl)))) pe_int) pe_int))
      (pss_one (ps_ret (pe_op op_modN (pe_op op_fdivN (pv 3) pe_int) (pv 1))))))))
    , ?_⟩
    have g0 : atI [V.int x, V.int y, V.int c] 0 = some (.int x) := rfl
    refine ⟨.ref b, rfl, b, _, 0, .int x, rfl, rfl, SqL.of hb, rfl, _, _, rfl, rfl, _, rfl, ite2 (fun e => ?_) (fun e => ?_)⟩
    · have e1 := of_decide_eq_true e
      refine ⟨.ref b, rfl, b, _, 0, .int x, rfl, rfl, SqL.of hb, rfl, .int m, rfl, _, _, rfl, rfl, by omega, ?_⟩
      refine ⟨.ref b, rfl, b, _, 0, .int x, rfl, rfl, SqL.of hb, rfl, .int m, rfl, _, _, rfl, rfl, ⟨by omega, by omega⟩, ?_⟩
      refine ⟨.ref b, rfl, b, _, 0, 0, rfl, rfl, hb, rfl, .int (x.fmod m), rfl, ?_⟩
      exact q _ _ (fmod_nn hm).1 (fmod_nn hm).2 ⟨_, _, _, rfl, fdiv_nn hx hm, hy, hy2, hc, by omega⟩
    · refine ⟨.ref b, rfl, b, _, 2, .int c, rfl, rfl, SqL.of hb, rfl, _, _, rfl, rfl, ?_⟩
      refine ⟨.ref b, rfl, b, _, 2, 2, rfl, rfl, hb, rfl, ?_⟩
      have hb2 : upd H b (.lst [V.int x, V.int y, V.int (c + 1)]) b = some (.lst [V.int x, V.int y, V.int (c + 1)]) := upd_same
      refine ⟨.ref b, rfl, b, _, 1, .int y, rfl, rfl, SqL.of hb2, rfl, .ref b, rfl, b, _, 2, .int (c + 1), rfl, rfl, SqL.of hb2, rfl, _, _, rfl, rfl, .inl ⟨by decide, by decide⟩, _, _, rfl, rfl, _, _, rfl, rfl, _, _, rfl, rfl, ⟨by decide, by decide, by omega⟩, _, _, rfl, rfl, (by dsimp only; decide), ?_⟩
      have f1 := fmod_nn (a := (y + 69634 * (c + 1) + 30370) ^ (5 : Int).toNat) (b := 2147483647) (by decide)
      refine ⟨_, rfl, .ref b, rfl, b, _, 2, .int (c + 1), rfl, rfl, SqL.of hb2, rfl, _, _, rfl, rfl, .inl ⟨by decide, by decide⟩, _, _, rfl, rfl, _, _, rfl, rfl, ⟨by decide, by decide, by omega⟩, _, _, rfl, rfl, (by dsimp only; decide), ?_⟩
      refine ⟨_, rfl, _, _, rfl, rfl, ⟨by decide, by decide⟩, .int m, rfl, _, _, rfl, rfl, by omega, ?_⟩
      exact q _ _ (fmod_nn hm).1 (fmod_nn hm).2 ⟨_, _, _, rfl, hx, hy, hy2, by omega, by omega⟩
end
end K01

namespace K01
open PySem PySem.Spec PyProof.Rows L2 OP Evl
/-! ### what is asked of: ints, truth values, texts, other things -/
def vI : V → Bool
  | .int _ => true
  | _ => false
def vB : V → Bool
  | .bl _ => true
  | _ => false
def vS : V → Bool
  | .str _ => true
  | _ => false
def okc (c : Nat) : Bool := decide (c ∈ (("01*" : Str)).cps.toList)
def okS (z : Str) : Bool := decide (z.length ≤ 60) && z.cps.toList.all okc
def vW : V → Bool
  | .str z => okS z
  | _ => false
def vOne : V → Bool
  | .str z => decide (z.length = 1)
  | _ => false
inductive Gd (K : PySem.W.Frag) (H : Hp) : V → Prop where
  | int (i : Int) : Gd K H (.int i)
  | bl (b : Bool) : Gd K H (.bl b)
  | str (z : Str) (h : z.length ≤ 1000) (ha : ∀ c ∈ z.cps.toList, c < 1114112) : Gd K H (.str z)
  | oth {v : V} {t : Value} (h : TyZ K H v t) (h1 : PySem.W.kitOne K t (.type "int") = some false) (h2 : PySem.W.kitOne K t (.type "bool") = some false) (h3 : PySem.W.kitOne K t (.type "str") = some false)
      (e : vI v = false ∧ vB v = false ∧ vS v = false) : Gd K H v
theorem Gd.mono {K : PySem.W.Frag} {H H' : Hp} {v : V} (e : Ex H H') (h : Gd K H v) : Gd K H' v := by
  cases h with
  | int i => exact .int i
  | bl b => exact .bl b
  | str z h ha => exact .str z h ha
  | oth h h1 h2 h3 e1 => exact .oth (h.mono e) h1 h2 h3 e1
section
variable {K : PySem.W.Frag} {σ : L2.St} {H : Hp} {v : V} {i : Nat}
theorem isz_int {Q : VK} (g : Gd K H v) (q : Q (.bl (vI v || vB v)) H) : rIsZ K [v, .ty "int"] H Q := by
  cases g with
  | int i => exact ⟨_, _, _, _, true, rfl, .ty _, .x (.base (.int i)), kit_ty (by decide +kernel), q⟩
  | bl i => exact ⟨_, _, _, _, true, rfl, .ty _, .x (.base (.bl i)), kit_ty (by decide +kernel), q⟩
  | str i => exact ⟨_, _, _, _, false, rfl, .ty _, .x (.base (.str i)), kit_ty (by decide +kernel), q⟩
  | oth h h1 h2 h3 e =>
    rw [e.1, e.2.1] at q
    exact ⟨_, _, _, _, false, rfl, .ty _, h, h1, q⟩
theorem isz_bool {Q : VK} (g : Gd K H v) (q : Q (.bl (vB v)) H) : rIsZ K [v, .ty "bool"] H Q := by
  cases g with
  | int i => exact ⟨_, _, _, _, false, rfl, .ty _, .x (.base (.int i)), kit_ty (by decide +kernel), q⟩
  | bl i => exact ⟨_, _, _, _, true, rfl, .ty _, .x (.base (.bl i)), kit_ty (by decide +kernel), q⟩
  | str i => exact ⟨_, _, _, _, false, rfl, .ty _, .x (.base (.str i)), kit_ty (by decide +kernel), q⟩
  | oth h h1 h2 h3 e =>
    rw [e.2.1] at q
    exact ⟨_, _, _, _, false, rfl, .ty _, h, h2, q⟩
theorem isz_str {Q : VK} (g : Gd K H v) (q : Q (.bl (vS v)) H) : rIsZ K [v, .ty "str"] H Q := by
  cases g with
  | int i => exact ⟨_, _, _, _, false, rfl, .ty _, .x (.base (.int i)), kit_ty (by decide +kernel), q⟩
  | bl i => exact ⟨_, _, _, _, false, rfl, .ty _, .x (.base (.bl i)), kit_ty (by decide +kernel), q⟩
  | str i => exact ⟨_, _, _, _, true, rfl, .ty _, .x (.base (.str i)), kit_ty (by decide +kernel), q⟩
  | oth h h1 h2 h3 e =>
    rw [e.2.2] at q
    exact ⟨_, _, _, _, false, rfl, .ty _, h, h3, q⟩
theorem ev_isint (hv : σ[i]? = some (some v)) (g : Gd K H v) : Ev (tCB (rIsZ K) (tCons (tVar i) (tCons (tC (.ty "int")) tNil))) σ H (.bl (vI v || vB v)) := fun H1 e Q q =>
  ⟨v, hv, isz_int (g.mono e) (q H1 (Ex.refl H1))⟩
theorem ev_isbool (hv : σ[i]? = some (some v)) (g : Gd K H v) : Ev (tCB (rIsZ K) (tCons (tVar i) (tCons (tC (.ty "bool")) tNil))) σ H (.bl (vB v)) := fun H1 e Q q =>
  ⟨v, hv, isz_bool (g.mono e) (q H1 (Ex.refl H1))⟩
theorem ev_isstr (hv : σ[i]? = some (some v)) (g : Gd K H v) : Ev (tCB (rIsZ K) (tCons (tVar i) (tCons (tC (.ty "str")) tNil))) σ H (.bl (vS v)) := fun H1 e Q q =>
  ⟨v, hv, isz_str (g.mono e) (q H1 (Ex.refl H1))⟩
theorem vI_eq : ((vI v || vB v) && !(vB v)) = vI v := by cases v <;> rfl
end
def spV (K : PySem.W.Frag) (f : V → Bool) : Sp := fun vs H Q _ => ∃ v, vs = [v] ∧ Gd K H v ∧ RetV (.bl (f v)) H Q
section
variable {w : World} {K : PySem.W.Frag} {mg : Str → Option Value} {base : Heap}
theorem G_is_integer (T : TX K mg) : FnOk PP w K mg base CX0 1 T.f_is_integer T.d_is_integer ["value"] (spV K vI) := by
  refine T.F_is_integer.ok sc_is_integer (fun vs H Q E h => ?_) (fun cdv A outer s H vs Q E hr h => ?_)
  · obtain ⟨v, rfl, _⟩ := h
    rfl
  · obtain ⟨v, rfl, g, q⟩ := h
    refine ⟨_,
    (pss_one (ps_ret (pe_and (pe_callB (call_isZK K) (by rfl) T.z_isinstance (by decide +kernel) (pa_cons (pv 0) (pa_cons (pe_bltn (v := .ty "int") (u := .type "int") (by rfl) T.z_int (by decide +kernel) rfl) pa_nil))) (pe_one (pe_not (pe_callB (call_isZK K) (by rfl) T.z_isinstance (by decide +kernel) (pa_cons (pv 0) (pa_cons (pe_bltn (v := .ty "bool") (u := .type "bool") (by rfl) T.z_bool (by decide +kernel) rfl) pa_nil))))))))
    , ?_⟩
    refine s_ret (ev_is (ev_andV (ev_isint rfl g) fun _ => ev_notV (ev_isbool rfl g)) ?_) q
    rw [vI_eq]
theorem len_sign {z : Str} (h : z.length = 1) : ∃ c, z = ⟨#[c]⟩ := by
  obtain ⟨cps⟩ := z
  obtain ⟨l⟩ := cps
  match l, h with
  | [c], _ => exact ⟨c, rfl⟩
theorem G_is_sign (T : TX K mg) : FnOk PP w K mg base CX0 1 T.f_is_sign T.d_is_sign ["value"] (spV K fun v => vW v && vOne v) := by
  refine T.F_is_sign.ok sc_is_sign (fun vs H Q E h => ?_) (fun cdv A outer s H vs Q E hr h => ?_)
  · obtain ⟨v, rfl, _⟩ := h
    rfl
  · obtain ⟨v, rfl, g, q⟩ := h
    refine ⟨_,
    (pss_one (ps_ret (pe_and (pe_callB (call_isZK K) (by rfl) T.z_isinstance (by decide +kernel) (pa_cons (pv 0) (pa_cons (pe_bltn (v := .ty "str") (u := .type "str") (by rfl) T.z_str (by decide +kernel) rfl) pa_nil))) (pe_and (pe_cmpR op_eq (pe_callB call_len_str (by rfl) T.z_len (by decide +kernel) (pa_cons (pv 0) pa_nil)) pe_int (nomark _)) (pe_one (pe_cmpR op_in_sign (pv 0) (pe_glob (v := .str "01*") rfl T.c_SIGNS ⟨_, rfl⟩) (by rfl)))))))
    , ?_⟩
    by_cases hs : vS v = true
    · cases v with
      | str z =>
        have hz : z.length ≤ 1000 := by
          cases g with
          | str _ h _ => exact h
          | oth _ _ _ _ e => exact Bool.noConfusion e.2.2
        by_cases h1 : z.length = 1
        · obtain ⟨c, rfl⟩ := len_sign h1
          refine s_ret (ev_is (ev_andV (ev_isstr rfl g) fun _ => ev_andV (ev_op (ev_lenS (ev_var rfl) (by omega)) ev_c (rv_eq rfl)) fun _ => ev_inS (ev_var rfl) ev_c) ?_) q
          show V.bl (true && (true && okc c)) = V.bl ((decide ((1 : Nat) ≤ 60) && [c].all okc) && decide ((1 : Nat) = 1))
          simp
        · refine s_ret (ev_is (ev_andV (ev_isstr rfl g) fun _ => ev_andV (b := false) (ev_op (ev_lenS (ev_var rfl) (by omega)) ev_c (rv_eq rfl)) fun h => ?_) ?_) q
          · have := V.int.inj (of_decide_eq_true h)
            omega
          · show V.bl (true && (decide (V.int z.length = V.int 1) && false)) = V.bl (okS z && decide (z.length = 1))
            rw [decide_eq_false h1]
            simp
      | _ => cases hs
    · have hf : vS v = false := by simpa using hs
      refine s_ret (ev_is (ev_andV (b := false) (ev_isstr rfl g) fun h => absurd h (by rw [hf]; decide)) ?_) q
      cases v <;> first | rfl | cases hf
theorem G_is_word (T : TX K mg) : FnOk PP w K mg base CX0 1 T.f_is_word T.d_is_word ["value"] (spV K vW) := by
  refine T.F_is_word.ok sc_is_word (fun vs H Q E h => ?_) (fun cdv A outer s H vs Q E hr h => ?_)
  · obtain ⟨v, rfl, _⟩ := h
    rfl
  · obtain ⟨v, rfl, g, q⟩ := h
    refine ⟨_,
    (pss_one (ps_ret (pe_and (pe_callB (call_isZK K) (by rfl) T.z_isinstance (by decide +kernel) (pa_cons (pv 0) (pa_cons (pe_bltn (v := .ty "str") (u := .type "str") (by rfl) T.z_str (by decide +kernel) rfl) pa_nil))) (pe_and (pe_cmpR op_le (pe_callB call_len_str (by rfl) T.z_len (by decide +kernel) (pa_cons (pv 0) pa_nil)) (pe_glob (v := .int 60) rfl T.c_MOST_SIGNS ⟨_, rfl⟩) (nomark _)) (pe_one (pe_callB (cr_allK K rfl) (by rfl) T.z_all (by decide +kernel) (pa_cons (pe_lc (own := [("sign", 1)]) rfl sc_is_word.nd (pi_str (pv 0)) (blkOk_by (N := N_is_word) (sc := defScope s_is_word) (by decide +kernel)) (fun _ _ _ _ _ => (pg_name (i := 1) sc_is_word.nd rfl (.inl rfl))) (fun _ _ _ _ _ => pts_nil) (fun _ _ _ _ _ => (pe_cmpR op_in_sign (pv 1) (pe_glob (v := .str "01*") rfl T.c_SIGNS ⟨_, rfl⟩) (by rfl)))) pa_nil)))))))
    , ?_⟩
    by_cases hs : vS v = true
    · cases v with
      | str z =>
        have hz : z.length ≤ 1000 := by
          cases g with
          | str _ h _ => exact h
          | oth _ _ _ _ e => exact Bool.noConfusion e.2.2
        refine s_ret (ev_is (ev_andV (ev_isstr rfl g) fun _ => ev_andV (ev_op (ev_lenS (ev_var rfl) (by omega)) ev_c rv_I0) fun _ => ev_all (el_lcSb okc (ev_var rfl) (by omega) (fun _ => rfl) fun c H1 _ => ev_inS (ev_var rfl) ev_c)) ?_) q
        show V.bl (true && (decide ((z.length : Int) ≤ 60) && (List.map okc z.cps.toList).all id)) = V.bl (okS z)
        have e1 : decide ((z.length : Int) ≤ 60) = decide (z.length ≤ 60) := decide_eq_decide.mpr ⟨fun h => by omega, fun h => by omega⟩
        rw [e1, List.all_map]
        rfl
      | _ => cases hs
    · have hf : vS v = false := by simpa using hs
      refine s_ret (ev_is (ev_andV (b := false) (ev_isstr rfl g) fun h => absurd h (by rw [hf]; decide)) ?_) q
      cases v <;> first | rfl | cases hf
theorem G_law_good (T : TX K mg) : FnOk PP w K mg base CX0 1 T.f_law_good T.d_law_good ["_law_value"] (spV K vW) := by
  refine T.F_law_good.ok sc_law_good (fun vs H Q E h => ?_) (fun cdv A outer s H vs Q E hr h => ?_)
  · obtain ⟨v, rfl, _⟩ := h
    rfl
  · obtain ⟨v, rfl, g, q⟩ := h
    refine ⟨_,
    (pss_cons (ps_if (PW.pt (pw_or (pt_not (pt_val (pe_callB (call_isZK K) (by rfl) T.z_isinstance (by decide +kernel) (pa_cons (pv 0) (pa_cons (pe_bltn (v := .ty "str") (u := .type "str") (by rfl) T.z_str (by decide +kernel) rfl) pa_nil))))) (pw_or1 (pt_cmpR op_gt (pe_callB call_len_str (by rfl) T.z_len (by decide +kernel) (pa_cons (pv 0) pa_nil)) pe_int (nomark _))))) (pss_one (ps_ret pe_bl)) pss_nil)
      (pss_one (ps_ret (pe_cmpR (op_eqDK K hr.units) (pe_lc (own := [("_law_sign", 1)]) rfl sc_law_good.nd (pi_str (pv 0)) (blkOk_by (N := N_law_good) (sc := defScope s_law_good) (by decide +kernel)) (fun _ _ _ _ _ => (pg_name (i := 1) sc_law_good.nd rfl (.inl rfl))) (fun _ _ _ _ _ => (pts_one (pt_cmpR (op_notIn_seqK K) (pv 1) (pe_lst (pa_cons pe_str (pa_cons pe_str (pa_cons pe_str pa_nil)))) (by rfl)))) (fun _ _ _ _ _ => (pv 1))) (pe_lst pa_nil) (nomark _)))))
    , ?_⟩
    by_cases hs : vS v = true
    · cases v with
      | str z =>
        have hz : z.length ≤ 1000 ∧ ∀ c ∈ z.cps.toList, c < 1114112 := by
          cases g with
          | str _ h ha => exact ⟨h, ha⟩
          | oth _ _ _ _ e => exact Bool.noConfusion e.2.2
        refine q_when (et_or (et_not (et_B (ev_isstr rfl g))) fun _ => et_test (ev_op (ev_lenS (ev_var rfl) (by omega)) ev_c rv_I0)) (fun hb H1 e1 => ?_) (fun hb H1 e1 => ?_)
        · refine s_ret ev_c fun H2 e2 => ?_
          have : vW (.str z) = false := by
            show (decide (z.length ≤ 60) && z.cps.toList.all okc) = false
            have : ¬ z.length ≤ 60 := fun h => by
              have e : decide ((60 : Int) < (z.length : Int)) = true := hb
              have := of_decide_eq_true e
              omega
            rw [decide_eq_false this]
            rfl
          rw [this] at q
          exact q H2 (e1.trans e2)
        · have h60 : z.length ≤ 60 := by
            have e : decide ((60 : Int) < (z.length : Int)) = false := hb
            have := of_decide_eq_false e
            omega
          have hin : ∀ c, inV (.str ⟨#[c]⟩) [.str "0", .str "1", .str "*"] = okc c := fun c => by
            show (decide (("0" : Str) = ⟨#[c]⟩) || (decide (("1" : Str) = ⟨#[c]⟩) || (decide (("*" : Str) = ⟨#[c]⟩) || false))) = decide (c ∈ [48, 49, 42])
            have e : ∀ a : Nat, (decide ((⟨#[a]⟩ : Str) = ⟨#[c]⟩)) = decide (a = c) := fun a => decide_eq_decide.mpr ⟨fun h => by injection h with h; injection h with h; injection h, fun h => by rw [h]⟩
            have e1 := e 48
            have e2 := e 49
            have e3 := e 42
            rw [show ("0" : Str) = ⟨#[48]⟩ from rfl, show ("1" : Str) = ⟨#[49]⟩ from rfl, show ("*" : Str) = ⟨#[42]⟩ from rfl, e1, e2, e3]
            simp only [List.mem_cons, List.not_mem_nil, or_false, Bool.or_false, eq_comm (a := c)]
            rw [← Bool.decide_or, ← Bool.decide_or]
          refine s_ret (ev_is (ev_eqS (ss := (z.cps.toList.filter fun c => !okc c).map fun c => ⟨#[c]⟩) (qs := []) (by
              rw [List.map_map]
              exact el_lcSf (fun c => !okc c) (fun c => .str ⟨#[c]⟩) (ev_var rfl) (by omega) (fun _ => rfl) (fun c H2 e2 => et_test (ev_is (ev_opL (ev_var rfl) (el_lst (ea_cons ev_c (ea_cons ev_c (ea_cons ev_c ea_nil))) (by decide)) fun p H3 hp _ => rv_niL (sq_of hp) rfl rfl) (by rw [hin]))) fun c H2 e2 => ev_var rfl)
            (el_lst ea_nil (by decide)) (fun s hs => ?_) (fun s hs => by cases hs)) ?_) fun H2 e2 => q H2 (e1.trans e2)
          · obtain ⟨c, hc, rfl⟩ := List.mem_map.mp hs
            have := hz.2 c (List.mem_filter.mp hc).1
            show (#[c].all (· < 0x110000)) = true
            simpa using this
          · show V.bl (decide _) = V.bl (decide (z.length ≤ 60) && z.cps.toList.all okc)
            rw [decide_eq_true h60, Bool.true_and]
            congr 1
            rw [Bool.eq_iff_iff, decide_eq_true_eq, List.map_eq_nil_iff, List.filter_eq_nil_iff, List.all_eq_true]
            exact ⟨fun h x hx => by simpa using h x hx, fun h x hx => by simpa using h x hx⟩
      | _ => cases hs
    · have hf : vS v = false := by simpa using hs
      refine q_when (et_or (b := true) (et_not (et_B (ev_isstr rfl g))) fun h => ?_) (fun hb H1 e1 => ?_) (fun hb => ?_)
      · rw [hf] at h
        cases h
      · refine s_ret ev_c fun H2 e2 => ?_
        have : vW v = false := by cases v <;> first | rfl | cases hf
        rw [this] at q
        exact q H2 (e1.trans e2)
      · rw [hf] at hb
        cases hb
end
end K01

namespace K01
open PySem PySem.Spec PyProof.Rows L2 OP Evl
def Asc (z : Str) : Prop := ∀ c ∈ z.cps.toList, c < 1114112
def spWd : Sp := fun vs H Q _ => ∃ (b : Addr) (n : Nat), vs = [.ref b] ∧ BoxAt H b n ∧ n ≤ 1000000 ∧ ∀ (z : Str) H', Eb b H H' → BoxAt H' b (n + 100) → z.length ≤ 63 → Asc z → Q (.str z) H'
section
variable {w : World} {K : PySem.W.Frag} {mg : Str → Option Value} {base : Heap}
theorem G_law_word (T : TX K mg) : FnOk PP w K mg base CX0 2 T.f_law_word T.d_law_word ["_law_box_here"] spWd := by
  refine T.F_law_word.ok sc_law_word (fun vs H Q E h => ?_) (fun cdv A outer s H vs Q E hr h => ?_)
  · obtain ⟨b, n, rfl, _⟩ := h
    rfl
  · obtain ⟨b, n, rfl, hb, hn, q⟩ := h
    refine ⟨_,
    (pss_cons (ps_set (i := 1) sc_law_word.nd rfl (.inl rfl) (pe_ix (ix_listK K) (pe_lst (pa_cons (pe_call (G_law_take T) (hr.mono (by decide)) (by rfl) T.g_law_take T.F_law_take.kp T.b_law_take .nil pass0 (pa_cons (pv 0) (pa_cons pe_int pa_nil))) (pa_cons (pe_call (G_law_take T) (hr.mono (by decide)) (by rfl) T.g_law_take T.F_law_take.kp T.b_law_take .nil pass0 (pa_cons (pv 0) (pa_cons pe_int pa_nil))) (pa_cons (pe_op op_add pe_int (pe_call (G_law_take T) (hr.mono (by decide)) (by rfl) T.g_law_take T.F_law_take.kp T.b_law_take .nil pass0 (pa_cons (pv 0) (pa_cons pe_int pa_nil)))) pa_nil)))) (pe_call (G_law_take T) (hr.mono (by decide)) (by rfl) T.g_law_take T.F_law_take.kp T.b_law_take .nil pass0 (pa_cons (pv 0) (pa_cons pe_int pa_nil))) (fun _ _ => rfl)))
      (pss_one (ps_ret (pe_bmK K PySem.F.plainAttrs_str PySem.F.slot_str_join PySem.F.type_str_join (mt_joinK K) pe_str (pa_cons (pe_lc (own := [("_law_k", 2)]) rfl sc_law_word.nd (pi_range1 (by rfl) T.z_range (pa_cons (pv 1) pa_nil)) (blkOk_by (N := N_law_word) (sc := defScope s_law_word) (by decide +kernel)) (fun _ _ _ _ _ => (pg_name (i := 2) sc_law_word.nd rfl (.inl rfl))) (fun _ _ _ _ _ => pts_nil) (fun _ _ _ _ _ => (pe_ix ix_str pe_str (pe_call (G_law_take T) (hr.mono (by decide)) (by rfl) T.g_law_take T.F_law_take.kp T.b_law_take .nil pass0 (pa_cons (pv 0) (pa_cons pe_int pa_nil))) (fun _ _ => rfl)))) pa_nil)))))
    , ?_⟩
    refine rd_take rfl (fun _ q => q) hb (by omega) (by decide) (by decide) fun d1 H1 a1 a2 e1 b1 => ?_
    refine rd_take rfl (fun _ q => q) b1 (by omega) (by decide) (by decide) fun d2 H2 a3 a4 e2 b2 => ?_
    refine rd_take rfl (fun _ q => q) b2 (by omega) (by decide) (by decide) fun d3 H3 a5 a6 e3 b3 => ?_
    refine ⟨57, d3, rfl, rfl, (by show 3 ≤ sizeLine; decide), fun p hp => ?_⟩
    have npb : p ≠ b := fun e => by
      obtain ⟨o, ho, _⟩ := b3
      rw [e, ho] at hp
      cases hp
    refine rd_take rfl (fun _ q => q) (b3.upd hp) (by omega) (by decide) (by decide) fun d4 H4 a7 a8 e4 b4 => ?_
    have hp4 : H4 p = some (.lst [.int d1, .int d2, .int (57 + d3)]) := e4 p _ npb upd_same
    obtain ⟨m, hm1, hm2, hm3⟩ : ∃ m : Int, atI [V.int d1, V.int d2, V.int (57 + d3)] d4 = some (.int m) ∧ 0 ≤ m ∧ m ≤ 63 := by
      rcases (show d4 = 0 ∨ d4 = 1 ∨ d4 = 2 by omega) with rfl | rfl | rfl
      · exact ⟨d1, rfl, a1, by omega⟩
      · exact ⟨d2, rfl, a3, by omega⟩
      · exact ⟨57 + d3, rfl, by omega, by omega⟩
    refine ⟨p, _, d4, .int m, rfl, rfl, SqL.of hp4, hm1, ?_⟩
    have eH : Eb b H H4 := e1.trans (e2.trans (e3.trans ((Eb.of (Ex.new hp)).trans e4)))
    refine ⟨rfl, .int m, rfl, m, rfl, by omega, by omega, fun D hD => ?_⟩
    have nDb : D ≠ b := fun e => by
      obtain ⟨o, ho, _⟩ := b4
      rw [e, ho] at hD
      cases hD
    refine lc_it walk_range (fun i H' => ∃ cs : List Nat, cs.length = i ∧ H' D = some (.lst (cs.map fun c => .str ⟨#[c]⟩)) ∧ (∀ c ∈ cs, c < 1114112) ∧ Eb b H4 H' ∧ BoxAt H' b (n + 4 + i))
      ⟨[], rfl, upd_same, (fun _ h => nomatch h), Eb.of (Ex.new hD), b4.upd hD⟩ (fun _ _ _ _ => trivial) (fun i x H5 H6 hi p5 y => ?_) (fun H' p5 => ?_)
    · obtain ⟨cs, hl, h1, h2, h3, h4⟩ := p5
      obtain ⟨rfl, rfl⟩ := y
      refine ⟨rfl, ?_⟩
      refine rd_take rfl (fun _ q => q) h4 (by omega) (by decide) (by decide) fun d H7 c1 c2 e7 b7 => ?_
      obtain ⟨c, hc, hc2⟩ : ∃ c, atI ("01*" : Str).cps.toList d = some c ∧ c < 1114112 := by
        rcases (show d = 0 ∨ d = 1 ∨ d = 2 by omega) with rfl | rfl | rfl
        · exact ⟨48, rfl, by decide⟩
        · exact ⟨49, rfl, by decide⟩
        · exact ⟨42, rfl, by decide⟩
      have hD7 := e7 D _ nDb h1
      refine ⟨_, d, c, rfl, rfl, (by decide), hc, _, hD7, ?_, cs ++ [c], ?_, ?_, fun x hx => ?_, ?_, ?_⟩
      · rw [List.length_map]
        exact small1000 (by omega)
      · rw [List.length_append, hl]
        rfl
      · rw [upd_same, List.map_append]
        rfl
      · rcases List.mem_append.mp hx with hx | hx
        · exact h2 x hx
        · rw [List.mem_singleton.mp hx]
          exact hc2
      · exact fun a o na ha => by
          rw [upd_ne (ne_of_none ha hD)]
          exact e7 a o na (h3 a o na ha)
      · obtain ⟨o, ho, hB⟩ := b7
        exact ⟨o, by rw [upd_ne nDb.symm]; exact ho, hB⟩
    · obtain ⟨cs, hl, h1, h2, h3, h4⟩ := p5
      refine ⟨"", D, cs.map fun c => ⟨#[c]⟩, rfl, rfl, .inl (SqL.of (by rw [List.map_map]; exact h1)), ?_, ?_⟩
      · rw [signs_sum, List.length_map]
        show cs.length + cs.length * 0 ≤ 16777216
        omega
      · rw [join_signs]
        refine q _ _ (eH.trans h3) (h4.mono (by omega)) ?_ (fun c hc => h2 c (by simpa using hc))
        show cs.toArray.size ≤ 63
        rw [List.size_toArray]
        omega
end
end K01

namespace K01
open PySem PySem.Spec PyProof.Rows L2 OP Evl
/-! ### values that may be asked of, lists of them -/
section
variable {K : PySem.W.Frag} {σ : L2.St} {H : Hp} {te tb : TE} {ta tr : TA} {v : V} {n m : Nat}
def GdE (K : PySem.W.Frag) (te : TE) (σ : L2.St) (H : Hp) : Prop := ∀ H1, Ex H H1 → ∀ Q : VK, (∀ v H2, Ex H1 H2 → Gd K H2 v → Q v H2) → te σ H1 Q
def GdA (K : PySem.W.Frag) (n : Nat) (ta : TA) (σ : L2.St) (H : Hp) : Prop := ∀ H1, Ex H H1 → ∀ Q : List V → Hp → Prop, (∀ vs H2, Ex H1 H2 → vs.length = n → (∀ v ∈ vs, Gd K H2 v) → Q vs H2) → ta σ H1 Q
def GdL (K : PySem.W.Frag) (n : Nat) (te : TE) (σ : L2.St) (H : Hp) : Prop := ∀ H1, Ex H H1 → ∀ Q : VK, (∀ p vs H2, Ex H1 H2 → H2 p = some (.lst vs) → vs.length = n → (∀ v ∈ vs, Gd K H2 v) → Q (.ref p) H2) → te σ H1 Q
theorem gde_ev (h : Ev te σ H v) (g : Gd K H v) : GdE K te σ H := fun H1 e Q q => h H1 e Q fun H2 e2 => q v H2 e2 (g.mono (e.trans e2))
theorem gd_list {p : Addr} {xs : List V} (h : H p = some (.lst xs)) : Gd K H (.ref p) := .oth (.x (.base (.lst h))) (kit_ty (by decide +kernel)) (kit_ty (by decide +kernel)) (kit_ty (by decide +kernel)) ⟨rfl, rfl, rfl⟩
theorem gd_tup {p : Addr} {xs : List V} (h : H p = some (.tup xs)) : Gd K H (.ref p) := .oth (.x (.base (.tup h))) (kit_ty (by decide +kernel)) (kit_ty (by decide +kernel)) (kit_ty (by decide +kernel)) ⟨rfl, rfl, rfl⟩
theorem gd_dict {p : Addr} {kvs : List (Key × V)} (h : H p = some (.dK kvs)) : Gd K H (.ref p) := .oth (.x (.base (.dK h))) (kit_ty (by decide +kernel)) (kit_ty (by decide +kernel)) (kit_ty (by decide +kernel)) ⟨rfl, rfl, rfl⟩
theorem gd_non : Gd K H .non := .oth (.x (.base .non)) (kit_ty (by decide +kernel)) (kit_ty (by decide +kernel)) (kit_ty (by decide +kernel)) ⟨rfl, rfl, rfl⟩
theorem gde_list {xs : List V} (h : EvL te σ H xs) : GdE K te σ H := fun H1 e Q q => h H1 e Q fun p H2 _ e2 hp => q _ H2 e2 (gd_list hp)
theorem gde_tup {xs : List V} (h : EvU te σ H xs) : GdE K te σ H := fun H1 e Q q => h H1 e Q fun p H2 _ e2 hp => q _ H2 e2 (gd_tup hp)
theorem gda_nil : GdA K 0 tNil σ H := fun H1 _ Q q => q [] H1 (Ex.refl H1) rfl (fun _ h => nomatch h)
theorem gda_cons (h : GdE K te σ H) (hr : GdA K n tr σ H) : GdA K (n + 1) (tCons te tr) σ H := fun H1 e Q q => h H1 e _ fun v H2 e2 g => hr H2 (e.trans e2) _ fun vs H3 e3 hl hg => q (v :: vs) H3 (e2.trans e3) (by rw [List.length_cons, hl]) fun x hx => by
  rcases List.mem_cons.mp hx with rfl | hx
  · exact g.mono e3
  · exact hg x hx
theorem gdl_lst (h : GdA K n ta σ H) (hn : n ≤ 1000) : GdL K n (tLst ta) σ H := fun H1 e Q q => h H1 e _ fun vs H2 e2 hl hg => ⟨sz_of (by omega), fun p hp => q p vs _ (e2.trans (Ex.new hp)) upd_same hl fun v hv => (hg v hv).mono (Ex.new hp)⟩
theorem gdl_cat (h1 : GdL K n te σ H) (h2 : GdL K m tb σ H) (hn : n + m ≤ 1000) : GdL K (n + m) (tOp rCat te tb) σ H := fun H1 e Q q => h1 H1 e _ fun p vs H2 e2 hp hl hg => h2 H2 (e.trans e2) _ fun p' vs' H3 e3 hp' hl' hg' =>
  ⟨p, p', vs, vs', rfl, rfl, e3 _ _ hp, hp', sz_of (by omega), fun r hr => q r _ _ ((e2.trans e3).trans (Ex.new hr)) upd_same (by rw [List.length_append, hl, hl']) fun v hv => by
    rcases List.mem_append.mp hv with hv | hv
    · exact ((hg v hv).mono e3).mono (Ex.new hr)
    · exact (hg' v hv).mono (Ex.new hr)⟩
theorem gdl_var {i : Nat} {p : Addr} {vs : List V} (hv : σ[i]? = some (some (.ref p))) (hp : H p = some (.lst vs)) (hg : ∀ v ∈ vs, Gd K H v) : GdL K vs.length (tVar i) σ H := fun H1 e Q q =>
  ⟨.ref p, hv, q p vs H1 (Ex.refl H1) (e _ _ hp) rfl fun v h => (hg v h).mono e⟩
theorem gde_str {z : Str} (h : Ev te σ H (.str z)) (hz : z.length ≤ 1000) (ha : Asc z) : GdE K te σ H := gde_ev h (.str z hz ha)
theorem q_gdl {i : Nat} {D : Ends} {tz : TS} (h : GdL K n te σ H) (k : ∀ p vs H1, Ex H H1 → H1 p = some (.lst vs) → vs.length = n → (∀ v ∈ vs, Gd K H1 v) → tz D (σ.set i (some (.ref p))) H1) : tSeq (tAsg te (gName i)) tz D σ H :=
  h H (Ex.refl H) _ fun p vs H1 e hp hl hg => k p vs H1 e hp hl hg
theorem s_gdl {D : Ends} (h : GdL K n te σ H) (k : ∀ p vs H1, Ex H H1 → H1 p = some (.lst vs) → vs.length = n → (∀ v ∈ vs, Gd K H1 v) → D.rt (.ref p) H1) : tRet te D σ H :=
  h H (Ex.refl H) _ fun p vs H1 e hp hl hg => k p vs H1 e hp hl hg
theorem ev_rep {z : Str} {k : Int} (hz : z.length ≤ 1000) (h0 : 0 ≤ k) (h1 : k ≤ 10000) : Ev (tOp (fun x y H Q => ∃ (z : Str) (n : Int), x = .str z ∧ y = .int n ∧ 0 ≤ n ∧ n ≤ 10000 ∧ z.length ≤ 1000 ∧ Q (.str (repS z n.toNat)) H) (tC (.str z)) (tC (.int k))) σ H (.str (repS z k.toNat)) :=
  ev_op ev_c ev_c fun H1 _ Q q => ⟨z, k, rfl, rfl, h0, h1, hz, q H1 (Ex.refl H1)⟩
theorem gde_listText {i : Nat} {z : Str} (hv : σ[i]? = some (some (.str z))) (hz : z.length ≤ 1000) : GdE K (tCB (fun xs H Q => ∃ z : Str, xs = [.str z] ∧ z.length ≤ sizeLine ∧ ∀ p, H p = none → Q (.ref p) (upd H p (.lst (signsV z)))) (tCons (tVar i) tNil)) σ H := fun H1 e Q q =>
  ⟨_, hv, z, rfl, sz_of (by omega), fun p hp => q _ _ (Ex.new hp) (gd_list upd_same)⟩
theorem gde_disp {i : Nat} {z : Str} {k : Int} (hv : σ[i]? = some (some (.str z))) : GdE K (tDisp [(tVar i, tC (.int k))]) σ H := fun H1 e Q q p hp =>
  ⟨_, hv, upd_same, [(.inr z, .int k)], rfl, (by show 1 ≤ 15; decide), q _ _ (fun a o ha => by
    rw [upd_ne (ne_of_none ha hp), upd_ne (ne_of_none ha hp)]
    exact ha) (gd_dict upd_same)⟩
theorem gde_exc {C : Addr} {k : Int} (T : ExcC K C) (h1 : PySem.W.kitOne K (.ref C) (.type "int") = some false) (h2 : PySem.W.kitOne K (.ref C) (.type "bool") = some false) (h3 : PySem.W.kitOne K (.ref C) (.type "str") = some false) :
    GdE K (fun σ H Q => (tC (.int k)) σ H fun v H1 => ∀ a d, H1 a = none → H1 d = none → d ≠ a → Q (.ref a) (upd (upd H1 d (exd d [("value", v)])) a (exo a C (some d)))) σ H := fun H1 e Q q a d ha hd hne =>
  q _ _ (fun b o hb => by
    rw [upd_ne (ne_of_none hb ha), upd_ne (ne_of_none hb hd)]
    exact hb) (.oth (.exc T upd_same (by rw [upd_ne hne, upd_same])) h1 h2 h3 ⟨rfl, rfl, rfl⟩)
theorem gde_dnew : GdE K tDNewK σ H := fun H1 _ Q q p hp => q _ _ (Ex.new hp) (gd_dict upd_same)
theorem ev_cut {s : Str} {tl th : TO} {lo hi : Option Int} (h : Ev te σ H (.str s)) (h1 : EvO tl σ H lo) (h2 : EvO th σ H hi) (hs : s.length ≤ 1000) : Ev (tSl rSlS te tl th) σ H (.str (cutS s lo hi)) := fun H1 e _ q =>
  h H1 e _ fun H2 e2 => h1 H2 (e.trans e2) _ fun H3 e3 => h2 H3 ((e.trans e2).trans e3) _ fun H4 e4 => ⟨s, rfl, sz_of (by omega), q H4 ((e2.trans e3).trans e4)⟩
theorem ev_cat {a b : Str} (h1 : Ev te σ H (.str a)) (h2 : Ev tb σ H (.str b)) (hz : a.length + b.length ≤ 100000) : Ev (tOp (fun x y H Q => ∃ i j : Str, x = .str i ∧ y = .str j ∧ i.length + j.length ≤ sizeLine ∧ Q (.str (i ++ j)) H) te tb) σ H (.str (a ++ b)) :=
  ev_op h1 h2 fun H1 _ Q q => ⟨a, b, rfl, rfl, sz_of hz, q H1 (Ex.refl H1)⟩
theorem asc_cut {z : Str} (h : Asc z) (lo hi : Option Int) : Asc (cutS z lo hi) := fun c hc => h c (List.mem_of_mem_drop (List.mem_of_mem_take hc))
theorem asc_cat {a b : Str} (h : Asc a) (h' : Asc b) : Asc (a ++ b) := fun c hc => by
  rw [app_cps] at hc
  rcases List.mem_append.mp hc with hc | hc
  · exact h c hc
  · exact h' c hc
theorem len_cat (a b : Str) : (a ++ b).length = a.length + b.length := by
  show (a.cps ++ b.cps).size = _
  rw [Array.size_append]
  rfl
theorem asc_rep {z : Str} (h : Asc z) (k : Nat) : Asc (repS z k) := fun c hc => by
  have hc' : c ∈ (List.replicate k z.cps.toList).flatten := by simpa [repS] using hc
  obtain ⟨l, hl, hcl⟩ := List.mem_flatten.mp hc'
  rw [(List.mem_replicate.mp hl).2] at hcl
  exact h c hcl
end
def spVals (K : PySem.W.Frag) : Sp := fun vs H Q _ => ∃ (b : Addr) (n : Nat), vs = [.ref b] ∧ BoxAt H b n ∧ n ≤ 1000 ∧ ∀ (p : Addr) (xs : List V) H', Eb b H H' → H' p = some (.lst xs) → xs.length ≤ 1000 → (∀ v ∈ xs, Gd K H' v) → Q (.ref p) H'
section
variable {w : World} {K : PySem.W.Frag} {mg : Str → Option Value} {base : Heap}
theorem G_law_values (T : TX K mg) : FnOk PP w K mg base CX0 3 T.f_law_values T.d_law_values ["_law_box_here"] (spVals K) := by
  refine T.F_law_values.ok sc_law_values (fun vs H Q E h => ?_) (fun cdv A outer s H vs Q E hr h => ?_)
  · obtain ⟨b, n, rfl, _⟩ := h
    rfl
  · obtain ⟨b, n, rfl, hb, hn, q⟩ := h
    refine ⟨_,
    (pss_cons (ps_par (i := 1) (j := 2) (by rfl) sc_law_values.nd rfl rfl (by decide) rfl rfl (pa_cons (pe_call (G_law_word T) (hr.mono (by decide)) (by rfl) T.g_law_word T.F_law_word.kp T.b_law_word .nil pass0 (pa_cons (pv 0) pa_nil)) (pa_cons (pe_call (G_law_take T) (hr.mono (by decide)) (by rfl) T.g_law_take T.F_law_take.kp T.b_law_take .nil pass0 (pa_cons (pv 0) (pa_cons pe_int pa_nil))) pa_nil)) (by rfl))
      (pss_cons (ps_set (i := 3) sc_law_values.nd rfl (.inl rfl) pe_str)
      (pss_cons (ps_set (i := 4) sc_law_values.nd rfl (.inl rfl) (pe_ix ix_str (pv 3) (pe_call (G_law_take T) (hr.mono (by decide)) (by rfl) T.g_law_take T.F_law_take.kp T.b_law_take .nil pass0 (pa_cons (pv 0) (pa_cons (pe_callB call_len_str (by rfl) T.z_len (by decide +kernel) (pa_cons (pv 3) pa_nil)) pa_nil))) (fun _ _ => rfl)))
      (pss_cons (ps_set (i := 5) sc_law_values.nd rfl (.inl rfl) (pe_lst (pa_cons (pv 1) (pa_cons (pe_op op_add_str (pe_op op_add_str (pe_slice sl_str (pv 1) po_none (po_some (pv 2))) (pv 4)) (pe_slice sl_str (pv 1) (po_some (pv 2)) po_none)) (pa_cons (pe_op op_add_str (pe_op op_add_str (pe_slice sl_str (pv 1) po_none (po_some (pv 2))) (pv 4)) (pe_slice sl_str (pv 1) (po_some (pe_op op_add (pv 2) pe_int)) po_none)) pa_nil)))))
      (pss_cons (ps_set (i := 5) sc_law_values.nd rfl (.inl rfl) (pe_op op_cat (pv 5) (pe_lst (pa_cons (pe_lst (pa_cons (pv 1) pa_nil)) (pa_cons (pe_tup (pa_cons (pv 1) pa_nil)) (pa_cons (pe_callTy (call_list_text rfl) (by rfl) T.z_list (by decide +kernel) (pa_cons (pv 1) pa_nil)) (pa_cons (pe_disp (pps_cons (pv 1) pe_int pps_nil) (by rfl) (by rfl) (fun z => by cases z) (by decide)) pa_nil)))))))
      (pss_cons (ps_set (i := 5) sc_law_values.nd rfl (.inl rfl) (pe_op op_cat (pv 5) (pe_lst (pa_cons pe_str (pa_cons pe_str (pa_cons pe_str (pa_cons pe_str (pa_cons pe_str (pa_cons pe_str (pa_cons pe_str (pa_cons pe_str (pa_cons pe_str (pa_cons pe_non pa_nil)))))))))))))
      (pss_cons (ps_set (i := 5) sc_law_values.nd rfl (.inl rfl) (pe_op op_cat (pv 5) (pe_lst (pa_cons pe_bl (pa_cons pe_bl (pa_cons pe_int (pa_cons pe_int (pa_cons (pe_un un_neg pe_int) (pa_cons (pe_op op_pow pe_int pe_int) (pa_cons (pe_un un_neg (pe_op op_pow pe_int pe_int)) pa_nil))))))))))
      (pss_one (ps_ret (pe_op op_cat (pv 5) (pe_lst (pa_cons (pe_lst pa_nil) (pa_cons pe_dnewK (pa_cons (pe_tup pa_nil) (pa_cons (pe_lst (pa_cons pe_str pa_nil)) (pa_cons (pe_op op_mul_str pe_str pe_int) (pa_cons (pe_op op_mul_str pe_str pe_int) (pa_cons (pe_op op_mul_str pe_str pe_int) (pa_cons (pe_excV T.oC_InvalidNumber T.iC_InvalidNumber T.tI (T.okI _ _ CX0) (hr.mono (by decide)) T.bI pass0 (by rfl) T.gC_InvalidNumber pe_int) pa_nil)))))))))))))))))))
    , ?_⟩
    refine ⟨.ref b, rfl, b, n, rfl, hb, by omega, fun z H1 e1 b1 hz az => ?_⟩
    refine rd_take rfl (fun _ q => q) b1 (by omega) (by decide) (by decide) fun k H2 a1 a2 e2 b2 => ?_
    refine ⟨_, _, rfl, ?_⟩
    refine ⟨_, rfl, ?_⟩
    refine rd_take rfl (m := 51) (fun _ q => ⟨_, rfl, _, rfl, by decide, q⟩) b2 (by omega) (by decide) (by decide) fun d H3 c1 c2 e3 b3 => ?_
    obtain ⟨c, hc, hc2⟩ : ∃ c, atI (" !#&()*+,-./0123456789:;<=>?@ABCXYZ[]^_`abcxyz{|}~\n" : Str).cps.toList d = some c ∧ c < 1114112 := by
      obtain ⟨j, rfl⟩ := Int.eq_ofNat_of_zero_le c1
      have hj : j < 51 := by omega
      have key : ∀ j : Nat, j < 51 → ∃ c, (" !#&()*+,-./0123456789:;<=>?@ABCXYZ[]^_`abcxyz{|}~\n" : Str).cps.toList[j]? = some c ∧ c < 1114112 := by decide +kernel
      obtain ⟨c, h1, h2⟩ := key j hj
      exact ⟨c, atI_nat h1, h2⟩
    refine ⟨_, d, c, rfl, rfl, (by decide), hc, ?_⟩
    have hsg : Asc (⟨#[c]⟩ : Str) := fun x hx => by
      rw [List.mem_singleton.mp hx]
      exact hc2
    have hcut : ∀ lo hi, (cutS z lo hi).length ≤ 63 := fun lo hi => Nat.le_trans (cutS_length z lo hi) hz
    have l1 : (⟨#[c]⟩ : Str).length = 1 := rfl
    have hcat : ∀ a b : Str, (a ++ b).length = a.length + b.length := len_cat
    have mk : ∀ (lo : Option Int), Asc (cutS z none (some k) ++ ⟨#[c]⟩ ++ cutS z lo none) ∧ (cutS z none (some k) ++ ⟨#[c]⟩ ++ cutS z lo none).length ≤ 1000 := fun lo => by
      refine ⟨asc_cat (asc_cat (asc_cut az _ _) hsg) (asc_cut az _ _), ?_⟩
      rw [hcat, hcat, l1]
      have h1 := hcut none (some k)
      have h2 := hcut lo none
      omega
    have hz1 : z.length ≤ 1000 := by omega
    have evz : ∀ {σ : L2.St} {H : Hp} {i : Nat} (lo : Option Int) {tl th tl2 : TO} {ts : TE} {tw : TE}, Ev tw σ H (.str z) → Ev ts σ H (.str ⟨#[c]⟩) → EvO tl σ H none → EvO th σ H (some k) → EvO tl2 σ H lo →
        Ev (tOp (fun x y H Q => ∃ i j : Str, x = .str i ∧ y = .str j ∧ i.length + j.length ≤ sizeLine ∧ Q (.str (i ++ j)) H) (tOp (fun x y H Q => ∃ i j : Str, x = .str i ∧ y = .str j ∧ i.length + j.length ≤ sizeLine ∧ Q (.str (i ++ j)) H) (tSl rSlS tw tl th) ts) (tSl rSlS tw tl2 tNoPart)) σ H (.str (cutS z none (some k) ++ ⟨#[c]⟩ ++ cutS z lo none)) :=
      by
        intro σ H i lo tl th tl2 ts tw hw hs h1 h2 h3
        refine ev_cat (ev_cat (ev_cut hw h1 h2 hz1) hs ?_) (ev_cut hw h3 eo_none hz1) ?_
        · have := hcut none (some k)
          omega
        · rw [hcat, l1]
          have h1 := hcut none (some k)
          have h2 := hcut lo none
          omega
    have cstr : ∀ {σ : L2.St} {H : Hp} {x : Str}, x.length ≤ 1000 → Asc x → GdE K (tC (.str x)) σ H := fun h1 h2 => gde_str ev_c h1 h2
    refine q_gdl (K := K) (gdl_lst (gda_cons (gde_str (ev_var rfl) hz1 az) (gda_cons (gde_str (evz (i := 0) (some k) (ev_var rfl) (ev_var rfl) eo_none (eo_some (ev_var rfl)) (eo_some (ev_var rfl))) (mk _).2 (mk _).1)
      (gda_cons (gde_str (evz (i := 0) (some (k + 1)) (ev_var rfl) (ev_var rfl) eo_none (eo_some (ev_var rfl)) (eo_some (ev_op (ev_var rfl) ev_c rv_I0))) (mk _).2 (mk _).1) gda_nil))) (by decide)) fun p1 vs1 H4 e4 hp1 hl1 hg1 => ?_
    refine q_gdl (K := K) (gdl_cat (gdl_var rfl hp1 hg1) (gdl_lst (gda_cons (gde_list (el_lst (ea_cons (ev_var rfl) ea_nil) (by show 1 ≤ 100000; decide))) (gda_cons (gde_tup (eu_tup (ea_cons (ev_var rfl) ea_nil) (by show 1 ≤ 100000; decide)))
      (gda_cons (gde_listText rfl hz1) (gda_cons (gde_disp rfl) gda_nil)))) (by decide)) (by rw [hl1]; decide)) fun p2 vs2 H5 e5 hp2 hl2 hg2 => ?_
    refine q_gdl (K := K) (gdl_cat (gdl_var rfl hp2 hg2) (gdl_lst (gda_cons (cstr (by decide) (by unfold Asc; decide +kernel)) (gda_cons (cstr (by decide) (by unfold Asc; decide +kernel)) (gda_cons (cstr (by decide) (by unfold Asc; decide +kernel))
      (gda_cons (cstr (by decide) (by unfold Asc; decide +kernel)) (gda_cons (cstr (by decide) (by unfold Asc; decide +kernel)) (gda_cons (cstr (by decide) (by unfold Asc; decide +kernel)) (gda_cons (cstr (by decide) (by unfold Asc; decide +kernel))
      (gda_cons (cstr (by decide) (by unfold Asc; decide +kernel)) (gda_cons (cstr (by decide) (by unfold Asc; decide +kernel)) (gda_cons (gde_ev ev_c gd_non) gda_nil)))))))))) (by decide)) (by rw [hl2, hl1]; decide)) fun p3 vs3 H6 e6 hp3 hl3 hg3 => ?_
    refine q_gdl (K := K) (gdl_cat (gdl_var rfl hp3 hg3) (gdl_lst (gda_cons (gde_ev ev_c (.bl _)) (gda_cons (gde_ev ev_c (.bl _)) (gda_cons (gde_ev ev_c (.int _)) (gda_cons (gde_ev ev_c (.int _)) (gda_cons (gde_ev (ev_un ev_c ru_neg) (.int _))
      (gda_cons (gde_ev (ev_op ev_c ev_c (rv_I ⟨by decide, by decide, by decide⟩)) (.int _)) (gda_cons (gde_ev (ev_un (ev_op ev_c ev_c (rv_I ⟨by decide, by decide, by decide⟩)) ru_neg) (.int _)) gda_nil))))))) (by decide)) (by rw [hl3, hl2, hl1]; decide)) fun p4 vs4 H7 e7 hp4 hl4 hg4 => ?_
    refine s_gdl (K := K) (gdl_cat (gdl_var rfl hp4 hg4) (gdl_lst (gda_cons (gde_list (el_lst ea_nil (by show 0 ≤ 100000; decide))) (gda_cons gde_dnew (gda_cons (gde_tup (eu_tup ea_nil (by show 0 ≤ 100000; decide))) (gda_cons (gde_list (el_lst (ea_cons ev_c ea_nil) (by show 1 ≤ 100000; decide)))
      (gda_cons (gde_str (ev_rep (by decide) (by decide) (by decide)) (by rw [repS_length]; decide) (asc_rep (by unfold Asc; decide +kernel) _)) (gda_cons (gde_str (ev_rep (by decide) (by decide) (by decide)) (by rw [repS_length]; decide) (asc_rep (by unfold Asc; decide +kernel) _))
      (gda_cons (gde_str (ev_rep (by decide) (by decide) (by decide)) (by rw [repS_length]; decide) (asc_rep (by unfold Asc; decide +kernel) _)) (gda_cons (gde_exc T.eC_InvalidNumber T.kN_int T.kN_bool T.kN_str) gda_nil)))))))) (by decide)) (by rw [hl4, hl3, hl2, hl1]; decide)) fun p5 vs5 H8 e8 hp5 hl5 hg5 => ?_
    exact q p5 vs5 H8 (e1.trans (e2.trans (e3.trans (Eb.of (e4.trans (e5.trans (e6.trans (e7.trans e8)))))))) hp5 (by rw [hl5, hl4, hl3, hl2, hl1]; decide) hg5
end
end K01

namespace K01
open PySem PySem.Spec PyProof.Rows L2 OP Evl
def spLaw (K : PySem.W.Frag) : Sp := fun vs H Q _ => ∃ (a : Addr) (ns : List Int), vs = [.ref a] ∧ SqL K H a (ns.map V.int) ∧ ns.length ≤ 63 ∧ ∀ H', Q (.bl true) H'
section
variable {K : PySem.W.Frag} {σ : L2.St} {H : Hp} {v : V} {i : Nat} {te : TE}
theorem ev_spV {f : V → Bool} (hv : σ[i]? = some (some v)) (g : Gd K H v) : Ev (tCall (spV K f) [] E0 (tCons (tVar i) tNil)) σ H (.bl (f v)) :=
  ev_call (ea_cons (ev_var hv) ea_nil) fun H1 e Q q E => ⟨v, rfl, g.mono e, q⟩
theorem ev_reprB {b : Bool} (h : Ev te σ H (.bl b)) : Ev (tCB (fun xs H Q => ∃ b, xs = [.bl b] ∧ Q (.str (bText b)) H) (tCons te tNil)) σ H (.str (bText b)) :=
  ev_cb (ea_cons h ea_nil) fun H1 e Q q => ⟨b, rfl, q H1 (Ex.refl H1)⟩
theorem et_same {ta tb : TE} {x : Str} (h1 : Ev ta σ H (.str x)) (h2 : Ev tb σ H (.str x)) : EvT (tTest (tOp rNe ta tb)) σ H false :=
  et_is (et_test (ev_op h1 h2 (rv_ne rfl))) (by rw [decide_eq_true rfl]; rfl)
theorem ev_one (hv : σ[i]? = some (some v)) (g : Gd K H v) : Ev (tAndV (tCall (spV K vW) [] E0 (tCons (tVar i) tNil)) (tOp rEq (tCB (fun xs H Q => ∃ z : Str, xs = [.str z] ∧ z.length ≤ sizeLine ∧ Q (.int z.length) H) (tCons (tVar i) tNil)) (tC (.int 1)))) σ H (.bl (vW v && vOne v)) := by
  by_cases hs : vS v = true
  · cases v with
    | str z =>
      have hz : z.length ≤ 1000 := by
        cases g with
        | str _ h _ => exact h
        | oth _ _ _ _ e => exact Bool.noConfusion e.2.2
      refine ev_is (ev_andV (ev_spV hv g) fun _ => ev_op (ev_lenS (ev_var hv) (by omega)) ev_c (rv_eq rfl)) ?_
      show V.bl (vW (.str z) && decide (V.int z.length = V.int 1)) = V.bl (vW (.str z) && decide (z.length = 1))
      congr 2
      exact decide_eq_decide.mpr ⟨fun h => by have := V.int.inj h; omega, fun h => by rw [h]; rfl⟩
    | _ => cases hs
  · have hf : vW v = false := by cases v <;> first | rfl | exact absurd rfl hs
    refine ev_is (ev_andV (b := false) (ev_spV hv g) fun h => absurd h (by rw [hf]; decide)) ?_
    rw [hf]
    rfl
end
section
variable {w : World} {K : PySem.W.Frag} {mg : Str → Option Value} {base : Heap}
theorem G_law_end (T : TX K mg) {f : Addr} {fd : FuncData} (F : Fun K "law" "law" s_law f fd) : FnOk PP w K mg base CX0 6 f fd ["_law_script"] (spLaw K) := by
  refine F.ok sc_law (fun vs H Q E h => ?_) (fun cdv A outer s H vs Q E hr h => ?_)
  · obtain ⟨a, ns, rfl, _⟩ := h
    rfl
  · obtain ⟨a, ns, rfl, hS, hl, q⟩ := h
    refine ⟨_,
    (pss_cons (ps_for PassesOwn.never rfl (pi_range1 (by rfl) T.z_range (pa_cons (pe_callB (call_max2 rfl) (by rfl) T.z_max (by decide +kernel) (pa_cons pe_int (pa_cons (pe_callB (call_min2 rfl) (by rfl) T.z_min (by decide +kernel) (pa_cons pe_int (pa_cons (pe_callB (call_lenK K) (by rfl) T.z_len (by decide +kernel) (pa_cons (pv 0) pa_nil)) pa_nil))) pa_nil))) pa_nil)) (pg_name (i := 1) sc_law.nd rfl (.inl rfl))
        (pss_cons (ps_set (i := 2) sc_law.nd rfl (.inl rfl) (pe_call (G_law_box T) (hr.mono (by decide)) (by rfl) T.g_law_box T.F_law_box.kp T.b_law_box .nil pass0 (pa_cons (pe_call (G_law_cell_at T) (hr.mono (by decide)) (by rfl) T.g_law_cell_at T.F_law_cell_at.kp T.b_law_cell_at .nil pass0 (pa_cons (pv 0) (pa_cons (pv 1) pa_nil))) pa_nil)))
      (pss_cons (ps_set (i := 3) sc_law.nd rfl (.inl rfl) (pe_call (G_law_values T) (hr.mono (by decide)) (by rfl) T.g_law_values T.F_law_values.kp T.b_law_values .nil pass0 (pa_cons (pv 2) pa_nil)))
      (pss_one (ps_for PassesOwn.never rfl (pi_range1 (by rfl) T.z_range (pa_cons pe_int pa_nil)) (pg_name (i := 4) sc_law.nd rfl (.inl rfl))
        (pss_one (ps_for PassesOwn.never rfl (pi_listK K (pv 3)) (pg_name (i := 5) sc_law.nd rfl (.inl rfl))
        (pss_cons (ps_set (i := 6) sc_law.nd rfl (.inl rfl) (pe_and (pe_callB (call_isZK K) (by rfl) T.z_isinstance (by decide +kernel) (pa_cons (pv 5) (pa_cons (pe_bltn (v := .ty "int") (u := .type "int") (by rfl) T.z_int (by decide +kernel) rfl) pa_nil))) (pe_one (pe_not (pe_callB (call_isZK K) (by rfl) T.z_isinstance (by decide +kernel) (pa_cons (pv 5) (pa_cons (pe_bltn (v := .ty "bool") (u := .type "bool") (by rfl) T.z_bool (by decide +kernel) rfl) pa_nil)))))))
      (pss_cons (ps_if (pt_cmpR op_ne (pe_callB call_repr_bl (by rfl) T.z_repr (by decide +kernel) (pa_cons (pe_call (G_is_integer T) (hr.mono (by decide)) (by rfl) T.g_is_integer T.F_is_integer.kp T.b_is_integer .nil pass0 (pa_cons (pv 5) pa_nil)) pa_nil)) (pe_callB call_repr_bl (by rfl) T.z_repr (by decide +kernel) (pa_cons (pv 6) pa_nil)) (nomark _)) (pss_one (ps_ret pe_bl)) pss_nil)
      (pss_cons (ps_if (pt_cmpR op_ne (pe_callB call_repr_bl (by rfl) T.z_repr (by decide +kernel) (pa_cons (pe_call (G_is_word T) (hr.mono (by decide)) (by rfl) T.g_is_word T.F_is_word.kp T.b_is_word .nil pass0 (pa_cons (pv 5) pa_nil)) pa_nil)) (pe_callB call_repr_bl (by rfl) T.z_repr (by decide +kernel) (pa_cons (pe_call (G_law_good T) (hr.mono (by decide)) (by rfl) T.g_law_good T.F_law_good.kp T.b_law_good .nil pass0 (pa_cons (pv 5) pa_nil)) pa_nil)) (nomark _)) (pss_one (ps_ret pe_bl)) pss_nil)
      (pss_one (ps_if (pt_cmpR op_ne (pe_callB call_repr_bl (by rfl) T.z_repr (by decide +kernel) (pa_cons (pe_call (G_is_sign T) (hr.mono (by decide)) (by rfl) T.g_is_sign T.F_is_sign.kp T.b_is_sign .nil pass0 (pa_cons (pv 5) pa_nil)) pa_nil)) (pe_callB call_repr_bl (by rfl) T.z_repr (by decide +kernel) (pa_cons (pe_and (pe_call (G_law_good T) (hr.mono (by decide)) (by rfl) T.g_law_good T.F_law_good.kp T.b_law_good .nil pass0 (pa_cons (pv 5) pa_nil)) (pe_one (pe_cmpR op_eq (pe_callB call_len_str (by rfl) T.z_len (by decide +kernel) (pa_cons (pv 5) pa_nil)) pe_int (nomark _)))) pa_nil)) (nomark _)) (pss_one (ps_ret pe_bl)) pss_nil))))))))))))
      (pss_one (ps_ret pe_bl)))
    , ?_⟩
    have hN : ∀ m : Nat, m ≤ 63 → ∃ n : Int, (if (if (m : Int) < 8 then (m : Int) else 8) > 2 then (if (m : Int) < 8 then (m : Int) else 8) else 2) = n ∧ 0 ≤ n ∧ n ≤ 100 := fun m hm => ⟨_, rfl, by split <;> split <;> omega, by split <;> split <;> omega⟩
    obtain ⟨n, hn, hn0, hn1⟩ := hN ns.length hl
    have hev : Ev (tCB (rLenS K) (tCons (tVar 0) tNil)) (L2.start N_law [V.ref a]) H (.int ns.length) := by
      have e := ev_len (K := K) (ta := tVar 0) (σ := L2.start N_law [V.ref a]) (H := H) (ev_var rfl) hS
      rw [List.length_map] at e
      exact e
    refine q_forR1 (n := n) (ea_cons (ev_cb (ea_cons ev_c (ea_cons (ev_cb (ea_cons ev_c (ea_cons hev ea_nil)) fun H1 e Q k => ⟨_, _, rfl, k H1 (Ex.refl H1)⟩) ea_nil)) fun H1 e Q k => ⟨_, _, rfl, by rw [hn]; exact k H1 (Ex.refl H1)⟩) ea_nil) ⟨hn0, by omega⟩
      (fun i σ' H' => ∃ x1 x2 x3 x4 x5 x6, σ' = [some (.ref a), x1, x2, x3, x4, x5, x6] ∧ Ex H H') (fun H1 e => ⟨_, _, _, _, _, _, rfl, e⟩) (fun i σ' H' hi hp => ?_) (fun σ' H' _ => q H')
    obtain ⟨x1, x2, x3, x4, x5, x6, rfl, e0⟩ := hp
    refine ⟨.ref a, rfl, .int i, rfl, a, ns, i, rfl, ex_l e0 hS, by omega, fun c => ?_⟩
    refine ⟨c, rfl, fun b o hb ho => ?_⟩
    refine ⟨.ref b, rfl, b, 0, rfl, ⟨o, upd_same, ho⟩, by decide, fun p xs H2 eb hp hxl hg => ?_⟩
    have e2 : Ex H H2 := fun u ou hu => by
      have hu' := e0 u ou hu
      have nub : u ≠ b := ne_of_none hu' hb
      exact eb u ou nub (by rw [upd_ne nub]; exact hu')
    refine s_forR1 (n := 2) (ea_cons ev_c ea_nil) ⟨by decide, by decide⟩ (fun k σ' H' => ∃ y4 y5 y6, σ' = [some (.ref a), some (.int i), some (.ref b), some (.ref p), y4, y5, y6] ∧ Ex H2 H') (fun H1 e => ⟨_, _, _, rfl, e⟩) (fun k σ' H' hk hp' => ?_)
      (fun σ' H' hp' => by
        obtain ⟨y4, y5, y6, rfl, e3⟩ := hp'
        exact ⟨_, _, _, _, _, _, rfl, e2.trans e3⟩)
    obtain ⟨y4, y5, y6, rfl, e3⟩ := hp'
    refine s_forLn (ev_var rfl) (sq_of (e3 _ _ hp)) (fun m σ' H' => ∃ z5 z6, σ' = [some (.ref a), some (.int i), some (.ref b), some (.ref p), some (.int k), z5, z6] ∧ Ex H2 H') (fun H1 e => ⟨_, _, rfl, e3.trans e⟩)
      (fun m σ' H' _ hp' => by
        obtain ⟨z5, z6, _, e4⟩ := hp'
        exact sq_of (e4 _ _ hp)) (fun m v σ' H' hv hp' => ?_)
      (fun σ' H' hp' => by
        obtain ⟨z5, z6, rfl, e4⟩ := hp'
        exact ⟨_, _, _, rfl, e4⟩)
    obtain ⟨z5, z6, rfl, e4⟩ := hp'
    have g : Gd K H' v := (hg v (List.mem_of_getElem? hv)).mono e4
    refine q_asg (v := .bl (vI v)) (ev_is (ev_andV (ev_isint rfl g) fun _ => ev_notV (ev_isbool rfl g)) (by rw [vI_eq])) fun H5 e5 => ?_
    refine q_when (et_same (ev_reprB (ev_spV rfl (g.mono e5))) (ev_reprB (ev_var rfl))) (fun h => nomatch h) fun _ H6 e6 => ?_
    refine q_when (et_same (ev_reprB (ev_spV rfl (g.mono (e5.trans e6)))) (ev_reprB (ev_spV rfl (g.mono (e5.trans e6))))) (fun h => nomatch h) fun _ H7 e7 => ?_
    have g7 := g.mono (e5.trans (e6.trans e7))
    refine s_when (et_same (ev_reprB (ev_spV rfl g7)) (ev_reprB (ev_one rfl g7))) (fun h => nomatch h) fun _ H8 e8 => ?_
    exact ⟨_, _, rfl, e4.trans (e5.trans (e6.trans (e7.trans e8)))⟩
end
theorem all_mk {w : World} {K : PySem.W.Frag} {h : Heap} {mg : Str → Option Value} {fa : Addr} (X : K.In h) (G : h.Ns mainGlobals mg) (hfa : mg "law" = some (.ref fa))
    {f1 : Addr} {od1 an1 : Option Addr} {sl1 : Array (Option Value)} {oc1 kV1 dc1 pm1 cd1 ct1 : Value}
    {f2 : Addr} {od2 an2 : Option Addr} {sl2 : Array (Option Value)} {oc2 kV2 dc2 pm2 cd2 ct2 : Value}
    {f3 : Addr} {od3 an3 : Option Addr} {sl3 : Array (Option Value)} {oc3 kV3 dc3 pm3 cd3 ct3 : Value}
    {f4 : Addr} {od4 an4 : Option Addr} {sl4 : Array (Option Value)} {oc4 kV4 dc4 pm4 cd4 ct4 : Value}
    {f5 : Addr} {od5 an5 : Option Addr} {sl5 : Array (Option Value)} {oc5 kV5 dc5 pm5 cd5 ct5 : Value}
    {f6 : Addr} {od6 an6 : Option Addr} {sl6 : Array (Option Value)} {oc6 kV6 dc6 pm6 cd6 ct6 : Value}
    {f7 : Addr} {od7 an7 : Option Addr} {sl7 : Array (Option Value)} {oc7 kV7 dc7 pm7 cd7 ct7 : Value}
    {f8 : Addr} {od8 an8 : Option Addr} {sl8 : Array (Option Value)} {oc8 kV8 dc8 pm8 cd8 ct8 : Value}
    {f9 : Addr} {od9 an9 : Option Addr} {sl9 : Array (Option Value)} {oc9 kV9 dc9 pm9 cd9 ct9 : Value}
    {f10 : Addr} {od10 an10 : Option Addr} {sl10 : Array (Option Value)} {oc10 kV10 dc10 pm10 cd10 ct10 : Value}
    {t0 : Tok}
    {t1 : Tok} {D0 fI cc cda : Addr} {cl0 ccl0 ocI kVI dcI pmI ctI : Value} {cld0 cdd0 odI anI : Option Addr} {csl0 ccs0 slI : Array (Option Value)} {cvs0 : Array Value} {file0 : Str} {tf0 : Tok} {cdD0 : ClassData}
    {C_x0 N_x0 : Addr} {nm_x0 q_x0 : Str} {bs_x0 bm_x0 sub_x0 : List Value} {sn_x0 : List Str} {ab_x0 : Bool} {col_x0 : Option Bool} {dd_x0 : Option Addr} {k0_x0 k1_x0 k2_x0 k3_x0 k5_x0 : Option Value}
    (a1 : PySem.W.nsIn K mainGlobals "is_integer" = some (some (.ref f1)))
    (l1 : K.lookup f1 = some ⟨oc1, od1, .func (PySem.W.fnOf "is_integer" "is_integer" (defArgs s_is_integer) (defBody s_is_integer) (defScope s_is_integer) .none kV1 dc1 pm1 an1 cd1 ct1), sl1⟩)
    (c1 : PySem.W.codeIn K cd1 "is_integer" = true)
    (k1 : PySem.W.keepIn K (.ref f1) = true)
    (a2 : PySem.W.nsIn K mainGlobals "is_sign" = some (some (.ref f2)))
    (l2 : K.lookup f2 = some ⟨oc2, od2, .func (PySem.W.fnOf "is_sign" "is_sign" (defArgs s_is_sign) (defBody s_is_sign) (defScope s_is_sign) .none kV2 dc2 pm2 an2 cd2 ct2), sl2⟩)
    (c2 : PySem.W.codeIn K cd2 "is_sign" = true)
    (k2 : PySem.W.keepIn K (.ref f2) = true)
    (a3 : PySem.W.nsIn K mainGlobals "is_word" = some (some (.ref f3)))
    (l3 : K.lookup f3 = some ⟨oc3, od3, .func (PySem.W.fnOf "is_word" "is_word" (defArgs s_is_word) (defBody s_is_word) (defScope s_is_word) .none kV3 dc3 pm3 an3 cd3 ct3), sl3⟩)
    (c3 : PySem.W.codeIn K cd3 "is_word" = true)
    (k3 : PySem.W.keepIn K (.ref f3) = true)
    (a4 : PySem.W.nsIn K mainGlobals "_law_cell_at" = some (some (.ref f4)))
    (l4 : K.lookup f4 = some ⟨oc4, od4, .func (PySem.W.fnOf "_law_cell_at" "_law_cell_at" (defArgs s_law_cell_at) (defBody s_law_cell_at) (defScope s_law_cell_at) .none kV4 dc4 pm4 an4 cd4 ct4), sl4⟩)
    (c4 : PySem.W.codeIn K cd4 "_law_cell_at" = true)
    (k4 : PySem.W.keepIn K (.ref f4) = true)
    (a5 : PySem.W.nsIn K mainGlobals "_law_box" = some (some (.ref f5)))
    (l5 : K.lookup f5 = some ⟨oc5, od5, .func (PySem.W.fnOf "_law_box" "_law_box" (defArgs s_law_box) (defBody s_law_box) (defScope s_law_box) .none kV5 dc5 pm5 an5 cd5 ct5), sl5⟩)
    (c5 : PySem.W.codeIn K cd5 "_law_box" = true)
    (k5 : PySem.W.keepIn K (.ref f5) = true)
    (a6 : PySem.W.nsIn K mainGlobals "_law_take" = some (some (.ref f6)))
    (l6 : K.lookup f6 = some ⟨oc6, od6, .func (PySem.W.fnOf "_law_take" "_law_take" (defArgs s_law_take) (defBody s_law_take) (defScope s_law_take) .none kV6 dc6 pm6 an6 cd6 ct6), sl6⟩)
    (c6 : PySem.W.codeIn K cd6 "_law_take" = true)
    (k6 : PySem.W.keepIn K (.ref f6) = true)
    (a7 : PySem.W.nsIn K mainGlobals "_law_word" = some (some (.ref f7)))
    (l7 : K.lookup f7 = some ⟨oc7, od7, .func (PySem.W.fnOf "_law_word" "_law_word" (defArgs s_law_word) (defBody s_law_word) (defScope s_law_word) .none kV7 dc7 pm7 an7 cd7 ct7), sl7⟩)
    (c7 : PySem.W.codeIn K cd7 "_law_word" = true)
    (k7 : PySem.W.keepIn K (.ref f7) = true)
    (a8 : PySem.W.nsIn K mainGlobals "_law_good" = some (some (.ref f8)))
    (l8 : K.lookup f8 = some ⟨oc8, od8, .func (PySem.W.fnOf "_law_good" "_law_good" (defArgs s_law_good) (defBody s_law_good) (defScope s_law_good) .none kV8 dc8 pm8 an8 cd8 ct8), sl8⟩)
    (c8 : PySem.W.codeIn K cd8 "_law_good" = true)
    (k8 : PySem.W.keepIn K (.ref f8) = true)
    (a9 : PySem.W.nsIn K mainGlobals "_law_values" = some (some (.ref f9)))
    (l9 : K.lookup f9 = some ⟨oc9, od9, .func (PySem.W.fnOf "_law_values" "_law_values" (defArgs s_law_values) (defBody s_law_values) (defScope s_law_values) .none kV9 dc9 pm9 an9 cd9 ct9), sl9⟩)
    (c9 : PySem.W.codeIn K cd9 "_law_values" = true)
    (k9 : PySem.W.keepIn K (.ref f9) = true)
    (a10 : PySem.W.nsIn K mainGlobals "law" = some (some (.ref f10)))
    (l10 : K.lookup f10 = some ⟨oc10, od10, .func (PySem.W.fnOf "law" "law" (defArgs s_law) (defBody s_law) (defScope s_law) .none kV10 dc10 pm10 an10 cd10 ct10), sl10⟩)
    (c10 : PySem.W.codeIn K cd10 "law" = true)
    (k10 : PySem.W.keepIn K (.ref f10) = true)
    (z0 : PySem.W.nsIn K mainGlobals "isinstance" = some none)
    (z1 : PySem.W.nsIn K mainGlobals "int" = some none)
    (z2 : PySem.W.nsIn K mainGlobals "bool" = some none)
    (z3 : PySem.W.nsIn K mainGlobals "str" = some none)
    (z4 : PySem.W.nsIn K mainGlobals "len" = some none)
    (z5 : PySem.W.nsIn K mainGlobals "all" = some none)
    (z6 : PySem.W.nsIn K mainGlobals "max" = some none)
    (z7 : PySem.W.nsIn K mainGlobals "range" = some none)
    (z8 : PySem.W.nsIn K mainGlobals "list" = some none)
    (z9 : PySem.W.nsIn K mainGlobals "min" = some none)
    (z10 : PySem.W.nsIn K mainGlobals "repr" = some none)
    (q0 : PySem.W.nsIn K mainGlobals "SIGNS" = some (some (.str "01*" t0)))
    (q1 : PySem.W.nsIn K mainGlobals "MOST_SIGNS" = some (some (.int 60 t1)))
    (D0a : PySem.W.nsIn K mainGlobals "OpenpostsError" = some (some (.ref D0)))
    (D0b : PySem.W.findIn K (.ref D0) "__init__" = some (some (.ref fI)))
    (D0l : K.lookup fI = some ⟨ocI, odI, .func (PySem.W.ksFn "__init__" "OpenpostsError.__init__" (defArgs s_init) (defBody s_init) (defScope s_init) .none kVI dcI pmI anI (.ref cda) ctI cc), slI⟩)
    (D0c : PySem.W.codeIn K (.ref cda) "OpenpostsError.__init__" = true)
    (D0t : PySem.W.typeIn K (.ref fI) = some (.type "function"))
    (D0e : K.lookup cc = some ⟨cl0, cld0, .cell (some (.ref D0)), csl0⟩)
    (D0f : K.lookup cda = some ⟨ccl0, cdd0, .fields cvs0, ccs0⟩)
    (D0g : cvs0[2]? = some (.str file0 tf0))
    (D0h : ((PP.main.file : Str) == file0) = true)
    (D0i : PySem.W.clsIn K D0 = some cdD0)
    (D0o : PySem.W.nsIn K cStatics "thirdparty.any" = some none)
    (D0s : PySem.W.nsIn K mainGlobals "super" = some none)
    (x0a : PySem.W.nsIn K mainGlobals "InvalidNumber" = some (some (.ref C_x0)))
    (x0b : K.lookup C_x0 = some (excClassObj nm_x0 q_x0 C_x0 N_x0 bs_x0 bm_x0 true sn_x0 sub_x0 ab_x0 col_x0 dd_x0 k0_x0 k1_x0 k2_x0 k3_x0 k5_x0 "ValueError.__new__"))
    (x0c : PySem.HandSPX.refsVE bm_x0 = true)
    (x0d : PySem.W.findIn K (.ref C_x0) "__setattr__" = some (some (.builtin "object.__setattr__")))
    (x0e : PySem.W.subIn K (.ref C_x0) (.type "BaseException") = some true)
    (x0f : PySem.W.typeIn K (.ref C_x0) = some (.type "type"))
    (x0g : PySem.W.keepIn K (.ref C_x0) = true)
    (x0h : PySem.W.mroIn K C_x0 (.ref D0) = some true)
    (x0i : PySem.W.ks_superIn K C_x0 D0 "__init__" = some (some (.builtin "ValueError.__init__")))
    (x0j : PySem.W.subIn K (.ref C_x0) (.type "ValueError") = some true)
    (x0k : PySem.W.findIn K (.ref C_x0) "value" = some none)
    (x0l : PySem.W.findIn K (.ref C_x0) "__getattribute__" = some (some (.builtin "BaseException.__getattribute__")))
    (x0m : PySem.W.findIn K (.ref C_x0) "__getattr__" = some none)
    (x0n : PySem.W.hasDictIn K C_x0 = true)
    (x0o : PySem.W.findIn K (.ref C_x0) "__class__" = some (some (.builtin "object.__class__")))
    (x0p : PySem.W.specialIn K (.builtin "object.__class__") "__get__" = some (some (.builtin "getset_descriptor.__get__")))
    (x0q : PySem.W.takesIn K (.builtin "object.__class__") = some true)
    (x0r : PySem.W.mroIn K C_x0 (.type "object") = some true)
    (x0s : PySem.W.findIn K (.ref C_x0) "__init__" = some (some (.ref fI)))
    (kit0 : PySem.W.kitOne K (.ref C_x0) (.type "int") = some false)
    (kit1 : PySem.W.kitOne K (.ref C_x0) (.type "bool") = some false)
    (kit2 : PySem.W.kitOne K (.ref C_x0) (.type "str") = some false)  :
    ∃ fd : FuncData, (∀ (s : Shared) (v : Value), BindsTo s fd ⟨[v], []⟩ [("_law_script", v)]) ∧ ∀ base : Heap, K.In base → base.Ns mainGlobals mg → FnOk PP w K mg base CX0 6 fa fd ["_law_script"] (spLaw K) := by
  have e := hfa.symm.trans (PySem.W.mg_of X G a10)
  cases e
  have F1 := fun_mk (st := s_is_integer) l1 c1 k1
  have b1 := F1.binds (ps := ["value"]) fun _ _ _ _ _ _ us hl => match us, hl with | [_], _ => rfl
  have F2 := fun_mk (st := s_is_sign) l2 c2 k2
  have b2 := F2.binds (ps := ["value"]) fun _ _ _ _ _ _ us hl => match us, hl with | [_], _ => rfl
  have F3 := fun_mk (st := s_is_word) l3 c3 k3
  have b3 := F3.binds (ps := ["value"]) fun _ _ _ _ _ _ us hl => match us, hl with | [_], _ => rfl
  have F4 := fun_mk (st := s_law_cell_at) l4 c4 k4
  have b4 := F4.binds (ps := ["_law_script", "_law_k"]) fun _ _ _ _ _ _ us hl => match us, hl with | [_, _], _ => rfl
  have F5 := fun_mk (st := s_law_box) l5 c5 k5
  have b5 := F5.binds (ps := ["_law_number"]) fun _ _ _ _ _ _ us hl => match us, hl with | [_], _ => rfl
  have F6 := fun_mk (st := s_law_take) l6 c6 k6
  have b6 := F6.binds (ps := ["_law_box_here", "_law_many"]) fun _ _ _ _ _ _ us hl => match us, hl with | [_, _], _ => rfl
  have F7 := fun_mk (st := s_law_word) l7 c7 k7
  have b7 := F7.binds (ps := ["_law_box_here"]) fun _ _ _ _ _ _ us hl => match us, hl with | [_], _ => rfl
  have F8 := fun_mk (st := s_law_good) l8 c8 k8
  have b8 := F8.binds (ps := ["_law_value"]) fun _ _ _ _ _ _ us hl => match us, hl with | [_], _ => rfl
  have F9 := fun_mk (st := s_law_values) l9 c9 k9
  have b9 := F9.binds (ps := ["_law_box_here"]) fun _ _ _ _ _ _ us hl => match us, hl with | [_], _ => rfl
  have F10 := fun_mk (st := s_law) l10 c10 k10
  have b10 := F10.binds (ps := ["_law_script"]) fun _ _ _ _ _ _ us hl => match us, hl with | [_], _ => rfl
  have BI : OpenB PP K D0 cc cda := ⟨⟨_, _, _, D0e⟩, ⟨_, _, _, _, _, _, D0f, D0g, D0h⟩, ⟨_, D0i⟩, by decide +kernel, D0o⟩
  have okI : ∀ (w : World) (base : Heap) (CX : CXT), FnOk PP w K mg base CX 1 fI (PySem.W.ksFn "__init__" "OpenpostsError.__init__" (defArgs s_init) (defBody s_init) (defScope s_init) .none kVI dcI pmI anI (.ref cda) ctI cc) ["self", "value"] (spInit K D0) := fun w base CX =>
    fn_init (ar := initArg) rfl D0l D0c rfl rfl (by decide +kernel) rfl rfl rfl rfl rfl rfl rfl (fun _ => rfl) (fun _ => rfl) (fun _ => rfl) (fun _ => rfl) (fun _ => rfl) BI (PySem.W.mg_none_of X G D0s)
  have bI : Binds K (PySem.W.ksFn "__init__" "OpenpostsError.__init__" (defArgs s_init) (defBody s_init) (defScope s_init) .none kVI dcI pmI anI (.ref cda) ctI cc) ["self", "value"] [] := .all fun us hl => match us, hl with | [_, _], _ => rfl
  have T : TX K mg := ⟨_, _, F1, b1, (PySem.W.mg_of X G a1), _, _, F2, b2, (PySem.W.mg_of X G a2), _, _, F3, b3, (PySem.W.mg_of X G a3), _, _, F4, b4, (PySem.W.mg_of X G a4), _, _, F5, b5, (PySem.W.mg_of X G a5), _, _, F6, b6, (PySem.W.mg_of X G a6), _, _, F7, b7, (PySem.W.mg_of X G a7), _, _, F8, b8, (PySem.W.mg_of X G a8), _, _, F9, b9, (PySem.W.mg_of X G a9), _, _, F10, b10, (PySem.W.mg_of X G a10), (PySem.W.mg_none_of X G z0), (PySem.W.mg_none_of X G z1), (PySem.W.mg_none_of X G z2), (PySem.W.mg_none_of X G z3), (PySem.W.mg_none_of X G z4), (PySem.W.mg_none_of X G z5), (PySem.W.mg_none_of X G z6), (PySem.W.mg_none_of X G z7), (PySem.W.mg_none_of X G z8), (PySem.W.mg_none_of X G z9), (PySem.W.mg_none_of X G z10), t0, (PySem.W.mg_of X G q0), t1, (PySem.W.mg_of X G q1), D0, (PySem.W.mg_of X G D0a), fI, _, bI, D0t, okI, C_x0, (PySem.W.mg_of X G x0a), ⟨⟨⟨_, _, _, _, _, _, _, _, _, _, _, _, _, _, _, x0b, x0c⟩, x0d, x0e, x0f, x0g⟩, x0h, x0i, x0j, x0k⟩, ⟨x0l, x0m, x0e, x0n, x0o, x0p, x0q, x0r⟩, x0s, kit0, kit1, kit2⟩
  exact ⟨PySem.W.fnOf "law" "law" (defArgs s_law) (defBody s_law) (defScope s_law) .none kV10 dc10 pm10 an10 cd10 ct10, fun s v => .of_eq rfl, fun base _ _ => G_law_end T F10⟩
end K01

open PySem PySem.W PyProof.Rows
set_option maxHeartbeats 0 in
theorem PySem.Challenge.cw_openposts_k01_signs_and_words_holds : PySem.Challenge.rw_openposts_k01_signs_and_words.Holds := by
  w_on; o_law; k_head; (case hw => w_witness2)
  k_fill
  refine L2.walk_of (l := PySem.Challenge.rw_openposts_k01_signs_and_words) (n := 63) (k := 6) (x := "_law_script") (CX := fun _ => L2.CX0) (sp := fun w => K01.spLaw _) rfl (by decide) rfl ⟨rfl, by decide, by decide⟩ (fun w h Y => PySem.W.kIn_of Y) ?F (fun _ _ a ns hl _ hS => ⟨a, ns, rfl, hS, hl, fun _ => rfl⟩) (fun _ _ _ _ _ h => h)
  case F =>
    intro w mg fa h KX G hmg
    refine' K01.all_mk KX G hmg ?a1 ?l1 ?c1 ?k1 ?a2 ?l2 ?c2 ?k2 ?a3 ?l3 ?c3 ?k3 ?a4 ?l4 ?c4 ?k4 ?a5 ?l5 ?c5 ?k5 ?a6 ?l6 ?c6 ?k6 ?a7 ?l7 ?c7 ?k7 ?a8 ?l8 ?c8 ?k8 ?a9 ?l9 ?c9 ?k9 ?a10 ?l10 ?c10 ?k10 ?z0 ?z1 ?z2 ?z3 ?z4 ?z5 ?z6 ?z7 ?z8 ?z9 ?z10 ?q0 ?q1 ?D0a ?D0b ?D0l ?D0c ?D0t ?D0e ?D0f ?D0g ?D0h ?D0i ?D0o ?D0s ?x0a ?x0b ?x0c ?x0d ?x0e ?x0f ?x0g ?x0h ?x0i ?x0j ?x0k ?x0l ?x0m ?x0n ?x0o ?x0p ?x0q ?x0r ?x0s ?kit0 ?kit1 ?kit2 
    (case a1 => k_is)
    (case l1 => k_is)
    (case c1 => k_is)
    (case k1 => k_is)
    (case a2 => k_is)
    (case l2 => k_is)
    (case c2 => k_is)
    (case k2 => k_is)
    (case a3 => k_is)
    (case l3 => k_is)
    (case c3 => k_is)
    (case k3 => k_is)
    (case a4 => k_is)
    (case l4 => k_is)
    (case c4 => k_is)
    (case k4 => k_is)
    (case a5 => k_is)
    (case l5 => k_is)
    (case c5 => k_is)
    (case k5 => k_is)
    (case a6 => k_is)
    (case l6 => k_is)
    (case c6 => k_is)
    (case k6 => k_is)
    (case a7 => k_is)
    (case l7 => k_is)
    (case c7 => k_is)
    (case k7 => k_is)
    (case a8 => k_is)
    (case l8 => k_is)
    (case c8 => k_is)
    (case k8 => k_is)
    (case a9 => k_is)
    (case l9 => k_is)
    (case c9 => k_is)
    (case k9 => k_is)
    (case a10 => k_is)
    (case l10 => k_is)
    (case c10 => k_is)
    (case k10 => k_is)
    (case z0 => k_is)
    (case z1 => k_is)
    (case z2 => k_is)
    (case z3 => k_is)
    (case z4 => k_is)
    (case z5 => k_is)
    (case z6 => k_is)
    (case z7 => k_is)
    (case z8 => k_is)
    (case z9 => k_is)
    (case z10 => k_is)
    (case q0 => k_is)
    (case q1 => k_is)
    (case D0a => k_is)
    (case D0b => k_is)
    (case D0l => k_is)
    (case D0c => k_is)
    (case D0t => k_is)
    (case D0e => k_is)
    (case D0f => k_is)
    (case D0g => exact rfl)
    (case D0h => first | exact rfl | decide +kernel)
    (case D0i => k_is)
    (case D0o => k_is)
    (case D0s => k_is)
    (case x0a => k_is)
    (case x0b => k_is)
    (case x0c => decide +kernel)
    (case x0d => k_is)
    (case x0e => k_is)
    (case x0f => k_is)
    (case x0g => k_is)
    (case x0h => k_is)
    (case x0i => ks_is)
    (case x0j => k_is)
    (case x0k => k_is)
    (case x0l => k_is)
    (case x0m => k_is)
    (case x0n => k_is)
    (case x0o => k_is)
    (case x0p => k_is)
    (case x0q => k_is)
    (case x0r => k_is)
    (case x0s => k_is)
    (case kit0 => kit_is)
    (case kit1 => kit_is)
    (case kit2 => kit_is)

