import PyProof.Rows.All
import Wide.All
import OpenK.AllK
import Wide.FinOn
import HandS.ForMost
import HandS.ForExc
import HandS.ExcInit
import HandS.ExcSuper
import KE.KExcSuper
import PyProof.ListStr
import PyProof.StrOps2
import HandS.Evl
import HandS.IsInst
import HandS.RaiseMore
import KE.KExcIs
import HandS.ExcIs
import HandS.Walk
import HandS.TupAny
import KE.GoesEnum
import KE.KDictZip
import HandS.Deep
import HandS.Property
import PyProof.InstNe
import PyProof.Rows.PlainNe
import HandS.ClsMeth
import PyProof.CallStr
import PyProof.Rows.Range3
import OpenK.KOps
import HandS.CallLocal
import HandS.StrMore
import HandS.SortInts
import HandS.Style
import HandS.WideBits
import HandS.Zip
import HandS.CallSlots
import HandS.Conv
import HandS.Text
import PySem.Challenge.RW_openposts_k12_addresses_told
set_option Elab.async false
set_option linter.all false
set_option maxRecDepth 100000
set_option maxHeartbeats 4000000
namespace OP
open PySem PySem.Spec PyProof.Rows L2
/-- what the written part says of the base class D of all errors, its __init__ at f -/
structure OpenB (P : Program) (K : PySem.W.Frag) (D cc cda : Addr) : Prop where
  cell : ∃ cl cld csl, K.lookup cc = some ⟨cl, cld, .cell (some (.ref D)), csl⟩
  code : ∃ ccl cdd vs ccs file tf, K.lookup cda = some ⟨ccl, cdd, .fields vs, ccs⟩ ∧ vs[2]? = some (.str file tf) ∧ ((P.main.file : Str) == file) = true
  cls : ∃ cdD, PySem.W.clsIn K D = some cdD
  top : (P.main.scope.names.lookup ("super" : Str)).isSome = false
  opq : PySem.W.nsIn K cStatics "thirdparty.any" = some none
/-- .. and of a class C of errors -/
structure OpenC (K : PySem.W.Frag) (D C : Addr) : Prop where
  ox : OexC K C
  sub : PySem.W.mroIn K C (.ref D) = some true
  ini : PySem.W.ks_superIn K C D "__init__" = some (some (.builtin "ValueError.__init__"))
  ve : PySem.W.subIn K (.ref C) (.type "ValueError") = some true
  nov : PySem.W.findIn K (.ref C) "value" = some none
def spInit (K : PySem.W.Frag) (D : Addr) : Sp := fun vs H Q _ => ∃ a C v, vs = [.ref a, v] ∧ OpenC K D C ∧ H a = some (exo a C none) ∧
  ∀ dx, H dx = none → dx ≠ a → Q .non (upd (upd H dx (exd dx [("value", v)])) a (exo a C (some dx)))

theorem fn_init {CX : CXT} {P : Program} {w : World} {K : PySem.W.Frag} {mg : Str → Option Value} {base : Heap} {k : Nat} {f D cc cda : Addr} {qual msg : Str} {params : Arguments} {scope : Scope} {dV kV doc pm ct oc : Value} {an od : Option Addr}
    {osl : Array (Option Value)} {j : Nat} {p0 p1 p2 p3 p4 p5 p6 p7 p8 p9 : Pos} {ar : Arg} {body : List Stmt}
    (hbd : body = [.Expr (.Call (.Attribute (.Call (.Name "super" p0) [] [] p1) "__init__" p2) [.Constant (.str msg) j p3] [] p4) p5, .Assign [.Attribute (.Name "self" p6) "value" p7] (.Name "value" p8) p9])
    (lk : K.lookup f = some ⟨oc, od, .func (PySem.W.ksFn "__init__" qual params body scope dV kV doc pm an (.ref cda) ct cc), osl⟩) (hcd : PySem.W.codeIn K (.ref cda) qual = true)
    (hpa : (params.posonlyargs ++ params.args).head? = some ar) (har : ar.arg = "self")
    (hcell : ∀ x ∈ scope.names, x.2 ≠ .cell) (hself : scope.names.lookup ("self" : Str) = some .local) (hval : scope.names.lookup ("value" : Str) = some .local)
    (hsup : scope.names.lookup ("super" : Str) = some .globalImplicit) (hcl : scope.names.lookup ("__class__" : Str) = some .free)
    (hk : scope.kind = .function) (hco : scope.isCoroutine = false) (hgen : scope.isGenerator = false)
    {pl : Sem Bool} (he : ∀ L, eval (.Call (.Attribute (.Call (.Name "super" p0) [] [] p1) "__init__" p2) [.Constant (.str msg) j p3] [] p4) (callEnv (PySem.W.ksFn "__init__" qual params body scope dV kV doc pm an (.ref cda) ct cc) L f) = (do
      let ov ← attributeBase (.Call (.Name "super" p0) [] [] p1) "__init__" (callEnv (PySem.W.ksFn "__init__" qual params body scope dV kV doc pm an (.ref cda) ct cc) L f) (eval (.Call (.Name "super" p0) [] [] p1) (callEnv (PySem.W.ksFn "__init__" qual params body scope dV kV doc pm an (.ref cda) ct cc) L f))
      standAt p2.atName
      let (g, first) ← holding [ov] (getMethod ov "__init__" pl)
      callWith p4 g first (backTo p4 (starEach [.Constant (.str msg) j p3] (callEnv (PySem.W.ksFn "__init__" qual params body scope dV kV doc pm an (.ref cda) ct cc) L f))) []))
    (hi : ∀ L, interactive (callEnv (PySem.W.ksFn "__init__" qual params body scope dV kV doc pm an (.ref cda) ct cc) L f) = false)
    (hs1 : ∀ L, swapsWith (.Call (.Attribute (.Call (.Name "super" p0) [] [] p1) "__init__" p2) [.Constant (.str msg) j p3] [] p4) none p5.line (callEnv (PySem.W.ksFn "__init__" qual params body scope dV kV doc pm an (.ref cda) ct cc) L f) = pure false)
    (hs2 : ∀ L, swapsWith (.Name "value" p8) (some (.Attribute (.Name "self" p6) "value" p7)) p9.line (callEnv (PySem.W.ksFn "__init__" qual params body scope dV kV doc pm an (.ref cda) ct cc) L f) = pure false)
    (hst : ∀ L, starEach [.Constant (.str msg) j p3] (callEnv (PySem.W.ksFn "__init__" qual params body scope dV kV doc pm an (.ref cda) ct cc) L f) = (false, eval (.Constant (.str msg) j p3) (callEnv (PySem.W.ksFn "__init__" qual params body scope dV kV doc pm an (.ref cda) ct cc) L f)) :: starEach [] (callEnv (PySem.W.ksFn "__init__" qual params body scope dV kV doc pm an (.ref cda) ct cc) L f))
    (B : OpenB P K D cc cda) (ms : mg "super" = none) :
    FnOk P w K mg base CX (k + 1) f (PySem.W.ksFn "__init__" qual params body scope dV kV doc pm an (.ref cda) ct cc) ["self", "value"] (spInit K D) := by
  refine ⟨fun vs H Q E h => ?_, fun A outer s H args us vs Q E hr e0 hb r hsp => ?_⟩
  · obtain ⟨a, C, v, rfl, _⟩ := h
    rfl
  · obtain ⟨a, C, v, rfl, T, ea, hq⟩ := hsp
    obtain ⟨u1, u2, rfl, r1, r2⟩ := vals2 r
    obtain rfl : u1 = Value.ref a := r1
    have KX : K.In s.heap := e0.mod.kin.keeps fun b o e => (e0.bs b o e).1
    have lim : s.heap.NoLimit := e0.mod.nolimit.keeps fun b o e => (e0.bs b o e).1
    obtain ⟨t1, hea⟩ := exo_at e0.hok ea
    refine ks_codeAny_call_defAt (fd := PySem.W.ksFn "__init__" qual params body scope dV kV doc pm an (.ref cda) ct cc) (body := body) (binds := [("self", .ref a), ("value", u2)]) hr.depth (KX _ _ lk) rfl lim (PySem.W.codeRec_of KX hcd) rfl hb hcell (fun x hx => ?_) (fun h0 hns hk0 => ?_) hco hgen hk
    · rcases List.mem_cons.mp hx with rfl | hx
      · exact hself
      · rcases List.mem_cons.mp hx with rfl | hx
        · exact hval
        · cases hx
    · have K0 : K.In h0 := fun b o e => hk0 _ _ (KX b o e)
      have hns' : h0.Ns s.heap.objs.size (fun x => if x = "value" then some u2 else if x = "self" then some (.ref a) else none) := by
        have hfe : (fun x => ([("self", Value.ref a), ("value", u2)] : List (Str × Value)).reverse.lookup x) = (fun x => if x = ("value" : Str) then some u2 else if x = ("self" : Str) then some (.ref a) else none) := ?_
        · rw [← hfe]
          exact hns
        funext x
        by_cases h1 : x = "value"
        · subst h1; rfl
        · by_cases h2 : x = "self"
          · subst h2; rfl
          · rw [if_neg h1, if_neg h2]
            have e1 : (x == ("value" : Str)) = false := by simpa using h1
            have e2 : (x == ("self" : Str)) = false := by simpa using h2
            simp [List.lookup, e1, e2]
      obtain ⟨nm, qn, N, bs, bm, sn, sub, ab, col, dd, k0, k1, k2, k3, k5, hC, hbm⟩ := T.ox.cls
      obtain ⟨cl, cld, csl, hcc⟩ := B.cell
      obtain ⟨ccl, cdd, cvs, ccs, file, tf, hcda, hvs, hfile⟩ := B.code
      obtain ⟨cdD, hD⟩ := B.cls
      obtain ⟨oD, hD1, hD2⟩ : ∃ oD, h0.get? D = some oD ∧ oD.data = .cls cdD := by
        unfold PySem.W.clsIn at hD
        split at hD
        · rename_i c d cd' sl ho
          cases hD
          exact ⟨_, K0 _ _ ho, rfl⟩
        · cases hD
      have a0 := hk0 _ _ hea
      have E0 : ∀ L, (callEnv (PySem.W.ksFn "__init__" qual params body scope dV kV doc pm an (.ref cda) ct cc) L f) = PySem.W.ksEnv qual scope L f (.ref cda) cc := fun L => rfl
      generalize hfd : PySem.W.ksFn "__init__" qual params body scope dV kV doc pm an (.ref cda) ct cc = fd at *
      rw [hbd]
      refine ks_wpAt_execs_cons (ks_wpAt_Expr_any (ks_wpAt_MethodCall (pl := pl) ?_ (he _)) (hi _) (hs1 _))
      have C0 : (K.In h0) := K0
      obtain ⟨mB, hmB, hmBx⟩ := e0.mod.blt
      rw [E0]
      have G0 : h0.Ns mainGlobals mg := e0.mod.glob.keeps fun b o e => hk0 _ _ (e0.bs b o e).1
      have B0 : h0.Ns builtinsNs mB := hmB.keeps fun b o e => hk0 _ _ (e0.bs b o e).1
      refine ks_wpAt_super_base (env := PySem.W.ksEnv qual scope s.heap.objs.size f (.ref cda) cc) hsup hcl rfl rfl (hk0 _ _ (KX _ _ lk)) rfl (by rw [← hfd]; exact hpa) rfl (K0 _ _ hcda) rfl hvs hfile B.top ?_
      refine PySem.W.ks_loadName_global hk hsup (PySem.Calls.loadGlobal_builtin (env := PySem.W.ksEnv qual scope s.heap.objs.size f (.ref cda) cc) G0 ms B0 ((hmBx "super" (by decide)).trans (by kernel_rfl)) ⟨rfl, ?_⟩)
      refine wpAny_loadName_free hk hcl rfl ⟨_, K0 _ _ hcc, rfl⟩ ?_
      refine wpAny_loadName_local hk (by rw [har]; exact hself) hns' (by rw [har]; rfl) ?_
      refine ks_wpAny_isType_cls hD1 hD2 ⟨rfl, ?_⟩
      have I0 : PySem.W.InstAt h0 a { cls := .ref C, data := .fields #[.ref t1, .none, .none, .none, .bool false, .none] } C none := ⟨a0, rfl, rfl, trivial⟩
      have hCl : ∃ cd, PySem.W.clsIn K C = some cd := by unfold PySem.W.clsIn; rw [hC]; exact ⟨_, rfl⟩
      obtain ⟨cdC, hcC⟩ := hCl
      refine ks_wpAny_call_super hD1 hD2 a0 rfl (fun c e => by cases e) (PySem.W.looks_mroIn K0 T.sub) (fun h1 hso hk1 => ?_)
      have K1 : K.In h1 := fun b o e => hk1 _ _ (K0 b o e)
      have a1 := hk1 _ _ a0
      have I1 : PySem.W.InstAt h1 a { cls := .ref C, data := .fields #[.ref t1, .none, .none, .none, .bool false, .none] } C none := ⟨a1, rfl, rfl, trivial⟩
      have hI : PySem.W.Looks (model P w) h1 (isInstance (.ref a) (.type "ValueError")) true := I1.type.andThen (PySem.W.looks_subIn K1 T.ve)
      have hm := T.ini
      unfold PySem.W.ks_superIn at hm
      rw [hcC] at hm
      refine PySem.W.kxs_getMethod PySem.W.kxs_ValueError hso (PySem.W.looks_opaque K1 B.opq) (l₀ := cdC.mro) (fun A Q E s k q => wpAny_bind ((PySem.W.looks_clsIn K1 hcC) A _ E s k (wpAny_pure q))) rfl K1 hm hI (PySem.W.ks_ne K1 I1 hcC) rfl ?_
      dsimp only
      rw [← E0, hst, E0]
      refine PySem.W.kxs_callWith (i := "ValueError.__init__") (x := a) rfl (PySem.Calls.evalArgs_plain ?_)
      refine PySem.Calls.spliced_cons (PySem.Calls.Constant_str (k := j) (pos := p3) (PySem.Calls.spliced_nil ⟨?_, ?_⟩))
      · exact Heap.get?_push_at rfl rfl
      have hg2 : ∀ {b : Addr} {o : Obj}, h1.get? b = some o → (h1.push (PySem.W.kxs_mw "ValueError.__init__" a)).get? b = some o := fun {b o} e => Heap.get?_push_of_some _ e
      have hw2 : (h1.push (PySem.W.kxs_mw "ValueError.__init__" a)).get? h1.objs.size = some (PySem.W.kxs_mw "ValueError.__init__" a) := Heap.get?_push_at rfl rfl
      generalize h1.push (PySem.W.kxs_mw "ValueError.__init__" a) = h2 at *
      have a2 := hg2 a1
      refine wpAny_call (codeAny_of_tree ?_)
      show wpAny _ (A.deeper _).in1 (callAny (.ref h1.objs.size) ⟨[.str msg _], []⟩) _ _ _
      simp only [callAny]
      refine wpAny_bind (wpAny_load hw2 ?_)
      simp only [PySem.W.kxs_mw, show (Value.type "method-wrapper" == Value.type "method" || Value.type "method-wrapper" == Value.type "builtin_function_or_method" || Value.type "method-wrapper" == Value.type "method-wrapper") = true by decide, if_true]
      refine PySem.W.KFB.if_so (by decide) ?_
      refine wpAny_bind (PySem.W.check_bound_init F.excBase_ValueError.toExcCallFacts (hg2 (K1 _ _ hC)) a2 rfl ?_)
      refine wpAny_bind (wpAny_pure (wpAny_pure ?_))
      refine ⟨plainId_quiet F.excBase_ValueError.init.plain _, codeAny_builtin F.excBase_ValueError.initEntry ?_⟩
      refine PySem.W.exc_init_tree (cls := .ref C) (t0 := t1) (dv := none) (c2 := .none) (c3 := .none) (b4 := .bool false) a2 (by show 1 ≤ sizeLine; decide) (fun h3 hk3 a3 htup => ?_)
      show PySem.wpAt (model P w) (A.deeper (PySem.W.ksEnv qual scope s.heap.objs.size f (Value.ref cda) cc)) _ (execs [Stmt.Assign [(Expr.Name (Str.ofString "self") p6).Attribute (Str.ofString "value") p7] (Expr.Name (Str.ofString "value") p8) p9] (PySem.W.ksEnv qual scope s.heap.objs.size f (Value.ref cda) cc)) _ _ _
      have neL : s.heap.objs.size ≠ a := Ne.symm (Nat.ne_of_lt (Heap.lt_size hea))
      have k03 : ∀ b o, b ≠ a → h0.get? b = some o → h3.get? b = some o := fun b o hb e => hk3 b o hb (hg2 (hk1 b o e))
      have n3 : h3.Ns s.heap.objs.size (fun x => if x = ("value" : Str) then some u2 else if x = ("self" : Str) then some (.ref a) else none) := by
        obtain ⟨oL, es, ep, hL, rr⟩ := hns'
        exact ⟨oL, es, ep, k03 _ _ neL hL, rr⟩
      have naC : ∀ b o, K.lookup b = some o → b ≠ a := fun b o e z => by
        have e1 := (e0.bs b o (e0.mod.kin b o e)).2
        rw [z, ea] at e1
        cases e1
      have K3 : K.In h3 := fun b o e => k03 _ _ (naC b o e) (K0 b o e)
      have hs2' := hs2 s.heap.objs.size
      rw [E0] at hs2'
      refine ks_wpAt_execs_cons (ks_wpAt_Assign_Attr (wpAt_of_wpAny (PySem.ESX.ldL n3 (by rfl) (PySem.ESX.ldL n3 (by rfl) ?_ hk hself) hk hval)) hs2')
      have hcl3 : PySem.W.clsIn K C = some { name := nm, bases := bs, mro := .ref C :: bm, ns := N, qualname := qn, hasDict := true, slotNames := sn, subclasses := sub, abstract := ab, collection := col, hasDel := false } := by unfold PySem.W.clsIn; rw [hC] <;> rfl
      refine PySem.W.set_plain (s := { heap := h3, gens := s.gens, drawn := s.drawn, toks := s.toks + 2 + 1 + 1, os := s.os }) K3 (ox := { cls := .ref C, dict := none, data := .fields #[.ref h2.objs.size, .none, .none, .none, .bool false, .none] }) (od := none) ⟨a3, rfl, rfl, trivial⟩ T.ox.sa ?_
      refine PySem.HandSPX.exc_osa K3 a3 hcl3 (show PySem.HandSPX.refsVE (.ref C :: bm) = true from hbm) rfl T.nov (fun h4 tk4 dx k4 dn dne hx4 hn4 => ?_)
      show PySem.wpAt _ _ _ (execs [] _) _ _ _
      refine wpAt_of_wpAny (wpAny_execs_nil ?_)
      show CE outer P w H s Q Value.none _
      have kk : ∀ b o, b ≠ a → s.heap.get? b = some o → h4.get? b = some o := fun b o hb e => k4 b o hb (k03 b o hb (hk0 b o e))
      have size3 : s.heap.objs.size ≤ dx := by
        have q1 : s.heap.objs.size < h3.objs.size := by
          obtain ⟨oL, _, _, hL, _⟩ := n3
          exact Heap.lt_size hL
        exact Nat.le_trans (Nat.le_of_lt q1) dn
      have hnd : H dx = none := e0.hok.fresh size3
      have nd : ∀ {b : Addr} {o : Obj}, s.heap.get? b = some o → b ≠ dx := fun {b o} q => Nat.ne_of_lt (Nat.lt_of_lt_of_le (Heap.lt_size q) size3)
      have na : ∀ {b : Addr}, H b = none → b ≠ a := fun {b} n z => by
        rw [z, ea] at n
        cases n
      have Un1 : Un (frs outer) [] H (upd (upd H dx (exd dx [("value", v)])) a (exo a C (some dx))) s.heap h4 := {
        keep := fun b o q n _ _ => kk b o (na n) q
        slot := fun b o q n _ _ => ⟨o.slots, kk b o (na n) q⟩
        free := fun b o q n _ => by rw [upd_ne (na n), upd_ne (nd q)]; exact n
        there := fun b o q _ => by
          by_cases hb : b = a
          · exact ⟨_, by rw [hb]; exact hx4⟩
          · exact ⟨o, kk b o hb q⟩
        tups := fun b xs q => by rw [upd_ne (at_ne ea q exo_tup), upd_ne (ne_of_none q hnd)]; exact q
        frzs := fun b o v q => by rw [upd_ne (at_ne ea q exo_frz), upd_ne (ne_of_none q hnd)]; exact q
        tbls := fun b ps q => ⟨#[], by rw [upd_ne (at_ne ea q exo_tbl), upd_ne (ne_of_none q hnd), q]; simp⟩ }
      refine ⟨.non, _, rfl, e0.bare, Un1, fun b o q => ?_, rfl, hq dx hnd dne⟩
      by_cases hb : b = a
      · subst hb
        rw [upd_same] at q
        cases q
        exact exo_ok hx4
      · rw [upd_ne hb] at q
        by_cases hd : b = dx
        · subst hd
          rw [upd_same] at q
          cases q
          exact exd_ok hn4 (relO_put (fs := []) r2 fun g => True.intro)
        · rw [upd_ne hd] at q
          exact (e0.hok b o q).stay (fun c v hc z => kk c v (by
              rcases hc with hc | hc
              · rw [hc]
                exact hb
              · exact at_ne ea hc exo_own) z)
            (fun c hc => by rw [upd_ne (at_ne ea hc exo_own), upd_ne (ne_of_none hc hnd)]; exact hc) (fun c xs hc => by rw [upd_ne (at_ne ea hc exo_tup), upd_ne (ne_of_none hc hnd)]; exact hc)
end OP

namespace OP
open PySem PySem.Spec PyProof.Rows L2
section
variable {X : Cx}
/-- the text of a truth value -/
def bText (b : Bool) : Str := if b then "True" else "False"
theorem bText_inj {a b : Bool} (h : bText a = bText b) : a = b := by
  cases a <;> cases b
  · rfl
  · exact absurd h (by decide +kernel)
  · exact absurd h (by decide +kernel)
  · rfl
theorem call_repr_bl : CallR X (.builtin "repr") (fun xs H Q => ∃ b, xs = [.bl b] ∧ Q (.str (bText b)) H) := by
  intro pins s σ H xs us Q I r h
  obtain ⟨b, rfl, q⟩ := h
  obtain ⟨u, rfl, rb⟩ := vals1 r
  obtain rfl : u = Value.bool b := rb
  exact PySem.P.repr_of_bool ⟨.str _, H, I.tok _, ⟨_, rfl⟩, q⟩
/-- the signs of a text as texts of one sign -/
def signsV (z : Str) : List V := z.cps.toList.map fun c => V.str ⟨#[c]⟩
theorem signsV_length (z : Str) : (signsV z).length = z.length := by
  unfold signsV
  rw [List.length_map]
  rfl
theorem call_list_text (hc : X.calm = true) : CallR X (.type "list") (fun xs H Q => ∃ z : Str, xs = [.str z] ∧ z.length ≤ sizeLine ∧ ∀ p, H p = none → Q (.ref p) (upd H p (.lst (signsV z)))) := by
  intro pins s σ H xs us Q I r h
  obtain ⟨z, rfl, hz, q⟩ := h
  obtain ⟨u, rfl, t, rfl⟩ := vals1 r
  refine call_list_str (I.ok.hd hc) z t (fun h' tk acc' c' hk hS hit => ?_) hz
  have hf : H s.heap.objs.size = none := I.hok.fresh (Nat.le_refl _)
  refine ⟨.ref s.heap.objs.size, upd H s.heap.objs.size (.lst (signsV z)), I.laid (t' := tk) hk (Nat.le_refl _) ?_, rfl, q _ hf⟩
  refine ⟨by rw [signsV_length]; exact hz, acc'.toList, c', ?_, by simpa using hS⟩
  obtain ⟨hl, hi⟩ := hit
  have key : ∀ (l : List Nat) (ys : List Value), l.length = ys.length → (∀ (i : Nat) v, ys[i]? = some v → ∃ c u, l[i]? = some c ∧ v = Value.str ⟨#[c]⟩ u) → Vals (l.map fun c => V.str ⟨#[c]⟩) ys := by
    intro l
    induction l with
    | nil =>
      intro ys e _
      cases ys with
      | nil => exact .nil
      | cons y r => cases e
    | cons c l ih =>
      intro ys e hh
      cases ys with
      | nil => cases e
      | cons y r =>
        obtain ⟨c', u, e1, e2⟩ := hh 0 y rfl
        cases e1
        exact .cons ⟨u, e2⟩ (ih r (Nat.succ.inj e) fun i v q => hh (i + 1) v q)
  refine key z.cps.toList acc'.toList (by simpa using hl.symm) fun i v hv => ?_
  obtain ⟨c, u, e1, e2⟩ := hi i v (by simpa using hv)
  exact ⟨c, u, by simpa using e1, e2⟩
/-- a text n times -/
def repS (z : Str) (n : Nat) : Str := ⟨(List.replicate n z.cps.toList).flatten.toArray⟩
theorem repS_fold (z : Str) (n : Nat) : (⟨(List.replicate n z.cps).foldl (· ++ ·) #[]⟩ : Str) = repS z n := by
  have key : ∀ (n : Nat) (a : Array Nat), (List.replicate n z.cps).foldl (· ++ ·) a = a ++ (List.replicate n z.cps.toList).flatten.toArray := by
    intro n
    induction n with
    | zero => intro a; simp
    | succ n ih =>
      intro a
      rw [List.replicate_succ, List.foldl_cons, ih, List.replicate_succ, List.flatten_cons]
      apply Array.ext'
      simp
  unfold repS
  rw [key n #[]]
  simp
theorem repS_length (z : Str) (n : Nat) : (repS z n).length = z.length * n := by
  show (List.replicate n z.cps.toList).flatten.toArray.size = z.cps.size * n
  rw [List.size_toArray, List.length_flatten, List.map_replicate, Array.length_toList]
  induction n with
  | zero => rfl
  | succ n ih =>
    rw [List.replicate_succ, List.sum_cons, ih, Nat.mul_succ, Nat.add_comm]
theorem op_mul_str : OpR X (binaryOp .Mult) (fun x y H Q => ∃ (z : Str) (n : Int), x = .str z ∧ y = .int n ∧ 0 ≤ n ∧ n ≤ 10000 ∧ z.length ≤ 1000 ∧ Q (.str (repS z n.toNat)) H) := by
  intro pins s σ H x y u v Q I rx ry h
  obtain ⟨z, n, rfl, rfl, h0, h1, hz, q⟩ := h
  obtain ⟨t, rfl⟩ := rx
  obtain ⟨t2, rfl⟩ := ry
  have hr : (decide (n < -(2 ^ 63 : Int)) || decide (n ≥ 2 ^ 63)) = false := by
    rw [decide_eq_false (by omega), decide_eq_false (by omega)]
    rfl
  refine PySem.P.mul_str hr (fun hn _ => ?_) (fun hn _ => ?_) ?_
  · have e : (1000 : Int) ≤ (2 ^ 63 - 1) / n := by
      rw [Int.le_ediv_iff_mul_le (by omega)]
      omega
    omega
  · have : z.length * n.toNat ≤ 1000 * 10000 := Nat.mul_le_mul hz (by omega)
    unfold Builtin.Str.tooLong
    have e : ¬ (z.length * n.toNat > sizeLine) := by rw [sizeLine_eq]; omega
    simpa using Nat.le_of_not_gt e
  · by_cases hn : n < 1
    · rw [if_pos hn]
      have e : n.toNat = 0 := by omega
      rw [e] at q
      exact ⟨by decide, .str _, H, I.tok _, ⟨_, rfl⟩, q⟩
    · rw [if_neg hn]
      by_cases h2 : (n == 1 || z.length == 0) = true
      · rw [if_pos h2]
        have e : repS z n.toNat = z := by
          rcases Bool.or_eq_true_iff.mp h2 with e | e
          · have : n = 1 := by simpa using e
            subst this
            show repS z 1 = z
            unfold repS
            simp
          · have e0 : z.cps = #[] := by
              have : z.length = 0 := by simpa using e
              exact Array.eq_empty_of_size_eq_zero this
            obtain ⟨cps⟩ := z
            dsimp only at e0
            subst e0
            unfold repS
            simp
        rw [e] at q
        exact ⟨.str z, H, I, ⟨_, rfl⟩, q⟩
      · rw [if_neg h2]
        refine ⟨?_, .str (repS z n.toNat), H, I.tok _, ⟨s.toks, ?_⟩, q⟩
        · have e := repS_length z n.toNat
          rw [← repS_fold] at e
          have : z.length * n.toNat ≤ 1000 * 10000 := Nat.mul_le_mul hz (by omega)
          rw [e, sizeLine_eq]
          omega
        · rw [← repS_fold]
end
end OP

namespace OP
open PySem PySem.Spec PyProof.Rows L2
theorem upd_over {H : Hp} {a b : Addr} {o1 o2 o3 : HO} : upd (upd (upd H a o1) b o2) a o3 = upd (upd H b o2) a o3 := by
  funext c
  by_cases h : c = a
  · subst h
    rw [upd_same, upd_same]
  · rw [upd_ne h, upd_ne h]
    by_cases h2 : c = b
    · subst h2
      rw [upd_same, upd_same]
    · rw [upd_ne h2, upd_ne h2, upd_ne h]
section
variable {X : Cx} {e : Expr} {te : TE} {p pos : Pos}
/-- C(e), an error as a value -/
theorem pe_excV {CX : CXT} {x : Str} {C D fI : Addr} {k : Nat} {fd : FuncData} (T : OpenC X.K D C) (iC : PySem.W.findIn X.K (.ref C) "__init__" = some (some (.ref fI))) (tI : PySem.W.typeIn X.K (.ref fI) = some (.type "function"))
    (F1 : FnOk X.prog X.w X.K X.mg X.base CX k fI fd ["self", "value"] (spInit X.K D)) (hr : Room (k + 1) X.A) (hb : Binds X.K fd ["self", "value"] []) (hx : Passes CX X (fun _ _ _ => False)) (hg : Gl X x) (hm : X.mg x = some (.ref C)) (he : PE X e te)
    (hdb : (x == ("__debug__" : Str)) = false := by decide) (hst : starEach [e] X.env = (false, eval e X.env) :: starEach [] X.env := by rfl) :
    PE X (.Call (.Name x p) [e] [] pos) (fun σ H Q => te σ H fun v H1 => ∀ a d, H1 a = none → H1 d = none → d ≠ a → Q (.ref a) (upd (upd H1 d (exd d [("value", v)])) a (exo a C (some d)))) := by
  refine ⟨fun pins s σ H Q I h => ?_⟩
  obtain ⟨nm, q, N, bs, bm, sn, sub, ab, col, dd, k0, k1, k2, k3, k5, hC, hbm⟩ := T.ox.cls
  refine wpAny_Call_Name_kw (ld_glob I hg hm ?_ hdb)
  refine PySem.W.callWith_K (h₀ := X.base) I.ok.mod.kin T.ox.kC ?_ hst (by rfl)
  rw [hst]
  show wpAny _ _ (spliced ((false, eval e X.env) :: backTo pos (starEach [] X.env))) _ _ s
  refine Calls.spliced_cons (thn (he.run pins s σ H _ I h) fun u s1 ⟨v, H1, I1, r1, q1⟩ => ?_)
  refine Calls.spliced_nil ⟨I1.kIn, ?_⟩
  show wpAny _ _ (call (.ref C) [u]) _ _ _
  obtain ⟨hp, g, dr, tk, os⟩ := s1
  have hsz : hp.objs.size ≤ hp.objs.size + 1 := Nat.le_succ _
  have hn : H1 (hp.objs.size + 1) = none := I1.hok.fresh hsz
  have kk : ∀ b o, hp.get? b = some o → ((hp.push (PySem.W.kdv_tup [u])).push (PySem.HandSPX.excO C hp.objs.size)).get? b = some o := fun b o e => Heap.get?_push_of_some _ (Heap.get?_push_of_some _ e)
  have hget : ((hp.push (PySem.W.kdv_tup [u])).push (PySem.HandSPX.excO C hp.objs.size)).get? (hp.objs.size + 1) = some (PySem.HandSPX.excO C hp.objs.size) := by heap_get
  have I2 : Inv X pins σ (upd H1 (hp.objs.size + 1) (exo (hp.objs.size + 1) C none)) ⟨(hp.push (PySem.W.kdv_tup [u])).push (PySem.HandSPX.excO C hp.objs.size), g, dr, tk, os⟩ :=
    I1.laid (t' := tk) (a := hp.objs.size + 1) (o := exo (hp.objs.size + 1) C none) (h' := (hp.push (PySem.W.kdv_tup [u])).push (PySem.HandSPX.excO C hp.objs.size)) kk hsz (exo_ok hget)
  have r2 : Vals [V.ref (hp.objs.size + 1), v] [Value.ref (hp.objs.size + 1), u] := .cons rfl (.cons r1 .nil)
  have hq : spInit X.K D [V.ref (hp.objs.size + 1), v] (upd H1 (hp.objs.size + 1) (exo (hp.objs.size + 1) C none)) (fun w2 H2 => w2 = .non ∧ Q (.ref (hp.objs.size + 1)) H2) (fun _ _ _ => False) := by
    refine ⟨_, C, v, rfl, T, upd_same, fun dx hd hne => ⟨rfl, ?_⟩⟩
    rw [upd_over]
    rw [upd_ne hne] at hd
    exact q1 _ dx hn hd hne
  refine wpAny_call (PySem.HandSPX.call_own F.excBase_ValueError (fun Y => PySem.HandSPX.refsVE_contains Y bm hbm) (I1.kIn _ _ hC) (PySem.W.looks_findIn I1.kIn iC) (fun self => PySem.W.bind_fn I1.kIn self tI) (by show 1 ≤ sizeLine; decide)
    (codeAny_mono (F1.run _ X.stack _ _ ⟨Value.ref (hp.objs.size + 1) :: [u], []⟩ [Value.ref (hp.objs.size + 1), u] _ _ (fun _ _ _ => False) (hr.make C [u] []) (I2.env0.make C [u] []) (hb _ [Value.ref (hp.objs.size + 1), u] I2.kIn rfl) r2 hq) fun r s' hq' => ?_))
  cases r with
  | error er => exact hx pins σ _ _ er s' I2 hq'
  | ok fl =>
    cases fl with
    | ret w2 =>
      obtain ⟨w3, H2, os2, bare2, un2, hok2, rv, ev, q2⟩ := hq'
      subst ev
      have un : Un (frs X.stack) [] H1 H2 hp s'.heap := Un.trans (Un.laid kk hsz hn) un2
      exact ⟨rv, .ref (hp.objs.size + 1), H2, I1.call' (ch := []) os2 un hok2 bare2 (fun b z => absurd z (by simp)), rfl, q2⟩
    | next => exact False.elim hq'
    | brk => exact False.elim hq'
    | cont => exact False.elim hq'
end
/-- a value's type, errors of the package too -/
inductive TyZ (K : PySem.W.Frag) (H : Hp) : V → Value → Prop where
  | x {v : V} {t : Value} (h : TyX K H v t) : TyZ K H v t
  | exc {a C d : Addr} {fs : List (Str × V)} (T : ExcC K C) (e : H a = some (exo a C (some d))) (ed : H d = some (exd d fs)) : TyZ K H (.ref a) (.ref C)
theorem TyZ.mono {K : PySem.W.Frag} {H H' : Hp} {v : V} {t : Value} (e : Evl.Ex H H') (h : TyZ K H v t) : TyZ K H' v t := by
  cases h with
  | exc T h1 h2 => exact .exc T (e _ _ h1) (e _ _ h2)
  | x h =>
    refine .x ?_
    cases h with
    | byt b => exact .byt b
    | set h => exact .set (e _ _ h)
    | kList h c => exact .kList h c
    | kTuple h c => exact .kTuple h c
    | kDict h c => exact .kDict h c
    | fTuple h => exact .fTuple (e _ _ h)
    | fDict h => exact .fDict (e _ _ h)
    | base h =>
      refine .base ?_
      cases h with
      | non => exact .non
      | bl b => exact .bl b
      | int b => exact .int b
      | str b => exact .str b
      | flt b => exact .flt b
      | lst h => exact .lst (e _ _ h)
      | frz h => exact .frz (e _ _ h)
      | tup h => exact .tup (e _ _ h)
      | dK h => exact .dK (e _ _ h)
      | dT h => exact .dT (e _ _ h)
      | ins h a b c d f => exact .ins (e _ _ h) a b c d f
def rIsZ (K : PySem.W.Frag) : List V → Hp → VK → Prop := fun xs H Q => ∃ (x c : V) (t u : Value) (b : Bool), xs = [x, c] ∧ ClsV c u ∧ TyZ K H x t ∧ PySem.W.kitOne K t u = some b ∧ Q (.bl b) H
theorem call_isZ {X : Cx} : CallR X (.builtin "isinstance") (rIsZ X.K) := by
  intro pins s σ H xs us Q I r h
  obtain ⟨x, c, t, u, b, rfl, k, ty, e, q⟩ := h
  cases ty with
  | x ty => exact call_isi pins s σ H _ us Q I r ⟨x, c, t, u, b, rfl, k, ty, e, q⟩
  | @exc a C d fs T ea ed =>
    obtain ⟨u1, u2, rfl, r1, r2⟩ := vals2 r
    obtain rfl : u1 = Value.ref a := r1
    obtain rfl := k.eq r2
    obtain ⟨t1, hx⟩ := exo_at I.hok ea
    obtain ⟨mA, ⟨od, es, ep, hd, _⟩, _⟩ := exd_at I.hok ed
    have hcl : (PySem.W.clsIn X.K C).isSome = true := by
      obtain ⟨cd, hc, _⟩ := PySem.W.any_some T.hd
      rw [hc]
      rfl
    have J : PySem.W.InstAt s.heap a { cls := .ref C, dict := some d, data := .fields #[.ref t1, .none, .none, .none, .bool false, .none] } C (some od) := ⟨hx, rfl, rfl, hd⟩
    exact PySem.W.kia_one (PySem.W.kitx_exc hcl T.hg T.hk T.hs T.ha T.hn T.ht T.hm) I.kIn J e (fun z => nomatch z) fun tk => ⟨.bl b, H, I.tok tk, rfl, q⟩
end OP

namespace OP
open PySem PySem.Spec PyProof.Rows L2
/-! ### the law's box: three ints, the third counts the draws -/
def Box (n : Nat) (o : HO) : Prop := ∃ x y c : Int, o = .lst [.int x, .int y, .int c] ∧ 0 ≤ x ∧ 0 ≤ y ∧ y < 2147483648 ∧ 0 ≤ c ∧ c ≤ n
def BoxAt (H : Hp) (b : Addr) (n : Nat) : Prop := ∃ o, H b = some o ∧ Box n o
/-- all but b stands as it stood -/
def Eb (b : Addr) (H H' : Hp) : Prop := ∀ a o, a ≠ b → H a = some o → H' a = some o
theorem Eb.refl (b : Addr) (H : Hp) : Eb b H H := fun _ _ _ h => h
theorem Eb.trans {b : Addr} {H H1 H2 : Hp} (x : Eb b H H1) (y : Eb b H1 H2) : Eb b H H2 := fun a o n h => y a o n (x a o n h)
theorem Eb.of {b : Addr} {H H' : Hp} (x : Evl.Ex H H') : Eb b H H' := fun a o _ h => x a o h
theorem Eb.upd {b : Addr} {H : Hp} {o : HO} : Eb b H (upd H b o) := fun a u n h => by rw [upd_ne n]; exact h
theorem BoxAt.mono {H : Hp} {b : Addr} {n m : Nat} (h : BoxAt H b n) (l : n ≤ m) : BoxAt H b m := by
  obtain ⟨o, e, x, y, c, h1, h2, h3, h4, h5, h6⟩ := h
  exact ⟨o, e, x, y, c, h1, h2, h3, h4, h5, by omega⟩
theorem BoxAt.ex {H H' : Hp} {b : Addr} {n : Nat} (h : BoxAt H b n) (e : Evl.Ex H H') : BoxAt H' b n := by
  obtain ⟨o, q, r⟩ := h
  exact ⟨o, e _ _ q, r⟩
theorem BoxAt.upd {H : Hp} {b p : Addr} {n : Nat} {u : HO} (h : BoxAt H b n) (e : H p = none) : BoxAt (upd H p u) b n := h.ex (Evl.Ex.new e)
def spCell (K : PySem.W.Frag) : Sp := fun vs H Q _ => ∃ (a : Addr) (ns : List Int) (k : Nat), vs = [.ref a, .int k] ∧ SqL K H a (ns.map V.int) ∧ k ≤ 1000 ∧ ∀ i, Q (.int i) H
def spBox : Sp := fun vs H Q _ => ∃ i : Int, vs = [.int i] ∧ ∀ p o, H p = none → Box 0 o → Q (.ref p) (upd H p o)
def spTake : Sp := fun vs H Q _ => ∃ (b : Addr) (m : Int) (n : Nat), vs = [.ref b, .int m] ∧ BoxAt H b n ∧ n ≤ 1000000000 ∧ 0 < m ∧ m ≤ 1000000 ∧
  ∀ (d : Int) o, 0 ≤ d → d < m → Box (n + 1) o → Q (.int d) (upd H b o)
theorem fmod_nn {a b : Int} (hb : 0 < b) : 0 ≤ a.fmod b ∧ a.fmod b < b := ⟨Int.fmod_nonneg_of_pos a hb, Int.fmod_lt_of_pos a hb⟩
theorem fdiv_nn {a b : Int} (ha : 0 ≤ a) (hb : 0 < b) : 0 ≤ a.fdiv b := by
  rw [Int.fdiv_eq_ediv_of_nonneg a (by omega)]
  exact Int.ediv_nonneg ha (by omega)
/-- a draw, read -/
theorem rd_take {b : Addr} {m : Int} {n i : Nat} {σ : L2.St} {H : Hp} {Q : VK} {E : XK} {tm : TE} (hv : σ[i]? = some (some (.ref b))) (ht : ∀ Q : VK, Q (.int m) H → tm σ H Q) (hb : BoxAt H b n) (hn : n ≤ 1000000000) (hm : 0 < m) (hm2 : m ≤ 1000000)
    (q : ∀ (d : Int) H', 0 ≤ d → d < m → Eb b H H' → BoxAt H' b (n + 1) → Q (.int d) H') : tCall spTake [] E (tCons (tVar i) (tCons tm tNil)) σ H Q :=
  ⟨.ref b, hv, ht _ ⟨b, m, n, rfl, hb, hn, hm, hm2, fun d o h1 h2 h3 => q d _ h1 h2 Eb.upd ⟨o, upd_same, h3⟩⟩⟩
end OP

namespace OP
open PySem PySem.Spec PyProof.Rows L2 Evl
section
variable {K : PySem.W.Frag} {σ : L2.St} {H H' : Hp} {ta tb te tx ts : TE} {t u : TT} {x y z v : V}
theorem given_all {n : Nat} {v : Nat → V} : given n (fun _ => true) v = (List.range n).map v := by
  unfold given
  rw [List.filter_eq_self.mpr fun _ _ => rfl]
theorem given_str {α : Type} (l : List α) (d : α) (v : α → V) : given l.length (fun _ => true) (fun i => v (l.getD i d)) = l.map v := by
  rw [given_all]
  apply List.ext_getElem?
  intro i
  rw [List.getElem?_map, List.getElem?_map]
  by_cases h : i < l.length
  · rw [List.getElem?_range h, List.getElem?_eq_getElem h]
    simp [List.getD, List.getElem?_eq_getElem h]
  · rw [List.getElem?_eq_none (by rw [List.length_range]; omega), List.getElem?_eq_none (by omega)]
    rfl
theorem given_filter {α : Type} (p : α → Bool) (v : α → V) (d : α) : ∀ l : List α, given l.length (fun i => p (l.getD i d)) (fun i => v (l.getD i d)) = (l.filter p).map v := by
  intro l
  have key : ∀ n, n ≤ l.length → given n (fun i => p (l.getD i d)) (fun i => v (l.getD i d)) = ((l.take n).filter p).map v := by
    intro n
    induction n with
    | zero => intro _; rfl
    | succ n ih =>
      intro h
      have hn : n < l.length := h
      have e : l.getD n d = l[n] := by simp [List.getD, List.getElem?_eq_getElem hn]
      rw [List.take_succ, List.getElem?_eq_getElem hn, List.filter_append, List.map_append, ← ih (Nat.le_of_lt hn)]
      cases hp : p l[n] with
      | true =>
        rw [given_yes (by rw [e]; exact hp), e]
        simp [hp]
      | false =>
        rw [given_no (by rw [e]; exact hp)]
        simp [hp]
  rw [key l.length (Nat.le_refl _), List.take_length]
/-- [e for x in text if t] -/
theorem el_lcS {s : Str} {j : Nat} {vs : List Nat} (f : Nat → Bool) (v : Nat → V) (h : Ev ts σ H (.str s)) (hz : s.length ≤ 40000) (hw : ∀ x, wipe ((wipe σ vs).set j (some x)) vs = wipe σ vs)
    (ht : ∀ (i : Nat) (c : Nat) H1, Ex H H1 → s.cps[i]? = some c → EvT t ((wipe σ vs).set j (some (.str ⟨#[c]⟩))) H1 (f i))
    (he : ∀ (i : Nat) (c : Nat) H1, Ex H H1 → s.cps[i]? = some c → f i = true → Ev te ((wipe σ vs).set j (some (.str ⟨#[c]⟩))) H1 (v i)) :
    EvL (tLc (iStr ts) (gName j) t te vs) σ H (given s.length f v) := fun H0 e Q q => h H0 e _ fun H1 e1 => ⟨s, rfl, fun Dl hD =>
  lc_it walk_str (Cw H1 f v Dl) ⟨hD, Ex.new hD, upd_same⟩ (fun _ _ _ _ => trivial) (fun i x H2 H3 hi p y => by
    obtain ⟨rfl, c, hc, rfl⟩ := y
    have hi' : i < 50000 := Nat.lt_of_lt_of_le hi (Nat.le_trans hz (by decide))
    exact ⟨hw _, cw_turn p hi' (ht i c H1 (e.trans e1) hc) (fun hf => he i c H1 (e.trans e1) hc hf)⟩) (fun H' p => q Dl H' (fresh_back e1 p.1) (e1.trans p.2.1) p.2.2)⟩
/-- all([..]) of truth values -/
theorem ev_all {bs : List Bool} (ha : EvL ta σ H (bs.map V.bl)) : Ev (tCB (rAll K) (tCons ta tNil)) σ H (.bl (bs.all id)) := fun H1 e Q q =>
  ha H1 e _ fun p H2 _ e2 h2 => ⟨p, bs, rfl, SqL.of h2, q H2 e2⟩
theorem ev_any {bs : List Bool} (ha : EvL ta σ H (bs.map V.bl)) : Ev (tCB (rAny K) (tCons ta tNil)) σ H (.bl (bs.any id)) := fun H1 e Q q =>
  ha H1 e _ fun p H2 _ e2 h2 => ⟨p, bs, rfl, SqL.of h2, q H2 e2⟩
theorem ev_lenS {s : Str} (ha : Ev ta σ H (.str s)) (hz : s.length ≤ 100000) : Ev (tCB (fun xs H Q => ∃ z : Str, xs = [.str z] ∧ z.length ≤ sizeLine ∧ Q (.int z.length) H) (tCons ta tNil)) σ H (.int s.length) := fun H1 e Q q =>
  ha H1 e _ fun H2 e2 => ⟨s, rfl, sz_of hz, q H2 e2⟩
theorem ev_inS {c : Nat} {s : Str} (ha : Ev ta σ H (.str ⟨#[c]⟩)) (hb : Ev tb σ H (.str s)) :
    Ev (tOp (fun x y H Q => ∃ (c : Nat) (z : Str), x = .str ⟨#[c]⟩ ∧ y = .str z ∧ Q (.bl (decide (c ∈ z.cps.toList))) H) ta tb) σ H (.bl (decide (c ∈ s.cps.toList))) :=
  ev_op ha hb fun H1 _ Q q => ⟨c, s, rfl, rfl, q H1 (Ex.refl H1)⟩
/-- [f(sign) for sign in text], truth values -/
theorem el_lcSb {s : Str} {j : Nat} {vs : List Nat} (f : Nat → Bool) (h : Ev ts σ H (.str s)) (hz : s.length ≤ 40000) (hw : ∀ x, wipe ((wipe σ vs).set j (some x)) vs = wipe σ vs)
    (he : ∀ (c : Nat) H1, Ex H H1 → Ev te ((wipe σ vs).set j (some (.str ⟨#[c]⟩))) H1 (.bl (f c))) :
    EvL (tLc (iStr ts) (gName j) tYes te vs) σ H ((s.cps.toList.map f).map V.bl) := by
  have e : given s.length (fun _ => true) (fun i => V.bl (f (s.cps.toList.getD i 0))) = (s.cps.toList.map f).map V.bl := by
    rw [List.map_map]
    have := given_str s.cps.toList 0 (V.bl ∘ f)
    exact this
  rw [← e]
  refine el_lcS (fun _ => true) _ h hz hw (fun _ _ _ _ _ H1 _ Q q => q H1 (Ex.refl H1)) (fun i c H1 e1 hc _ => ?_)
  have e2 : s.cps.toList.getD i 0 = c := by
    have : s.cps.toList[i]? = some c := by simpa using hc
    simp [List.getD, this]
  rw [e2]
  exact he c H1 e1
/-- [sign for sign in text if p(sign)] -/
theorem el_lcSf {s : Str} {j : Nat} {vs : List Nat} (p : Nat → Bool) (v : Nat → V) (h : Ev ts σ H (.str s)) (hz : s.length ≤ 40000) (hw : ∀ x, wipe ((wipe σ vs).set j (some x)) vs = wipe σ vs)
    (ht : ∀ (c : Nat) H1, Ex H H1 → EvT t ((wipe σ vs).set j (some (.str ⟨#[c]⟩))) H1 (p c))
    (he : ∀ (c : Nat) H1, Ex H H1 → Ev te ((wipe σ vs).set j (some (.str ⟨#[c]⟩))) H1 (v c)) :
    EvL (tLc (iStr ts) (gName j) t te vs) σ H ((s.cps.toList.filter p).map v) := by
  rw [← given_filter p v 0 s.cps.toList]
  have key : ∀ {i c : Nat}, s.cps[i]? = some c → s.cps.toList.getD i 0 = c := fun {i c} hc => by
    have : s.cps.toList[i]? = some c := by simpa using hc
    simp [List.getD, this]
  exact el_lcS (fun i => p (s.cps.toList.getD i 0)) (fun i => v (s.cps.toList.getD i 0)) h hz hw (fun i c H1 e1 hc => by
    show EvT t _ H1 (p (s.cps.toList.getD i 0))
    rw [key hc]
    exact ht c H1 e1) (fun i c H1 e1 hc _ => by
    show Ev te _ H1 (v (s.cps.toList.getD i 0))
    rw [key hc]
    exact he c H1 e1)
theorem et_yes : EvT tYes σ H true := fun H1 _ Q q => q H1 (Ex.refl H1)
end
/-! ### texts of one sign each, put together -/
theorem str_ext {a b : Str} (h : a.cps.toList = b.cps.toList) : a = b := by
  obtain ⟨⟨a⟩⟩ := a
  obtain ⟨⟨b⟩⟩ := b
  dsimp only at h
  rw [h]
theorem app_cps (a b : Str) : (a ++ b).cps.toList = a.cps.toList ++ b.cps.toList := by
  show (a.cps ++ b.cps).toList = _
  simp
theorem join_fold (g : Str) : ∀ (ts : List Str) (a : Array Nat), (ts.foldl (fun acc p => acc ++ g.cps ++ p.cps) a).toList = a.toList ++ (ts.map fun p => g.cps.toList ++ p.cps.toList).flatten
  | [], a => by simp
  | t :: r, a => by
    rw [List.foldl_cons, join_fold g r, List.map_cons, List.flatten_cons]
    simp
theorem join_nil (g : Str) : Txt.join g [] = "" := rfl
theorem join_cons (g t : Str) (r : List Str) : (Txt.join g (t :: r)).cps.toList = t.cps.toList ++ (r.map fun p => g.cps.toList ++ p.cps.toList).flatten := join_fold g r t.cps
theorem flat_signs : ∀ cs : List Nat, (cs.map fun c => ([] : List Nat) ++ [c]).flatten = cs
  | [] => rfl
  | c :: r => by
    rw [List.map_cons, List.flatten_cons, flat_signs r]
    rfl
theorem join_signs : ∀ cs : List Nat, Txt.join "" (cs.map fun c => (⟨#[c]⟩ : Str)) = ⟨cs.toArray⟩
  | [] => rfl
  | c :: r => by
    apply str_ext
    rw [List.map_cons, join_cons, List.map_map]
    have e := flat_signs r
    show [c] ++ (r.map fun c => ([] : List Nat) ++ [c]).flatten = c :: r
    rw [e]
    rfl
theorem signs_sum : ∀ cs : List Nat, ((cs.map fun c => (⟨#[c]⟩ : Str)).map (·.length)).sum = cs.length
  | [] => rfl
  | c :: r => by
    show 1 + ((r.map fun c => (⟨#[c]⟩ : Str)).map (·.length)).sum = r.length + 1
    rw [signs_sum r, Nat.add_comm]
/-! ### data: lists of texts -/
theorem dpAll_strs {K : PySem.W.Frag} {H : Hp} : ∀ ss : List Str, DpAll K H (ss.map V.str) (ss.map PyData.str)
  | [] => .nil
  | s :: r => .cons (.str s) (dpAll_strs r)
theorem lay_strs : ∀ ss : List Str, (∀ s ∈ ss, PyData.strOk s = true) → PyData.canLayAll0 (ss.map PyData.str) = true
  | [], _ => rfl
  | s :: r, h => by
    show (PyData.canLay0 (.str s) && PyData.canLayAll0 (r.map PyData.str)) = true
    rw [lay_strs r fun x hx => h x (List.mem_cons_of_mem _ hx)]
    show (PyData.strOk s && true) = true
    rw [h s (List.mem_cons_self ..)]
    rfl
theorem depth_strs : ∀ ss : List Str, PyData.depthAll (ss.map PyData.str) = 0
  | [] => rfl
  | s :: r => by
    show max (PyData.depth (.str s)) (PyData.depthAll (r.map PyData.str)) = 0
    rw [depth_strs r]
    rfl
theorem shaped_strs {ss : List Str} (h : ∀ s ∈ ss, PyData.strOk s = true) : SeqAt.shaped (.list (ss.map PyData.str)) = true := by
  show (PyData.canLayAll0 (ss.map PyData.str) && decide (PyData.depthAll (ss.map PyData.str) + 1 ≤ 64)) = true
  rw [lay_strs ss h, depth_strs]
  decide
theorem eqv_strs : ∀ ss ts : List Str, PyData.eqvAll (ss.map PyData.str) (ts.map PyData.str) = decide (ss = ts)
  | [], [] => rfl
  | [], _ :: _ => rfl
  | _ :: _, [] => rfl
  | s :: r, t :: q => by
    show ((s == t) && PyData.eqvAll (r.map PyData.str) (q.map PyData.str)) = decide (s :: r = t :: q)
    rw [eqv_strs r q]
    by_cases h1 : s = t
    · subst h1
      by_cases h2 : r = q
      · subst h2
        simp
      · simp [h2]
    · have e : (s == t) = false := by simpa using h1
      rw [e]
      simp [h1]
section
variable {K : PySem.W.Frag} {σ : L2.St} {H H' : Hp} {ta tb te tx ts : TE}
theorem ev_eqS {ss qs : List Str} (ha : EvL ta σ H (ss.map V.str)) (hb : EvL tb σ H (qs.map V.str)) (h1 : ∀ s ∈ ss, PyData.strOk s = true) (h2 : ∀ s ∈ qs, PyData.strOk s = true) : Ev (tOp (rEqD K) ta tb) σ H (.bl (decide (ss = qs))) :=
  ev_opLL ha hb fun p q H1 hp hq _ H2 e Q k => ⟨_, _, .lst (SqL.of (e _ _ hp)) (dpAll_strs ss), .lst (SqL.of (e _ _ hq)) (dpAll_strs qs), shaped_strs h1, shaped_strs h2, by
    show Q (.bl (PyData.eqvAll (ss.map PyData.str) (qs.map PyData.str))) H2
    rw [eqv_strs]
    exact k H2 (Ex.refl H2)⟩
end
end OP

namespace OP
open PySem PySem.Spec PyProof.Rows L2 Evl
/-! ### rules with the written part K said outright (for comprehensions' blocks) -/
section
variable {X : Cx} (K : PySem.W.Frag)
theorem ix_listK (h : X.K = K := by rfl) : IxR X (rIxL K) := h ▸ ix_list
theorem ix_tupK (h : X.K = K := by rfl) : IxR X (rIxT K) := h ▸ ix_tup
theorem sl_listK (h : X.K = K := by rfl) : L2.SlR X (rSlL K) := h ▸ sl_list
theorem sl_tupK (h : X.K = K := by rfl) : L2.SlR X (rSlA K) := h ▸ sl_tupA
theorem op_in_seqK (h : X.K = K := by rfl) : OpR X (compareOp .In) (rIn K false) := h ▸ op_in_seq
theorem op_notIn_seqK (h : X.K = K := by rfl) : OpR X (compareOp .NotIn) (rIn K true) := h ▸ op_notIn_seq
theorem op_eqDK (hu : X.A.units + 64 < cLine) (h : X.K = K := by rfl) : OpR X (compareOp .Eq) (rEqD K) := h ▸ op_eqD hu
theorem op_neDK (hu : X.A.units + 64 < cLine) (h : X.K = K := by rfl) : OpR X (compareOp .NotEq) (rNeD K) := h ▸ op_neD hu
theorem call_lenK (h : X.K = K := by rfl) : CallR X (.builtin "len") (rLenS K) := by
  subst h
  exact call_len_seq
theorem call_listK (h : X.K = K := by rfl) : CallR X (.type "list") (rListS K) := by
  subst h
  exact call_list_of
def rTupS (K : PySem.W.Frag) : List V → Hp → VK → Prop := fun xs H Q => ∃ p ys, xs = [.ref p] ∧ ((SqL K H p ys ∧ ∀ l, H l = none → Q (.ref l) (upd H l (.tup ys))) ∨ (SqT K H p ys ∧ Q (.ref p) H))
theorem call_tupleK (h : X.K = K := by rfl) : CallR X (.type "tuple") (rTupS K) := by
  subst h
  exact call_tuple_of
theorem cr_allK (hc : X.calm = true) (h : X.K = K := by rfl) : CallR X (.builtin "all") (rAll K) := h ▸ cr_all hc
theorem cr_anyK (hc : X.calm = true) (h : X.K = K := by rfl) : CallR X (.builtin "any") (rAny K) := h ▸ cr_any hc
theorem call_isZK (h : X.K = K := by rfl) : CallR X (.builtin "isinstance") (rIsZ K) := h ▸ call_isZ
def rJoin (K : PySem.W.Frag) : V → List V → Hp → VK → Prop := fun x xs H Q => ∃ a p, ∃ ys : List Str, x = .str a ∧ xs = [.ref p] ∧ (SqL K H p (ys.map V.str) ∨ SqT K H p (ys.map V.str)) ∧ (ys.map (·.length)).sum + ys.length * a.length ≤ 16777216 ∧ Q (.str (Txt.join a ys)) H
theorem mt_joinK (h : X.K = K := by rfl) : MtR X "str.join" (rJoin K) := by
  subst h
  exact mt_join
variable {tg o e : Expr} {es : List Expr} {to tl : TE} {t : TA} {name : Str} {apos cpos pos : Pos} {T id : String} {r : V → List V → Hp → VK → Prop}
theorem pi_listK (hl : PE X e tl) (h : X.K = K := by rfl) : PI X tg e (iList K tl) := h ▸ pi_list hl
theorem pi_tupK (hl : PE X e tl) (h : X.K = K := by rfl) : PI X tg e (iTup K tl) := h ▸ pi_tup hl
theorem pe_bmK (pa : PlainAttrs T) (slot : Slot T name id) (hty : typeOf (.builtin id) = pure (.type "method_descriptor")) (hm : MtR X id r) (ho : PE X o to) (ha : PA X (e :: es) t)
    (hbase : attributeBase o name X.env (eval o X.env) = eval o X.env := by rfl)
    (hfew : ((backTo cpos (starEach (e :: es) X.env)).all (fun x => !x.1) && (backToKw cpos (keywordEach [] X.env)).all (fun x => x.1.isSome)
      && decide ((e :: es).length + ([] : List Keyword).length + (if ([] : List Keyword).isEmpty then 0 else 1) < 30)) = true := by rfl)
    (hline : (apos.endLine == cpos.line) = true := by rfl) (hs : starEach (e :: es) X.env = (false, eval e X.env) :: starEach es X.env := by rfl) (hplain : (backTo cpos (starEach es X.env)).any (·.1) = false := by rfl) (hK : X.K = K := by rfl) :
    PE X (.Call (.Attribute o name apos) (e :: es) [] cpos) (tBM K T r to t) := hK ▸ pe_bm pa slot hty hm ho ha hbase hfew hline hs hplain
theorem pe_bm0K (pa : PlainAttrs T) (slot : Slot T name id) (hty : typeOf (.builtin id) = pure (.type "method_descriptor")) (hm : MtR X id r) (ho : PE X o to)
    (hbase : attributeBase o name X.env (eval o X.env) = eval o X.env := by rfl) (hline : (apos.endLine == cpos.line) = true := by rfl) (hK : X.K = K := by rfl) : PE X (.Call (.Attribute o name apos) [] [] cpos) (tBM0 K T r to) := hK ▸ pe_bm0 pa slot hty hm ho hbase hline
theorem pg_tupK {k : Nat} {t : TGs} {n : Nat} (hc : X.calm = true) (h : PGs X es t)
    (hn : (assignEach es X.env).length = n := by rfl) (hst : (assignEach es X.env).findIdx? (·.1) = none := by rfl) (hK : X.K = K := by rfl) : PG X (.Tuple es k pos) (gTup K n t) := hK ▸ pg_tup hc h hn hst
theorem pe_fldK {f : Str} (he : PE X e tl) (hb : attributeBase e f X.env (eval e X.env) = eval e X.env) (hK : X.K = K := by rfl) : PE X (.Attribute e f pos) (tFld K tl f) := hK ▸ pe_fld he hb
def tTruK (K : PySem.W.Frag) (ta : TE) : TT := fun σ H Q => ta σ H fun x H' => ∃ k, TruV K x H' k ∧ Q k H'
theorem pt_truthK (ha : PE X e tl) (he : ∀ whole, isTrue e X.env whole = (do let v ← whole; standAt e.pos; holding [v] (truthy v))) (hK : X.K = K := by rfl) : PT X e (tTruK K tl) := by
  subst hK
  exact pt_truth ha he
end
end OP

namespace OP
open PySem PySem.Spec PyProof.Rows L2
/-- a zip over two iterators, whatever it knows of the tuple that it gave out -/
abbrev IsZipR (h : Heap) (z TI TO : Addr) (f0 : Value) (f1 : Bool) : Prop :=
  h.get? z = some { cls := .type "zip", dict := none, data := .fields #[f0, .bool f1, .bool false, .ref TI, .ref TO], slots := #[] }
def RawOr (f0 : Value) : Prop := f0 = .none ∨ ∃ T : Nat, f0 = rawInt T
section
variable {prog : Program} {w : World} {A : Around} {E : Value → Shared → Prop} {s : Shared}
theorem alive {a : Addr} {Q : Option Obj → Shared → Prop} (h : Q (s.heap.get? a) s) : wpAny (model prog w) A (loadIfAlive a) Q E s := fun _ _ _ => h
theorem own_free {z TI TO : Addr} {f0 : Value} {f1 : Bool} {Q : Bool → Shared → Prop} (hz : IsZipR s.heap z TI TO f0 f1) (hf : RawOr f0)
    (h : ∀ b h' f1', IsZipR h' z TI TO f0 f1' → Heap.SameBut z s.heap h' → Q b { s with heap := h' }) : wpAny (model prog w) A (Builtin.SmallTypes.ownedTupleIsFree (.ref z)) Q E s := by
  unfold Builtin.SmallTypes.ownedTupleIsFree
  rcases hf with rfl | ⟨T, rfl⟩
  · refine wpAny_bind (wpAny_field hz rfl (x := .none) rfl (wpAny_pure ?_))
    exact h true s.heap f1 hz (Heap.SameBut.refl _ _)
  · refine wpAny_bind (wpAny_field hz rfl (x := rawInt T) rfl ?_)
    show wpAny _ _ (loadIfAlive ((T : Int).toNat) >>= _) _ _ _
    rw [Int.toNat_natCast]
    refine wpAny_bind (alive ?_)
    cases hT : s.heap.get? T with
    | none => exact wpAny_pure (h true s.heap f1 hz (Heap.SameBut.refl _ _))
    | some oT =>
      simp only [Option.isNone_some, Bool.false_eq_true, if_false]
      refine wpAny_bind (wpAny_field hz rfl (x := .bool f1) rfl ?_)
      cases f1 with
      | true =>
        rw [if_neg (show ¬ ((Value.bool true != Value.bool true) = true) from Bool.false_ne_true)]
        exact wpAny_pure (h false s.heap true hz (Heap.SameBut.refl _ _))
      | false =>
        rw [if_pos (show (Value.bool false != Value.bool true) = true from rfl)]
        exact wpAny_bind (wpAny_setField_rec hz (by simp) fun h₁ hz₁ hs₁ => wpAny_pure (h false h₁ true hz₁ hs₁))
theorem upd_tup2 {T : Addr} {a1 a2 x : Value} {k : Nat} {Q : Unit → Shared → Prop} (hT : IsTupOf2 s.heap T a1 a2)
    (h : ∀ h', h'.get? T = some { cls := .type "tuple", data := .seq ((#[a1, a2] : Array Value).setIfInBounds k x) } → Heap.SameBut T s.heap h' → Q () { s with heap := h' }) :
    wpAny (model prog w) A (updateSeq T (·.setIfInBounds k x)) Q E s := updateSeq_IsTupOf2 hT h
variable {z TI TO i1 i2 : Addr} {fp1 fp2 : List Addr} {n i : Nat} {P1 P2 : Nat → Value → Prop} {St1 St2 : Nat → Heap → Prop} {a1 a2 f0 : Value} {f1 : Bool}
/-- the next pair of a zip, whether its own tuple is free or not: a new tuple -/
theorem zip_next_any {Q : Value → Shared → Prop} (S : ZipSep2 z TI TO i1 i2 fp1 fp2) (D1 : Draws prog w A i1 fp1 n P1 St1) (D2 : Draws prog w A i2 fp2 n P2 St2)
    (hz : IsZipR s.heap z TI TO f0 f1) (hf : RawOr f0) (hTI : IsTupOf2 s.heap TI (.ref i1) (.ref i2)) (hTO : IsTupOf2 s.heap TO a1 a2) (st1 : St1 i s.heap) (st2 : St2 i s.heap) (hlt : i < n)
    (hQ : ∀ x1 x2 h' tk g0 g1 b1 b2, P1 i x1 → P2 i x2 → IsZipR h' z TI TO g0 g1 → RawOr g0 → IsTupOf2 h' TO b1 b2 → St1 (i + 1) h' → St2 (i + 1) h' → IsTupOf2 h' s.heap.objs.size x1 x2 → h'.objs.size = s.heap.objs.size + 1 →
      (∀ c o, c ≠ z → c ≠ TO → c ≠ i1 → c ≠ i2 → s.heap.get? c = some o → h'.get? c = some o) → Q (.ref s.heap.objs.size) { s with heap := h', toks := tk }) :
    wpAny (model prog w) A (Builtin.«zip.__next__» ⟨[.ref z], []⟩) (fun fin s' => ∃ v, fin = .done (.ret v) ∧ Q v s') E s := by
  obtain ⟨hp, g, d, tk0, os⟩ := s
  show wpAny _ _ (field (.ref z) 2 >>= _) _ _ _
  refine wpAny_bind (wpAny_field hz rfl (x := .bool false) rfl ?_)
  show wpAny _ _ (field (.ref z) 3 >>= _) _ _ _
  refine wpAny_bind (wpAny_field hz rfl (x := .ref TI) rfl ?_)
  refine wpAny_bind (wpAny_seqItems hTI rfl ?_)
  show wpAny _ _ (Builtin.SmallTypes.ownedTupleIsFree (.ref z) >>= _) _ _ _
  refine wpAny_bind (own_free hz hf fun b hq f1' hzq hsq => ?_)
  replace hsq : Heap.SameBut z hp hq := hsq
  have hTIq : IsTupOf2 hq TI (.ref i1) (.ref i2) := hsq.extBut _ _ S.TIz hTI
  have hTOq : IsTupOf2 hq TO a1 a2 := hsq.extBut _ _ S.TOz hTO
  have st1q := D1.over st1 hsq S.zf1
  have st2q := D2.over st2 hsq S.zf2
  cases b with
  | false =>
    simp only [Bool.false_eq_true, if_false]
    refine wpAny_bind ?_
    simp only [← Array.forIn_toList, List.forIn_cons, List.forIn_nil]
    refine wpAny_bind (wpAny_bind (wpAny_holding ?_))
    show wpAny _ _ (Builtin.SmallTypes.nextOf (.ref i1) >>= _) _ _ ⟨hq, g, d, tk0, os⟩
    refine wpAny_bind (D1.item i _ _ _ hlt st1q fun x1 p1 tk1 hx1 sn1 hp1 => wpAny_pure (wpAny_pure ?_))
    replace hp1 : Heap.SameBut i1 hq p1 := hp1
    refine wpAny_bind (wpAny_bind (wpAny_holding ?_))
    show wpAny _ _ (Builtin.SmallTypes.nextOf (.ref i2) >>= _) _ _ ⟨p1, g, d, tk1, os⟩
    refine wpAny_bind (D2.item i _ _ _ hlt (D2.over st2q hp1 S.sep1_2) fun x2 p2 tk2 hx2 sn2 hp2 => wpAny_pure (wpAny_pure (wpAny_pure ?_)))
    replace hp2 : Heap.SameBut i2 p1 p2 := hp2
    show wpAny _ _ (newTuple [x1, x2] >>= _) _ _ ⟨p2, g, d, tk2, os⟩
    refine wpAny_bind (wpAny_newTuple (wpAny_pure ⟨_, rfl, ?_⟩))
    have hsz : p2.objs.size = hp.objs.size := by rw [hp2.1, hp1.1, hsq.1]
    have hT : IsTupOf2 (p2.push { cls := .type "tuple", data := .seq #[x1, x2] }) hp.objs.size x1 x2 := by
      rw [← hsz]
      exact Heap.get?_push_size _ rfl
    have up : ∀ c o, p2.get? c = some o → (p2.push { cls := .type "tuple", data := .seq #[x1, x2] }).get? c = some o := fun c o e => Heap.get?_push_of_some _ e
    show Q (.ref p2.objs.size) ⟨p2.push { cls := .type "tuple", data := .seq #[x1, x2] }, g, d, tk2, os⟩
    rw [hsz]
    exact hQ x1 x2 _ tk2 _ _ _ _ hx1 hx2 (up _ _ (hp2.extBut _ _ S.zi2 (hp1.extBut _ _ S.zi1 hzq))) hf (up _ _ (hp2.extBut _ _ S.Ti2 (hp1.extBut _ _ S.Ti1 hTOq)))
      (D1.frame _ _ _ (D1.over sn1 hp2 S.sep2_1) fun b hb o e => up b o e) (D2.frame _ _ _ sn2 fun b hb o e => up b o e) hT (by rw [Heap.size_push, hsz])
      fun c o cz cT c1 c2 e => up c o (hp2.extBut _ _ c2 (hp1.extBut _ _ c1 (hsq.extBut _ _ cz e)))
  | true =>
    simp only [if_true]
    refine wpAny_bind (wpAny_rule ?_)
    refine wpAny_bind (wpAny_field (s := ⟨hq, g, d, tk0, os⟩) hzq rfl (x := .ref TO) rfl ?_)
    refine wpAny_bind (wpAny_setField_rec (s := ⟨hq, g, d, tk0, os⟩) hzq (by simp) fun g0 hz0 hs0 => ?_)
    replace hz0 : IsZipR g0 z TI TO .ellipsis f1' := hz0
    replace hs0 : Heap.SameBut z hq g0 := hs0
    refine wpAny_bind ?_
    simp only [List.zipIdx_cons, List.zipIdx_nil, List.forIn_cons, List.forIn_nil]
    refine wpAny_bind (wpAny_bind (wpAny_onRaise ?_))
    show wpAny _ _ (Builtin.SmallTypes.nextOf (.ref i1) >>= _) _ _ ⟨g0, g, d, tk0, os⟩
    refine wpAny_bind (D1.item i _ _ _ hlt (D1.over st1q hs0 S.zf1) fun x1 p1 tk1 hx1 sn1 hp1 => wpAny_pure ?_)
    replace hp1 : Heap.SameBut i1 g0 p1 := hp1
    have hU1 : IsTupOf2 p1 TO a1 a2 := hp1.extBut _ _ S.Ti1 (hs0.extBut _ _ S.TOz hTOq)
    refine wpAny_bind (wpAny_seqItems (s := ⟨p1, g, d, tk1, os⟩) hU1 rfl ?_)
    refine wpAny_bind (upd_tup2 (s := ⟨p1, g, d, tk1, os⟩) hU1 fun g1 hT1 hs1 => ?_)
    replace hT1 : IsTupOf2 g1 TO x1 a2 := hT1
    replace hs1 : Heap.SameBut TO p1 g1 := hs1
    refine wpAny_bind (wpAny_letGo (wpAny_pure ?_))
    refine wpAny_bind (wpAny_bind (wpAny_onRaise ?_))
    show wpAny _ _ (Builtin.SmallTypes.nextOf (.ref i2) >>= _) _ _ ⟨g1, g, d, tk1, os⟩
    refine wpAny_bind (D2.item i _ _ _ hlt (D2.over (D2.over (D2.over st2q hs0 S.zf2) hp1 S.sep1_2) hs1 S.Tf2) fun x2 p2 tk2 hx2 sn2 hp2 => wpAny_pure ?_)
    replace hp2 : Heap.SameBut i2 g1 p2 := hp2
    have hU2 : IsTupOf2 p2 TO x1 a2 := hp2.extBut _ _ S.Ti2 hT1
    refine wpAny_bind (wpAny_seqItems (s := ⟨p2, g, d, tk2, os⟩) hU2 rfl ?_)
    refine wpAny_bind (upd_tup2 (s := ⟨p2, g, d, tk2, os⟩) hU2 fun g2 hT2 hs2 => ?_)
    replace hT2 : IsTupOf2 g2 TO x1 x2 := hT2
    replace hs2 : Heap.SameBut TO p2 g2 := hs2
    refine wpAny_bind (wpAny_letGo (wpAny_pure (wpAny_pure ?_)))
    refine wpAny_bind (wpAny_seqItems (s := ⟨g2, g, d, tk2, os⟩) hT2 rfl ?_)
    refine wpAny_bind (wpAny_newTuple ?_)
    have hsz : g2.objs.size = hp.objs.size := by rw [hs2.1, hp2.1, hs1.1, hp1.1, hs0.1, hsq.1]
    have hzz : IsZipR g2 z TI TO .ellipsis f1' := (hs2.extBut _ _ S.TOz.symm (hp2.extBut _ _ S.zi2 (hs1.extBut _ _ S.TOz.symm (hp1.extBut _ _ S.zi1 hz0))))
    have hkk : ∀ c o, c ≠ z → c ≠ TO → c ≠ i1 → c ≠ i2 → hp.get? c = some o → g2.get? c = some o := fun c o cz cT c1 c2 e =>
      (hs2.extBut _ _ cT (hp2.extBut _ _ c2 (hs1.extBut _ _ cT (hp1.extBut _ _ c1 (hs0.extBut _ _ cz (hsq.extBut _ _ cz e))))))
    have hj1 : St1 (i + 1) g2 := (D1.over (D1.over (D1.over sn1 hs1 S.Tf1) hp2 S.sep2_1) hs2 S.Tf1)
    have hj2 : St2 (i + 1) g2 := (D2.over sn2 hs2 S.Tf2)
    have hzlt : z < g2.objs.size := Heap.lt_size hzz
    show wpAny _ _ (Builtin.SmallTypes.ownedTupleHandOut (.ref z) (.ref g2.objs.size) >>= _) _ _ ⟨g2.push { cls := .type "tuple", data := .seq #[x1, x2] }, g, d, tk2, os⟩
    refine wpAny_bind ?_
    unfold Builtin.SmallTypes.ownedTupleHandOut
    have hz6 : IsZipR (g2.push { cls := .type "tuple", data := .seq #[x1, x2] }) z TI TO .ellipsis f1' := Heap.get?_push_of_some _ hzz
    refine wpAny_bind (wpAny_setField_rec hz6 (by simp) fun h7 hz7 hs7 => ?_)
    replace hz7 : IsZipR h7 z TI TO (rawInt g2.objs.size) f1' := hz7
    refine wpAny_setField_rec hz7 (by simp) fun h8 hz8 hs8 => ?_
    replace hz8 : IsZipR h8 z TI TO (rawInt g2.objs.size) false := hz8
    replace hs7 : Heap.SameBut z (g2.push { cls := .type "tuple", data := .seq #[x1, x2] }) h7 := hs7
    replace hs8 : Heap.SameBut z h7 h8 := hs8
    have up : ∀ c o, c ≠ z → g2.get? c = some o → h8.get? c = some o := fun c o c1 e => hs8.extBut _ _ c1 (hs7.extBut _ _ c1 (Heap.get?_push_of_some _ e))
    have hT8 : IsTupOf2 h8 g2.objs.size x1 x2 := hs8.extBut _ _ (Nat.ne_of_gt hzlt) (hs7.extBut _ _ (Nat.ne_of_gt hzlt) (Heap.get?_push_size _ rfl))
    have hz9 : h8.objs.size = g2.objs.size + 1 := by rw [hs8.1, hs7.1, Heap.size_push]
    rw [hsz] at hz8 hT8 hz9
    refine wpAny_pure ⟨_, rfl, ?_⟩
    show Q (.ref g2.objs.size) ⟨h8, g, d, tk2, os⟩
    rw [hsz]
    exact hQ x1 x2 h8 tk2 _ _ _ _ hx1 hx2 hz8 (.inr ⟨_, rfl⟩) (up _ _ S.TOz hT2) (D1.frame _ _ _ hj1 fun b hb o e => up b o (fun q => S.zf1 (q ▸ hb)) e) (D2.frame _ _ _ hj2 fun b hb o e => up b o (fun q => S.zf2 (q ▸ hb)) e) hT8 hz9 fun c o cz cT c1 c2 e => up c o cz (hkk c o cz cT c1 c2 e)
/-- its end -/
theorem zip_end_any {Q : Fin → Shared → Prop} (S : ZipSep2 z TI TO i1 i2 fp1 fp2) (D1 : Draws prog w A i1 fp1 n P1 St1)
    (hz : IsZipR s.heap z TI TO f0 f1) (hf : RawOr f0) (hTI : IsTupOf2 s.heap TI (.ref i1) (.ref i2)) (st1 : St1 n s.heap)
    (hE : ∀ h' e, (∀ c o, c ≠ z → c ≠ i1 → s.heap.get? c = some o → h'.get? c = some o) → (∃ o, h'.get? e = some o ∧ o.cls = .type "StopIteration") → E (.ref e) { s with heap := h' }) :
    wpAny (model prog w) A (Builtin.«zip.__next__» ⟨[.ref z], []⟩) Q E s := by
  obtain ⟨hp, g, d, tk0, os⟩ := s
  show wpAny _ _ (field (.ref z) 2 >>= _) _ _ _
  refine wpAny_bind (wpAny_field hz rfl (x := .bool false) rfl ?_)
  show wpAny _ _ (field (.ref z) 3 >>= _) _ _ _
  refine wpAny_bind (wpAny_field hz rfl (x := .ref TI) rfl ?_)
  refine wpAny_bind (wpAny_seqItems hTI rfl ?_)
  show wpAny _ _ (Builtin.SmallTypes.ownedTupleIsFree (.ref z) >>= _) _ _ _
  refine wpAny_bind (own_free hz hf fun b hq f1' hzq hsq => ?_)
  replace hsq : Heap.SameBut z hp hq := hsq
  have st1q := D1.over st1 hsq S.zf1
  cases b with
  | false =>
    simp only [Bool.false_eq_true, if_false]
    refine wpAny_bind ?_
    simp only [← Array.forIn_toList, List.forIn_cons, List.forIn_nil]
    refine wpAny_bind (wpAny_bind (wpAny_holding ?_))
    show wpAny _ _ (Builtin.SmallTypes.nextOf (.ref i1) >>= _) _ _ ⟨hq, g, d, tk0, os⟩
    refine wpAny_bind (D1.done _ _ _ st1q fun h' e he ho => ?_)
    exact hE h' e (fun c o cz c1 hc => he c o c1 (hsq.extBut _ _ cz hc)) ho
  | true =>
    simp only [if_true]
    refine wpAny_bind (wpAny_rule ?_)
    refine wpAny_bind (wpAny_field (s := ⟨hq, g, d, tk0, os⟩) hzq rfl (x := .ref TO) rfl ?_)
    refine wpAny_bind (wpAny_setField_rec (s := ⟨hq, g, d, tk0, os⟩) hzq (by simp) fun g0 hz0 hs0 => ?_)
    replace hz0 : IsZipR g0 z TI TO .ellipsis f1' := hz0
    replace hs0 : Heap.SameBut z hq g0 := hs0
    refine wpAny_bind ?_
    simp only [List.zipIdx_cons, List.zipIdx_nil, List.forIn_cons, List.forIn_nil]
    refine wpAny_bind (wpAny_bind (wpAny_onRaise ?_))
    show wpAny _ _ (Builtin.SmallTypes.nextOf (.ref i1) >>= _) _ _ ⟨g0, g, d, tk0, os⟩
    refine wpAny_bind (D1.done _ _ _ (D1.over st1q hs0 S.zf1) fun h' e he ho => ?_)
    replace he : Heap.ExtBut i1 g0 h' := he
    refine wpAny_setField_rec (s := ⟨h', g, d, tk0, os⟩) (he z _ S.zi1 hz0) (by simp) fun h2 hz2 hs2 => ?_
    replace hs2 : Heap.SameBut z h' h2 := hs2
    obtain ⟨oe, ho1, ho2⟩ := ho
    refine hE h2 e (fun c o cz c1 hc => hs2.extBut _ _ cz (he c o c1 (hs0.extBut _ _ cz (hsq.extBut _ _ cz hc)))) ⟨oe, hs2.extBut _ _ (fun q => ?_) ho1, ho2⟩
    have e1 := he z _ S.zi1 hz0
    rw [← q, ho1] at e1
    have e2 := Option.some.inj e1
    rw [e2] at ho2
    simp at ho2
/-- what the zip's own cells say ahead of turn i -/
structure ZipSt (z TI TO i1 i2 : Addr) (St1 St2 : Nat → Heap → Prop) (i : Nat) (h : Heap) : Prop where
  zip : ∃ f0 f1, IsZipR h z TI TO f0 f1 ∧ RawOr f0
  ti : IsTupOf2 h TI (.ref i1) (.ref i2)
  to_ : ∃ a b, IsTupOf2 h TO a b
  s1 : St1 i h
  s2 : St2 i h
theorem nextOf_zip {Q : Value → Shared → Prop} (S : ZipSep2 z TI TO i1 i2 fp1 fp2) (D1 : Draws prog w A.in1 i1 fp1 n P1 St1) (D2 : Draws prog w A.in1 i2 fp2 n P2 St2) (Z : ZipSt z TI TO i1 i2 St1 St2 i s.heap) (hlt : i < n)
    (hQ : ∀ x1 x2 h' tk, P1 i x1 → P2 i x2 → ZipSt z TI TO i1 i2 St1 St2 (i + 1) h' → IsTupOf2 h' s.heap.objs.size x1 x2 → h'.objs.size = s.heap.objs.size + 1 →
      (∀ c o, c ≠ z → c ≠ TO → c ≠ i1 → c ≠ i2 → s.heap.get? c = some o → h'.get? c = some o) → Q (.ref s.heap.objs.size) { s with heap := h', toks := tk }) :
    wpAny (model prog w) A (Builtin.SmallTypes.nextOf (.ref z)) Q E s := by
  obtain ⟨⟨f0, f1, hz, hf⟩, hTI, ⟨a1, a2, hTO⟩, st1, st2⟩ := Z
  have hT : s.TypeIs (.ref z) "zip" := ⟨_, hz, rfl⟩
  unfold Builtin.SmallTypes.nextOf
  refine wpAny_bind (wpAny_callSpecial?_slot (name := Str.ofString "__next__") hT F.slot_zip_next (wpAny_call_entry F.slot_zip_next hT F.entry_zip_next
    (zip_next_any S D1 D2 hz hf hTI hTO st1 st2 hlt fun x1 x2 h' tk g0 g1 b1 b2 y1 y2 c1 c2 c3 c4 c5 c6 c7 c8 => ?_) (F.args_zip_next_1 _)))
  have l1 : TI ≠ z := S.TIz
  have hTI' : IsTupOf2 h' TI (.ref i1) (.ref i2) := c8 TI _ S.TIz S.TITO S.TIi1 S.TIi2 hTI
  exact wpAny_pure (hQ x1 x2 h' tk y1 y2 ⟨⟨g0, g1, c1, c2⟩, hTI', ⟨b1, b2, c3⟩, c4, c5⟩ c6 c7 c8)
theorem nextOf_zip_end {Q : Value → Shared → Prop} (S : ZipSep2 z TI TO i1 i2 fp1 fp2) (D1 : Draws prog w A.in1 i1 fp1 n P1 St1) (Z : ZipSt z TI TO i1 i2 St1 St2 n s.heap)
    (hE : ∀ h' e, (∀ c o, c ≠ z → c ≠ i1 → s.heap.get? c = some o → h'.get? c = some o) → (∃ o, h'.get? e = some o ∧ o.cls = .type "StopIteration") → E (.ref e) { s with heap := h' }) :
    wpAny (model prog w) A (Builtin.SmallTypes.nextOf (.ref z)) Q E s := by
  obtain ⟨⟨f0, f1, hz, hf⟩, hTI, ⟨a1, a2, hTO⟩, st1, st2⟩ := Z
  have hT : s.TypeIs (.ref z) "zip" := ⟨_, hz, rfl⟩
  unfold Builtin.SmallTypes.nextOf
  exact wpAny_bind (wpAny_callSpecial?_slot (name := Str.ofString "__next__") hT F.slot_zip_next (wpAny_call_entry F.slot_zip_next hT F.entry_zip_next (zip_end_any S D1 hz hf hTI st1 hE) (F.args_zip_next_1 _)))
theorem ZipSt.frame {h h' : Heap} (D1 : Draws prog w A i1 fp1 n P1 St1) (D2 : Draws prog w A i2 fp2 n P2 St2) (Z : ZipSt z TI TO i1 i2 St1 St2 i h) (k : ∀ b ∈ z :: TI :: TO :: (fp1 ++ fp2), ∀ o, h.get? b = some o → h'.get? b = some o) : ZipSt z TI TO i1 i2 St1 St2 i h' := by
  obtain ⟨⟨f0, f1, hz, hf⟩, hTI, ⟨a1, a2, hTO⟩, st1, st2⟩ := Z
  exact ⟨⟨f0, f1, k z (by simp) _ hz, hf⟩, k TI (by simp) _ hTI, ⟨a1, a2, k TO (by simp) _ hTO⟩, D1.frame _ _ _ st1 fun b hb o e => k b (by simp [hb]) o e, D2.frame _ _ _ st2 fun b hb o e => k b (by simp [hb]) o e⟩
/-- enumerate(zip(a, b)): the next pair of the count and a new pair -/
theorem enum_zip_next {e : Addr} {old : Value} {Q : Option Value → Shared → Prop} (S : ZipSep2 z TI TO i1 i2 fp1 fp2) (D1 : Draws prog w A.in1.in1 i1 fp1 n P1 St1) (D2 : Draws prog w A.in1.in1 i2 fp2 n P2 St2)
    (he : IsEnum s.heap e z i old) (Z : ZipSt z TI TO i1 i2 St1 St2 i s.heap) (hlt : i < n) (hef : e ∉ z :: TI :: TO :: (fp1 ++ fp2))
    (hQ : ∀ x1 x2 h' tk, P1 i x1 → P2 i x2 → IsEnumOut h' e z ((i : Int) + 1) (.ref s.heap.objs.size) (s.heap.objs.size + 1) → ZipSt z TI TO i1 i2 St1 St2 (i + 1) h' → IsTupOf2 h' s.heap.objs.size x1 x2 →
      h'.get? (s.heap.objs.size + 1) = some { cls := .type "tuple", data := .seq #[.int i tk, .ref s.heap.objs.size] } → h'.objs.size = s.heap.objs.size + 2 →
      (∀ c o, c ≠ e → c ≠ z → c ≠ TO → c ≠ i1 → c ≠ i2 → s.heap.get? c = some o → h'.get? c = some o) → Q (some (.ref (s.heap.objs.size + 1))) { s with heap := h', toks := tk + 1 }) :
    wpAny (model prog w) A (pyNext (.ref e)) Q E s := by
  have hT : s.TypeIs (.ref e) "enumerate" := ⟨_, he, rfl⟩
  unfold pyNext
  refine wpAny_bind (wpAny_attempt (wpAny_callSpecial?_slot (name := Str.ofString "__next__") hT F.slot_enumerate_next
    (wpAny_call_entry F.slot_enumerate_next hT F.entry_enumerate_next ?_ (F.args_enumerate_next_1 _))))
  obtain ⟨hp, g, d, tk0, os⟩ := s
  have nez : e ≠ z := fun q => hef (by simp [q])
  have neTO : e ≠ TO := fun q => hef (by simp [q])
  have ne1 : e ≠ i1 := fun q => hef (by rw [q]; simp [S.mem1])
  have ne2 : e ≠ i2 := fun q => hef (by rw [q]; simp [S.mem2])
  have hel : e < hp.objs.size := Heap.lt_size he
  show wpAny _ _ (field (.ref e) 2 >>= _) _ _ _
  refine wpAny_bind (wpAny_field he rfl (x := .ref z) rfl ?_)
  refine wpAny_bind (nextOf_zip S D1 D2 Z hlt fun x1 x2 h1 tk q1 q2 Z1 hT1 hz1 hk1 => ?_)
  replace hk1 : ∀ c o, c ≠ z → c ≠ TO → c ≠ i1 → c ≠ i2 → hp.get? c = some o → h1.get? c = some o := hk1
  replace hT1 : IsTupOf2 h1 hp.objs.size x1 x2 := hT1
  replace hz1 : h1.objs.size = hp.objs.size + 1 := hz1
  have he1 : IsEnum h1 e z i old := hk1 e _ nez neTO ne1 ne2 he
  show wpAny _ _ (field (.ref e) 3 >>= _) _ _ ⟨h1, g, d, tk, os⟩
  refine wpAny_bind (wpAny_field he1 rfl (x := rawInt i) rfl ?_)
  show wpAny _ _ (field (.ref e) 4 >>= _) _ _ ⟨h1, g, d, tk, os⟩
  refine wpAny_bind (wpAny_field he1 rfl (x := .none) rfl ?_)
  show wpAny _ _ (mkInt i >>= _) _ _ ⟨h1, g, d, tk, os⟩
  refine wpAny_bind (wpAny_mkInt ?_)
  show wpAny _ _ (setField (.ref e) 3 (rawInt ((i : Int) + 1)) >>= _) _ _ ⟨h1, g, d, tk + 1, os⟩
  refine wpAny_bind (wpAny_setField_rec he1 (by simp) fun h2 he2 hs2 => ?_)
  replace hs2 : Heap.SameBut e h1 h2 := hs2
  replace he2 : IsEnum h2 e z ((i : Int) + 1) old := he2
  show wpAny _ _ (setField (.ref e) 4 .none >>= _) _ _ ⟨h2, g, d, tk + 1, os⟩
  refine wpAny_bind (wpAny_setField_rec he2 (by simp) fun h3 he3 hs3 => ?_)
  replace hs3 : Heap.SameBut e h2 h3 := hs3
  replace he3 : IsEnum h3 e z ((i : Int) + 1) old := he3
  show wpAny _ _ (newTuple [.int i tk, .ref hp.objs.size] >>= _) _ _ ⟨h3, g, d, tk + 1, os⟩
  refine wpAny_bind (wpAny_newTuple ?_)
  have hsz : h3.objs.size = hp.objs.size + 1 := by rw [hs3.1, hs2.1, hz1]
  have he4 : IsEnum (h3.push { cls := .type "tuple", data := .seq #[.int i tk, .ref hp.objs.size] }) e z ((i : Int) + 1) old := Heap.get?_push_of_some _ he3
  generalize hh4 : h3.push { cls := .type "tuple", data := .seq #[.int i tk, .ref hp.objs.size] } = h4 at he4
  have ht4 : h4.get? (hp.objs.size + 1) = some { cls := .type "tuple", data := .seq #[.int i tk, .ref hp.objs.size] } := by rw [← hh4, ← hsz]; exact Heap.get?_push_size _ rfl
  have hz4 : h4.objs.size = hp.objs.size + 2 := by rw [← hh4, Heap.size_push, hsz]
  have hk4 : ∀ b o, b ≠ e → h1.get? b = some o → h4.get? b = some o := fun b o hbe hb => by
    rw [← hh4]
    exact Heap.get?_push_of_some _ (hs3.extBut b o hbe (hs2.extBut b o hbe hb))
  show wpAny _ _ (Builtin.SmallTypes.ownedTupleIsFree (.ref e) >>= _) _ _ ⟨h4, g, d, tk + 1, os⟩
  rw [hsz]
  refine wpAny_bind ?_
  unfold Builtin.SmallTypes.ownedTupleIsFree
  refine wpAny_bind (wpAny_field he4 rfl (x := .none) rfl (wpAny_pure ?_))
  simp only [if_true]
  refine wpAny_bind (wpAny_rule ?_)
  refine wpAny_bind (wpAny_field he4 rfl (x := old) rfl ?_)
  refine wpAny_bind (wpAny_setField_rec he4 (by simp) fun h5 he5 hs5 => ?_)
  replace hs5 : Heap.SameBut e h4 h5 := hs5
  replace he5 : IsEnum h5 e z ((i : Int) + 1) (.ref hp.objs.size) := he5
  show wpAny _ _ (Builtin.SmallTypes.ownedTupleHandOut (.ref e) (.ref (hp.objs.size + 1)) >>= _) _ _ ⟨h5, g, d, tk + 1, os⟩
  refine wpAny_bind ?_
  unfold Builtin.SmallTypes.ownedTupleHandOut
  refine wpAny_bind (wpAny_setField_rec he5 (by simp) fun h6 he6 hs6 => ?_)
  replace hs6 : Heap.SameBut e h5 h6 := hs6
  replace he6 : IsEnumOut h6 e z ((i : Int) + 1) (.ref hp.objs.size) (hp.objs.size + 1) := he6
  refine wpAny_setField_rec he6 (by simp) fun h7 he7 hs7 => ?_
  replace hs7 : Heap.SameBut e h6 h7 := hs7
  replace he7 : IsEnumOut h7 e z ((i : Int) + 1) (.ref hp.objs.size) (hp.objs.size + 1) := he7
  have up : ∀ b o, b ≠ e → h4.get? b = some o → h7.get? b = some o := fun b o hb x => hs7.extBut b o hb (hs6.extBut b o hb (hs5.extBut b o hb x))
  have n1 : hp.objs.size ≠ e := Nat.ne_of_gt hel
  have n2 : hp.objs.size + 1 ≠ e := Nat.ne_of_gt (Nat.lt_succ_of_lt hel)
  refine wpAny_bind (wpAny_letGo (wpAny_pure ⟨_, rfl, wpAny_pure (hQ x1 x2 h7 tk q1 q2 he7 ?_ (up _ _ n1 (hk4 _ _ n1 hT1)) (up _ _ n2 ht4) ?_ ?_)⟩))
  · exact Z1.frame D1 D2 fun b hb o x => up b o (fun q => hef (q ▸ hb)) (hk4 b o (fun q => hef (q ▸ hb)) x)
  · rw [hs7.1, hs6.1, hs5.1, hz4]
  · exact fun c o ce cz cT c1 c2 x => up c o ce (hk4 c o ce (hk1 c o cz cT c1 c2 x))
theorem enum_zip_end {e : Addr} {old : Value} {Q : Option Value → Shared → Prop} {j : Int} (S : ZipSep2 z TI TO i1 i2 fp1 fp2) (D1 : Draws prog w A.in1.in1 i1 fp1 n P1 St1)
    (he : IsEnum s.heap e z j old) (Z : ZipSt z TI TO i1 i2 St1 St2 n s.heap)
    (hQ : ∀ h', (∀ c o, c ≠ z → c ≠ i1 → s.heap.get? c = some o → h'.get? c = some o) → Q none { s with heap := h' }) : wpAny (model prog w) A (pyNext (.ref e)) Q E s := by
  have hT : s.TypeIs (.ref e) "enumerate" := ⟨_, he, rfl⟩
  unfold pyNext
  refine wpAny_bind (wpAny_attempt (wpAny_callSpecial?_slot (name := Str.ofString "__next__") hT F.slot_enumerate_next
    (wpAny_call_entry F.slot_enumerate_next hT F.entry_enumerate_next ?_ (F.args_enumerate_next_1 _))))
  show wpAny _ _ (field (.ref e) 2 >>= _) _ _ _
  refine wpAny_bind (wpAny_field he rfl (x := .ref z) rfl ?_)
  refine wpAny_bind (nextOf_zip_end S D1 Z fun h' x hk hx => ?_)
  obtain ⟨o, ho, hc⟩ := hx
  refine wpAny_bind (wpAny_isInstance (T := "StopIteration") (b := true) ⟨o, ho, hc⟩ isSubtype_stop ?_)
  exact wpAny_pure (hQ _ hk)
theorem meets_enum_zip (z TI TO : Addr) (f0 : Value) :
    Meets (Builtin.«enumerate.__new__» ⟨[.type "enumerate", .ref z], []⟩) (fun _ R s => IsZip s.heap z TI TO f0 ∧
      R (.ok (.ret (.ref s.heap.objs.size))) { s with heap := s.heap.push { cls := .type "enumerate", data := .fields #[.none, .bool false, .ref z, rawInt 0, .none, .none] } }) :=
  .of_wp fun prog w A R s h => by
    obtain ⟨hp, g, d, tk, os⟩ := s; obtain ⟨h1, h⟩ := h
    have hsub := sub_enumerate
    have q1 : ∀ {A' : Around} {E : Value → Shared → Prop} {Q : Value → Shared → Prop}, Q (.ref z) ⟨hp, g, d, tk, os⟩ → wpAny (model prog w) A' (pyIter (.ref z)) Q E ⟨hp, g, d, tk, os⟩ :=
      fun q => wpAny_pyIter_zip (s := ⟨hp, g, d, tk, os⟩) h1 q
    wp_walk using q1
    refine wpAny_stack_any fun st => wpAny_pure ?_
    split
    · rename_i c _ _ _ _ _
      cases (c == Value.type "enumerate")
      · wp_walk using q1
        exact ⟨_, rfl, h⟩
      · wp_walk using q1
        exact ⟨_, rfl, h⟩
    · wp_walk using q1
      exact ⟨_, rfl, h⟩
theorem call_enum_zip {Q : Value → Shared → Prop} (hz : IsZip s.heap z TI TO f0)
    (h : ∀ h', IsEnum h' s.heap.objs.size z 0 .none → h'.objs.size = s.heap.objs.size + 1 → (∀ b o, s.heap.get? b = some o → h'.get? b = some o) → Q (.ref s.heap.objs.size) { s with heap := h' }) :
    wpAny (model prog w) A (call (.type "enumerate") [.ref z]) Q E s := by
  refine callType_new F.called_enumerate (by decide) (F.typeCall_enumerate_1 _) (F.newCall_enumerate_1 _) (fun obj => F.args_object_init_2 obj _) F.entry_enumerate_new (meets_enum_zip z TI TO f0) ⟨hz, ?_⟩
  have he : IsEnum (s.heap.push { cls := .type "enumerate", data := .fields #[.none, .bool false, .ref z, rawInt 0, .none, .none] }) s.heap.objs.size z 0 .none := Heap.get?_push_size _ rfl
  exact ⟨⟨_, he, rfl⟩, h _ he (by rw [Heap.size_push]) fun b o x => Heap.get?_push_of_some _ x⟩
end
end OP

namespace OP
open PySem PySem.Spec PyProof.Rows L2
/-- cells of our own have turned, two new objects are laid and tracked -/
theorem turned2 {X : Cx} {pins : List (Addr × Obj)} {σ : L2.St} {H : Hp} {s : Shared} {h' : Heap} {t' : Nat} {ch : List Addr} {T U : Addr} {o1 o2 : HO} (I : Inv X pins σ H s) (k : ∀ b o, b ∉ ch → s.heap.get? b = some o → h'.get? b = some o) (hf : ∀ b ∈ ch, FpOk X pins H b)
    (hT : s.heap.objs.size ≤ T) (hU : s.heap.objs.size ≤ U) (ne : U ≠ T) (n1 : ObjOk X.prog X.w (upd (upd H T o1) U o2) h' T o1) (n2 : ObjOk X.prog X.w (upd (upd H T o1) U o2) h' U o2) :
    Inv X pins σ (upd (upd H T o1) U o2) { s with heap := h', toks := t' } := by
  have hnT : H T = none := I.hok.fresh hT
  have hnU : H U = none := I.hok.fresh hU
  have nit : ∀ b u, H b = some u → b ∉ ch := fun b u e z => by
    have q := (hf b z).1
    rw [q] at e
    cases e
  have same : ∀ b u, H b = some u → upd (upd H T o1) U o2 b = some u := fun b u e => by
    rw [upd_ne (ne_of_none e hnU), upd_ne (ne_of_none e hnT)]
    exact e
  refine I.step (g' := s.gens) (d' := s.drawn) (ch := ch) (fun b hb => ⟨(hf b hb).2.2.2.1, (hf b hb).2.1, (hf b hb).2.2.2.2.1, (hf b hb).2.2.2.2.2⟩) (fun b o _ _ hc e _ => k b o hc e) (fun b o _ _ hc e _ => ⟨o.slots, k b o hc e⟩)
    (fun b o _ e n => ?_) (fun b o hc e => ⟨o, k b o hc e⟩) (fun b xs e => same b _ e) (fun b o u e => same b _ e) (fun b ps e => ⟨#[], by rw [same b _ e]; simp⟩) (fun m hm => ?_) (fun b u e => ?_) I.bare
  · have hl := Heap.lt_size e
    rw [upd_ne (Nat.ne_of_lt (Nat.lt_of_lt_of_le hl hU)), upd_ne (Nat.ne_of_lt (Nat.lt_of_lt_of_le hl hT))]
    exact n
  · obtain ⟨o, es, ep, ho, r⟩ := hm
    exact ⟨o, es, ep, k _ o (fun z => (hf _ z).2.1 rfl) ho, r⟩
  · by_cases hbU : b = U
    · subst hbU
      rw [upd_same] at e
      cases e
      exact n2
    · rw [upd_ne hbU] at e
      by_cases hbT : b = T
      · subst hbT
        rw [upd_same] at e
        cases e
        exact n1
      · rw [upd_ne hbT] at e
        refine (I.hok b u e).stay (fun c v hc q => k c v ?_ q) (fun c q => same c _ q) fun c xs q => same c _ q
        rcases hc with z | z
        · rw [z]
          exact nit b u e
        · exact nit c _ z
/-- enumerate(zip(x, y)) of two texts of one length: the i-th turn gives a new pair of i and a new pair of the signs -/
def Itez (x y : Str) : It :=
  ⟨fun i _ => i < x.cps.size,
    fun i H v H' => ∃ T U c d, v = .ref U ∧ H T = none ∧ H U = none ∧ U ≠ T ∧ H' = upd (upd H T (.tup [.str ⟨#[c]⟩, .str ⟨#[d]⟩])) U (.tup [.int (i : Nat), .ref T]) ∧ x.cps[i]? = some c ∧ y.cps[i]? = some d,
    fun i _ => i = x.cps.size⟩
theorem turn_ez {P : Program} {w : World} {K : PySem.W.Frag} {elts : List Expr} {kk : Nat} {tpos : Pos} {x y : Str} {t u : Tok} {e z TI TO i1 i2 : Addr} (hxy : x.cps.size = y.cps.size) (S : ZipSep2 z TI TO i1 i2 [i1] [i2]) (hef : e ∉ [z, TI, TO, i1, i2]) :
    Turn P w K (.Tuple elts kk tpos) (Itez x y) [e, z, TI, TO, i1, i2] e
      (fun i h => (∃ old, IsEnum h e z i old) ∧ ZipSt z TI TO i1 i2 (fun i h => h.IsStrIter i1 (strIterType x) x t i) (fun i h => h.IsStrIter i2 (strIterType y) y u i) i h) where
  mem := by simp
  obj := fun i h st c hc => by
    obtain ⟨⟨old, he⟩, ⟨f0, f1, hz, _⟩, hTI, ⟨a, b, hTO⟩, ⟨o1, e1, _, d1⟩, ⟨o2, e2, _, d2⟩⟩ := st
    have e' : c = e ∨ c = z ∨ c = TI ∨ c = TO ∨ c = i1 ∨ c = i2 := by simpa using hc
    rcases e' with q | q | q | q | q | q
    · rw [q]; exact ⟨_, he, fun v q => nomatch q⟩
    · rw [q]; exact ⟨_, hz, fun v q => nomatch q⟩
    · rw [q]; exact ⟨_, hTI, fun v q => nomatch q⟩
    · rw [q]; exact ⟨_, hTO, fun v q => nomatch q⟩
    · rw [q]; exact ⟨o1, e1, fun v q => by rw [d1] at q; cases q⟩
    · rw [q]; exact ⟨o2, e2, fun v q => by rw [d2] at q; cases q⟩
  keep := fun i h h' st k => by
    obtain ⟨⟨old, he⟩, ⟨f0, f1, hz, hf⟩, hTI, ⟨a, b, hTO⟩, h1, h2⟩ := st
    exact ⟨⟨old, k e (by simp) _ he⟩, ⟨f0, f1, k z (by simp) _ hz, hf⟩, k TI (by simp) _ hTI, ⟨a, b, k TO (by simp) _ hTO⟩, let ⟨o1, e1, r1⟩ := h1; ⟨o1, k i1 (by simp) _ e1, r1⟩, let ⟨o2, e2, r2⟩ := h2; ⟨o2, k i2 (by simp) _ e2, r2⟩⟩
  item := by
    intro X hP hw hK hc i pins s σ H E I hf st hg
    subst hP hw hK
    obtain ⟨⟨old, he⟩, Z⟩ := st
    have hh : X.A.in1.in1.handled = none := I.ok.hd hc
    have D1 : Draws X.prog X.w X.A.in1.in1 i1 [i1] x.cps.size _ _ := Draws.text hh i1 x t
    have D2 : Draws X.prog X.w X.A.in1.in1 i2 [i2] y.cps.size _ _ := Draws.text hh i2 y u
    rw [← hxy] at D2
    have hel : e < s.heap.objs.size := Heap.lt_size he
    have hlts : ∀ c ∈ [e, z, TI, TO, i1, i2], c < s.heap.objs.size := fun c hcm => by
      obtain ⟨⟨f0, f1, hz, _⟩, hTI, ⟨a, b, hTO⟩, ⟨o1, e1, _⟩, ⟨o2, e2, _⟩⟩ := Z
      have e' : c = e ∨ c = z ∨ c = TI ∨ c = TO ∨ c = i1 ∨ c = i2 := by simpa using hcm
      rcases e' with q | q | q | q | q | q
      · rw [q]; exact hel
      · rw [q]; exact Heap.lt_size hz
      · rw [q]; exact Heap.lt_size hTI
      · rw [q]; exact Heap.lt_size hTO
      · rw [q]; exact Heap.lt_size e1
      · rw [q]; exact Heap.lt_size e2
    refine enum_zip_next S D1 D2 he Z hg hef fun x1 x2 h' tk q1 q2 he' Z' hT hU hsz hk => ?_
    obtain ⟨c, t1, hc1, rfl⟩ := q1
    obtain ⟨d, t2, hd1, rfl⟩ := q2
    refine ⟨_, rfl, wpAny_letOwnedTupleGo_enum (s := { s with heap := h', toks := tk + 1 }) he' fun h'' he'' sb => ?_⟩
    replace sb : Heap.SameBut e h' h'' := sb
    have n1 : s.heap.objs.size ≠ e := Nat.ne_of_gt hel
    have n2 : s.heap.objs.size + 1 ≠ e := Nat.ne_of_gt (Nat.lt_succ_of_lt hel)
    have hT2 : h''.get? s.heap.objs.size = some { cls := .type "tuple", data := .seq #[.str ⟨#[c]⟩ t1, .str ⟨#[d]⟩ t2] } := sb.extBut _ _ n1 hT
    have hU2 : h''.get? (s.heap.objs.size + 1) = some { cls := .type "tuple", data := .seq #[.int i tk, .ref s.heap.objs.size] } := sb.extBut _ _ n2 hU
    have hkk : ∀ b o, b ∉ [e, z, TI, TO, i1, i2] → s.heap.get? b = some o → h''.get? b = some o := fun b o hb q =>
      sb.extBut _ _ (fun r => hb (by simp [r])) (hk b o (fun r => hb (by simp [r])) (fun r => hb (by simp [r])) (fun r => hb (by simp [r])) (fun r => hb (by simp [r])) (fun r => hb (by simp [r])) q)
    have ne : s.heap.objs.size + 1 ≠ s.heap.objs.size := Nat.succ_ne_self _
    have hTT : upd (upd H s.heap.objs.size (.tup [.str ⟨#[c]⟩, .str ⟨#[d]⟩])) (s.heap.objs.size + 1) (.tup [.int (i : Nat), .ref s.heap.objs.size]) s.heap.objs.size = some (.tup [.str ⟨#[c]⟩, .str ⟨#[d]⟩]) := by
      rw [upd_ne ne.symm, upd_same]
    have I1 := turned2 (t' := tk + 1) (T := s.heap.objs.size) (U := s.heap.objs.size + 1) (o1 := .tup [.str ⟨#[c]⟩, .str ⟨#[d]⟩]) (o2 := .tup [.int (i : Nat), .ref s.heap.objs.size]) I hkk hf (Nat.le_refl _) (Nat.le_succ _) ne
      ⟨by show 2 ≤ sizeLine; decide, [.str ⟨#[c]⟩ t1, .str ⟨#[d]⟩ t2], .cons ⟨_, rfl⟩ (.cons ⟨_, rfl⟩ .nil), ⟨_, hT2, rfl, _, rfl⟩⟩
      ⟨by show 2 ≤ sizeLine; decide, [.int i tk, .ref s.heap.objs.size], .cons ⟨_, rfl⟩ (.cons rfl .nil), ⟨_, hU2, rfl, _, rfl⟩⟩
    refine ⟨.ref (s.heap.objs.size + 1), _, I1, rfl, ⟨_, _, c, d, rfl, I.hok.fresh (Nat.le_refl _), I.hok.fresh (Nat.le_succ _), ne, rfl, hc1, hd1⟩, ⟨⟨_, by simpa using he''⟩, Z'.frame D1 D2 fun b hb o q => sb.extBut _ _ (fun r => hef (by rw [← r]; simpa using hb)) q⟩, fun b hb => ?_⟩
    have hl := hlts b hb
    rw [upd_ne (Nat.ne_of_lt (Nat.lt_succ_of_lt hl)), upd_ne (Nat.ne_of_lt hl)]
    exact (hf b hb).1
  done := by
    intro X hP hw hK hc i pins s σ H E I hf st hg
    subst hP hw hK
    obtain ⟨⟨old, he⟩, Z⟩ := st
    have hh : X.A.in1.in1.handled = none := I.ok.hd hc
    have D1 : Draws X.prog X.w X.A.in1.in1 i1 [i1] x.cps.size _ _ := Draws.text hh i1 x t
    have hg' : i = x.cps.size := hg
    subst hg'
    refine enum_zip_end S D1 he Z fun h' hk => ⟨rfl, I.turnedL (t' := s.toks) (ch := [e, z, TI, TO, i1, i2]) (fun b o hb q => hk b o (fun r => hb (by simp [r])) (fun r => hb (by simp [r])) q) hf⟩
  self := fun A i s Q E st h => let ⟨⟨_, he⟩, _⟩ := st; wpAny_pyIter_enum he h
def iEz (ta : TA) : TI := fun σ H R => ta σ H fun vs H1 => ∃ x y : Str, vs = [.str x, .str y] ∧ x.cps.size = y.cps.size ∧ R (Itez x y) H1
theorem pi_ez {X : Cx} {e e2 : Expr} {ta : TA} {p pos p2 pos2 tpos : Pos} {elts : List Expr} {kk : Nat} (hg : Gl X "enumerate") (hm : X.mg "enumerate" = none) (hg2 : Gl X "zip") (hm2 : X.mg "zip" = none) (ha : PA X [e, e2] ta)
    (hs : starEach [.Call (.Name "zip" p2) [e, e2] [] pos2] X.env = [(false, eval (.Call (.Name "zip" p2) [e, e2] [] pos2) X.env)] := by rfl)
    (hs2 : starEach [e, e2] X.env = (false, eval e X.env) :: starEach [e2] X.env := by rfl) (hpl : (backTo pos2 (starEach [e2] X.env)).any (·.1) = false := by rfl) :
    PI X (.Tuple elts kk tpos) (.Call (.Name "enumerate" p) [.Call (.Name "zip" p2) [e, e2] [] pos2] [] pos) (iEz ta) := by
  refine ⟨fun pins s σ H R I h => ?_⟩
  refine Call_ (ld_blt I hg hm boot_enumerate (PyProof.Rows.callWith_type1 ?_ hs rfl))
  rw [hs]
  show wpAny _ _ (spliced [(false, eval (.Call (.Name "zip" p2) [e, e2] [] pos2) X.env)]) _ _ s
  refine Calls.spliced_cons ?_
  refine Call_ (ld_blt I hg2 hm2 PyProof.Rows.boot_zip (PyProof.Rows.callWith_type1 (thn (ha.run pos2 pins s σ H _ I h) fun us s1 ⟨vs, H1, I1, r1, q1⟩ => ?_) hs2 hpl))
  obtain ⟨x, y, rfl, hxy, q⟩ := q1
  obtain ⟨u1, u2, rfl, ⟨t, rfl⟩, ⟨u, rfl⟩⟩ := vals2 r1
  refine zip_begins2 (begins_text x t) (begins_text y u) trivial trivial fun h' hz hTI hTO h1 h2 hsz hk => ?_
  refine Calls.spliced_nil ?_
  refine call_enum_zip (s := { s1 with heap := h' }) hz fun h2' he hsz2 hk2 => wpAny_pyIter_enum he ?_
  have hsz' : h'.objs.size = s1.heap.objs.size + 5 := hsz
  have kall : ∀ b o, s1.heap.get? b = some o → h2'.get? b = some o := fun b o z => hk2 b o (hk b o z)
  have I2 : Inv X pins σ H1 { s1 with heap := h2' } := I1.kept (t' := s1.toks) kall
  have S : ZipSep2 (s1.heap.objs.size + 4) (s1.heap.objs.size + 2) (s1.heap.objs.size + 3) s1.heap.objs.size (s1.heap.objs.size + 1) [s1.heap.objs.size] [s1.heap.objs.size + 1] :=
    zip_sep2 (N := s1.heap.objs.size) (fp1 := []) (fp2 := []) (fun _ h => nomatch h) (fun _ h => nomatch h)
  have hef : h'.objs.size ∉ [s1.heap.objs.size + 4, s1.heap.objs.size + 2, s1.heap.objs.size + 3, s1.heap.objs.size, s1.heap.objs.size + 1] := by
    rw [hsz']
    generalize s1.heap.objs.size = N
    have : ∀ N : Nat, N + 5 ∉ [N + 4, N + 2, N + 3, N, N + 1] := fun N hm => by
      simp at hm
    exact this N
  refine ⟨h'.objs.size, [h'.objs.size, s1.heap.objs.size + 4, s1.heap.objs.size + 2, s1.heap.objs.size + 3, s1.heap.objs.size, s1.heap.objs.size + 1], _, _, H1, rfl, I2, turn_ez (t := t) (u := u) hxy S hef,
    ⟨⟨_, he⟩, ⟨_, _, hk2 _ _ hz, .inl rfl⟩, hk2 _ _ hTI, ⟨_, _, hk2 _ _ hTO⟩, ⟨_, hk2 _ _ h1, rfl, rfl⟩, ⟨_, hk2 _ _ h2, rfl, rfl⟩⟩, fun c hcm => ?_, q⟩
  have hle : s1.heap.objs.size ≤ c := by
    have key : ∀ N M c : Nat, M = N + 5 → c ∈ [M, N + 4, N + 2, N + 3, N, N + 1] → N ≤ c := fun N M c hM hm => by
      simp at hm
      omega
    exact key _ _ c hsz' hcm
  exact I1.fpOk hle (I1.hok.fresh hle)
theorem walk_ez {x y : Str} : Walk (Itez x y) x.cps.size (fun _ => True) (fun i H v H' => ∃ T U c d, v = .ref U ∧ H T = none ∧ H U = none ∧ U ≠ T ∧ H' = upd (upd H T (.tup [.str ⟨#[c]⟩, .str ⟨#[d]⟩])) U (.tup [.int (i : Nat), .ref T]) ∧ x.cps[i]? = some c ∧ y.cps[i]? = some d) :=
  ⟨fun _ _ hi _ => hi, fun _ _ => rfl, fun _ _ _ _ _ _ h => h⟩
end OP

/-! PreP: what a value stands for (Pr), told by a known part G of the heap; pure evaluation (EvP), the law's box beside it. -/
namespace OP
open PySem PySem.Spec PyProof.Rows L2 Evl
structure Pr where
  on : Hp → V → Prop
  up : ∀ {H H' : Hp} {v : V}, Ex H H' → on H v → on H' v
def Al (H : Hp) : List Pr → List V → Prop
  | [], [] => True
  | p :: ps, x :: xs => p.on H x ∧ Al H ps xs
  | _, _ => False
theorem Al.up {H H' : Hp} (e : Ex H H') : ∀ {ps : List Pr} {xs : List V}, Al H ps xs → Al H' ps xs
  | [], [], _ => trivial
  | [], _ :: _, h => h.elim
  | _ :: _, [], h => h.elim
  | p :: _, _ :: _, h => ⟨p.up e h.1, Al.up e h.2⟩
theorem Al.len {H : Hp} : ∀ {ps : List Pr} {xs : List V}, Al H ps xs → xs.length = ps.length
  | [], [], _ => rfl
  | [], _ :: _, h => h.elim
  | _ :: _, [], h => h.elim
  | _ :: _, _ :: _, h => by rw [List.length_cons, List.length_cons, Al.len h.2]
theorem Al.get {H : Hp} : ∀ {ps : List Pr} {xs : List V} {i : Nat} {x : V}, Al H ps xs → xs[i]? = some x → ∃ p, ps[i]? = some p ∧ p.on H x
  | [], [], _, _, _, e => by simp at e
  | [], _ :: _, _, _, h, _ => h.elim
  | _ :: _, [], _, _, h, _ => h.elim
  | p :: _, y :: _, 0, x, h, e => by
    simp at e
    subst e
    exact ⟨p, rfl, h.1⟩
  | p :: ps, y :: ys, i + 1, x, h, e => by
    obtain ⟨q, h1, h2⟩ := Al.get (i := i) (x := x) h.2 (by simpa using e)
    exact ⟨q, by simpa using h1, h2⟩
theorem Al.got {H : Hp} : ∀ {ps : List Pr} {xs : List V} {i : Nat} {p : Pr}, Al H ps xs → ps[i]? = some p → ∃ x, xs[i]? = some x ∧ p.on H x
  | [], [], _, _, _, e => by simp at e
  | [], _ :: _, _, _, h, _ => h.elim
  | _ :: _, [], _, _, h, _ => h.elim
  | p :: _, y :: _, 0, x, h, e => by
    simp at e
    subst e
    exact ⟨y, rfl, h.1⟩
  | p :: ps, y :: ys, i + 1, x, h, e => by
    obtain ⟨q, h1, h2⟩ := Al.got (i := i) (p := x) h.2 (by simpa using e)
    exact ⟨q, by simpa using h1, h2⟩
theorem Al.app {H : Hp} : ∀ {ps qs : List Pr} {xs ys : List V}, Al H ps xs → Al H qs ys → Al H (ps ++ qs) (xs ++ ys)
  | [], _, [], _, _, h => h
  | [], _, _ :: _, _, h, _ => h.elim
  | _ :: _, _, [], _, h, _ => h.elim
  | _ :: _, _, _ :: _, _, h, g => ⟨h.1, Al.app h.2 g⟩
def pV (v : V) : Pr := ⟨fun _ x => x = v, fun _ h => h⟩
/-- (the part K is named so that it is found) -/
def lstAt (K : PySem.W.Frag) (H : Hp) (a : Addr) (xs : List V) : Prop := H a = some (.lst xs)
def pLst (K : PySem.W.Frag) (ps : List Pr) : Pr := ⟨fun H v => ∃ a xs, v = .ref a ∧ lstAt K H a xs ∧ Al H ps xs, fun e h => by
  obtain ⟨a, xs, h1, h2, h3⟩ := h
  exact ⟨a, xs, h1, e _ _ h2, h3.up e⟩⟩
def pTup (K : PySem.W.Frag) (ps : List Pr) : Pr := ⟨fun H v => ∃ a xs, v = .ref a ∧ SqT K H a xs ∧ Al H ps xs, fun e h => by
  obtain ⟨a, xs, h1, h2, h3⟩ := h
  exact ⟨a, xs, h1, ex_t e h2, h3.up e⟩⟩
/-! ### typed data -/
structure Tu (α : Type) where
  l : List α
  deriving DecidableEq
class Enc (K : PySem.W.Frag) (α : Type) where
  rp : α → Pr
  enc : α → PyData
  toD : ∀ {H : Hp} {v : V} {a : α}, (rp a).on H v → Dp K H v (enc a)
  lay : α → Prop
  dep : Nat
  dle : ∀ a : α, (enc a).depth ≤ dep
  can : ∀ a : α, lay a → (enc a).canLay0 = true
  inj : ∀ a b : α, PyData.eqv (enc a) (enc b) = true ↔ a = b
variable {K : PySem.W.Frag}
def en (K : PySem.W.Frag) {α : Type} [Enc K α] (a : α) : Pr := Enc.rp (K := K) a
instance : Enc K Int := ⟨fun i => pV (.int i), .int, fun h => by cases h; exact .int _, fun _ => True, 0, fun _ => Nat.le_refl _, fun _ _ => rfl, fun a b => by simp [PyData.eqv]⟩
instance : Enc K Nat := ⟨fun i => pV (.int i), fun i => .int i, fun h => by cases h; exact .int _, fun _ => True, 0, fun _ => Nat.le_refl _, fun _ _ => rfl, fun a b => by simp [PyData.eqv]; omega⟩
instance : Enc K Bool := ⟨fun i => pV (.bl i), .bool, fun h => by cases h; exact .bl _, fun _ => True, 0, fun _ => Nat.le_refl _, fun _ _ => rfl, fun a b => by cases a <;> cases b <;> simp [PyData.eqv]⟩
instance : Enc K Str := ⟨fun i => pV (.str i), .str, fun h => by cases h; exact .str _, fun s => PyData.strOk s = true, 0, fun _ => Nat.le_refl _, fun _ h => h, fun a b => by simp [PyData.eqv]⟩
instance : Enc K Unit := ⟨fun _ => pV .non, fun _ => .none, fun h => by cases h; exact .non, fun _ => True, 0, fun _ => Nat.le_refl _, fun _ _ => rfl, fun a b => by simp [PyData.eqv]⟩
section
variable {α β γ : Type}
theorem al_toD [E : Enc K α] {H : Hp} : ∀ {l : List α} {xs : List V}, Al H (l.map E.rp) xs → DpAll K H xs (l.map E.enc)
  | [], [], _ => .nil
  | [], _ :: _, h => h.elim
  | _ :: _, [], h => h.elim
  | a :: l, x :: xs, h => .cons (E.toD h.1) (al_toD h.2)
theorem dle_all [E : Enc K α] : ∀ l : List α, PyData.depthAll (l.map E.enc) ≤ E.dep
  | [] => Nat.zero_le _
  | a :: l => by
    show max (PyData.depth (E.enc a)) (PyData.depthAll (l.map E.enc)) ≤ _
    have h1 := E.dle a
    have h2 := dle_all (E := E) l
    omega
theorem can_all [E : Enc K α] : ∀ l : List α, (∀ a ∈ l, E.lay a) → PyData.canLayAll0 (l.map E.enc) = true
  | [], _ => rfl
  | a :: l, h => by
    show (PyData.canLay0 (E.enc a) && PyData.canLayAll0 (l.map E.enc)) = true
    rw [E.can a (h a (List.mem_cons_self ..)), can_all l fun x hx => h x (List.mem_cons_of_mem _ hx)]
    rfl
theorem inj_all [E : Enc K α] : ∀ l m : List α, PyData.eqvAll (l.map E.enc) (m.map E.enc) = true ↔ l = m
  | [], [] => ⟨fun _ => rfl, fun _ => rfl⟩
  | [], _ :: _ => ⟨(fun h => nomatch h), (fun h => nomatch h)⟩
  | _ :: _, [] => ⟨(fun h => nomatch h), (fun h => nomatch h)⟩
  | a :: l, b :: m => by
    show (PyData.eqv (E.enc a) (E.enc b) && PyData.eqvAll (l.map E.enc) (m.map E.enc)) = true ↔ _
    rw [Bool.and_eq_true, E.inj, inj_all l m, List.cons.injEq]
instance [E : Enc K α] : Enc K (List α) := ⟨fun l => pLst K (l.map E.rp), fun l => .list (l.map E.enc), fun h => by
    obtain ⟨a, xs, rfl, h1, h2⟩ := h
    exact .lst (sq_of h1) (al_toD h2), fun l => ∀ a ∈ l, E.lay a, E.dep + 1, fun l => by
    show PyData.depthAll (l.map E.enc) + 1 ≤ _
    have := dle_all (E := E) l
    omega, fun l h => can_all l h, fun l m => inj_all l m⟩
instance [E : Enc K α] : Enc K (Tu α) := ⟨fun l => pTup K (l.l.map E.rp), fun l => .tuple (l.l.map E.enc), fun h => by
    obtain ⟨a, xs, rfl, h1, h2⟩ := h
    exact .tup h1 (al_toD h2), fun l => ∀ a ∈ l.l, E.lay a, E.dep + 1, fun l => by
    show PyData.depthAll (l.l.map E.enc) + 1 ≤ _
    have := dle_all (E := E) l.l
    omega, fun l h => can_all l.l h, fun l m => by
    obtain ⟨l⟩ := l
    obtain ⟨m⟩ := m
    rw [Tu.mk.injEq]
    exact inj_all l m⟩
instance [E : Enc K α] [F : Enc K β] : Enc K (α × β) := ⟨fun x => pTup K [E.rp x.1, F.rp x.2], fun x => .tuple [E.enc x.1, F.enc x.2], fun h => by
    obtain ⟨a, xs, rfl, h1, h2⟩ := h
    match xs, h2 with
    | [_, _], h2 => exact .tup h1 (.cons (E.toD h2.1) (.cons (F.toD h2.2.1) .nil)), fun x => E.lay x.1 ∧ F.lay x.2, max E.dep F.dep + 1, fun x => by
    show max (PyData.depth (E.enc x.1)) (max (PyData.depth (F.enc x.2)) 0) + 1 ≤ _
    have h1 := E.dle x.1
    have h2 := F.dle x.2
    omega, fun x h => by
    show (PyData.canLay0 (E.enc x.1) && (PyData.canLay0 (F.enc x.2) && true)) = true
    rw [E.can _ h.1, F.can _ h.2]
    rfl, fun x y => by
    show (PyData.eqv (E.enc x.1) (E.enc y.1) && (PyData.eqv (F.enc x.2) (F.enc y.2) && true)) = true ↔ _
    rw [Bool.and_true, Bool.and_eq_true, E.inj, F.inj]
    exact ⟨fun h => Prod.ext h.1 h.2, fun h => by rw [h]; exact ⟨rfl, rfl⟩⟩⟩
theorem en_int {i : Int} : en K i = pV (.int i) := rfl
theorem en_nat {i : Nat} : en K i = pV (.int i) := rfl
theorem en_str {i : Str} : en K i = pV (.str i) := rfl
theorem en_bl {i : Bool} : en K i = pV (.bl i) := rfl
theorem en_list [Enc K α] {l : List α} : en K l = pLst K (l.map (en K)) := rfl
theorem en_tu [Enc K α] {l : Tu α} : en K l = pTup K (l.l.map (en K)) := rfl
theorem en_pair [Enc K α] [Enc K β] {l : α × β} : en K l = pTup K [en K l.1, en K l.2] := rfl
theorem en_shaped [E : Enc K α] {a : α} (h : E.lay a) (hd : E.dep ≤ 64) : SeqAt.shaped (E.enc a) = true := by
  show ((E.enc a).canLay0 && decide ((E.enc a).depth ≤ 64)) = true
  rw [E.can a h, decide_eq_true (Nat.le_trans (E.dle a) hd)]
  rfl
theorem en_eqv [E : Enc K α] [DecidableEq α] (a b : α) : PyData.eqv (E.enc a) (E.enc b) = decide (a = b) := by
  rw [Bool.eq_iff_iff, E.inj, decide_eq_true_eq]
end
/-! ### the known part -/
structure Fr (G H G2 H2 : Hp) : Prop where
  g : Ex G G2
  h : Ex H H2
  k : Ex G2 H2
  n : ∀ a, G a = none → H a ≠ none → G2 a = none
theorem Fr.refl {G H : Hp} (e : Ex G H) : Fr G H G H := ⟨Ex.refl G, Ex.refl H, e, fun _ h _ => h⟩
theorem ne_up {H H' : Hp} {a : Addr} (e : Ex H H') (h : H a ≠ none) : H' a ≠ none := by
  cases q : H a with
  | none => exact absurd q h
  | some o => rw [e a o q]; exact fun h => nomatch h
theorem Fr.trans {G H G2 H2 G3 H3 : Hp} (a : Fr G H G2 H2) (b : Fr G2 H2 G3 H3) : Fr G H G3 H3 :=
  ⟨a.g.trans b.g, a.h.trans b.h, b.k, fun x h1 h2 => b.n x (a.n x h1 h2) (ne_up a.h h2)⟩
theorem Fr.same {G H H2 : Hp} (e : Ex G H) (e2 : Ex H H2) : Fr G H G H2 := ⟨Ex.refl G, e2, e.trans e2, fun _ h _ => h⟩
theorem ex_upd {G H : Hp} (e : Ex G H) {p : Addr} {o : HO} : Ex (upd G p o) (upd H p o) := fun a u h => by
  by_cases q : a = p
  · subst q
    rw [upd_same] at h ⊢
    exact h
  · rw [upd_ne q] at h ⊢
    exact e a u h
theorem Fr.new {G H : Hp} (e : Ex G H) {p : Addr} {o : HO} (hp : H p = none) : Fr G H (upd G p o) (upd H p o) :=
  ⟨Ex.new (fresh_back e hp), Ex.new hp, ex_upd e, fun a h1 h2 => by
    have : a ≠ p := fun q => by subst q; exact h2 hp
    rw [upd_ne this]
    exact h1⟩
/-- what H holds at p becomes known -/
theorem Fr.freeze {G H : Hp} {p : Addr} {o : HO} (e : Ex G H) (hG : G p = none) (h : H p = some o) : Ex G (upd G p o) ∧ Ex (upd G p o) H := ⟨Ex.new hG, fun a u q => by
  by_cases c : a = p
  · subst c
    rw [upd_same] at q
    cases q
    exact h
  · rw [upd_ne c] at q
    exact e a u q⟩
/-- a reading from less known, beside more known -/
def beside (G' G2 : Hp) : Hp := fun a => match G' a with | some o => some o | none => G2 a
theorem Fr.beside {G G' H G2 H2 : Hp} (f : Fr G H G2 H2) (e : Ex G G') (e1 : Ex G' H) : Fr G' H (beside G' G2) H2 ∧ Ex G2 (beside G' G2) := by
  refine ⟨⟨fun a o h => by simp only [OP.beside, h], f.h, fun a o h => ?_, fun a h1 h2 => ?_⟩, fun a o h => ?_⟩
  · simp only [OP.beside] at h
    cases q : G' a with
    | some u =>
      rw [q] at h
      cases h
      exact f.h a _ (e1 a _ q)
    | none =>
      rw [q] at h
      exact f.k a o h
  · simp only [OP.beside, h1]
    exact f.n a (fresh_back e h1) h2
  · simp only [OP.beside]
    cases q : G' a with
    | some u =>
      have h1 := f.h a _ (e1 a _ q)
      have h2 := f.k a o h
      rw [h1] at h2
      exact h2
    | none => exact h
def EvP (te : TE) (σ : L2.St) (G : Hp) (p : Pr) : Prop := ∀ H1, Ex G H1 → ∀ Q : VK, (∀ v H2 G2, Fr G H1 G2 H2 → p.on G2 v → Q v H2) → te σ H1 Q
def EvPs (ta : TA) (σ : L2.St) (G : Hp) (ps : List Pr) : Prop := ∀ H1, Ex G H1 → ∀ Q : List V → Hp → Prop, (∀ vs H2 G2, Fr G H1 G2 H2 → Al G2 ps vs → Q vs H2) → ta σ H1 Q
/-- a list made anew, not known yet -/
def EvN (te : TE) (σ : L2.St) (G : Hp) (ps : List Pr) : Prop := ∀ H1, Ex G H1 → ∀ Q : VK, (∀ p xs H2 G2, Fr G H1 G2 H2 → H1 p = none → G2 p = none → H2 p = some (.lst xs) → Al G2 ps xs → Q (.ref p) H2) → te σ H1 Q
section
variable {σ : L2.St} {G G' H H' : Hp} {ta tb te tx ts : TE} {t u : TT} {x y z v : V} {p q : Pr} {ps qs : List Pr}
theorem EvP.mono (e : Ex G G') (h : EvP te σ G p) : EvP te σ G' p := fun H1 a Q k => h H1 (e.trans a) Q fun v H2 G2 f hv =>
  k v H2 _ (f.beside e a).1 (p.up (f.beside e a).2 hv)
theorem EvPs.mono {ta : TA} (e : Ex G G') (h : EvPs ta σ G ps) : EvPs ta σ G' ps := fun H1 a Q k => h H1 (e.trans a) Q fun v H2 G2 f hv =>
  k v H2 _ (f.beside e a).1 (hv.up (f.beside e a).2)
theorem EvP.is (h : EvP te σ G p) (e : p = q) : EvP te σ G q := e ▸ h
theorem EvP.imp (h : EvP te σ G p) (e : ∀ G v, p.on G v → q.on G v) : EvP te σ G q := fun H1 a Q k => h H1 a Q fun v H2 G2 f hv => k v H2 G2 f (e G2 v hv)
theorem ep_v (h : Ev te σ G v) : EvP te σ G (pV v) := fun H1 e Q k => h H1 e Q fun H2 e2 => k v H2 G (Fr.same e e2) rfl
theorem ev_p (h : EvP te σ G (pV v)) : Ev te σ G v := fun H1 e Q k => h H1 e Q fun w H2 G2 f hw => by
  have e : w = v := hw
  rw [e]
  exact k H2 f.h
theorem ep_var {i : Nat} (h : σ[i]? = some (some v)) (hp : p.on G v) : EvP (tVar i) σ G p := fun H1 e Q k => ⟨v, h, k v H1 G (Fr.refl e) hp⟩
theorem es_nil : EvPs tNil σ G [] := fun H1 e Q k => k [] H1 G (Fr.refl e) trivial
theorem es_cons {tr : TA} (h : EvP ta σ G p) (hr : EvPs tr σ G ps) : EvPs (tCons ta tr) σ G (p :: ps) := fun H1 e Q k =>
  h H1 e _ fun v H2 G2 f hv => (hr.mono f.g) H2 f.k _ fun vs H3 G3 f3 hvs => k (v :: vs) H3 G3 (f.trans f3) ⟨p.up f3.g hv, hvs⟩
theorem en_lst {ta : TA} (h : EvPs ta σ G ps) (hl : ps.length ≤ 100000) : EvN (tLst ta) σ G ps := fun H1 e Q k => h H1 e _ fun vs H2 G2 f hvs =>
  ⟨sz_of (by rw [hvs.len]; exact hl), fun p hp => k p vs _ G2 ⟨f.g, f.h.trans (Ex.new hp), f.k.trans (Ex.new hp), f.n⟩ (fresh_back f.h hp) (fresh_back f.k hp) upd_same hvs⟩
/-- a new list, known from now on -/
theorem EvN.ep (h : EvN te σ G ps) : EvP te σ G (pLst K ps) := fun H1 e Q k => h H1 e _ fun p xs H2 G2 f hp hG hx ha => by
  obtain ⟨e1, e2⟩ := Fr.freeze f.k hG hx
  refine k _ H2 (upd G2 p (.lst xs)) ⟨f.g.trans e1, f.h, e2, fun a h1 h2 => ?_⟩ ⟨p, xs, rfl, upd_same, ha.up e1⟩
  have : a ≠ p := fun c => by subst c; exact h2 hp
  rw [upd_ne this]
  exact f.n a h1 h2
theorem ep_lst {ta : TA} (h : EvPs ta σ G ps) (hl : ps.length ≤ 100000) : EvP (tLst ta) σ G (pLst K ps) := (en_lst h hl).ep
theorem ep_tup {ta : TA} (h : EvPs ta σ G ps) (hl : ps.length ≤ 100000) : EvP (tTup ta) σ G (pTup K ps) := fun H1 e Q k => h H1 e _ fun vs H2 G2 f hvs =>
  ⟨sz_of (by rw [hvs.len]; exact hl), fun p hp => k _ _ (upd G2 p (.tup vs)) (f.trans (Fr.new f.k hp)) ⟨p, vs, rfl, st_of upd_same, hvs.up (Ex.new (fresh_back f.k hp))⟩⟩
/-- index -/
theorem al_at {i : Int} {xs : List V} (h : Al G ps xs) (hi : atI ps i = some p) : ∃ x, atI xs i = some x ∧ p.on G x := by
  unfold atI at hi ⊢
  rw [h.len]
  cases q : ixN ps.length i with
  | none =>
    rw [q] at hi
    cases hi
  | some j =>
    rw [q] at hi
    exact h.got hi
theorem ep_ixL {i : Int} (ha : EvP ta σ G (pLst K ps)) (hb : Ev tb σ G (.int i)) (hi : atI ps i = some p) : EvP (tOp (rIxL K) ta tb) σ G p := fun H1 e Q k => ha H1 e _ fun v H2 G2 f hv => by
  obtain ⟨a, xs, rfl, h1, h2⟩ := hv
  refine (hb.mono f.g) H2 f.k _ fun H3 e3 => ?_
  obtain ⟨x, hx, hp⟩ := al_at h2 hi
  exact ⟨a, xs, i, x, rfl, rfl, ex_l (f.k.trans e3) (sq_of h1), hx, k x H3 G2 ⟨f.g, f.h.trans e3, f.k.trans e3, f.n⟩ hp⟩
theorem ep_ixT {i : Int} (ha : EvP ta σ G (pTup K ps)) (hb : Ev tb σ G (.int i)) (hi : atI ps i = some p) : EvP (tOp (rIxT K) ta tb) σ G p := fun H1 e Q k => ha H1 e _ fun v H2 G2 f hv => by
  obtain ⟨a, xs, rfl, h1, h2⟩ := hv
  refine (hb.mono f.g) H2 f.k _ fun H3 e3 => ?_
  obtain ⟨x, hx, hp⟩ := al_at h2 hi
  exact ⟨a, xs, i, x, rfl, rfl, ex_t (f.k.trans e3) h1, hx, k x H3 G2 ⟨f.g, f.h.trans e3, f.k.trans e3, f.n⟩ hp⟩
theorem ev_lenL (ha : EvP ta σ G (pLst K ps)) : Ev (tCB (rLenS K) (tCons ta tNil)) σ G (.int ps.length) := fun H1 e Q k => ha H1 e _ fun v H2 G2 f hv => by
  obtain ⟨a, xs, rfl, h1, h2⟩ := hv
  refine ⟨a, xs, rfl, .inl (ex_l f.k (sq_of h1)), ?_⟩
  rw [h2.len]
  exact k H2 f.h
theorem ev_lenT (ha : EvP ta σ G (pTup K ps)) : Ev (tCB (rLenS K) (tCons ta tNil)) σ G (.int ps.length) := fun H1 e Q k => ha H1 e _ fun v H2 G2 f hv => by
  obtain ⟨a, xs, rfl, h1, h2⟩ := hv
  refine ⟨a, xs, rfl, .inr (ex_t f.k h1), ?_⟩
  rw [h2.len]
  exact k H2 f.h
/-- list(x), tuple(x) -/
theorem en_listL (ha : EvP ta σ G (pLst K ps)) : EvN (tCB (rListS K) (tCons ta tNil)) σ G ps := fun H1 e Q k => ha H1 e _ fun v H2 G2 f hv => by
  obtain ⟨a, xs, rfl, h1, h2⟩ := hv
  exact ⟨a, xs, rfl, .inl (ex_l f.k (sq_of h1)), fun l hl => k l xs _ G2 ⟨f.g, f.h.trans (Ex.new hl), f.k.trans (Ex.new hl), f.n⟩ (fresh_back f.h hl) (fresh_back f.k hl) upd_same h2⟩
theorem en_listT (ha : EvP ta σ G (pTup K ps)) : EvN (tCB (rListS K) (tCons ta tNil)) σ G ps := fun H1 e Q k => ha H1 e _ fun v H2 G2 f hv => by
  obtain ⟨a, xs, rfl, h1, h2⟩ := hv
  exact ⟨a, xs, rfl, .inr (ex_t f.k h1), fun l hl => k l xs _ G2 ⟨f.g, f.h.trans (Ex.new hl), f.k.trans (Ex.new hl), f.n⟩ (fresh_back f.h hl) (fresh_back f.k hl) upd_same h2⟩
/-! ### == and in on data -/
section
variable {α : Type} [E : Enc K α] [DecidableEq α] {a b : α}
theorem ev_two (ha : EvP ta σ G p) (hb : EvP tb σ G q) {r : R2} (h : ∀ x y G2 H2, Ex G2 H2 → p.on G2 x → q.on G2 y → ∀ Q : VK, Q v H2 → r x y H2 Q) : Ev (tOp r ta tb) σ G v := fun H1 e Q k =>
  ha H1 e _ fun x H2 G2 f hx => (hb.mono f.g) H2 f.k _ fun y H3 G3 f3 hy => h x y G3 H3 f3.k (p.up f3.g hx) hy Q (k H3 (f.h.trans f3.h))
theorem ev_eqD (ha : EvP ta σ G (en K a)) (hb : EvP tb σ G (en K b)) (l1 : E.lay a) (l2 : E.lay b) (hd : E.dep ≤ 64 := by exact Nat.le_of_ble_eq_true rfl) : Ev (tOp (rEqD K) ta tb) σ G (.bl (decide (a = b))) :=
  ev_two ha hb fun x y G2 H2 e hx hy Q k => ⟨E.enc a, E.enc b, E.toD ((en K a).up e hx), E.toD ((en K b).up e hy), en_shaped l1 hd, en_shaped l2 hd, by rw [en_eqv]; exact k⟩
theorem ev_neD (ha : EvP ta σ G (en K a)) (hb : EvP tb σ G (en K b)) (l1 : E.lay a) (l2 : E.lay b) (hd : E.dep ≤ 64 := by exact Nat.le_of_ble_eq_true rfl) : Ev (tOp (rNeD K) ta tb) σ G (.bl (!decide (a = b))) :=
  ev_two ha hb fun x y G2 H2 e hx hy Q k => ⟨E.enc a, E.enc b, E.toD ((en K a).up e hx), E.toD ((en K b).up e hy), en_shaped l1 hd, en_shaped l2 hd, by rw [en_eqv]; exact k⟩
theorem any_eqv (l : List α) (a : α) : ((l.map E.enc).any fun z => PyData.eqv z (E.enc a)) = decide (a ∈ l) := by
  rw [Bool.eq_iff_iff, List.any_eq_true, decide_eq_true_eq]
  refine ⟨fun h => ?_, fun h => ⟨E.enc a, List.mem_map.mpr ⟨a, h, rfl⟩, (E.inj a a).mpr rfl⟩⟩
  obtain ⟨z, hz, he⟩ := h
  obtain ⟨b, hb, rfl⟩ := List.mem_map.mp hz
  rw [← (E.inj b a).mp he]
  exact hb
theorem ev_inD {l : List α} (ha : EvP ta σ G (en K a)) (hb : EvP tb σ G (en K l)) (l1 : E.lay a) (l2 : ∀ x ∈ l, E.lay x) (hd : E.dep + 1 ≤ 64 := by exact Nat.le_of_ble_eq_true rfl) : Ev (tOp (rInD K) ta tb) σ G (.bl (decide (a ∈ l))) :=
  ev_two ha hb fun x y G2 H2 e hx hy Q k => ⟨E.enc a, l.map E.enc, E.toD ((en K a).up e hx), Enc.toD (a := l) ((en K l).up e hy), en_shaped l1 (by omega), en_shaped (K := K) (α := List α) (a := l) l2 hd, by rw [any_eqv]; exact k⟩
theorem ev_niD {l : List α} (ha : EvP ta σ G (en K a)) (hb : EvP tb σ G (en K l)) (l1 : E.lay a) (l2 : ∀ x ∈ l, E.lay x) (hd : E.dep + 1 ≤ 64 := by exact Nat.le_of_ble_eq_true rfl) : Ev (tOp (rNotInD K) ta tb) σ G (.bl (!decide (a ∈ l))) :=
  ev_two ha hb fun x y G2 H2 e hx hy Q k => ⟨E.enc a, l.map E.enc, E.toD ((en K a).up e hx), Enc.toD (a := l) ((en K l).up e hy), en_shaped l1 (by omega), en_shaped (K := K) (α := List α) (a := l) l2 hd, by rw [any_eqv]; exact k⟩
end
end
end OP

namespace OP
open PySem PySem.Spec PyProof.Rows L2 Evl
variable {K : PySem.W.Frag}
section
variable {σ : L2.St} {G G' H H' : Hp} {ta tb te tx ts tl : TE} {t u : TT} {x y z v : V} {p q : Pr} {ps qs : List Pr} {j : Nat} {vs : List Nat}
/-- the list that grows: not known, made of what is known -/
def Cp (G H : Hp) (D : Addr) (ps : List Pr) (H' : Hp) : Prop := ∃ G' xs, Fr G H G' H' ∧ H D = none ∧ G' D = none ∧ H' D = some (.lst xs) ∧ Al G' ps xs
theorem Cp.ini {D : Addr} (e : Ex G H) (hD : H D = none) : Cp G H D [] (upd H D (.lst [])) := ⟨G, [], Fr.same e (Ex.new hD), hD, fresh_back e hD, upd_same, trivial⟩
/-- a turn that adds p -/
theorem Cp.turn {D : Addr} {σ2 : L2.St} (h : Cp G H D ps H') (hz : ps.length < 100000) (hp : ∀ G', Ex G G' → EvP te σ2 G' p) : te σ2 H' fun y H4 => ∃ acc, H4 D = some (.lst acc) ∧ acc.length < sizeLine ∧ Cp G H D (ps ++ [p]) (upd H4 D (.lst (acc ++ [y]))) := by
  obtain ⟨G', xs, f, h1, h2, h3, h4⟩ := h
  refine hp G' f.g H' f.k _ fun y H4 G4 f4 hy => ⟨xs, f4.h D _ h3, sz_lt (by rw [h4.len]; exact hz), G4, xs ++ [y], ?_, h1, f4.n D h2 (by rw [h3]; exact fun c => nomatch c), upd_same, (h4.up f4.g).app ⟨hy, trivial⟩⟩
  have g := f.trans f4
  refine ⟨g.g, Ex.mut g.h h1, fun a o ha => ?_, g.n⟩
  have : a ≠ D := fun c => by
    subst c
    rw [f4.n a h2 (by rw [h3]; exact fun c => nomatch c)] at ha
    cases ha
  rw [upd_ne this]
  exact g.k a o ha
theorem Cp.more {D : Addr} {H4 : Hp} {G4 : Hp} (h : Cp G H D ps H') (f : ∀ G', Ex G G' → Ex G' H' → G' D = none → ∃ G4, Fr G' H' G4 H4) : Cp G H D ps H4 := by
  obtain ⟨G', xs, f1, h1, h2, h3, h4⟩ := h
  obtain ⟨G4, f4⟩ := f G' f1.g f1.k h2
  exact ⟨G4, xs, f1.trans f4, h1, f4.n D h2 (by rw [h3]; exact fun c => nomatch c), f4.h D _ h3, h4.up f4.g⟩
/-- a turn with a test -/
theorem Cp.step {D : Addr} {σ2 : L2.St} {b : Bool} (h : Cp G H D ps H') (hz : ps.length < 100000) (ht : ∀ G', Ex G G' → EvT t σ2 G' b) (hp : b = true → ∀ G', Ex G G' → EvP te σ2 G' p) :
    t σ2 H' fun b H3 => if b = true then te σ2 H3 fun y H4 => ∃ acc, H4 D = some (.lst acc) ∧ acc.length < sizeLine ∧ Cp G H D (if b then ps ++ [p] else ps) (upd H4 D (.lst (acc ++ [y]))) else Cp G H D (if b then ps ++ [p] else ps) H3 := by
  have h0 := h
  obtain ⟨G', xs, f, h1, h2, h3, h4⟩ := h
  refine ht G' f.g H' f.k _ fun H3 e3 => ?_
  have h5 : Cp G H D ps H3 := h0.more (G4 := G') fun G1 _ e1 _ => ⟨G1, Fr.same e1 e3⟩
  cases b with
  | true => exact h5.turn hz fun G1 e1 => hp rfl G1 e1
  | false => exact h5
theorem Cp.done {D : Addr} (h : Cp G H D ps H') {Q : VK} (k : ∀ p xs H2 G2, Fr G H G2 H2 → H p = none → G2 p = none → H2 p = some (.lst xs) → Al G2 ps xs → Q (.ref p) H2) : Q (.ref D) H' := by
  obtain ⟨G', xs, f, h1, h2, h3, h4⟩ := h
  exact k D xs H' G' f h1 h2 h3 h4
theorem filt_snoc {α : Type} (f : α → Bool) (c : α → Pr) (l : List α) (a : α) : ((l ++ [a]).filter f).map c = if f a then (l.filter f).map c ++ [c a] else (l.filter f).map c := by
  rw [List.filter_append, List.map_append]
  by_cases h : f a = true
  · simp [h]
  · simp [h]
theorem take_snoc {α : Type} {l : List α} {i : Nat} {a : α} (h : l[i]? = some a) : l.take (i + 1) = l.take i ++ [a] := by
  rw [List.take_succ, h]
  rfl
theorem filt_len {α : Type} (f : α → Bool) (c : α → Pr) (l : List α) (i : Nat) : (((l.take i).filter f).map c).length ≤ l.length := by
  rw [List.length_map]
  exact Nat.le_trans (List.length_filter_le _ _) (by rw [List.length_take]; exact Nat.min_le_right _ _)
theorem Al.nil : ∀ {xs : List V}, Al G [] xs → xs = []
  | [], _ => rfl
  | _ :: _, h => h.elim
theorem Al.uncons : ∀ {xs : List V}, Al G (p :: ps) xs → ∃ x r, xs = x :: r ∧ p.on G x ∧ Al G ps r
  | [], h => h.elim
  | x :: r, h => ⟨x, r, rfl, h.1, h.2⟩
theorem Al.one {xs : List V} (h : Al G [p] xs) : ∃ x, xs = [x] ∧ p.on G x := by
  obtain ⟨x, r, rfl, h1, h2⟩ := h.uncons
  obtain rfl := Al.nil h2
  exact ⟨x, rfl, h1⟩
theorem Al.two {xs : List V} (h : Al G [p, q] xs) : ∃ x y, xs = [x, y] ∧ p.on G x ∧ q.on G y := by
  obtain ⟨x, r, rfl, h1, h2⟩ := h.uncons
  obtain ⟨y, rfl, h3⟩ := h2.one
  exact ⟨x, y, rfl, h1, h3⟩
/-! ### what is gone over -/
/-- at each turn of l an item that stands for c a -/
structure Gw {α : Type} (J : It) (G2 : Hp) (l : List α) (c : α → Pr) : Prop where
  go : ∀ i H, i < l.length → Ex G2 H → J.go i H
  stop : ∀ H, Ex G2 H → J.stop l.length H
  yld : ∀ i H x H', i < l.length → Ex G2 H → J.yld i H x H' → ∃ a, l[i]? = some a ∧ ∀ G', Ex G2 G' → Ex G' H → ∃ G3, Fr G' H G3 H' ∧ (c a).on G3 x
theorem Gw.walk {α : Type} {J : It} {G2 : Hp} {l : List α} {c : α → Pr} (w : Gw J G2 l c) : Walk J l.length (fun H => Ex G2 H) (fun i H x H' => ∃ a, l[i]? = some a ∧ ∀ G', Ex G2 G' → Ex G' H → ∃ G3, Fr G' H G3 H' ∧ (c a).on G3 x) :=
  ⟨w.go, w.stop, w.yld⟩
def EvI {α : Type} (wi : TI) (σ : L2.St) (G : Hp) (l : List α) (c : α → Pr) : Prop := ∀ H1, Ex G H1 → ∀ R : It → Hp → Prop, (∀ J H2 G2, Fr G H1 G2 H2 → Gw J G2 l c → R J H2) → wi σ H1 R
theorem map_at {α : Type} {l : List α} {c : α → Pr} {xs : List V} {i : Nat} {x : V} (h : Al G (l.map c) xs) (hx : xs[i]? = some x) : ∃ a, l[i]? = some a ∧ (c a).on G x := by
  obtain ⟨pr, hp, hon⟩ := h.get hx
  rw [List.getElem?_map] at hp
  cases hla : l[i]? with
  | none =>
    rw [hla] at hp
    cases hp
  | some b =>
    rw [hla] at hp
    cases hp
    exact ⟨b, rfl, hon⟩
theorem ei_list {α : Type} {l : List α} {c : α → Pr} (h : EvP tl σ G (pLst K (l.map c))) : EvI (iList K tl) σ G l c := fun H0 e R k => h H0 e _ fun v H1 G1 f1 hv => by
  obtain ⟨a, xs, rfl, h1, h2⟩ := hv
  have hl : xs.length = l.length := by rw [h2.len, List.length_map]
  have w : Walk (Itl K a) xs.length (fun H => SqL K H a xs) (YAt xs) := walk_list
  refine ⟨a, rfl, ⟨xs, ex_l f1.k (sq_of h1)⟩, k _ H1 G1 f1 ⟨fun i H hi e => w.goes i H (by omega) (ex_l e (sq_of h1)), fun H e => hl ▸ w.stops H (ex_l e (sq_of h1)), fun i H x H' hi e y => ?_⟩⟩
  obtain ⟨rfl, hx⟩ := w.yields i H x H' (by omega) (ex_l e (sq_of h1)) y
  obtain ⟨b, hb, hon⟩ := map_at h2 hx
  exact ⟨b, hb, fun G' e1 e2 => ⟨G', Fr.refl e2, (c b).up e1 hon⟩⟩
theorem ei_tup {α : Type} {l : List α} {c : α → Pr} (h : EvP tl σ G (pTup K (l.map c))) : EvI (iTup K tl) σ G l c := fun H0 e R k => h H0 e _ fun v H1 G1 f1 hv => by
  obtain ⟨a, xs, rfl, h1, h2⟩ := hv
  have hl : xs.length = l.length := by rw [h2.len, List.length_map]
  have w : Walk (Itt K a) xs.length (fun H => SqT K H a xs) (YAt xs) := walk_tup
  refine ⟨a, rfl, ⟨xs, ex_t f1.k h1⟩, k _ H1 G1 f1 ⟨fun i H hi e => w.goes i H (by omega) (ex_t e h1), fun H e => hl ▸ w.stops H (ex_t e h1), fun i H x H' hi e y => ?_⟩⟩
  obtain ⟨rfl, hx⟩ := w.yields i H x H' (by omega) (ex_t e h1) y
  obtain ⟨b, hb, hon⟩ := map_at h2 hx
  exact ⟨b, hb, fun G' e1 e2 => ⟨G', Fr.refl e2, (c b).up e1 hon⟩⟩
theorem range_at {n i : Nat} (h : i < n) : (List.range n)[i]? = some i := by rw [List.getElem?_range h]
theorem ei_range {ta : TA} {n : Nat} (h : EvA ta σ G [.int n]) (hn : n ≤ 1000000) : EvI (iRng1 ta) σ G (List.range n) (fun i => pV (.int (i : Nat))) := fun H0 e R k => h H0 e _ fun H1 e1 => by
  refine ⟨n, rfl, by omega, by omega, k _ H1 G (Fr.same e e1) ⟨fun i H hi _ => ?_, fun H _ => ?_, fun i H x H' hi _ y => ?_⟩⟩
  · rw [List.length_range] at hi
    exact hi
  · rw [List.length_range]
    exact Nat.le_refl _
  · rw [List.length_range] at hi
    obtain ⟨rfl, rfl⟩ := y
    exact ⟨i, range_at hi, fun G' _ e2 => ⟨G', Fr.refl e2, by show V.int _ = V.int _; rw [Int.zero_add]⟩⟩
/-- range(lo, hi), lo not above hi -/
theorem ei_range2 {ta : TA} {lo n : Nat} (h : EvA ta σ G [.int lo, .int (lo + n : Nat)]) (hn : lo + n ≤ 1000000) : EvI (iRng2 ta) σ G (List.range n) (fun i => pV (.int (lo + i : Nat))) := fun H0 e R k => h H0 e _ fun H1 e1 => by
  have en : ((lo + n : Nat) - (lo : Nat) : Int).toNat = n := by omega
  refine ⟨lo, (lo + n : Nat), rfl, by omega, k _ H1 G (Fr.same e e1) ?_⟩
  rw [en]
  refine ⟨fun i H hi _ => ?_, fun H _ => ?_, fun i H x H' hi _ y => ?_⟩
  · rw [List.length_range] at hi
    exact hi
  · rw [List.length_range]
    exact Nat.le_refl _
  · rw [List.length_range] at hi
    obtain ⟨rfl, rfl⟩ := y
    exact ⟨i, range_at hi, fun G' _ e2 => ⟨G', Fr.refl e2, by show V.int _ = V.int _; simp⟩⟩
theorem ei_str {s : Str} (h : Ev ts σ G (.str s)) : EvI (iStr ts) σ G s.cps.toList (fun c => pV (.str ⟨#[c]⟩)) := fun H0 e R k => h H0 e _ fun H1 e1 => by
  refine ⟨s, rfl, k _ H1 G (Fr.same e e1) ⟨fun i H hi _ => ?_, fun H _ => ?_, fun i H x H' hi _ y => ?_⟩⟩
  · rw [Array.length_toList] at hi
    exact hi
  · rw [Array.length_toList]
    exact Nat.le_refl _
  · obtain ⟨rfl, c, hc, rfl⟩ := y
    exact ⟨c, by simpa using hc, fun G' _ e2 => ⟨G', Fr.refl e2, rfl⟩⟩
theorem pair_on {T : Addr} {x y : V} {c d : Pr} {G' H : Hp} (e : Ex G' H) (hT : H T = none) (hx : c.on G' x) (hy : d.on G' y) : Fr G' H (upd G' T (.tup [x, y])) (upd H T (.tup [x, y])) ∧ (pTup K [c, d]).on (upd G' T (.tup [x, y])) (.ref T) :=
  ⟨Fr.new e hT, T, _, rfl, st_of upd_same, c.up (Ex.new (fresh_back e hT)) hx, d.up (Ex.new (fresh_back e hT)) hy, trivial⟩
/-- enumerate(list): each with its place -/
theorem ei_enum {α : Type} {l : List α} {c : α → Pr} {ta : TA} (h : EvPs ta σ G [pLst K (l.map c)]) : EvI (iEnum K ta) σ G l.zipIdx (fun x => pTup K [pV (.int (x.2 : Nat)), c x.1]) := fun H0 e R k => h H0 e _ fun vs H1 G1 f1 hv => by
  obtain ⟨v, rfl, a, xs, rfl, h1, h2⟩ := hv.one
  have hl : xs.length = l.length := by rw [h2.len, List.length_map]
  have w : Walk (Ite K a) xs.length (fun H => SqL K H a xs) (YPair (fun i => some (.int (i : Nat))) (fun i => xs[i]?)) := walk_enum
  refine ⟨a, xs, rfl, ex_l f1.k (sq_of h1), k _ H1 G1 f1 ⟨fun i H hi e => w.goes i H (by rw [List.length_zipIdx] at hi; omega) (ex_l e (sq_of h1)), fun H e => by rw [List.length_zipIdx, ← hl]; exact w.stops H (ex_l e (sq_of h1)), fun i H x H' hi e y => ?_⟩⟩
  rw [List.length_zipIdx] at hi
  obtain ⟨T, x', y', rfl, hT, rfl, h3, h4⟩ := w.yields i H x H' (by omega) (ex_l e (sq_of h1)) y
  obtain ⟨b, hb, hon⟩ := map_at h2 h4
  cases h3
  exact ⟨(b, i), by rw [List.getElem?_zipIdx, hb]; simp, fun G' e1 e2 => ⟨_, pair_on e2 hT rfl ((c b).up e1 hon)⟩⟩
/-- enumerate(zip(a, b)) of two texts of one length -/
theorem ei_ez {ta : TA} {a b : Str} (h : EvA ta σ G [.str a, .str b]) (hl : a.cps.size = b.cps.size) :
    EvI (iEz ta) σ G (a.cps.toList.zip b.cps.toList).zipIdx (fun x => pTup K [pV (.int (x.2 : Nat)), pTup K [pV (.str ⟨#[x.1.1]⟩), pV (.str ⟨#[x.1.2]⟩)]]) := fun H0 e R k => h H0 e _ fun H1 e1 => by
  have hl2 : ((a.cps.toList.zip b.cps.toList).zipIdx).length = a.cps.size := by
    rw [List.length_zipIdx, List.length_zip, Array.length_toList, Array.length_toList]
    omega
  refine ⟨a, b, rfl, hl, k _ H1 G (Fr.same e e1) ⟨fun i H hi _ => ?_, fun H _ => ?_, fun i H x H' hi _ y => ?_⟩⟩
  · rw [hl2] at hi
    exact hi
  · rw [hl2]
    rfl
  · obtain ⟨T, U, c, d, rfl, hT, hU, hn, rfl, h1, h2⟩ := y
    refine ⟨((c, d), i), ?_, fun G' _ e2 => ?_⟩
    · rw [List.getElem?_zipIdx, List.getElem?_zip_eq_some (z := (c, d)) |>.mpr ⟨by simpa using h1, by simpa using h2⟩]
      simp
    · have p1 := pair_on (K := K) (c := pV (.str ⟨#[c]⟩)) (d := pV (.str ⟨#[d]⟩)) e2 hT rfl rfl
      have p2 := pair_on (K := K) (T := U) (x := .int (i : Nat)) (c := pV (.int (i : Nat))) p1.1.k (by rw [upd_ne hn]; exact hU) rfl p1.2
      exact ⟨_, p1.1.trans p2.1, p2.2⟩
/-! ### targets -/
def Tg (g : TG) (p : Pr) (σ : L2.St) (F : Hp → L2.St → Prop) : Prop := ∀ G x H, p.on G x → Ex G H → ∀ k : L2.St → Hp → Prop, (∀ σ', F G σ' → k σ' H) → g x σ H k
theorem tg_name {j : Nat} : Tg (gName j) p σ (fun G σ' => ∃ x, p.on G x ∧ σ' = σ.set j (some x)) := fun G x H hx e k q => q _ ⟨x, hx, rfl⟩
theorem tg_pair {i j : Nat} : Tg (gTup K 2 (gCons (gName i) (gCons (gName j) gNil))) (pTup K [p, q]) σ (fun G σ' => ∃ x y, p.on G x ∧ q.on G y ∧ σ' = (σ.set i (some x)).set j (some y)) := fun G v H hv e k r => by
  obtain ⟨a, xs, rfl, h1, h2⟩ := hv
  obtain ⟨x, y, rfl, h3, h4⟩ := h2.two
  exact ⟨a, [x, y], rfl, ex_t e h1, rfl, x, [y], rfl, y, [], rfl, rfl, r _ ⟨x, y, h3, h4, rfl⟩⟩
theorem tg_pairB {i j m : Nat} {p2 : Pr} : Tg (gTup K 2 (gCons (gName i) (gCons (gTup K 2 (gCons (gName j) (gCons (gName m) gNil))) gNil))) (pTup K [p, pTup K [q, p2]]) σ (fun G σ' => ∃ x y z, p.on G x ∧ q.on G y ∧ p2.on G z ∧ σ' = ((σ.set i (some x)).set j (some y)).set m (some z)) := fun G v H hv e k r => by
  obtain ⟨a, xs, rfl, h1, h2⟩ := hv
  obtain ⟨x, w, rfl, h3, h4⟩ := h2.two
  obtain ⟨b, ys, rfl, h5, h6⟩ := h4
  obtain ⟨y, z, rfl, h7, h8⟩ := h6.two
  exact ⟨a, _, rfl, ex_t e h1, rfl, x, _, rfl, _, [], rfl, ⟨b, _, rfl, ex_t e h5, rfl, y, _, rfl, z, [], rfl, rfl, rfl, r _ ⟨x, y, z, h3, h7, h8, rfl⟩⟩⟩
/-- [e for target in it if t] -/
theorem en_lc {α : Type} {wi : TI} {g : TG} {l : List α} {c : α → Pr} {F : α → Hp → L2.St → Prop} (f : α → Bool) (d : α → Pr) (h : EvI wi σ G l c) (hg : ∀ a, Tg g (c a) (wipe σ vs) (F a)) (hz : l.length < 100000) (hw : ∀ a G σ', F a G σ' → wipe σ' vs = wipe σ vs)
    (ht : ∀ a σ' G1, a ∈ l → Ex G G1 → F a G1 σ' → EvT t σ' G1 (f a)) (he : ∀ a σ' G1, a ∈ l → f a = true → Ex G G1 → F a G1 σ' → EvP te σ' G1 (d a)) :
    EvN (tLc wi g t te vs) σ G ((l.filter f).map d) := fun H0 e Q k => h H0 e _ fun J H1 G1 f1 w D hD => by
  refine lc_it w.walk (fun i H' => Cp G1 H1 D (((l.take i).filter f).map d) H') (Cp.ini f1.k hD) (fun i H' _ hc => ?_) (fun i x H2 H3 hi hc y => ?_) (fun H' hc => ?_)
  · obtain ⟨G', _, g, _⟩ := hc
    exact g.g.trans g.k
  · obtain ⟨a, hla, hy⟩ := y
    have hm := List.mem_of_getElem? hla
    obtain ⟨G', xs, g1, g2, g3, g4, g5⟩ := hc
    obtain ⟨G3, f3, hx⟩ := hy G' g1.g g1.k
    have hc3 : Cp G1 H1 D (((l.take i).filter f).map d) H3 := ⟨G3, xs, g1.trans f3, g2, f3.n D g3 (by rw [g4]; exact fun c => nomatch c), f3.h D _ g4, g5.up f3.g⟩
    refine hg a G3 x H3 hx f3.k _ fun σ' hσ => ⟨hw a G3 σ' hσ, ?_⟩
    rw [take_snoc hla, filt_snoc]
    have hz' := filt_len f d l i
    have eG : Ex G G3 := f1.g.trans (g1.g.trans f3.g)
    refine (ht a σ' G3 hm eG hσ) H3 f3.k _ fun H4 e4 => ?_
    have f4 : Fr G3 H3 G3 H4 := Fr.same f3.k e4
    have hD4 : H4 D = some (.lst xs) := e4 D _ (f3.h D _ g4)
    have hG3 : G3 D = none := f3.n D g3 (by rw [g4]; exact fun c => nomatch c)
    cases hb : f a with
    | false => exact ⟨G3, xs, (g1.trans f3).trans f4, g2, hG3, hD4, g5.up f3.g⟩
    | true =>
      refine (he a σ' G3 hm hb eG hσ) H4 f4.k _ fun y H5 G5 f5 hy => ⟨xs, f5.h D _ hD4, sz_lt (by rw [g5.len]; omega), G5, xs ++ [y], ?_, g2, f5.n D hG3 (by rw [hD4]; exact fun c => nomatch c), upd_same, (g5.up (f3.g.trans f5.g)).app ⟨hy, trivial⟩⟩
      have g := (((g1.trans f3).trans f4).trans f5)
      refine ⟨g.g, Ex.mut g.h g2, fun u o hu => ?_, g.n⟩
      have : u ≠ D := fun c => by
        subst c
        rw [f5.n u hG3 (by rw [hD4]; exact fun c => nomatch c)] at hu
        cases hu
      rw [upd_ne this]
      exact g.k u o hu
  · rw [List.take_length] at hc
    exact hc.done fun p xs H2 G2 f2 hp1 hp2 => k p xs H2 G2 (f1.trans f2) (fresh_back f1.h hp1) hp2
end
end OP

namespace OP
open PySem PySem.Spec PyProof.Rows L2 Evl
variable {K : PySem.W.Frag}
/-! ### promises of defs -/
/-- a def that computes a datum -/
def spF (A : List Pr → Pr → Prop) : Sp := fun vs H Q _ => ∃ G ps p, A ps p ∧ Ex G H ∧ Al G ps vs ∧ ∀ v H2 G2, Fr G H G2 H2 → p.on G2 v → Q v H2
/-- a def that makes a new list -/
def spN (A : List Pr → List Pr → Prop) : Sp := fun vs H Q _ => ∃ G ps qs, A ps qs ∧ Ex G H ∧ Al G ps vs ∧ ∀ p xs H2 G2, Fr G H G2 H2 → H p = none → G2 p = none → H2 p = some (.lst xs) → Al G2 qs xs → Q (.ref p) H2
section
variable {σ : L2.St} {G G' H H' : Hp} {ta tb te tx ts tl : TE} {t u : TT} {x y z v : V} {p q : Pr} {ps qs : List Pr} {i j : Nat} {vs : List Nat} {D : Ends} {tu tz : TS} {E : XK}
theorem ep_call {A : List Pr → Pr → Prop} {ta : TA} (h : EvPs ta σ G ps) (a : A ps p) : EvP (tCall (spF A) [] E ta) σ G p := fun H1 e Q k => h H1 e _ fun vs H2 G2 f hvs =>
  ⟨G2, ps, p, a, f.k, by rw [List.append_nil]; exact hvs, fun v H3 G3 f3 hv => k v H3 G3 (f.trans f3) hv⟩
theorem en_call {A : List Pr → List Pr → Prop} {ta : TA} (h : EvPs ta σ G ps) (a : A ps qs) : EvN (tCall (spN A) [] E ta) σ G qs := fun H1 e Q k => h H1 e _ fun vs H2 G2 f hvs =>
  ⟨G2, ps, qs, a, f.k, by rw [List.append_nil]; exact hvs, fun p xs H3 G3 f3 hp => k p xs H3 G3 (f.trans f3) (fresh_back f.h hp)⟩
/-! ### statements -/
theorem s_retP {Q : VK} (e : Ex G H) (h : EvP te σ G p) (k : ∀ v H2 G2, Fr G H G2 H2 → p.on G2 v → D.rt v H2) : tRet te D σ H := h H e _ fun v H2 G2 f hv => k v H2 G2 f hv
theorem s_retN {Q : VK} (e : Ex G H) (h : EvN te σ G ps) (k : ∀ p xs H2 G2, Fr G H G2 H2 → H p = none → G2 p = none → H2 p = some (.lst xs) → Al G2 ps xs → D.rt (.ref p) H2) : tRet te D σ H := h H e _ fun p xs H2 G2 f h1 h2 h3 h4 => k p xs H2 G2 f h1 h2 h3 h4
theorem q_asgP (e : Ex G H) (h : EvP te σ G p) (k : ∀ v H2 G2, Fr G H G2 H2 → p.on G2 v → tz D (σ.set i (some v)) H2) : tSeq (tAsg te (gName i)) tz D σ H := h H e _ fun v H2 G2 f hv => k v H2 G2 f hv
theorem s_asgP (e : Ex G H) (h : EvP te σ G p) (k : ∀ v H2 G2, Fr G H G2 H2 → p.on G2 v → D.nx (σ.set i (some v)) H2) : tAsg te (gName i) D σ H := h H e _ fun v H2 G2 f hv => k v H2 G2 f hv
theorem q_asgN (e : Ex G H) (h : EvN te σ G ps) (k : ∀ p xs H2 G2, Fr G H G2 H2 → H p = none → G2 p = none → H2 p = some (.lst xs) → Al G2 ps xs → tz D (σ.set i (some (.ref p))) H2) : tSeq (tAsg te (gName i)) tz D σ H := h H e _ fun p xs H2 G2 f h1 h2 h3 h4 => k p xs H2 G2 f h1 h2 h3 h4
theorem s_asgN (e : Ex G H) (h : EvN te σ G ps) (k : ∀ p xs H2 G2, Fr G H G2 H2 → H p = none → G2 p = none → H2 p = some (.lst xs) → Al G2 ps xs → D.nx (σ.set i (some (.ref p))) H2) : tAsg te (gName i) D σ H := h H e _ fun p xs H2 G2 f h1 h2 h3 h4 => k p xs H2 G2 f h1 h2 h3 h4
theorem q_dropP (e : Ex G H) (h : EvP te σ G p) (k : ∀ v H2 G2, Fr G H G2 H2 → p.on G2 v → tz D σ H2) : tSeq (tDrop te) tz D σ H := h H e _ fun v H2 G2 f hv => k v H2 G2 f hv
theorem q_whenP {b : Bool} (e : Ex G H) (h : EvT t σ G b) (h1 : b = true → ∀ H1, Fr G H G H1 → tu { D with nx := tz D } σ H1) (h2 : b = false → ∀ H1, Fr G H G H1 → tz D σ H1) : tSeq (tIfS t tu tNext) tz D σ H :=
  q_when (h.mono e) (fun hb H1 e1 => h1 hb H1 (Fr.same e e1)) (fun hb H1 e1 => h2 hb H1 (Fr.same e e1))
theorem s_whenP {b : Bool} (e : Ex G H) (h : EvT t σ G b) (h1 : b = true → ∀ H1, Fr G H G H1 → tu D σ H1) (h2 : b = false → ∀ H1, Fr G H G H1 → D.nx σ H1) : tIfS t tu tNext D σ H :=
  s_when (h.mono e) (fun hb H1 e1 => h1 hb H1 (Fr.same e e1)) (fun hb H1 e1 => h2 hb H1 (Fr.same e e1))
/-- a list of our own, made since (G, H), that may still grow -/
structure Cq (G H : Hp) (a : Addr) (ps : List Pr) (G' H' : Hp) : Prop where
  f : Fr G H G' H'
  new : H a = none
  out : G' a = none
  at_ : ∃ xs, H' a = some (.lst xs) ∧ Al G' ps xs
theorem Cq.of {a : Addr} {xs : List V} (f : Fr G H G' H') (h1 : H a = none) (h2 : G' a = none) (h3 : H' a = some (.lst xs)) (h4 : Al G' ps xs) : Cq G H a ps G' H' := ⟨f, h1, h2, xs, h3, h4⟩
theorem Cq.go {a : Addr} {G2 H2 : Hp} (c : Cq G H a ps G' H') (f : Fr G' H' G2 H2) : Cq G H a ps G2 H2 := by
  obtain ⟨f1, h1, h2, xs, h3, h4⟩ := c
  exact ⟨f1.trans f, h1, f.n a h2 (by rw [h3]; exact fun c => nomatch c), xs, f.h a _ h3, h4.up f.g⟩
theorem Cq.k {a : Addr} (c : Cq G H a ps G' H') : Ex G' H' := c.f.k
/-- known from now on -/
theorem Cq.known {a : Addr} (c : Cq G H a ps G' H') : ∃ G2, Fr G H G2 H' ∧ Ex G' G2 ∧ (pLst K ps).on G2 (.ref a) := by
  obtain ⟨f1, h1, h2, xs, h3, h4⟩ := c
  obtain ⟨e1, e2⟩ := Fr.freeze f1.k h2 h3
  refine ⟨upd G' a (.lst xs), ⟨f1.g.trans e1, f1.h, e2, fun b hb1 hb2 => ?_⟩, e1, a, xs, rfl, upd_same, h4.up e1⟩
  have : b ≠ a := fun c => by subst c; exact hb2 h1
  rw [upd_ne this]
  exact f1.n b hb1 hb2
theorem Cq.add {a : Addr} {xs : List V} (c : Cq G H a ps G' H') (h3 : H' a = some (.lst xs)) (hv : p.on G' v) : Cq G H a (ps ++ [p]) G' (upd H' a (.lst (xs ++ [v]))) := by
  obtain ⟨f1, h1, h2, xs', h3', h4⟩ := c
  rw [h3] at h3'
  cases h3'
  refine ⟨⟨f1.g, Ex.mut f1.h h1, fun b o hb => ?_, f1.n⟩, h1, h2, xs ++ [v], upd_same, h4.app ⟨hv, trivial⟩⟩
  have : b ≠ a := fun c => by
    subst c
    rw [h2] at hb
    cases hb
  rw [upd_ne this]
  exact f1.k b o hb
/-- x.append(e) -/
theorem s_addP {a : Addr} {G0 H0 : Hp} (c : Cq G0 H0 a ps G H) (hv : σ[i]? = some (some (.ref a))) (h : EvP te σ G p) (hz : ps.length < 100000) (k : ∀ H2 G2, Cq G0 H0 a (ps ++ [p]) G2 H2 → Ex G G2 → D.nx σ H2) : tDrop (tBM K "list" rAppend (tVar i) (tCons te tNil)) D σ H := by
  obtain ⟨ys, h1, _⟩ := c.at_
  refine ⟨.ref a, hv, Or.inl ⟨rfl, ys, sq_of h1⟩, h H c.k _ fun v H2 G2 f hp => ?_⟩
  have c2 := c.go f
  obtain ⟨xs, h3, h4⟩ := c2.at_
  exact ⟨a, xs, v, rfl, rfl, h3, sz_lt (by rw [h4.len]; exact hz), k _ G2 (c2.add h3 hp) f.g⟩
theorem q_addP {a : Addr} {G0 H0 : Hp} (c : Cq G0 H0 a ps G H) (hv : σ[i]? = some (some (.ref a))) (h : EvP te σ G p) (hz : ps.length < 100000) (k : ∀ H2 G2, Cq G0 H0 a (ps ++ [p]) G2 H2 → Ex G G2 → tz D σ H2) : tSeq (tDrop (tBM K "list" rAppend (tVar i) (tCons te tNil))) tz D σ H :=
  s_addP (D := { D with nx := tz D }) c hv h hz k
/-- behind a turn: what is known has grown, the invariant holds -/
def Nx (Gb : Hp) (Pv : L2.St → Hp → Hp → Prop) : L2.St → Hp → Prop := fun σ H => ∃ G, Ex Gb G ∧ Ex G H ∧ Pv σ G H
/-- for target in it -/
theorem s_forP {α : Type} {wi : TI} {g : TG} {l : List α} {c : α → Pr} {F : α → L2.St → Hp → L2.St → Prop} (e : Ex G H) (h : EvI wi σ G l c) (hg : ∀ a σ', Tg g (c a) σ' (F a σ')) (Pv : Nat → L2.St → Hp → Hp → Prop)
    (h0 : ∀ H2 G2, Fr G H G2 H2 → Pv 0 σ G2 H2) (hst : ∀ i σ' G1 H1 G2 H2, Pv i σ' G1 H1 → Ex G1 H1 → Fr G1 H1 G2 H2 → Pv i σ' G2 H2)
    (hs : ∀ i a σ' Gb G1 H1 σ2, l[i]? = some a → Ex G Gb → Ex Gb G1 → Ex G1 H1 → Pv i σ' G1 H1 → F a σ' G1 σ2 → tu { D with nx := Nx Gb (Pv (i + 1)), ct := Nx Gb (Pv (i + 1)), bk := D.nx } σ2 H1)
    (hd : ∀ σ' G1 H1, Ex G G1 → Ex G1 H1 → Pv l.length σ' G1 H1 → D.nx σ' H1) : tFor wi g tu D σ H := h H e _ fun J H2 G2 f w =>
  for_it w.walk (fun i => Nx G2 (Pv i)) ⟨G2, Ex.refl G2, f.k, h0 H2 G2 f⟩ (fun i σ' H' _ hp => by
    obtain ⟨G1, e1, e2, _⟩ := hp
    exact e1.trans e2) (fun i x σ' H1 H3 hi hp y => by
    obtain ⟨G1, e1, e2, hp⟩ := hp
    obtain ⟨a, hla, hy⟩ := y
    obtain ⟨G3, f3, hx⟩ := hy G1 e1 e2
    exact hg a σ' G3 x H3 hx f3.k _ fun σ2 hσ => hs i a σ' G2 G3 H3 σ2 hla f.g (e1.trans f3.g) f3.k (hst i σ' G1 H1 G3 H3 hp e2 f3) hσ) (fun σ' H' hp => by
    obtain ⟨G1, e1, e2, hp⟩ := hp
    exact hd σ' G1 H' (f.g.trans e1) e2 hp)
theorem q_forP {α : Type} {wi : TI} {g : TG} {l : List α} {c : α → Pr} {F : α → L2.St → Hp → L2.St → Prop} (e : Ex G H) (h : EvI wi σ G l c) (hg : ∀ a σ', Tg g (c a) σ' (F a σ')) (Pv : Nat → L2.St → Hp → Hp → Prop)
    (h0 : ∀ H2 G2, Fr G H G2 H2 → Pv 0 σ G2 H2) (hst : ∀ i σ' G1 H1 G2 H2, Pv i σ' G1 H1 → Ex G1 H1 → Fr G1 H1 G2 H2 → Pv i σ' G2 H2)
    (hs : ∀ i a σ' Gb G1 H1 σ2, l[i]? = some a → Ex G Gb → Ex Gb G1 → Ex G1 H1 → Pv i σ' G1 H1 → F a σ' G1 σ2 → tu { D with nx := Nx Gb (Pv (i + 1)), ct := Nx Gb (Pv (i + 1)), bk := tz D } σ2 H1)
    (hd : ∀ σ' G1 H1, Ex G G1 → Ex G1 H1 → Pv l.length σ' G1 H1 → tz D σ' H1) : tSeq (tFor wi g tu) tz D σ H := s_forP (D := { D with nx := tz D }) e h hg Pv h0 hst hs hd
/-! ### more readings -/
/-- all, any of a new list of truth values -/
theorem ev_allP {bs : List Bool} (h : EvP ta σ G (pLst K (bs.map fun b => pV (.bl b)))) : Ev (tCB (rAll K) (tCons ta tNil)) σ G (.bl (bs.all id)) := fun H1 e Q k => h H1 e _ fun v H2 G2 f hv => by
  obtain ⟨a, xs, rfl, h1, h2⟩ := hv
  have ex : ∀ (bs : List Bool) (xs : List V), Al G2 (bs.map fun b => pV (.bl b)) xs → xs = bs.map V.bl := fun bs => by
    induction bs with
    | nil => exact fun xs h => Al.nil h
    | cons b r ih =>
      intro xs h
      obtain ⟨x, t, rfl, h3, h4⟩ := Al.uncons h
      rw [show x = V.bl b from h3, ih t h4]
      rfl
  rw [ex bs xs h2] at h1
  exact ⟨a, bs, rfl, ex_l f.k (sq_of h1), k H2 f.h⟩
theorem ev_anyP {bs : List Bool} (h : EvP ta σ G (pLst K (bs.map fun b => pV (.bl b)))) : Ev (tCB (rAny K) (tCons ta tNil)) σ G (.bl (bs.any id)) := fun H1 e Q k => h H1 e _ fun v H2 G2 f hv => by
  obtain ⟨a, xs, rfl, h1, h2⟩ := hv
  have ex : ∀ (bs : List Bool) (xs : List V), Al G2 (bs.map fun b => pV (.bl b)) xs → xs = bs.map V.bl := fun bs => by
    induction bs with
    | nil => exact fun xs h => Al.nil h
    | cons b r ih =>
      intro xs h
      obtain ⟨x, t, rfl, h3, h4⟩ := Al.uncons h
      rw [show x = V.bl b from h3, ih t h4]
      rfl
  rw [ex bs xs h2] at h1
  exact ⟨a, bs, rfl, ex_l f.k (sq_of h1), k H2 f.h⟩
/-- g.join(list of texts) -/
theorem al_strs : ∀ {ss : List Str} {xs : List V}, Al G (ss.map fun s => pV (.str s)) xs → xs = ss.map V.str
  | [], xs, h => Al.nil h
  | s :: r, xs, h => by
    obtain ⟨x, t, rfl, h3, h4⟩ := Al.uncons h
    rw [show x = V.str s from h3, al_strs h4]
    rfl
theorem al_ints : ∀ {ss : List Int} {xs : List V}, Al G (ss.map fun s => pV (.int s)) xs → xs = ss.map V.int
  | [], xs, h => Al.nil h
  | s :: r, xs, h => by
    obtain ⟨x, t, rfl, h3, h4⟩ := Al.uncons h
    rw [show x = V.int s from h3, al_ints h4]
    rfl
end
end OP

/-! PreOwn: == and != of instances by an own __eq__; data in a tuple; instances as data (pObj), their fields, properties, methods, making. -/
namespace OP
open PySem PySem.Spec PyProof.Rows L2 Evl
theorem ns_at {K : PySem.W.Frag} {h : Heap} {N : Addr} {mg : Str → Option Value} {n : Str} {v : Value} (X : K.In h) (G : h.Ns N mg) (e : PySem.W.nsIn K N n = some (some v)) : mg n = some v := by
  obtain ⟨o, es, ep, ho, hd, _, hf⟩ := G
  unfold PySem.W.nsIn at e
  split at e
  · rename_i c d es' n' sl q
    have := X _ _ q
    rw [this] at ho
    cases ho
    cases hd
    split at e
    · rename_i e' he
      cases e
      rw [← hf]
      unfold nsFind findBy
      rw [← Array.find?_toList, he]
      rfl
    · split at e <;> cases e
  · cases e
/-- instances of the class at C: what isinstance asks -/
structure InsT (K : PySem.W.Frag) (C : Addr) : Prop where
  ha : PySem.W.findIn K (.ref C) "__class__" = some (some (.builtin "object.__class__"))
  hn : PySem.W.specialIn K (.builtin "object.__class__") "__get__" = some (some (.builtin "getset_descriptor.__get__"))
  htk : PySem.W.takesIn K (.builtin "object.__class__") = some true
  hm : PySem.W.mroIn K C (.type "object") = some true
def keysOk (es : Array DictEntry) : Bool := es.toList.all fun e => match e.key with | .str _ _ => true | _ => false
theorem nsOk_of {K : PySem.W.Frag} {N : Addr} {c : Value} {d : Option Addr} {es : Array DictEntry} {n : Nat} {sl : Array (Option Value)} (h : K.lookup N = some ⟨c, d, .dict es n, sl⟩) (k : keysOk es = true) : PySem.W.nsOkIn K N = true := by
  unfold PySem.W.nsOkIn
  rw [h]
  unfold keysOk at k
  rw [Array.all_toList] at k
  exact k
/-- the class at C has __eq__ at f, no __ne__, and object alone above it -/
structure OwnE (K : PySem.W.Frag) (C f : Addr) : Prop where
  cls : ∃ (nm q : Str) (N : Addr) (bs : List Value) (hdct : Bool) (sn : List Str) (sub : List Value) (ab : Bool) (col : Option Bool) (dd : Option Addr) (k0 k1 k2 k3 k5 : Option Value) (newId : String),
    K.lookup C = some (excClassObj nm q C N bs [.type "object"] hdct sn sub ab col dd k0 k1 k2 k3 k5 newId) ∧ PySem.W.nsOkIn K N = true ∧ PySem.W.nsIn K N "__eq__" = some (some (.ref f)) ∧ PySem.W.nsIn K N "__ne__" = some none
  fo : ∃ of, K.lookup f = some of ∧ of.cls = .type "function"
  at_ : PySem.W.findIn K (.ref C) "__eq__" = some (some (.ref f))
  fn : PySem.W.isFn K (.ref f) = true
section
variable {X : Cx} {CX : CXT} {n : Nat} {C f : Addr} {fd : FuncData} {ps : List Str} {sp : Sp} {E : XK}
def rOwnE (C : Addr) (sp : Sp) (E : XK) (neg : Bool) : R2 := fun x y H Q => ∃ a dx fs b dy gs, x = .ref a ∧ y = .ref b ∧ H a = some (.ins C dx fs) ∧ H b = some (.ins C dy gs) ∧
  sp [x, y] H (fun v H' => ∃ c, v = .bl c ∧ Q (.bl (if neg then !c else c)) H') E
theorem op_ownEq (O : OwnE X.K C f) (F : FnOk X.prog X.w X.K X.mg X.base CX n f fd ps sp) (hr : Room n X.A) (hb : Binds X.K fd ps []) (hx : Passes CX X E) : OpR X (compareOp .Eq) (rOwnE C sp E false) := by
  intro pins s σ H x y v u Q I rx ry h
  obtain ⟨a, dx, fs, b, dy, gs, rfl, rfl, ha, hbb, q⟩ := h
  cases rx
  cases ry
  obtain ⟨mA, J, _⟩ := ins_get I.hok ha
  obtain ⟨mB, J', _⟩ := ins_get I.hok hbb
  obtain ⟨od, J, _⟩ := J.look
  obtain ⟨od', J', _⟩ := J'.look
  obtain ⟨m, hF⟩ := I.fr
  unfold compareOp
  refine PySem.W.cmp_K (op := .Eq) (tb := .ref C) hr.units0 hF I.ok.mod.kin J J'.type (by simp [PySem.W.notFirst]) O.at_ O.fn ?_
  refine wpAny_mono (run_fn (us := [.ref a, .ref b]) (vs := [.ref a, .ref b]) (dvs := []) F hr hb .nil hx I (.cons rfl (.cons rfl .nil)) q) (fun w s' z => ?_) fun _ _ x => x
  obtain ⟨z', H', I', rz, c, rfl, qz⟩ := z
  cases rz
  exact ⟨.bl c, H', I', rfl, qz⟩
theorem op_ownNe (O : OwnE X.K C f) (F : FnOk X.prog X.w X.K X.mg X.base CX n f fd ps sp) (hr : Room (n + 1) X.A) (hb : Binds X.K fd ps []) (hx : Passes CX X E) : OpR X (compareOp .NotEq) (rOwnE C sp E true) := by
  intro pins s σ H x y v u Q I rx ry h
  obtain ⟨a, dx, fs, b, dy, gs, rfl, rfl, ha, hbb, q⟩ := h
  cases rx
  cases ry
  obtain ⟨mA, J, _⟩ := ins_get I.hok ha
  obtain ⟨mB, J', _⟩ := ins_get I.hok hbb
  obtain ⟨od, J, _⟩ := J.look
  obtain ⟨od', J', _⟩ := J'.look
  obtain ⟨⟨nm, q', N, bs, hdct, sn, sub, ab, col, dd, k0, k1, k2, k3, k5, newId, hC, hN, he, hne⟩, ⟨of, hfo, hfc⟩, _, _⟩ := O
  have KI := I.kIn
  have Y : s.heap.OwnEqNoNe a C f "object" [.type "object"] := by
    refine ⟨_, of, nm, q', N, bs, hdct, sn, sub, ab, col, dd, k0, k1, k2, k3, k5, newId, s.heap.nsMap N, _, J.at_, J.cls, KI _ _ hC, .of_isNs (PySem.W.isNs_of_in KI hN), ns_at KI (.of_isNs (PySem.W.isNs_of_in KI hN)) he, KI _ _ hfo, hfc, PySem.F.mro_object, PySem.F.cmp_object.eq.lookup, PySem.W.nsMap_none_of_in KI hN hne⟩
  obtain ⟨hh, g, d, t, os⟩ := s
  refine compareOp_ne_ownEq PySem.F.cmp_object Y J'.at_ J'.cls (by have := hr.units; omega) ?_
  refine wpAny_call (codeAny_mono (F.run X.A.in1 X.stack _ H ⟨[.ref a, .ref b], []⟩ [.ref a, .ref b] [.ref a, .ref b] _ E hr.in1 I.env0.in1 (by
    have hl := F.len _ _ _ _ q
    have := hb _ [.ref a, .ref b] KI (by simpa using hl)
    simpa using this) (.cons rfl (.cons rfl .nil)) q) fun r s' hq => ?_)
  cases r with
  | error e => exact hx pins σ H _ e s' I hq
  | ok fl =>
    cases fl with
    | ret w =>
      obtain ⟨z, H', I', rz, c, rfl, qz⟩ := I.after hq
      cases rz
      exact ⟨c, rfl, .bl (!c), H', I', rfl, qz⟩
    | next => exact False.elim hq
    | brk => exact False.elim hq
    | cont => exact False.elim hq
/-- x in (..), x not in (..), data of any depth -/
def rInT (K : PySem.W.Frag) : R2 := fun x y H Q => ∃ d ds, Dp K H x d ∧ Dp K H y (.tuple ds) ∧ SeqAt.shaped d = true ∧ SeqAt.shaped (.tuple ds) = true ∧ Q (.bl (ds.any fun z => PyData.eqv z d)) H
def rNotInT (K : PySem.W.Frag) : R2 := fun x y H Q => ∃ d ds, Dp K H x d ∧ Dp K H y (.tuple ds) ∧ SeqAt.shaped d = true ∧ SeqAt.shaped (.tuple ds) = true ∧ Q (.bl (!ds.any fun z => PyData.eqv z d)) H
theorem op_inT (hu : X.A.units + 65 < cLine) : OpR X (compareOp .In) (rInT X.K) := by
  intro pins s σ H x y v u Q I rx ry h
  obtain ⟨d, ds, hd, he, sd, se, q⟩ := h
  obtain ⟨as, r1⟩ := Dp.reads I d x v hd rx
  obtain ⟨bs, r2⟩ := Dp.reads I (.tuple ds) y u he ry
  exact SeqAt.in_tuple_reads r2 r1 (SeqAt.canLay_of_shaped se) (SeqAt.canLay_of_shaped sd) (room_in_shaped sd hu) ⟨.bl _, H, I, rfl, q⟩
theorem op_notInT (hu : X.A.units + 65 < cLine) : OpR X (compareOp .NotIn) (rNotInT X.K) := by
  intro pins s σ H x y v u Q I rx ry h
  obtain ⟨d, ds, hd, he, sd, se, q⟩ := h
  obtain ⟨as, r1⟩ := Dp.reads I d x v hd rx
  obtain ⟨bs, r2⟩ := Dp.reads I (.tuple ds) y u he ry
  exact SeqAt.notIn_tuple_reads r2 r1 (SeqAt.canLay_of_shaped se) (SeqAt.canLay_of_shaped sd) (room_in_shaped sd hu) ⟨.bl _, H, I, rfl, q⟩
variable {K : PySem.W.Frag}
theorem op_inTK (hu : X.A.units + 65 < cLine) (h : X.K = K := by rfl) : OpR X (compareOp .In) (rInT K) := h ▸ op_inT hu
theorem op_notInTK (hu : X.A.units + 65 < cLine) (h : X.K = K := by rfl) : OpR X (compareOp .NotIn) (rNotInT K) := h ▸ op_notInT hu
theorem op_inDK (hu : X.A.units + 65 < cLine) (h : X.K = K := by rfl) : OpR X (compareOp .In) (rInD K) := h ▸ op_inD hu
theorem op_notInDK (hu : X.A.units + 65 < cLine) (h : X.K = K := by rfl) : OpR X (compareOp .NotIn) (rNotInD K) := h ▸ op_notInD hu
end
section
variable {K : PySem.W.Frag} {σ : L2.St} {G G' H H' : Hp} {ta tb te tx ts tl : TE} {t u : TT} {x y z v : V} {p q : Pr} {ps qs : List Pr} {i j : Nat} {vs : List Nat} {D : Ends} {tu tz : TS} {E : XK}
section
variable {α : Type} [En : Enc K α] [DecidableEq α] {a b : α}
theorem ev_inT {l : Tu α} (ha : EvP ta σ G (en K a)) (hb : EvP tb σ G (en K l)) (l1 : En.lay a) (l2 : ∀ x ∈ l.l, En.lay x) (hd : En.dep + 1 ≤ 64 := by exact Nat.le_of_ble_eq_true rfl) : Ev (tOp (rInT K) ta tb) σ G (.bl (decide (a ∈ l.l))) :=
  ev_two ha hb fun x y G2 H2 e hx hy Q k => ⟨En.enc a, l.l.map En.enc, En.toD ((en K a).up e hx), Enc.toD (a := l) ((en K l).up e hy), en_shaped l1 (by omega), en_shaped (K := K) (α := Tu α) (a := l) l2 hd, by rw [any_eqv]; exact k⟩
theorem ev_niT {l : Tu α} (ha : EvP ta σ G (en K a)) (hb : EvP tb σ G (en K l)) (l1 : En.lay a) (l2 : ∀ x ∈ l.l, En.lay x) (hd : En.dep + 1 ≤ 64 := by exact Nat.le_of_ble_eq_true rfl) : Ev (tOp (rNotInT K) ta tb) σ G (.bl (!decide (a ∈ l.l))) :=
  ev_two ha hb fun x y G2 H2 e hx hy Q k => ⟨En.enc a, l.l.map En.enc, En.toD ((en K a).up e hx), Enc.toD (a := l) ((en K l).up e hy), en_shaped l1 (by omega), en_shaped (K := K) (α := Tu α) (a := l) l2 hd, by rw [any_eqv]; exact k⟩
end
/-! ### instances -/
/-- an instance of the class at C with these fields -/
def pObj (C : Addr) (fs : List (Str × Pr)) : Pr := ⟨fun H v => ∃ a dx xs, v = .ref a ∧ H a = some (.ins C dx ((fs.map Prod.fst).zip xs)) ∧ Al H (fs.map Prod.snd) xs, fun e h => by
  obtain ⟨a, dx, xs, h1, h2, h3⟩ := h
  exact ⟨a, dx, xs, h1, e _ _ h2, h3.up e⟩⟩
theorem zip_lookup {f : Str} : ∀ {fs : List (Str × Pr)} {xs : List V}, Al H (fs.map Prod.snd) xs → fs.lookup f = some p → ∃ x, ((fs.map Prod.fst).zip xs).lookup f = some x ∧ p.on H x
  | [], _, _, h => by cases h
  | (n, q) :: r, xs, ha, h => by
    obtain ⟨x, t, rfl, h1, h2⟩ := Al.uncons ha
    show ∃ y, List.lookup f ((n, x) :: ((r.map Prod.fst).zip t)) = some y ∧ _
    rw [List.lookup_cons] at h ⊢
    cases hn : f == n with
    | true =>
      rw [hn] at h
      cases h
      exact ⟨x, rfl, h1⟩
    | false =>
      rw [hn] at h
      exact zip_lookup h2 h
theorem zip_none {f : Str} : ∀ {fs : List (Str × Pr)} {xs : List V}, fs.lookup f = none → ((fs.map Prod.fst).zip xs).lookup f = none
  | [], _, _ => rfl
  | (n, q) :: r, [], _ => rfl
  | (n, q) :: r, x :: t, h => by
    show List.lookup f ((n, x) :: ((r.map Prod.fst).zip t)) = none
    rw [List.lookup_cons] at h ⊢
    cases hn : f == n with
    | true =>
      rw [hn] at h
      cases h
    | false =>
      rw [hn] at h
      exact zip_none h
theorem ep_fld {C : Addr} {fs : List (Str × Pr)} {f : Str} (h : EvP te σ G (pObj C fs)) (c : Cls K C) (n : NoAttr K C f) (hf : fs.lookup f = some p) : EvP (tFld K te f) σ G p := fun H1 e Q k => h H1 e _ fun v H2 G2 g hv => by
  obtain ⟨a, dx, xs, rfl, h1, h2⟩ := hv
  obtain ⟨x, hx, hp⟩ := zip_lookup h2 hf
  exact ⟨a, C, dx, _, x, rfl, g.k _ _ h1, c, n, hx, k x H2 G2 g hp⟩
/-- a property whose getter computes a datum -/
theorem ep_prop {C : Addr} {fs : List (Str × Pr)} {A : List Pr → Pr → Prop} (h : EvP te σ G (pObj C fs)) (a : A [pObj C fs] p) : EvP (tProp C (spF A) [] E te) σ G p := fun H1 e Q k => h H1 e _ fun v H2 G2 g hv => by
  have hv' := hv
  obtain ⟨b, dx, xs, rfl, h1, h2⟩ := hv
  exact ⟨b, dx, _, rfl, g.k _ _ h1, G2, [pObj C fs], p, a, g.k, ⟨hv', trivial⟩, fun v H3 G3 f3 hv => k v H3 G3 (g.trans f3) hv⟩
theorem ep_meth {C : Addr} {m : Str} {fs : List (Str × Pr)} {A : List Pr → Pr → Prop} {tr : TA} (h : EvP te σ G (pObj C fs)) (hr : EvPs tr σ G ps) (hm : fs.lookup m = none) (a : A (pObj C fs :: ps) p) : EvP (tMeth C m (spF A) [] E te tr) σ G p := fun H1 e Q k => h H1 e _ fun v H2 G2 g hv => by
  have hv' := hv
  obtain ⟨b, dx, xs, rfl, h1, h2⟩ := hv
  refine ⟨b, dx, _, rfl, g.k _ _ h1, zip_none hm, (hr.mono g.g) H2 g.k _ fun vs H3 G3 g3 hvs => ?_⟩
  exact ⟨G3, pObj C fs :: ps, p, a, g3.k, by rw [List.append_nil]; exact ⟨(pObj C fs).up g3.g hv', hvs⟩, fun v H4 G4 f4 hv => k v H4 G4 ((g.trans g3).trans f4) hv⟩
theorem en_meth {C : Addr} {m : Str} {fs : List (Str × Pr)} {A : List Pr → List Pr → Prop} {tr : TA} (h : EvP te σ G (pObj C fs)) (hr : EvPs tr σ G ps) (hm : fs.lookup m = none) (a : A (pObj C fs :: ps) qs) : EvN (tMeth C m (spN A) [] E te tr) σ G qs := fun H1 e Q k => h H1 e _ fun v H2 G2 g hv => by
  have hv' := hv
  obtain ⟨b, dx, xs, rfl, h1, h2⟩ := hv
  refine ⟨b, dx, _, rfl, g.k _ _ h1, zip_none hm, (hr.mono g.g) H2 g.k _ fun vs H3 G3 g3 hvs => ?_⟩
  exact ⟨G3, pObj C fs :: ps, qs, a, g3.k, by rw [List.append_nil]; exact ⟨(pObj C fs).up g3.g hv', hvs⟩, fun p xs H4 G4 f4 hp => k p xs H4 G4 ((g.trans g3).trans f4) (fresh_back (g.trans g3).h hp)⟩
/-- == of two instances, by __eq__ -/
theorem ev_ownE {C : Addr} {fs gs : List (Str × Pr)} {A : List Pr → Pr → Prop} {c : Bool} {neg : Bool} (h1 : EvP ta σ G (pObj C fs)) (h2 : EvP tb σ G (pObj C gs)) (a : A [pObj C fs, pObj C gs] (pV (.bl c))) : Ev (tOp (rOwnE C (spF A) E neg) ta tb) σ G (.bl (if neg then !c else c)) := fun H1 e Q k =>
  h1 H1 e _ fun v H2 G2 g hv => (h2.mono g.g) H2 g.k _ fun w H3 G3 g3 hw => by
  have hv2 := (pObj C fs).up g3.g hv
  have hw' := hw
  have hv' := hv2
  obtain ⟨b, dx, xs, rfl, q1, q2⟩ := hv2
  obtain ⟨b2, dx2, xs2, rfl, q3, q4⟩ := hw
  refine ⟨b, dx, _, b2, dx2, _, rfl, rfl, g3.k _ _ q1, g3.k _ _ q3, G3, _, _, a, g3.k, ⟨hv', hw', trivial⟩, fun v H4 G4 f4 hv => ⟨c, hv, k H4 ((g.h.trans g3.h).trans f4.h)⟩⟩
/-- __init__: the new instance's fields are set -/
def spI (C : Addr) (A : List Pr → List (Str × Pr) → Prop) : Sp := fun vs H Q _ => ∃ G x dx ws ps fs, vs = .ref x :: ws ∧ A ps fs ∧ Ex G H ∧ G x = none ∧ H x = some (.ins C dx []) ∧ Al G ps ws ∧
  ∀ xs H2 G2, Ex G G2 → Ex G2 H2 → (∀ a o, a ≠ x → H a = some o → H2 a = some o) → (∀ a, G a = none → H a ≠ none → G2 a = none) → H2 x = some (.ins C dx ((fs.map Prod.fst).zip xs)) → Al G2 (fs.map Prod.snd) xs → Q .non H2
theorem ep_make {C : Addr} {fs : List (Str × Pr)} {A : List Pr → List (Str × Pr) → Prop} {tr : TA} (hr : EvPs tr σ G ps) (a : A ps fs) : EvP (tMake C (spI C A) [] E tr) σ G (pObj C fs) := fun H1 e Q k => hr H1 e _ fun vs H2 G2 g hvs x dx hx hdx hne => by
  have g3 : Fr G2 H2 (upd G2 dx (.own x)) (upd H2 dx (.own x)) := Fr.new g.k hdx
  have hx3 : upd H2 dx (.own x) x = none := by rw [upd_ne hne.symm]; exact hx
  have e4 : Ex (upd G2 dx (.own x)) (upd (upd H2 dx (.own x)) x (.ins C dx [])) := g3.k.trans (Ex.new hx3)
  have hGx : upd G2 dx (.own x) x = none := fresh_back g3.k hx3
  refine ⟨upd G2 dx (.own x), x, dx, vs, ps, fs, by rw [List.append_nil], a, e4, hGx, upd_same, hvs.up g3.g, fun xs H5 G5 e5 e6 e7 e8 h9 h10 => ⟨rfl, ?_⟩⟩
  have hG5 : G5 x = none := e8 x hGx (by rw [upd_same]; exact fun c => nomatch c)
  obtain ⟨f1, f2⟩ := Fr.freeze e6 hG5 h9
  refine k (.ref x) H5 (upd G5 x (.ins C dx ((fs.map Prod.fst).zip xs))) ⟨(g.g.trans g3.g).trans (e5.trans f1), fun b o hb => ?_, f2, fun b hb1 hb2 => ?_⟩ ⟨x, dx, xs, rfl, upd_same, h10.up f1⟩
  · have hb' := g3.h b o (g.h b o hb)
    have hbx : b ≠ x := fun c => by
      subst c
      rw [hx3] at hb'
      cases hb'
    exact e7 b o hbx (by rw [upd_ne hbx]; exact hb')
  · have hb' := ne_up (g.h.trans g3.h) hb2
    have hbx : b ≠ x := fun c => by
      subst c
      exact hb' hx3
    have hbd : b ≠ dx := fun c => by
      subst c
      exact (ne_up g.h hb2) hdx
    rw [upd_ne hbx]
    refine e8 b ?_ ?_
    · rw [upd_ne hbd]
      exact g.n b hb1 hb2
    · rw [upd_ne hbx]
      exact hb'
/-! ### isinstance -/
/-- what p stands for is of type t -/
def PTy (K : PySem.W.Frag) (p : Pr) (t : Value) : Prop := ∀ G v, p.on G v → TyX K G v t
theorem pty_v_int {i : Int} : PTy K (pV (.int i)) (.type "int") := fun G v h => by cases h; exact .base (.int i)
theorem pty_v_str {i : Str} : PTy K (pV (.str i)) (.type "str") := fun G v h => by cases h; exact .base (.str i)
theorem pty_v_bl {i : Bool} : PTy K (pV (.bl i)) (.type "bool") := fun G v h => by cases h; exact .base (.bl i)
theorem pty_lst : PTy K (pLst K ps) (.type "list") := fun G v h => by
  obtain ⟨a, xs, rfl, h1, _⟩ := h
  exact .base (.lst h1)
theorem pty_tup : PTy K (pTup K ps) (.type "tuple") := fun G v h => by
  obtain ⟨a, xs, rfl, h1, _⟩ := h
  rcases h1 with (h1 | ⟨o, h1⟩) | ⟨o, its, n, h1, h2, _⟩
  · exact .base (.tup h1)
  · exact .fTuple h1
  · exact .kTuple h1 h2
theorem pty_obj {C : Addr} {fs : List (Str × Pr)} (c : Cls K C) (t : InsT K C) : PTy K (pObj C fs) (.ref C) := fun G v h => by
  obtain ⟨a, dx, xs, rfl, h1, _⟩ := h
  exact .base (.ins h1 c t.ha t.hn t.htk t.hm)
theorem TyX.up {v : V} {t : Value} (e : Ex G G') (h : TyX K G v t) : TyX K G' v t := by
  have h1 := TyZ.mono e (.x h)
  cases h1 with
  | x h => exact h
  | exc T e1 e2 =>
    cases h with
    | base b => cases b with
      | ins e3 => 
        have := e _ _ e3
        rw [e1] at this
        cases this
theorem ev_isA {tc : TE} {t w : Value} {c : V} {b : Bool} (h : EvP te σ G p) (hc : Ev tc σ G c) (kc : ClsV c w) (ht : PTy K p t) (hk : PySem.W.kitOne K t w = some b) : Ev (tCB (rIsZ K) (tCons te (tCons tc tNil))) σ G (.bl b) := fun H1 e Q k =>
  h H1 e _ fun v H2 G2 g hv => (hc.mono g.g) H2 g.k _ fun H3 e3 => ⟨v, c, t, w, b, rfl, kc, .x (TyX.up (g.k.trans e3) (ht G2 v hv)), hk, k H3 (g.h.trans e3)⟩
theorem call_isiTK {X : Cx} (h : X.K = K := by rfl) : CallR X (.builtin "isinstance") (rIsiT K) := h ▸ call_isiT
theorem ev_isT2 {t : Value} {a b : String} {c d : Bool} (h : EvP te σ G p) (ht : PTy K p t) (h1 : PySem.W.kitOne K t (.type a) = some c) (h2 : PySem.W.kitOne K t (.type b) = some d) :
    Ev (tCB (rIsiT K) (tCons te (tCons (tTup (tCons (tC (.ty a)) (tCons (tC (.ty b)) tNil))) tNil))) σ G (.bl (c || d)) := fun H1 e Q k =>
  h H1 e _ fun v H2 G2 g hv => ⟨by show 2 ≤ sizeLine; decide, fun q hq => ⟨v, q, _, t, [.type a, .type b], c || d, rfl, upd_same, .cons (.ty a) (.cons (.ty b) .nil), TyX.up (g.k.trans (Ex.new hq)) (ht G2 v hv), kitAny_cons h1 (fun hc => by
    rw [hc, Bool.false_or]
    exact kitAny_cons h2 (fun hd => by rw [hd]; rfl) fun hd => hd) (fun hc => by rw [hc]; rfl), k _ (g.h.trans (Ex.new hq))⟩⟩
/-- max of a list of whole numbers -/
theorem cr_maxK {X : Cx} (hc : X.calm = true) (h : X.K = K := by rfl) : CallR X (.builtin "max") (rMax K) := h ▸ cr_max hc
theorem cr_minK {X : Cx} (hc : X.calm = true) (h : X.K = K := by rfl) : CallR X (.builtin "min") (rMin K) := h ▸ cr_min hc
theorem _root_.L2.Room.units1 {k : Nat} {A : Around} (r : Room k A) : A.units + 65 < cLine := by have := r.un; omega
end
end OP

namespace OP
open PySem PySem.Spec PyProof.Rows L2 Evl
/-- enumerate(text): the i-th turn gives a new pair of i and the sign -/
def Ites (x : Str) : It :=
  ⟨fun i _ => i < x.cps.size, fun i H v H' => ∃ T c, v = .ref T ∧ H T = none ∧ H' = upd H T (.tup [.int (i : Nat), .str ⟨#[c]⟩]) ∧ x.cps[i]? = some c, fun i _ => i = x.cps.size⟩
theorem turn_es {P : Program} {w : World} {K : PySem.W.Frag} {elts : List Expr} {kk : Nat} {tpos : Pos} {x : Str} {t : Tok} {e it : Addr} (hne : e ≠ it) :
    Turn P w K (.Tuple elts kk tpos) (Ites x) [e, it] e (fun i h => (∃ old, IsEnum h e it i old) ∧ h.IsStrIter it (strIterType x) x t i) where
  mem := by simp
  obj := fun i h st b hb => by
    obtain ⟨⟨old, he⟩, o, ho, hc, hd⟩ := st
    have e' : b = e ∨ b = it := by simpa using hb
    rcases e' with z | z
    · rw [z]; exact ⟨_, he, fun v q => nomatch q⟩
    · rw [z]; exact ⟨o, ho, fun v q => by rw [hd] at q; cases q⟩
  keep := fun i h h' st k => let ⟨⟨old, he⟩, o, ho, r⟩ := st; ⟨⟨old, k e (by simp) _ he⟩, o, k it (by simp) _ ho, r⟩
  item := by
    intro X hP hw hK hc i pins s σ H E I hf st hg
    subst hP hw hK
    obtain ⟨⟨old, he⟩, hit⟩ := st
    have hh : X.A.in1.handled = none := I.ok.hd hc
    have D1 : Draws X.prog X.w X.A.in1 it [it] x.cps.size _ _ := Draws.text hh it x t
    have hel : e < s.heap.objs.size := Heap.lt_size he
    have hil : it < s.heap.objs.size := by obtain ⟨_, q, _⟩ := hit; exact Heap.lt_size q
    refine wpAny_pyNext_enum_itemD D1 he hit hg hne (by simpa using hne) fun u h' tk hP ho hit' hT hsz hk => ?_
    obtain ⟨c, t1, hc1, rfl⟩ := hP
    refine ⟨_, rfl, wpAny_letOwnedTupleGo_enum (s := { s with heap := h', toks := tk + 1 }) ho fun h'' he' sb => ?_⟩
    have hT2 : h''.get? s.heap.objs.size = some { cls := .type "tuple", data := .seq #[.int i tk, .str ⟨#[c]⟩ t1] } := (sb.2 _ (Nat.ne_of_gt hel)).trans hT
    have new : ObjOk X.prog X.w (upd H s.heap.objs.size (.tup [.int (i : Nat), .str ⟨#[c]⟩])) h'' s.heap.objs.size (.tup [.int (i : Nat), .str ⟨#[c]⟩]) :=
      ⟨by show 2 ≤ sizeLine; decide, [.int i tk, .str ⟨#[c]⟩ t1], .cons ⟨_, rfl⟩ (.cons ⟨_, rfl⟩ .nil), ⟨_, hT2, rfl, _, rfl⟩⟩
    have I1 : Inv X pins σ (upd H s.heap.objs.size (.tup [.int (i : Nat), .str ⟨#[c]⟩])) { s with heap := h'', toks := tk + 1 } :=
      I.turnedNew (ch := [e, it]) (fun b ob hb q => (sb.2 b (fun z => hb (by simp [z]))).trans (hk b ob (fun z => hb (by simp [z])) (fun z => hb (by simp [z])) q)) hf (Nat.le_refl _) new
    refine ⟨.ref s.heap.objs.size, _, I1, rfl, ⟨_, c, rfl, I.hok.fresh (Nat.le_refl _), rfl, hc1⟩, ⟨⟨.str ⟨#[c]⟩ t1, ?_⟩, D1.frame _ _ _ hit' fun b hb o q => (sb.2 b (fun z => by
        rw [z] at hb
        exact hne (by simpa using hb))).trans q⟩, fun b hb => ?_⟩
    · have e1 : ((i + 1 : Nat) : Int) = (i : Int) + 1 := by omega
      rw [e1]; exact he'
    · have hb' : b < s.heap.objs.size := by
        have e' : b = e ∨ b = it := by simpa using hb
        rcases e' with z | z
        · rw [z]; exact hel
        · rw [z]; exact hil
      rw [upd_ne (Nat.ne_of_lt hb')]
      exact (hf b hb).1
  done := by
    intro X hP hw hK hc i pins s σ H E I hf st hg
    subst hP hw hK
    obtain ⟨⟨old, he⟩, hit⟩ := st
    have hh : X.A.in1.handled = none := I.ok.hd hc
    have D1 : Draws X.prog X.w X.A.in1 it [it] x.cps.size _ _ := Draws.text hh it x t
    have hg' : i = x.cps.size := hg
    subst hg'
    obtain ⟨f0, f1, f2, f3, f4, f5⟩ := hf it (by simp)
    exact wpAny_pyNext_enum_endD D1 he hit fun h' eb => ⟨rfl, I.turned (t' := s.toks) (fun b o hb q => eb b o hb q) f0 f1 f3 f4 f5⟩
  self := fun A i s Q E st h => let ⟨⟨_, he⟩, _⟩ := st; wpAny_pyIter_enum he h
def iEs (te : TE) : TI := fun σ H R => te σ H fun v H1 => ∃ x : Str, v = .str x ∧ R (Ites x) H1
theorem pi_enumS {X : Cx} {e : Expr} {te : TE} {p pos tpos : Pos} {elts : List Expr} {kk : Nat} (hg : Gl X "enumerate") (hm : X.mg "enumerate" = none) (ha : PE X e te) (hs : starEach [e] X.env = [(false, eval e X.env)] := by rfl) :
    PI X (.Tuple elts kk tpos) (.Call (.Name "enumerate" p) [e] [] pos) (iEs te) := by
  refine ⟨fun pins s σ H R I h => ?_⟩
  refine Call_ (ld_blt I hg hm boot_enumerate (PyProof.Rows.callWith_type1 ?_ hs rfl))
  rw [hs]
  show wpAny _ _ (spliced [(false, eval e X.env)]) _ _ s
  refine Calls.spliced_cons (thn (ha.run pins s σ H _ I h) fun u s1 ⟨v, H1, I1, r1, x, ev, q⟩ => Calls.spliced_nil ?_)
  subst ev
  obtain ⟨t, rfl⟩ := r1
  refine call_enumerate_str fun h' he hit hsz hk => wpAny_pyIter_enum he ?_
  have I2 : Inv X pins σ H1 { s1 with heap := h' } := I1.kept (t' := s1.toks) hk
  refine ⟨s1.heap.objs.size + 1, [s1.heap.objs.size + 1, s1.heap.objs.size], _, _, H1, rfl, I2, turn_es (Nat.succ_ne_self _), ⟨⟨.none, he⟩, hit⟩, fun b hb => ?_, q⟩
  have e' : b = s1.heap.objs.size + 1 ∨ b = s1.heap.objs.size := by simpa using hb
  have hle : s1.heap.objs.size ≤ b := by
    rcases e' with z | z
    · rw [z]; exact Nat.le_add_right _ _
    · rw [z]; exact Nat.le_refl _
  exact I1.fpOk hle (I1.hok.fresh hle)
section
variable {K : PySem.W.Frag} {σ : L2.St} {G : Hp} {te : TE}
theorem ei_enumS {s : Str} (h : Ev te σ G (.str s)) : EvI (iEs te) σ G s.cps.toList.zipIdx (fun x => pTup K [pV (.int (x.2 : Nat)), pV (.str ⟨#[x.1]⟩)]) := fun H0 e R k => h H0 e _ fun H1 e1 => by
  refine ⟨s, rfl, k _ H1 G (Fr.same e e1) ⟨fun i H hi _ => ?_, fun H _ => ?_, fun i H x H' hi _ y => ?_⟩⟩
  · rw [List.length_zipIdx, Array.length_toList] at hi
    exact hi
  · rw [List.length_zipIdx, Array.length_toList]
    rfl
  · obtain ⟨T, c, rfl, hT, rfl, hc⟩ := y
    refine ⟨(c, i), ?_, fun G' _ e2 => ⟨_, pair_on e2 hT rfl rfl⟩⟩
    have : s.cps.toList[i]? = some c := by simpa using hc
    rw [List.getElem?_zipIdx, this]
    simp
end
end OP

/-! PreW: words of signs as data; small readings used everywhere -/
namespace OP
open PySem PySem.Spec PyProof.Rows L2 Evl
/-- two rules for one expression: either reading will do -/
theorem pe_alt {X : Cx} {e : Expr} {t u : TE} (h1 : PE X e t) (h2 : PE X e u) : PE X e (fun σ H Q => t σ H Q ∨ u σ H Q) := ⟨fun pins s σ H Q I h => h.elim (h1.run pins s σ H Q I) (h2.run pins s σ H Q I)⟩
theorem pi_alt {X : Cx} {tg e : Expr} {t u : TI} (h1 : PI X tg e t) (h2 : PI X tg e u) : PI X tg e (fun σ H Q => t σ H Q ∨ u σ H Q) := ⟨fun pins s σ H Q I h => h.elim (h1.run pins s σ H Q I) (h2.run pins s σ H Q I)⟩
theorem pt_alt {X : Cx} {e : Expr} {t u : TT} (h1 : PT X e t) (h2 : PT X e u) : PT X e (fun σ H Q => t σ H Q ∨ u σ H Q) := ⟨fun pins s σ H Q I h => h.elim (h1.run pins s σ H Q I) (h2.run pins s σ H Q I)⟩
theorem ps_alt {X : Cx} {e : Stmt} {t u : TS} (h1 : PS X e t) (h2 : PS X e u) : PS X e (fun D σ H => t D σ H ∨ u D σ H) := ⟨fun pins s σ H D I h => h.elim (h1.run pins s σ H D I) (h2.run pins s σ H D I)⟩
theorem op_alt {X : Cx} {m : Value → Value → Sem Value} {r q : R2} (h1 : OpR X m r) (h2 : OpR X m q) : OpR X m (fun x y H Q => r x y H Q ∨ q x y H Q) := fun pins s σ H x y v u Q I rx ry h => h.elim (h1 pins s σ H x y v u Q I rx ry) (h2 pins s σ H x y v u Q I rx ry)
def okc (c : Nat) : Bool := decide (c ∈ (("01*" : Str)).cps.toList)
def okS (z : Str) : Bool := decide (z.length ≤ 60) && z.cps.toList.all okc
theorem okS_len {z : Str} (h : okS z = true) : z.length ≤ 60 := by
  unfold okS at h
  rw [Bool.and_eq_true] at h
  exact of_decide_eq_true h.1
theorem okc_lt {c : Nat} (h : okc c = true) : c < 1114112 := by
  have h1 : c ∈ [48, 49, 42] := of_decide_eq_true h
  rcases List.mem_cons.mp h1 with h | h
  · omega
  rcases List.mem_cons.mp h with h | h
  · omega
  · rw [List.mem_singleton.mp h]
    omega
theorem strOk_of {z : Str} (h : ∀ c ∈ z.cps.toList, c < 1114112) : PyData.strOk z = true := by
  show (z.cps.all (· < 0x110000)) = true
  rw [Array.all_eq_true']
  intro c hc
  exact decide_eq_true (h c (by simpa using hc))
theorem okS_lay {z : Str} (h : okS z = true) : PyData.strOk z = true := strOk_of fun c hc => by
  unfold okS at h
  rw [Bool.and_eq_true] at h
  exact okc_lt (List.all_eq_true.mp h.2 c hc)
theorem okS_all {z : Str} (h : okS z = true) : ∀ c ∈ z.cps.toList, okc c = true := by
  unfold okS at h
  rw [Bool.and_eq_true] at h
  exact List.all_eq_true.mp h.2
theorem sgn_lay {c : Nat} (h : okc c = true) : PyData.strOk ⟨#[c]⟩ = true := strOk_of fun x hx => by
  rw [List.mem_singleton.mp (show x ∈ [c] from hx)]
  exact okc_lt h
theorem _root_.List.mem_of_mem_zipIdx_fst {α : Type} {l : List α} {x : α × Nat} (h : x ∈ l.zipIdx) : (x.1) ∈ l := by
  obtain ⟨a, i⟩ := x
  exact (List.mem_zipIdx' h).2 ▸ List.getElem_mem _
section
variable {K : PySem.W.Frag} {σ : L2.St} {G G' H H' : Hp} {ta tb te tx ts tl : TE} {t u : TT} {x y z v : V} {p q : Pr} {ps qs : List Pr} {i j : Nat} {vs : List Nat} {D : Ends} {tu tz : TS} {E : XK}
theorem pV_is {w : V} (h : (pV w).on G v) : v = w := h
/-- variable that holds a scalar -/
theorem ev_at {w : V} (h : σ[i]? = some (some v)) (hv : (pV w).on G v) : Ev (tVar i) σ G w := by
  rw [← pV_is hv]
  exact ev_var h
theorem et_yesP : EvT tYes σ G true := fun H1 _ Q q => q H1 (Ex.refl H1)
theorem filt_true {α : Type} (l : List α) : l.filter (fun _ => true) = l := List.filter_eq_self.mpr fun _ _ => rfl
/-- [e for x in it]: no test, a name as target -/
theorem en_lcN {α : Type} {wi : TI} {l : List α} {c : α → Pr} {j : Nat} {vs : List Nat} (d : α → Pr) (h : EvI wi σ G l c) (hz : l.length < 100000) (hw : ∀ x, wipe ((wipe σ vs).set j (some x)) vs = wipe σ vs)
    (he : ∀ a x G1, a ∈ l → Ex G G1 → (c a).on G1 x → EvP te ((wipe σ vs).set j (some x)) G1 (d a)) : EvN (tLc wi (gName j) tYes te vs) σ G (l.map d) := by
  have := en_lc (g := gName j) (t := tYes) (te := te) (fun _ => true) d h (fun a => tg_name) hz (fun a G σ' hσ => by
    obtain ⟨x, _, rfl⟩ := hσ
    exact hw x) (fun a σ' G1 _ _ _ => et_yesP) (fun a σ' G1 ha _ e hσ => by
    obtain ⟨x, hx, rfl⟩ := hσ
    exact he a x G1 ha e hx)
  rw [filt_true] at this
  exact this
/-- [e for x in it if t] -/
theorem en_lcF {α : Type} {wi : TI} {l : List α} {c : α → Pr} {j : Nat} {vs : List Nat} (f : α → Bool) (d : α → Pr) (h : EvI wi σ G l c) (hz : l.length < 100000) (hw : ∀ x, wipe ((wipe σ vs).set j (some x)) vs = wipe σ vs)
    (ht : ∀ a x G1, a ∈ l → Ex G G1 → (c a).on G1 x → EvT t ((wipe σ vs).set j (some x)) G1 (f a))
    (he : ∀ a x G1, a ∈ l → f a = true → Ex G G1 → (c a).on G1 x → EvP te ((wipe σ vs).set j (some x)) G1 (d a)) : EvN (tLc wi (gName j) t te vs) σ G ((l.filter f).map d) :=
  en_lc (g := gName j) f d h (fun a => tg_name) hz (fun a G σ' hσ => by
    obtain ⟨x, _, rfl⟩ := hσ
    exact hw x) (fun a σ' G1 ha e hσ => by
    obtain ⟨x, hx, rfl⟩ := hσ
    exact ht a x G1 ha e hx) (fun a σ' G1 ha hf e hσ => by
    obtain ⟨x, hx, rfl⟩ := hσ
    exact he a x G1 ha hf e hx)
/-- [e for i, x in it if t] -/
theorem en_lcP {α : Type} {wi : TI} {l : List α} {c d0 : α → Pr} {i j : Nat} {vs : List Nat} (f : α → Bool) (d : α → Pr) (h : EvI wi σ G l (fun a => pTup K [c a, d0 a])) (hz : l.length < 100000) (hw : ∀ x y, wipe (((wipe σ vs).set i (some x)).set j (some y)) vs = wipe σ vs)
    (ht : ∀ a x y G1, a ∈ l → Ex G G1 → (c a).on G1 x → (d0 a).on G1 y → EvT t (((wipe σ vs).set i (some x)).set j (some y)) G1 (f a))
    (he : ∀ a x y G1, a ∈ l → f a = true → Ex G G1 → (c a).on G1 x → (d0 a).on G1 y → EvP te (((wipe σ vs).set i (some x)).set j (some y)) G1 (d a)) : EvN (tLc wi (gTup K 2 (gCons (gName i) (gCons (gName j) gNil))) t te vs) σ G ((l.filter f).map d) :=
  en_lc f d h (fun a => tg_pair) hz (fun a G σ' hσ => by
    obtain ⟨x, y, _, _, rfl⟩ := hσ
    exact hw x y) (fun a σ' G1 ha e hσ => by
    obtain ⟨x, y, hx, hy, rfl⟩ := hσ
    exact ht a x y G1 ha e hx hy) (fun a σ' G1 ha hf e hσ => by
    obtain ⟨x, y, hx, hy, rfl⟩ := hσ
    exact he a x y G1 ha hf e hx hy)
/-- tuple(list), tuple(tuple) -/
theorem ep_tupleL (ha : EvP ta σ G (pLst K ps)) : EvP (tCB (rTupS K) (tCons ta tNil)) σ G (pTup K ps) := fun H1 e Q k => ha H1 e _ fun v H2 G2 f hv => by
  obtain ⟨a, xs, rfl, h1, h2⟩ := hv
  exact ⟨a, xs, rfl, .inl ⟨ex_l f.k (sq_of h1), fun l hl => k _ _ (upd G2 l (.tup xs)) (f.trans (Fr.new f.k hl)) ⟨l, xs, rfl, st_of upd_same, h2.up (Ex.new (fresh_back f.k hl))⟩⟩⟩
theorem ep_tupleT (ha : EvP ta σ G (pTup K ps)) : EvP (tCB (rTupS K) (tCons ta tNil)) σ G (pTup K ps) := fun H1 e Q k => ha H1 e _ fun v H2 G2 f hv => by
  have hv' := hv
  obtain ⟨a, xs, rfl, h1, h2⟩ := hv
  exact ⟨a, xs, rfl, .inr ⟨ex_t f.k h1, k _ _ G2 f hv'⟩⟩
/-- text.join(list of texts) -/
theorem ev_joinL {s : Str} {ss : List Str} (h : Ev ta σ G (.str s)) (hl : EvP tb σ G (pLst K (ss.map fun s => pV (.str s)))) (hz : (ss.map (·.length)).sum + ss.length * s.length ≤ 16777216) : Ev (tBM K "str" (rJoin K) ta (tCons tb tNil)) σ G (.str (Txt.join s ss)) := fun H1 e Q k =>
  h H1 e _ fun H2 e2 => ⟨(rfl : "str" = "str"), (hl.mono (Ex.refl G)) H2 (e.trans e2) _ fun v H3 G3 f hv => by
    obtain ⟨a, xs, rfl, h1, h2⟩ := hv
    rw [al_strs h2] at h1
    exact ⟨s, a, ss, rfl, rfl, .inl (ex_l f.k (sq_of h1)), hz, k H3 (e2.trans f.h)⟩⟩
/-- a op b op c -/
theorem ev_chain {r r' : R2} {ta tb tc : TE} {x y z : V} {a b : Bool} (h1 : Ev ta σ G x) (h2 : Ev tb σ G y) (h3 : Ev tc σ G z) (hr : RV r x y G (.bl a)) (hr' : RV r' y z G (.bl b)) : Ev (tChain r r' ta tb tc) σ G (.bl (a && b)) := fun H1 e Q k =>
  h1 H1 e _ fun H2 e2 => h2 H2 (e.trans e2) _ fun H3 e3 => hr H3 ((e.trans e2).trans e3) _ fun H4 e4 => ⟨a, rfl, by
    have e5 := (e2.trans e3).trans e4
    cases a with
    | false => exact k H4 e5
    | true => exact h3 H4 (e.trans e5) _ fun H5 e6 => hr' H5 (e.trans (e5.trans e6)) _ fun H6 e7 => k H6 (e5.trans (e6.trans e7))⟩
/-- list + list, list * n -/
theorem en_cat (h1 : EvP ta σ G (pLst K ps)) (h2 : EvP tb σ G (pLst K qs)) (hz : ps.length + qs.length ≤ 100000) : EvN (tOp rCat ta tb) σ G (ps ++ qs) := fun H1 e Q k => h1 H1 e _ fun v H2 G2 g hv => (h2.mono g.g) H2 g.k _ fun w H3 G3 g3 hw => by
  obtain ⟨a, xs, rfl, q1, q2⟩ := (pLst K ps).up g3.g hv
  obtain ⟨b, ys, rfl, q3, q4⟩ := hw
  have g4 := g.trans g3
  exact ⟨a, b, xs, ys, rfl, rfl, g3.k _ _ q1, g3.k _ _ q3, sz_of (by rw [q2.len, q4.len]; exact hz), fun p hp => k p (xs ++ ys) _ G3 ⟨g4.g, g4.h.trans (Ex.new hp), g4.k.trans (Ex.new hp), g4.n⟩ (fresh_back g4.h hp) (fresh_back g4.k hp) upd_same (q2.app q4)⟩
theorem al_rep {xs : List V} (h : Al G ps xs) : ∀ n : Nat, Al G (List.replicate n ps).flatten (List.replicate n xs).flatten
  | 0 => trivial
  | n + 1 => by
    rw [List.replicate_succ, List.replicate_succ, List.flatten_cons, List.flatten_cons]
    exact h.app (al_rep h n)
theorem en_rep {n : Int} (h1 : EvP ta σ G (pLst K ps)) (h2 : Ev tb σ G (.int n)) (hn : n ≤ 100000) (hn' : -100000 ≤ n) (hz : ps.length * n.toNat ≤ 100000) : EvN (tOp rRep ta tb) σ G (List.replicate n.toNat ps).flatten := fun H1 e Q k => h1 H1 e _ fun v H2 G2 g hv => (h2.mono g.g) H2 g.k _ fun H3 e3 => by
  obtain ⟨a, xs, rfl, q1, q2⟩ := hv
  have k3 := g.k.trans e3
  exact ⟨a, n, xs, rfl, rfl, k3 _ _ q1, by omega, by omega, sz_of (by rw [q2.len]; exact hz), fun p hp => k p _ _ G2 ⟨g.g, (g.h.trans e3).trans (Ex.new hp), k3.trans (Ex.new hp), g.n⟩ (fresh_back (g.h.trans e3) hp) (fresh_back k3 hp) upd_same (al_rep q2 _)⟩
/-- x in / not in a list of texts, of whole numbers -/
theorem inV_strs (s : Str) (ss : List Str) : inV (.str s) (ss.map V.str) = decide (s ∈ ss) := by
  unfold inV
  rw [List.any_map, Bool.eq_iff_iff, List.any_eq_true, decide_eq_true_eq]
  exact ⟨fun ⟨x, hx, he⟩ => by
    have : x = s := by simpa [eqV] using he
    rw [← this]
    exact hx, fun h => ⟨s, h, by simp [eqV]⟩⟩
theorem inV_ints (s : Int) (ss : List Int) : inV (.int s) (ss.map V.int) = decide (s ∈ ss) := by
  unfold inV
  rw [List.any_map, Bool.eq_iff_iff, List.any_eq_true, decide_eq_true_eq]
  exact ⟨fun ⟨x, hx, he⟩ => by
    have : x = s := by simpa [eqV] using he
    rw [← this]
    exact hx, fun h => ⟨s, h, by simp [eqV]⟩⟩
theorem flat_strs (ss : List Str) : (ss.map V.str).all flatV = true := by
  rw [List.all_map, List.all_eq_true]
  exact fun _ _ => rfl
theorem flat_ints (ss : List Int) : (ss.map V.int).all flatV = true := by
  rw [List.all_map, List.all_eq_true]
  exact fun _ _ => rfl
theorem ev_inSs {s : Str} {ss : List Str} {neg : Bool} (h1 : Ev ta σ G (.str s)) (h2 : EvP tb σ G (pLst K (ss.map fun s => pV (.str s)))) : Ev (tOp (rIn K neg) ta tb) σ G (.bl (if neg then !decide (s ∈ ss) else decide (s ∈ ss))) := fun H1 e Q k =>
  h1 H1 e _ fun H2 e2 => h2 H2 (e.trans e2) _ fun v H3 G3 g hv => by
  obtain ⟨a, xs, rfl, q1, q2⟩ := hv
  obtain rfl := al_strs q2
  exact ⟨a, _, rfl, .inl (sq_of (g.k _ _ q1)), rfl, flat_strs ss, by rw [inV_strs]; exact k H3 (e2.trans g.h)⟩
theorem ev_inIs {s : Int} {ss : List Int} {neg : Bool} (h1 : Ev ta σ G (.int s)) (h2 : EvP tb σ G (pLst K (ss.map fun s => pV (.int s)))) : Ev (tOp (rIn K neg) ta tb) σ G (.bl (if neg then !decide (s ∈ ss) else decide (s ∈ ss))) := fun H1 e Q k =>
  h1 H1 e _ fun H2 e2 => h2 H2 (e.trans e2) _ fun v H3 G3 g hv => by
  obtain ⟨a, xs, rfl, q1, q2⟩ := hv
  obtain rfl := al_ints q2
  exact ⟨a, _, rfl, .inl (sq_of (g.k _ _ q1)), rfl, flat_ints ss, by rw [inV_ints]; exact k H3 (e2.trans g.h)⟩
/-- max of whole numbers -/
theorem ev_maxL {ns : List Int} {m : Int} (h : EvP ta σ G (pLst K (ns.map fun s => pV (.int s)))) (hm : m ∈ ns) (hb : ∀ y ∈ ns, y ≤ m) : Ev (tCB (rMax K) (tCons ta tNil)) σ G (.int m) := fun H1 e Q k => h H1 e _ fun v H3 G3 g hv => by
  obtain ⟨a, xs, rfl, q1, q2⟩ := hv
  obtain rfl := al_ints q2
  refine ⟨a, ns, rfl, sq_of (g.k _ _ q1), List.length_pos_of_mem hm, fun m' h1 h2 => ?_⟩
  have : m' = m := Int.le_antisymm (hb m' h1) (h2 m hm)
  rw [this]
  exact k H3 g.h
/-- text[i] -/
theorem ev_ixS {s : Str} {i : Int} {c : Nat} (h1 : Ev ta σ G (.str s)) (h2 : Ev tb σ G (.int i)) (hz : s.length ≤ 100000) (hc : atI s.cps.toList i = some c) : Ev (tOp rIxS ta tb) σ G (.str ⟨#[c]⟩) := ev_op h1 h2 (rv_ixS hz hc)
/-- int(truth value) -/
theorem ev_intB {b : Bool} (h : Ev ta σ G (.bl b)) : Ev (tCB (fun xs H Q => (∃ i, xs = [.int i] ∧ Q (.int i) H) ∨ ∃ k, xs = [.bl k] ∧ Q (.int (if k then 1 else 0)) H) (tCons ta tNil)) σ G (.int (if b then 1 else 0)) := fun H1 e Q k => h H1 e _ fun H2 e2 => .inr ⟨b, rfl, k H2 e2⟩
end
end OP

/-! PreBx: the law's box beside what is known; draws, comprehensions that draw. -/
namespace OP
open PySem PySem.Spec PyProof.Rows L2 Evl
/-- all is known as G, the box stands at b with k draws left -/
structure Wb (b : Addr) (G H : Hp) (k : Nat) : Prop where
  e : Ex G H
  o : G b = none
  bx : ∃ n, BoxAt H b n ∧ n + k ≤ 1000000000
structure Fb (b : Addr) (G H G2 H2 : Hp) : Prop where
  g : Ex G G2
  h : Eb b H H2
  k : Ex G2 H2
  n : ∀ a, G a = none → H a ≠ none → G2 a = none
theorem Fr.fb {b : Addr} {G H G2 H2 : Hp} (f : Fr G H G2 H2) : Fb b G H G2 H2 := ⟨f.g, Eb.of f.h, f.k, f.n⟩
theorem ne_upb {b : Addr} {H H' : Hp} {a : Addr} (e : Eb b H H') (hb : H' b ≠ none) (h : H a ≠ none) : H' a ≠ none := by
  by_cases c : a = b
  · rw [c]
    exact hb
  · cases q : H a with
    | none => exact absurd q h
    | some o => rw [e a o c q]; exact fun h => nomatch h
theorem BoxAt.ne {H : Hp} {b : Addr} {n : Nat} (h : BoxAt H b n) : H b ≠ none := by
  obtain ⟨o, h, _⟩ := h
  rw [h]
  exact fun c => nomatch c
theorem Wb.ne {b : Addr} {G H : Hp} {k : Nat} (w : Wb b G H k) : H b ≠ none := by
  obtain ⟨n, h, _⟩ := w.bx
  exact h.ne
theorem Fb.trans {b : Addr} {G H G2 H2 G3 H3 : Hp} (a : Fb b G H G2 H2) (c : Fb b G2 H2 G3 H3) (hb : H2 b ≠ none) : Fb b G H G3 H3 :=
  ⟨a.g.trans c.g, a.h.trans c.h, c.k, fun x h1 h2 => c.n x (a.n x h1 h2) (ne_upb a.h hb h2)⟩
theorem Wb.go {b : Addr} {G H G2 H2 : Hp} {k : Nat} (w : Wb b G H k) (f : Fr G H G2 H2) : Wb b G2 H2 k := by
  obtain ⟨n, h, hk⟩ := w.bx
  exact ⟨f.k, f.n b w.o h.ne, n, h.ex f.h, hk⟩
theorem Wb.less {b : Addr} {G H : Hp} {k m : Nat} (w : Wb b G H k) (h : m ≤ k) : Wb b G H m := by
  obtain ⟨n, h1, h2⟩ := w.bx
  exact ⟨w.e, w.o, n, h1, by omega⟩
/-- a def that draws from the box (its first argument) at most c times -/
def spB (c : Nat) (A : List Pr → Pr → Prop) : Sp := fun vs H Q _ => ∃ b G k us ps, vs = .ref b :: us ∧ Wb b G H (k + c) ∧ Al G ps us ∧ (∃ p, A ps p) ∧ ∀ p v H2 G2, A ps p → Fb b G H G2 H2 → Wb b G2 H2 k → p.on G2 v → Q v H2
section
variable {K : PySem.W.Frag} {σ : L2.St} {G G' H H' : Hp} {ta tb te tx ts tl : TE} {t u : TT} {x y z v : V} {p q : Pr} {ps qs : List Pr} {i j k : Nat} {vs : List Nat} {D : Ends} {tu tz : TS} {E : XK} {b : Addr}
/-- a pure part -/
theorem b_pure {Q : VK} (w : Wb b G H k) (h : EvP te σ G p) (q : ∀ v H2 G2, Fr G H G2 H2 → Wb b G2 H2 k → p.on G2 v → Q v H2) : te σ H Q := h H w.e Q fun v H2 G2 f hv => q v H2 G2 f (w.go f) hv
/-- a draw -/
theorem b_take {m : Int} {tm : TE} {Q : VK} (w : Wb b G H (k + 1)) (hv : σ[i]? = some (some (.ref b))) (ht : Ev tm σ G (.int m)) (hm : 0 < m) (hm2 : m ≤ 1000000)
    (q : ∀ (d : Int) H', 0 ≤ d → d < m → Fb b G H G H' → Wb b G H' k → Q (.int d) H') : tCall spTake [] E (tCons (tVar i) (tCons tm tNil)) σ H Q := by
  refine ⟨.ref b, hv, ht H w.e _ fun H1 e1 => ?_⟩
  obtain ⟨n, h1, h2⟩ := (w.go (Fr.same w.e e1)).bx
  refine ⟨b, m, n, rfl, h1, by omega, hm, hm2, fun d o d1 d2 hB => ?_⟩
  have eb : Eb b H (upd H1 b o) := (Eb.of e1).trans Eb.upd
  have ek : Ex G (upd H1 b o) := fun a u ha => by
    have : a ≠ b := fun c => by
      subst c
      rw [w.o] at ha
      cases ha
    rw [upd_ne this]
    exact e1 a u (w.e a u ha)
  exact q d _ d1 d2 ⟨Ex.refl G, eb, ek, fun _ h _ => h⟩ ⟨ek, w.o, n + 1, ⟨o, upd_same, hB⟩, by omega⟩
/-- a call that draws -/
theorem b_call {c : Nat} {A : List Pr → Pr → Prop} {tr : TA} {Q : VK} (w : Wb b G H (k + c)) (hv : σ[i]? = some (some (.ref b))) (hr : EvPs tr σ G ps) (a : ∃ p, A ps p)
    (q : ∀ p v H2 G2, A ps p → Fb b G H G2 H2 → Wb b G2 H2 k → p.on G2 v → Q v H2) : tCall (spB c A) [] E (tCons (tVar i) tr) σ H Q :=
  ⟨.ref b, hv, hr H w.e _ fun us H1 G1 f1 hus => ⟨b, G1, k, us, ps, by rw [List.append_nil], w.go f1, hus, a, fun p v H2 G2 ha f2 w2 hp => q p v H2 G2 ha (f1.fb.trans f2 (w.go f1).ne) w2 hp⟩⟩
/-- one by one -/
def F2 {α β : Type} (R : α → β → Prop) (l : List α) (ys : List β) : Prop := ys.length = l.length ∧ ∀ (i : Nat) (a : α) (y : β), l[i]? = some a → ys[i]? = some y → R a y
theorem F2.mem {α β : Type} {R : α → β → Prop} {l : List α} {ys : List β} (h : F2 R l ys) {y : β} (hy : y ∈ ys) : ∃ a ∈ l, R a y := by
  obtain ⟨i, hi⟩ := List.mem_iff_getElem?.mp hy
  have hl := (List.getElem?_eq_some_iff.mp hi).1
  have h2 : i < l.length := by rw [← h.1]; exact hl
  exact ⟨l[i], List.getElem_mem _, h.2 i _ y (List.getElem?_eq_getElem h2) hi⟩
/-- [e for target in it], e draws -/
theorem b_lc {α β : Type} {wi : TI} {g : TG} {l : List α} {c : α → Pr} {F : α → Hp → L2.St → Prop} {d : β → Pr} {R : α → β → Prop} {c0 : Nat} {Q : VK} (w : Wb b G H (k + l.length * c0)) (h : EvI wi σ G l c) (hg : ∀ a, Tg g (c a) (wipe σ vs) (F a)) (hz : l.length < 100000)
    (hw : ∀ a G σ', F a G σ' → wipe σ' vs = wipe σ vs)
    (he : ∀ a σ' G1 H1 k1 (Q' : VK), a ∈ l → Ex G G1 → Wb b G1 H1 (k1 + c0) → F a G1 σ' → (∀ y v H2 G2, R a y → Fb b G1 H1 G2 H2 → Wb b G2 H2 k1 → (d y).on G2 v → Q' v H2) → te σ' H1 Q')
    (q : ∀ ys D xs H2 G2, F2 R l ys → Fb b G H G2 H2 → Wb b G2 H2 k → H D = none → G2 D = none → H2 D = some (.lst xs) → Al G2 (ys.map d) xs → Q (.ref D) H2) : tLc wi g tYes te vs σ H Q := h H w.e _ fun J H1 G1 f1 wk D hD => by
  have w1 := w.go f1
  have hDb : D ≠ b := fun c => by
    rw [c] at hD
    exact w1.ne hD
  refine lc_it wk.walk (fun i H' => ∃ (ys : List β) (G' : Hp) (xs : List V), ys.length = i ∧ (∀ (m : Nat) (a : α) (y : β), l[m]? = some a → ys[m]? = some y → R a y) ∧ Fb b G1 H1 G' H' ∧ Wb b G' H' (k + (l.length - i) * c0) ∧ G' D = none ∧ H' D = some (.lst xs) ∧ Al G' (ys.map d) xs)
    ⟨[], G1, [], rfl, fun m a y _ hy => (by simp at hy), ⟨Ex.refl G1, Eb.of (Ex.new hD), w1.e.trans (Ex.new hD), fun _ h _ => h⟩, w1.go (Fr.same w1.e (Ex.new hD)), fresh_back w1.e hD, upd_same, trivial⟩ (fun i H' _ hc => ?_) (fun i x H2 H3 hi hc y => ?_) (fun H' hc => ?_)
  · obtain ⟨ys, G', xs, _, _, g, _⟩ := hc
    exact g.g.trans g.k
  · obtain ⟨a, hla, hy⟩ := y
    have hm := List.mem_of_getElem? hla
    obtain ⟨ys, G', xs, h1, h2, f2, w2, h3, h4, h5⟩ := hc
    obtain ⟨G3, f3, hx⟩ := hy G' f2.g f2.k
    have w3 := w2.go f3
    refine hg a G3 x H3 hx f3.k _ fun σ' hσ => ⟨hw a G3 σ' hσ, ?_⟩
    refine et_yesP (σ := σ') (G := G3) H3 f3.k _ fun H4 e4 => ?_
    have f4 : Fr G3 H3 G3 H4 := Fr.same f3.k e4
    have w4 := w3.go f4
    have hsub : k + (l.length - i) * c0 = k + (l.length - (i + 1)) * c0 + c0 := by
      have : l.length - i = (l.length - (i + 1)) + 1 := by omega
      rw [this, Nat.add_mul, Nat.one_mul]
      omega
    rw [hsub] at w4
    have hD4 : H4 D = some (.lst xs) := e4 D _ (f3.h D _ h4)
    have hG3 : G3 D = none := f3.n D h3 (by rw [h4]; exact fun c => nomatch c)
    refine he a σ' G3 H4 _ _ hm (f1.g.trans (f2.g.trans f3.g)) w4 hσ fun y v H5 G5 hr f5 w5 hv => ?_
    have hD5 : H5 D = some (.lst xs) := f5.h D _ hDb hD4
    have hG5 : G5 D = none := f5.n D hG3 (by rw [hD4]; exact fun c => nomatch c)
    have fall : Fb b G1 H1 G5 H5 := (f2.trans ((f3.trans f4).fb) w2.ne).trans f5 w4.ne
    have kall : Ex G5 (upd H5 D (.lst (xs ++ [v]))) := fun u o hu => by
      have : u ≠ D := fun c => by
        subst c
        rw [hG5] at hu
        cases hu
      rw [upd_ne this]
      exact fall.k u o hu
    refine ⟨xs, hD5, sz_lt ?_, ys ++ [y], G5, xs ++ [v], by rw [List.length_append, h1]; rfl, fun m a' y' q1 q2 => ?_, ⟨fall.g, fun u o hub hu => ?_, kall, fall.n⟩, ⟨kall, w5.o, ?_⟩, hG5, upd_same, ?_⟩
    · rw [h5.len, List.length_map, h1]
      omega
    · rcases Nat.lt_or_ge m ys.length with hlt | hge
      · rw [List.getElem?_append_left hlt] at q2
        exact h2 m a' y' q1 q2
      · rw [List.getElem?_append_right hge] at q2
        have hm0 : m - ys.length = 0 := by
          rcases Nat.eq_zero_or_pos (m - ys.length) with h | h
          · exact h
          · rw [List.getElem?_eq_none (by simp; omega)] at q2
            cases q2
        rw [hm0] at q2
        cases q2
        have : m = i := by omega
        rw [this, hla] at q1
        cases q1
        exact hr
    · have : u ≠ D := fun c => by
        subst c
        rw [hD] at hu
        cases hu
      rw [upd_ne this]
      exact fall.h u o hub hu
    · obtain ⟨n, ⟨o, ho, hB⟩, hn⟩ := w5.bx
      exact ⟨n, ⟨o, by rw [upd_ne hDb.symm]; exact ho, hB⟩, hn⟩
    · rw [List.map_append]
      exact (h5.up (f3.g.trans f5.g)).app ⟨hv, trivial⟩
  · obtain ⟨ys, G', xs, h1, h2, f2, w2, h3, h4, h5⟩ := hc
    rw [Nat.sub_self, Nat.zero_mul, Nat.add_zero] at w2
    exact q ys D xs H' G' ⟨h1, h2⟩ (f1.fb.trans f2 w1.ne) w2 (fresh_back f1.h hD) h3 h4 h5
/-- what stands at D becomes known -/
theorem b_known {G0 H0 : Hp} {xs : List V} {D0 : Addr} (f : Fb b G0 H0 G H) (w : Wb b G H k) (h0 : H0 D0 = none) (hb0 : H0 b ≠ none) (hG : G D0 = none) (hD : H D0 = some (.lst xs)) (ha : Al G ps xs) : ∃ G2, Fb b G0 H0 G2 H ∧ Wb b G2 H k ∧ Ex G G2 ∧ (pLst K ps).on G2 (.ref D0) := by
  obtain ⟨e1, e2⟩ := Fr.freeze w.e hG hD
  have hDb : D0 ≠ b := fun c => by
    rw [c] at h0
    exact hb0 h0
  refine ⟨upd G D0 (.lst xs), ⟨f.g.trans e1, f.h, e2, fun a h1 h2 => ?_⟩, ⟨e2, ?_, w.bx⟩, e1, D0, xs, rfl, upd_same, ha.up e1⟩
  · have : a ≠ D0 := fun c => by
      subst c
      exact h2 h0
    rw [upd_ne this]
    exact f.n a h1 h2
  · rw [upd_ne hDb.symm]
    exact w.o
/-- the same, the list known -/
theorem b_lcP {α β : Type} {wi : TI} {g : TG} {l : List α} {c : α → Pr} {F : α → Hp → L2.St → Prop} {d : β → Pr} {R : α → β → Prop} {c0 : Nat} {Q : VK} (w : Wb b G H (k + l.length * c0)) (h : EvI wi σ G l c) (hg : ∀ a, Tg g (c a) (wipe σ vs) (F a)) (hz : l.length < 100000)
    (hw : ∀ a G σ', F a G σ' → wipe σ' vs = wipe σ vs)
    (he : ∀ a σ' G1 H1 k1 (Q' : VK), a ∈ l → Ex G G1 → Wb b G1 H1 (k1 + c0) → F a G1 σ' → (∀ y v H2 G2, R a y → Fb b G1 H1 G2 H2 → Wb b G2 H2 k1 → (d y).on G2 v → Q' v H2) → te σ' H1 Q')
    (q : ∀ ys v H2 G2, F2 R l ys → Fb b G H G2 H2 → Wb b G2 H2 k → (pLst K (ys.map d)).on G2 v → Q v H2) : tLc wi g tYes te vs σ H Q :=
  b_lc w h hg hz hw he fun ys D xs H2 G2 h1 f2 w2 h3 h4 h5 h6 => by
    obtain ⟨G3, f3, w3, _, on⟩ := b_known (K := K) f2 w2 h3 w.ne h4 h5 h6
    exact q ys _ H2 G3 h1 f3 w3 on
/-- a list shown, its items drawn one by one: by a reading of the arguments -/
def EvB (b : Addr) (c : Nat) (ta : TA) (σ : L2.St) (G : Hp) (A : List Pr → Prop) : Prop := ∀ H1 k, Wb b G H1 (k + c) → ∀ Q : List V → Hp → Prop, (∀ ps vs H2 G2, A ps → Fb b G H1 G2 H2 → Wb b G2 H2 k → Al G2 ps vs → Q vs H2) → ta σ H1 Q
/-- behind a turn that may draw -/
def NxB (b : Addr) (Gb : Hp) (k : Nat) (Pv : L2.St → Hp → Hp → Prop) : L2.St → Hp → Prop := fun σ H => ∃ G, Ex Gb G ∧ Wb b G H k ∧ Pv σ G H
/-- for target in it, the body draws at most c0 times -/
theorem b_for {α : Type} {wi : TI} {g : TG} {l : List α} {c : α → Pr} {F : α → L2.St → Hp → L2.St → Prop} {c0 : Nat} (w : Wb b G H (k + l.length * c0)) (h : EvI wi σ G l c) (hg : ∀ a σ', Tg g (c a) σ' (F a σ')) (Pv : Nat → L2.St → Hp → Hp → Prop)
    (h0 : ∀ H2 G2, Fr G H G2 H2 → Pv 0 σ G2 H2) (hst : ∀ i σ' G1 H1 G2 H2, Pv i σ' G1 H1 → H1 b ≠ none → Fr G1 H1 G2 H2 → Pv i σ' G2 H2)
    (hs : ∀ i a σ' Gb G1 H1 σ2 k1, l[i]? = some a → Ex G Gb → Ex Gb G1 → Wb b G1 H1 (k1 + c0) → Pv i σ' G1 H1 → F a σ' G1 σ2 → tu { D with nx := NxB b Gb k1 (Pv (i + 1)), ct := NxB b Gb k1 (Pv (i + 1)), bk := D.nx } σ2 H1)
    (hd : ∀ σ' G1 H1, Ex G G1 → Wb b G1 H1 k → Pv l.length σ' G1 H1 → D.nx σ' H1) : tFor wi g tu D σ H := h H w.e _ fun J H2 G2 f wk =>
  for_it wk.walk (fun i => NxB b G2 (k + (l.length - i) * c0) (Pv i)) ⟨G2, Ex.refl G2, w.go f, h0 H2 G2 f⟩ (fun i σ' H' _ hp => by
    obtain ⟨G1, e1, e2, _⟩ := hp
    exact e1.trans e2.e) (fun i x σ' H1 H3 hi hp y => by
    obtain ⟨G1, e1, w1, hp⟩ := hp
    obtain ⟨a, hla, hy⟩ := y
    obtain ⟨G3, f3, hx⟩ := hy G1 e1 w1.e
    have w3 := w1.go f3
    have hsub : k + (l.length - i) * c0 = k + (l.length - (i + 1)) * c0 + c0 := by
      have : l.length - i = (l.length - (i + 1)) + 1 := by omega
      rw [this, Nat.add_mul, Nat.one_mul]
      omega
    rw [hsub] at w3
    exact hg a σ' G3 x H3 hx f3.k _ fun σ2 hσ => hs i a σ' G2 G3 H3 σ2 _ hla f.g (e1.trans f3.g) w3 (hst i σ' G1 H1 G3 H3 hp w1.ne f3) hσ) (fun σ' H' hp => by
    obtain ⟨G1, e1, w1, hp⟩ := hp
    rw [Nat.sub_self, Nat.zero_mul, Nat.add_zero] at w1
    exact hd σ' G1 H' (f.g.trans e1) w1 hp)
theorem q_forB {α : Type} {wi : TI} {g : TG} {l : List α} {c : α → Pr} {F : α → L2.St → Hp → L2.St → Prop} {c0 : Nat} (w : Wb b G H (k + l.length * c0)) (h : EvI wi σ G l c) (hg : ∀ a σ', Tg g (c a) σ' (F a σ')) (Pv : Nat → L2.St → Hp → Hp → Prop)
    (h0 : ∀ H2 G2, Fr G H G2 H2 → Pv 0 σ G2 H2) (hst : ∀ i σ' G1 H1 G2 H2, Pv i σ' G1 H1 → H1 b ≠ none → Fr G1 H1 G2 H2 → Pv i σ' G2 H2)
    (hs : ∀ i a σ' Gb G1 H1 σ2 k1, l[i]? = some a → Ex G Gb → Ex Gb G1 → Wb b G1 H1 (k1 + c0) → Pv i σ' G1 H1 → F a σ' G1 σ2 → tu { D with nx := NxB b Gb k1 (Pv (i + 1)), ct := NxB b Gb k1 (Pv (i + 1)), bk := tz D } σ2 H1)
    (hd : ∀ σ' G1 H1, Ex G G1 → Wb b G1 H1 k → Pv l.length σ' G1 H1 → tz D σ' H1) : tSeq (tFor wi g tu) tz D σ H := b_for (D := { D with nx := tz D }) w h hg Pv h0 hst hs hd
/-! readings opened one by one -/
theorem c_asg (h : te σ H fun v H1 => tz D (σ.set i (some v)) H1) : tSeq (tAsg te (gName i)) tz D σ H := h
theorem c_asgS (h : te σ H fun v H1 => D.nx (σ.set i (some v)) H1) : tAsg te (gName i) D σ H := h
theorem c_op {r : R2} {Q : VK} (h : ta σ H fun x H1 => tb σ H1 fun y H2 => r x y H2 Q) : tOp r ta tb σ H Q := h
theorem c_ret (h : te σ H D.rt) : tRet te D σ H := h
theorem c_cons {tr : TA} {Q : List V → Hp → Prop} (h : te σ H fun v H1 => tr σ H1 fun vs H2 => Q (v :: vs) H2) : tCons te tr σ H Q := h
theorem c_cb {r : List V → Hp → VK → Prop} {ta : TA} {Q : VK} (h : ta σ H fun vs H1 => r vs H1 Q) : tCB r ta σ H Q := h
theorem c_par {i j : Nat} {ta : TA} (h : ta σ H fun vs H1 => ∃ v w, vs = [v, w] ∧ tz D ((σ.set i (some v)).set j (some w)) H1) : tSeq (tPar i j ta) tz D σ H := h
theorem c_lst {ta : TA} {Q : VK} (h : ta σ H fun vs H1 => vs.length ≤ sizeLine ∧ ∀ p, H1 p = none → Q (.ref p) (upd H1 p (.lst vs))) : tLst ta σ H Q := h
theorem c_tup {ta : TA} {Q : VK} (h : ta σ H fun vs H1 => vs.length ≤ sizeLine ∧ ∀ p, H1 p = none → Q (.ref p) (upd H1 p (.tup vs))) : tTup ta σ H Q := h
theorem c_asgG {g : TG} (h : te σ H fun v H1 => g v σ H1 fun σ2 H2 => tz D σ2 H2) : tSeq (tAsg te g) tz D σ H := h
theorem et_or2 {a c : Bool} (h1 : EvT t σ G a) (h2 : EvT u σ G c) (ha : a = false) (hc : c = false) : EvT (tOr t u) σ G false := et_is (et_or h1 fun _ => h2) (by rw [ha, hc]; rfl)
end
end OP

/-! PreObj: own __getitem__, __len__, __eq__ against other types. -/
namespace OP
open PySem PySem.Spec PyProof.Rows L2 Evl
section
variable {X : Cx} {CX : CXT} {n : Nat} {C f : Addr} {fd : FuncData} {ps : List Str} {sp : Sp} {E : XK}
theorem run_in1 {pins : List (Addr × Obj)} {σ : L2.St} {H : Hp} {s : Shared} {Q : VK} {us : List Value} {vs : List V} (F : FnOk X.prog X.w X.K X.mg X.base CX n f fd ps sp) (hr : Room (n + 1) X.A) (hb : Binds X.K fd ps []) (hx : Passes CX X E)
    (I : Inv X pins σ H s) (r : Vals vs us) (h : sp vs H Q E) : wpAny (model X.prog X.w) X.A.in1 (call (.ref f) us) (EP X pins σ Q) X.xe s := by
  have hl := F.len _ _ _ _ h
  refine wpAny_call (codeAny_mono (F.run X.A.in1 X.stack s H ⟨us, []⟩ us vs Q E hr.in1 I.env0.in1 (by
    have := hb s us I.kIn (by rw [List.append_nil, ← r.length]; exact hl)
    rwa [List.append_nil] at this) r h) fun r s' hq => ?_)
  cases r with
  | error e => exact hx pins σ H _ e s' I hq
  | ok fl =>
    cases fl with
    | ret w => exact I.after hq
    | next => exact False.elim hq
    | brk => exact False.elim hq
    | cont => exact False.elim hq
/-- a method that the language calls by itself: its def at f -/
structure OwnM (K : PySem.W.Frag) (C : Addr) (m : Str) (f : Addr) : Prop where
  at_ : PySem.W.findIn K (.ref C) m = some (some (.ref f))
  fn : PySem.W.isFn K (.ref f) = true
  fi : PySem.W.fnIn K f = true
/-- o[i] by an own __getitem__ -/
def tOwnIx (C : Addr) (sp : Sp) (E : XK) (ta tb : TE) : TE := tOp (fun x y H Q => ∃ a dx fs, x = .ref a ∧ H a = some (.ins C dx fs) ∧ sp [x, y] H Q E) ta tb
theorem pe_ownIx {a b : Expr} {ta tb : TE} {pos : Pos} (O : OwnM X.K C "__getitem__" f) (F : FnOk X.prog X.w X.K X.mg X.base CX n f fd ps sp) (hr : Room (n + 1) X.A) (hb : Binds X.K fd ps []) (hx : Passes CX X E) (ha : PE X a ta) (hbb : PE X b tb)
    (hs : ∀ o i, subscripted b true o i = runValue (.builtin "lifetime.subscript" ⟨[o, i], []⟩) := by intro _ _; with_unfolding_all rfl) : PE X (.Subscript a b pos) (tOwnIx C sp E ta tb) := by
  refine ⟨fun pins s σ H Q I h => ?_⟩
  refine Subscript_ (binT ha hbb I h fun v u s2 x y H2 I2 rx ry q => ?_)
  obtain ⟨a', dx, fs, rfl, hi, q⟩ := q
  cases rx
  obtain ⟨mA, J, _⟩ := ins_get I2.hok hi
  obtain ⟨od, J, _⟩ := J.look
  obtain ⟨m, hF⟩ := I2.fr
  exact PySem.W.sub_K hF I2.ok.mod.kin J O.at_ O.fi O.fn (run_in1 (vs := [.ref a', y]) F hr hb hx I2 (.cons rfl (.cons ry .nil)) q) (hs _ _)
/-- len(o) by an own __len__ -/
def rLenO (C : Addr) (sp : Sp) (E : XK) : List V → Hp → VK → Prop := fun xs H Q => ∃ a dx fs, xs = [.ref a] ∧ H a = some (.ins C dx fs) ∧ sp xs H (fun v H' => ∃ i : Int, v = .int i ∧ 0 ≤ i ∧ i < 2 ^ 63 ∧ Q (.int i) H') E
theorem call_lenO (O : OwnM X.K C "__len__" f) (F : FnOk X.prog X.w X.K X.mg X.base CX n f fd ps sp) (hr : Room (n + 1) X.A) (hb : Binds X.K fd ps []) (hx : Passes CX X E) : CallR X (.builtin "len") (rLenO C sp E) := by
  intro pins s σ H xs us Q I r h
  obtain ⟨a, dx, fs, rfl, hi, q⟩ := h
  obtain ⟨u, rfl, ru⟩ := vals1 r
  cases ru
  obtain ⟨mA, J, _⟩ := ins_get I.hok hi
  obtain ⟨od, J, _⟩ := J.look
  obtain ⟨m, hF⟩ := I.fr
  refine PySem.W.len_K hF I.ok.mod.kin J O.at_ O.fn (wpAny_mono (run_in1 (vs := [.ref a]) F hr hb hx I (.cons rfl .nil) q) (fun v s' z => ?_) fun _ _ z => z)
  obtain ⟨w, H', I', rw', i, rfl, h0, h1, hq⟩ := z
  obtain ⟨t, rfl⟩ := rw'
  exact ⟨⟨h0, h1⟩, .int i, H', I'.tok _, ⟨_, rfl⟩, hq⟩
/-- == of an instance and a value of another type -/
def rOwnX (K : PySem.W.Frag) (C : Addr) (sp : Sp) (E : XK) : R2 := fun x y H Q => ∃ a dx fs t, x = .ref a ∧ H a = some (.ins C dx fs) ∧ TyX K H y t ∧ PySem.W.notFirst K C t = true ∧
  sp [x, y] H (fun v H' => ∃ c, v = .bl c ∧ Q (.bl c) H') E
theorem op_ownEqX (O : OwnE X.K C f) (F : FnOk X.prog X.w X.K X.mg X.base CX n f fd ps sp) (hr : Room n X.A) (hb : Binds X.K fd ps []) (hx : Passes CX X E) : OpR X (compareOp .Eq) (rOwnX X.K C sp E) := by
  intro pins s σ H x y v u Q I rx ry h
  obtain ⟨a, dx, fs, t, rfl, ha, hy, hn, q⟩ := h
  cases rx
  obtain ⟨mA, J, _⟩ := ins_get I.hok ha
  obtain ⟨od, J, _⟩ := J.look
  obtain ⟨P, Z, p, _⟩ := kit_of I ry hy
  obtain ⟨m, hF⟩ := I.fr
  unfold compareOp
  refine PySem.W.cmp_K (op := .Eq) (tb := t) hr.units0 hF I.ok.mod.kin J (Z.ty _ _ I.kIn p) hn O.at_ O.fn ?_
  refine wpAny_mono (run_fn (us := [.ref a, u]) (vs := [.ref a, y]) (dvs := []) F hr hb .nil hx I (.cons rfl (.cons ry .nil)) q) (fun w s' z => ?_) fun _ _ x => x
  obtain ⟨z', H', I', rz, c, rfl, qz⟩ := z
  cases rz
  exact ⟨.bl c, H', I', rfl, qz⟩
variable {K : PySem.W.Frag}
theorem op_ownEqXK (O : OwnE X.K C f) (F : FnOk X.prog X.w X.K X.mg X.base CX n f fd ps sp) (hr : Room n X.A) (hb : Binds X.K fd ps []) (hx : Passes CX X E) (h : X.K = K := by rfl) : OpR X (compareOp .Eq) (rOwnX K C sp E) := h ▸ op_ownEqX O F hr hb hx
end
section
variable {K : PySem.W.Frag} {σ : L2.St} {G : Hp} {ta tb : TE} {p q : Pr} {ps : List Pr} {E : XK} {C : Addr} {fs : List (Str × Pr)}
theorem ep_ownIx {A : List Pr → Pr → Prop} (h1 : EvP ta σ G (pObj C fs)) (h2 : EvP tb σ G q) (a : A [pObj C fs, q] p) : EvP (tOwnIx C (spF A) E ta tb) σ G p := fun H1 e Q k =>
  h1 H1 e _ fun v H2 G2 g hv => (h2.mono g.g) H2 g.k _ fun w H3 G3 g3 hw => by
  have hv2 := (pObj C fs).up g3.g hv
  have hv' := hv2
  obtain ⟨b, dx, xs, rfl, q1, q2⟩ := hv2
  exact ⟨b, dx, _, rfl, g3.k _ _ q1, G3, _, _, a, g3.k, ⟨hv', hw, trivial⟩, fun v H4 G4 f4 hv => k v H4 G4 ((g.trans g3).trans f4) hv⟩
theorem ev_lenO {A : List Pr → Pr → Prop} {i : Nat} (h1 : EvP ta σ G (pObj C fs)) (hi : i < 1000000) (a : A [pObj C fs] (pV (.int i))) : Ev (tCB (rLenO C (spF A) E) (tCons ta tNil)) σ G (.int i) := fun H1 e Q k =>
  h1 H1 e _ fun v H2 G2 g hv => by
  have hv' := hv
  obtain ⟨b, dx, xs, rfl, q1, q2⟩ := hv
  exact ⟨b, dx, _, rfl, g.k _ _ q1, G2, _, _, a, g.k, ⟨hv', trivial⟩, fun v H4 G4 f4 hv => ⟨i, hv, by omega, by omega, k H4 (g.h.trans f4.h)⟩⟩
theorem ev_ownX {A : List Pr → Pr → Prop} {c : Bool} {t : Value} (h1 : EvP ta σ G (pObj C fs)) (h2 : EvP tb σ G q) (ht : PTy K q t) (hn : PySem.W.notFirst K C t = true) (a : A [pObj C fs, q] (pV (.bl c))) : Ev (tOp (rOwnX K C (spF A) E) ta tb) σ G (.bl c) := fun H1 e Q k =>
  h1 H1 e _ fun v H2 G2 g hv => (h2.mono g.g) H2 g.k _ fun w H3 G3 g3 hw => by
  have hv2 := (pObj C fs).up g3.g hv
  have hv' := hv2
  obtain ⟨b, dx, xs, rfl, q1, q2⟩ := hv2
  exact ⟨b, dx, _, t, rfl, g3.k _ _ q1, TyX.up g3.k (ht G3 w hw), hn, G3, _, _, a, g3.k, ⟨hv', hw, trivial⟩, fun v H4 G4 f4 hv => ⟨c, hv, k H4 ((g.trans g3).h.trans f4.h)⟩⟩
end
end OP

/-! PreStr: str(o) by an own __str__. -/
namespace OP
open PySem PySem.Spec PyProof.Rows L2 Evl
section
variable {prog : Program} {w : World} {A : Around} {E : Value → Shared → Prop} {s : Shared} {K : PySem.W.Frag} {x C f : Addr} {ox : Obj} {od : Option Obj}
theorem strNew_in {v : Value} {S : PySem.Spec} (hs : ∀ (A : Around) (R : Result → Shared → Prop) (s : Shared), S A R s → wpAny (model prog w) A.in1 (Builtin.Str.strOf v) (fun r s' => R (.ok (.ret r)) s') (fun e s' => R (.error e) s') s) : MeetsIn prog w (Builtin.«str.__new__» ⟨[.type "str", v], []⟩) S := by
  refine MeetsIn.of_wp fun A R s h => ?_
  rw [str_new_tree v]
  refine wpAny_bind (wpAny_pure ?_)
  refine wpAny_bind (wpAny_of_eq isSubtype_str_str ?_)
  exact wpAny_bind (wpAny_mono (hs A R s h) (fun r s' h' => wpAny_pure ⟨_, rfl, h'⟩) fun _ _ e => e)
theorem str_own {Q : Value → Shared → Prop} (hu : A.in1.in1.units < cLine) (X : K.In s.heap) (I : PySem.W.InstAt s.heap x ox C od) (hs : PySem.W.findIn K (.ref C) "__str__" = some (some (.ref f))) (hf : PySem.W.isFn K (.ref f) = true)
    (h : wpAny (model prog w) A.in1.in1 (call (.ref f) [.ref x]) (PySem.W.StrBack Q) E s) : wpAny (model prog w) A (call (.type "str") [.ref x]) Q E s := by
  refine callType_newIn (S := fun A R s => wpAny (model prog w) A.in1 (Builtin.Str.strOf (.ref x)) (fun r s' => R (.ok (.ret r)) s') (fun e s' => R (.error e) s') s) PySem.F.called_str (by decide) (PySem.F.typeCall_str_1 _) (PySem.F.newCall_str_1 _) (fun obj => PySem.F.args_object_init_2 obj _) PySem.F.entry_str_new (strNew_in fun A R s h => h) ?_
  show wpAny _ _ (Builtin.Str.strOf (.ref x)) _ _ _
  unfold Builtin.Str.strOf
  rw [show Builtin.Str.isExactStr (.ref x) = false from rfl]
  simp only [Bool.false_eq_true, if_false]
  refine wpAny_bind (wpAny_cRoomFor hu ?_)
  refine wpAny_bind (m := callSpecial? (.ref x) (Str.ofString "__str__")) (PySem.W.special_fn X I hs (beq_iff_eq.mp hf) (wpAny_mono h (fun r s' hr => ?_) fun _ _ y => y))
  cases r <;> first | exact hr.elim | skip
  rename_i a t
  exact wpAny_pure ⟨typeIs_str _ _ _, hr⟩
end
section
variable {X : Cx} {CX : CXT} {n : Nat} {C f : Addr} {fd : FuncData} {ps : List Str} {sp : Sp} {E : XK}
def rStrO (C : Addr) (sp : Sp) (E : XK) : List V → Hp → VK → Prop := fun xs H Q => ∃ a dx fs, xs = [.ref a] ∧ H a = some (.ins C dx fs) ∧ sp xs H (fun v H' => ∃ z : Str, v = .str z ∧ Q (.str z) H') E
theorem call_strO (O : OwnM X.K C "__str__" f) (F : FnOk X.prog X.w X.K X.mg X.base CX n f fd ps sp) (hr : Room (n + 2) X.A) (hb : Binds X.K fd ps []) (hx : Passes CX X E) : CallR X (.type "str") (rStrO C sp E) := by
  intro pins s σ H xs us Q I r h
  obtain ⟨a, dx, fs, rfl, hi, q⟩ := h
  obtain ⟨u, rfl, ru⟩ := vals1 r
  cases ru
  obtain ⟨mA, J, _⟩ := ins_get I.hok hi
  obtain ⟨od, J, _⟩ := J.look
  have hr1 : Room (n + 1) X.A.in1 := hr.in1
  have hr2 : Room n X.A.in1.in1 := hr1.in1
  refine str_own hr2.units0 I.kIn J O.at_ O.fn ?_
  have r2 : Vals [V.ref a] [Value.ref a] := .cons rfl .nil
  have hl := F.len _ _ _ _ q
  refine wpAny_call (codeAny_mono (F.run X.A.in1.in1 X.stack s H ⟨[.ref a], []⟩ [.ref a] [.ref a] _ E hr2 I.env0.in1.in1 (by
    have := hb s [.ref a] I.kIn (by rw [List.append_nil, ← r2.length]; exact hl)
    rwa [List.append_nil] at this) r2 q) fun r s' hq => ?_)
  cases r with
  | error e => exact hx pins σ H _ e s' I hq
  | ok fl =>
    cases fl with
    | ret w =>
      obtain ⟨z, H', I', rz, z', rfl, qz⟩ := I.after hq
      obtain ⟨t, rfl⟩ := rz
      exact ⟨.str z', H', I', ⟨t, rfl⟩, qz⟩
    | next => exact False.elim hq
    | brk => exact False.elim hq
    | cont => exact False.elim hq
end
section
variable {K : PySem.W.Frag} {σ : L2.St} {G : Hp} {ta : TE} {E : XK} {C : Addr} {fs : List (Str × Pr)}
theorem ev_strO {A : List Pr → Pr → Prop} {z : Str} (h1 : EvP ta σ G (pObj C fs)) (a : A [pObj C fs] (pV (.str z))) : Ev (tCB (rStrO C (spF A) E) (tCons ta tNil)) σ G (.str z) := fun H1 e Q k =>
  h1 H1 e _ fun v H2 G2 g hv => by
  have hv' := hv
  obtain ⟨b, dx, xs, rfl, q1, q2⟩ := hv
  exact ⟨b, dx, _, rfl, g.k _ _ q1, G2, _, _, a, g.k, ⟨hv', trivial⟩, fun v H4 G4 f4 hv => ⟨z, hv, k H4 (g.h.trans f4.h)⟩⟩
end
end OP

/-! PreCls: cls(..) of a class that a local name holds; a classmethod called on the class. -/
namespace OP
open PySem PySem.Spec PyProof.Rows L2 Evl
theorem rawR {P : Program} {w : World} {K : PySem.W.Frag} {mg : Str → Option Value} {base : Heap} {CX : CXT} {k : Nat} {f : Addr} {fd : FuncData} {ps : List Str} {sp : Sp} (F : FnOk P w K mg base CX k f fd ps sp) (hb : Binds K fd ps []) : FnR P w K mg base CX k f sp :=
  (F.raw hb .nil).imp fun vs H Q E h => by rw [List.append_nil]; exact h
def tMakeL (i : Nat) (C : Addr) (sp : Sp) (E : XK) (t : TA) : TE := fun σ H Q => σ[i]? = some (some (.ref C)) ∧ tMake C sp [] E t σ H Q
section
variable {X : Cx} {CX : CXT} {k i : Nat} {f C : Addr} {fd : FuncData} {ps : List Str} {sp : Sp} {E : XK} {x : Str} {p pos : Pos} {e : Expr} {es : List Expr} {t : TA}
theorem pe_makeL (M : Mk X.K C f) (F : FnOk X.prog X.w X.K X.mg X.base CX k f fd ps sp) (hr : Room (k + 1) X.A) (hN : X.N[i]? = some x) (hv : Vis X.env.scope x) (hb : Binds X.K fd ps []) (hx : Passes CX X E) (ha : PA X (e :: es) t)
    (hdb : (x == ("__debug__" : Str)) = false := by decide) (hcd : (x == ("__classdict__" : Str)) = false := by decide)
    (he : starEach (e :: es) X.env = (false, eval e X.env) :: starEach es X.env := by rfl) (hpl : (backTo pos (starEach es X.env)).any (·.1) = false := by rfl) : PE X (.Call (.Name x p) (e :: es) [] pos) (tMakeL i C sp E t) := by
  refine ⟨fun pins s σ H Q I h => ?_⟩
  obtain ⟨hs, ht⟩ := h
  refine wpAny_Call_Name_kw (thn ((pe_var (pos := p) hN hv hdb hcd).run pins s σ H (fun v H1 => v = .ref C ∧ H1 = H) I ⟨.ref C, hs, rfl, rfl⟩) fun u s1 ⟨v, H1, I1, r1, q1⟩ => ?_)
  obtain ⟨rfl, rfl⟩ := q1
  cases r1
  refine PySem.W.callWith_K (h₀ := X.base) I.ok.mod.kin M.kp (thn (ha.run pos pins s1 σ _ _ I1 ht) fun us s2 ⟨vs, H2, I2, r, q⟩ => ⟨I2.kIn, ?_⟩) he hpl
  exact run_make M F hr hb .nil hx I2 r q
end
section
variable {K : PySem.W.Frag} {σ : L2.St} {G : Hp} {ta : TE} {E : XK} {C : Addr} {p : Pr} {ps : List Pr} {fs : List (Str × Pr)}
theorem ep_makeL {i : Nat} {A : List Pr → List (Str × Pr) → Prop} {tr : TA} (hi : σ[i]? = some (some (.ref C))) (hr : EvPs tr σ G ps) (a : A ps fs) : EvP (tMakeL i C (spI C A) E tr) σ G (pObj C fs) := fun H1 e Q k => ⟨hi, ep_make hr a H1 e Q k⟩
theorem ep_cmeth {A : List Pr → Pr → Prop} {tr : TA} (h : Ev ta σ G (.ref C)) (hr : EvPs tr σ G ps) (a : A (pV (.ref C) :: ps) p) : EvP (ClX.tCMeth C (spF A) E ta tr) σ G p := fun H1 e Q k =>
  h H1 e _ fun H2 e2 => ⟨rfl, hr H2 (e.trans e2) _ fun vs H3 G3 g3 hvs => ⟨G3, pV (.ref C) :: ps, p, a, g3.k, ⟨rfl, hvs⟩, fun v H4 G4 f4 hv => k v H4 G4 ⟨g3.g.trans f4.g, e2.trans (g3.h.trans f4.h), f4.k, fun b h1 h2 => f4.n b (g3.n b h1 (ne_up e2 h2)) (ne_up (e2.trans g3.h) h2)⟩ hv⟩⟩
theorem ei_alt1 {α : Type} {w1 w2 : TI} {l : List α} {c : α → Pr} (h : EvI w1 σ G l c) : EvI (fun σ H R => w1 σ H R ∨ w2 σ H R) σ G l c := fun H1 e R k => .inl (h H1 e R k)
theorem ei_alt2 {α : Type} {w1 w2 : TI} {l : List α} {c : α → Pr} (h : EvI w2 σ G l c) : EvI (fun σ H R => w1 σ H R ∨ w2 σ H R) σ G l c := fun H1 e R k => .inr (h H1 e R k)
theorem ep_alt1 {t1 t2 : TE} (h : EvP t1 σ G p) : EvP (fun σ H Q => t1 σ H Q ∨ t2 σ H Q) σ G p := fun H1 e Q k => .inl (h H1 e Q k)
theorem ep_alt2 {t1 t2 : TE} (h : EvP t2 σ G p) : EvP (fun σ H Q => t1 σ H Q ∨ t2 σ H Q) σ G p := fun H1 e Q k => .inr (h H1 e Q k)
end
end OP

/-! DnA: values as trees (Dv), cells that may change (Cell), what stands for them in the heap. -/
namespace DN
open PySem PySem.Spec PyProof.Rows L2 Evl
/-- a value that does not change: a tree -/
inductive Dv where
  | non | bl (b : Bool) | int (i : Int) | str (s : Str) | ty (n : String) | cls (c : String)
  | lst (l : List Dv) | tup (l : List Dv) | obj (c : String) (l : List Dv) | dic (t : Bool) (ks vs : List Dv) | scr (l : List Int) | ktp (l : List Dv)
instance : Inhabited Dv := ⟨.non⟩
/-- a thing that may change; it is made of values that do not -/
inductive Cell where
  | lst (l : List Dv) | ob (c : String) (l : List Dv) | dc (t : Bool) (ks vs : List Dv) | dead
abbrev Sto := List Cell
/-- what a name may hold: a value, a cell -/
inductive Vr where
  | d (v : Dv) | r (n : Nat)
/-- what is fixed: the written part, the classes' addresses, their fields -/
structure Zt where
  K : PySem.W.Frag
  cm : String → Addr
/-- the fields of the package's classes, in the order in which they are set -/
def flds (c : String) : List Str :=
  if c = "Web" then ["houses", "ties", "known", "beside"]
  else if c = "Addresses" then ["kept"]
  else if c = "Tree" then ["spans", "web", "root", "parents", "lists", "ranks"]
  else if c = "LongWeb" then ["web", "spans", "rows"]
  else if c = "LongTree" then ["long", "row", "parents", "houses", "lists"]
  else if c = "Stand" then ["own_names", "ties"]
  else if c = "Post" then ["past"]
  else []
def key? : Dv → Option Key
  | .int i => some (.inl i)
  | .str s => some (.inr s)
  | _ => none
def tkey? : Dv → Option (List Key)
  | .tup l => l.mapM key?
  | _ => none
def DicAt (t : Bool) (o : Option HO) (ks : List Dv) (ws : List V) : Prop := match t with
  | false => ∃ kk : List Key, ks.map key? = kk.map some ∧ o = some (.dK (kk.zip ws))
  | true => ∃ kk : List (List Key), ks.map tkey? = kk.map some ∧ o = some (.dT (kk.zip ws))
mutual
/-- v stands for d, by the known part G -/
def On (Z : Zt) (G : Hp) : Dv → V → Prop
  | .non, v => v = .non
  | .bl b, v => v = .bl b
  | .int i, v => v = .int i
  | .str s, v => v = .str s
  | .ty s, v => v = .ty s
  | .cls c, v => v = .ref (Z.cm c)
  | .scr l, v => ∃ a, v = .ref a ∧ SqL Z.K G a (l.map V.int)
  | .ktp l, v => ∃ a xs, v = .ref a ∧ SqT Z.K (fun _ => none) a xs ∧ OnL Z G l xs
  | .lst l, v => ∃ a xs, v = .ref a ∧ G a = some (.lst xs) ∧ OnL Z G l xs
  | .tup l, v => ∃ a xs, v = .ref a ∧ G a = some (.tup xs) ∧ OnL Z G l xs
  | .obj c l, v => ∃ a dx xs, v = .ref a ∧ G a = some (.ins (Z.cm c) dx ((flds c).zip xs)) ∧ l.length ≤ (flds c).length ∧ OnL Z G l xs
  | .dic t ks vs, v => ∃ a ws, v = .ref a ∧ DicAt t (G a) ks ws ∧ ks.length = ws.length ∧ OnL Z G vs ws
def OnL (Z : Zt) (G : Hp) : List Dv → List V → Prop
  | [], xs => xs = []
  | d :: l, xs => ∃ y ys, xs = y :: ys ∧ On Z G d y ∧ OnL Z G l ys
end
theorem DicAt.up {G H : Hp} (e : Ex G H) {t : Bool} {a : Addr} {ks : List Dv} {ws : List V} (h : DicAt t (G a) ks ws) : DicAt t (H a) ks ws := by
  cases t with
  | false => obtain ⟨kk, h1, h2⟩ := h; exact ⟨kk, h1, e _ _ h2⟩
  | true => obtain ⟨kk, h1, h2⟩ := h; exact ⟨kk, h1, e _ _ h2⟩
def Px (α β : List Addr) : Prop := ∃ γ, β = α ++ γ
theorem Px.refl (α : List Addr) : Px α α := ⟨[], by simp⟩
theorem Px.trans {α β γ : List Addr} (a : Px α β) (b : Px β γ) : Px α γ := by
  obtain ⟨x, rfl⟩ := a
  obtain ⟨y, rfl⟩ := b
  exact ⟨x ++ y, by rw [List.append_assoc]⟩
theorem Px.get {α β : List Addr} (a : Px α β) {n : Nat} {x : Addr} (h : α[n]? = some x) : β[n]? = some x := by
  obtain ⟨y, rfl⟩ := a
  rw [List.getElem?_append_left (List.getElem?_eq_some_iff.mp h).1]
  exact h
theorem Px.mem {α β : List Addr} (a : Px α β) {x : Addr} (h : x ∈ α) : x ∈ β := by
  obtain ⟨y, rfl⟩ := a
  exact List.mem_append_left _ h
section
variable {Z : Zt} {G G' H H' : Hp} {α β : List Addr}
mutual
theorem On.up (e : Ex G G') : ∀ {d : Dv} {v : V}, On Z G d v → On Z G' d v
  | .non, _, h => by unfold On at h ⊢; exact h
  | .bl _, _, h => by unfold On at h ⊢; exact h
  | .int _, _, h => by unfold On at h ⊢; exact h
  | .str _, _, h => by unfold On at h ⊢; exact h
  | .ty _, _, h => by unfold On at h ⊢; exact h
  | .cls _, _, h => by unfold On at h ⊢; exact h
  | .scr l, v, h => by
    unfold On at h ⊢
    obtain ⟨a, h1, h2⟩ := h
    exact ⟨a, h1, ex_l e h2⟩
  | .lst l, v, h => by
    unfold On at h ⊢
    obtain ⟨a, xs, h1, h2, h3⟩ := h
    exact ⟨a, xs, h1, e _ _ h2, OnL.up e h3⟩
  | .ktp l, v, h => by
    unfold On at h ⊢
    obtain ⟨a, xs, h1, h2, h3⟩ := h
    exact ⟨a, xs, h1, h2, OnL.up e h3⟩
  | .tup l, v, h => by
    unfold On at h ⊢
    obtain ⟨a, xs, h1, h2, h3⟩ := h
    exact ⟨a, xs, h1, e _ _ h2, OnL.up e h3⟩
  | .obj c l, v, h => by
    unfold On at h ⊢
    obtain ⟨a, dx, xs, h1, h2, h4, h3⟩ := h
    exact ⟨a, dx, xs, h1, e _ _ h2, h4, OnL.up e h3⟩
  | .dic t ks l, v, h => by
    unfold On at h ⊢
    obtain ⟨a, xs, h1, h2, h4, h3⟩ := h
    exact ⟨a, xs, h1, h2.up e, h4, OnL.up e h3⟩
theorem OnL.up (e : Ex G G') : ∀ {l : List Dv} {xs : List V}, OnL Z G l xs → OnL Z G' l xs
  | [], _, h => by unfold OnL at h ⊢; exact h
  | d :: l, xs, h => by
    unfold OnL at h ⊢
    obtain ⟨y, ys, h1, h2, h3⟩ := h
    exact ⟨y, ys, h1, On.up e h2, OnL.up e h3⟩
end
theorem OnL.nil {xs : List V} : OnL Z G [] xs ↔ xs = [] := by unfold OnL; exact Iff.rfl
theorem OnL.cons {d : Dv} {l : List Dv} {xs : List V} : OnL Z G (d :: l) xs ↔ ∃ y ys, xs = y :: ys ∧ On Z G d y ∧ OnL Z G l ys := by
  constructor
  · intro h; unfold OnL at h; exact h
  · intro h; unfold OnL; exact h
theorem OnL.cons' {d : Dv} {l : List Dv} {y : V} {ys : List V} (h : On Z G d y) (t : OnL Z G l ys) : OnL Z G (d :: l) (y :: ys) := OnL.cons.mpr ⟨y, ys, rfl, h, t⟩
theorem OnL.nil' : OnL Z G [] [] := OnL.nil.mpr rfl
theorem OnL.one {d : Dv} {xs : List V} (h : OnL Z G [d] xs) : ∃ y, xs = [y] ∧ On Z G d y := by
  obtain ⟨y, ys, rfl, h2, h3⟩ := OnL.cons.mp h
  rw [OnL.nil.mp h3]
  exact ⟨y, rfl, h2⟩
theorem OnL.two {d e : Dv} {xs : List V} (h : OnL Z G [d, e] xs) : ∃ y z, xs = [y, z] ∧ On Z G d y ∧ On Z G e z := by
  obtain ⟨y, ys, rfl, h2, h3⟩ := OnL.cons.mp h
  obtain ⟨z, rfl, h4⟩ := h3.one
  exact ⟨y, z, rfl, h2, h4⟩
theorem OnL.len : ∀ {l : List Dv} {xs : List V}, OnL Z G l xs → xs.length = l.length
  | [], _, h => by rw [OnL.nil.mp h]; rfl
  | d :: l, xs, h => by
    obtain ⟨y, ys, rfl, _, h3⟩ := OnL.cons.mp h
    rw [List.length_cons, List.length_cons, OnL.len h3]
theorem OnL.app : ∀ {l m : List Dv} {xs ys : List V}, OnL Z G l xs → OnL Z G m ys → OnL Z G (l ++ m) (xs ++ ys)
  | [], _, _, _, h, g => by rw [OnL.nil.mp h]; exact g
  | d :: l, m, xs, ys, h, g => by
    obtain ⟨y, zs, rfl, h2, h3⟩ := OnL.cons.mp h
    exact OnL.cons' h2 (OnL.app h3 g)
theorem OnL.get : ∀ {l : List Dv} {xs : List V} {i : Nat} {d : Dv}, OnL Z G l xs → l[i]? = some d → ∃ x, xs[i]? = some x ∧ On Z G d x
  | [], _, _, _, _, e => by simp at e
  | c :: l, xs, 0, d, h, e => by
    obtain ⟨y, ys, rfl, h2, h3⟩ := OnL.cons.mp h
    simp at e
    subst e
    exact ⟨y, rfl, h2⟩
  | c :: l, xs, i + 1, d, h, e => by
    obtain ⟨y, ys, rfl, h2, h3⟩ := OnL.cons.mp h
    obtain ⟨x, h4, h5⟩ := OnL.get (i := i) h3 (by simpa using e)
    exact ⟨x, by simpa using h4, h5⟩
theorem OnL.got : ∀ {l : List Dv} {xs : List V} {i : Nat} {x : V}, OnL Z G l xs → xs[i]? = some x → ∃ d, l[i]? = some d ∧ On Z G d x
  | [], xs, i, x, h, e => by rw [OnL.nil.mp h] at e; simp at e
  | c :: l, xs, 0, d, h, e => by
    obtain ⟨y, ys, rfl, h2, h3⟩ := OnL.cons.mp h
    simp at e
    subst e
    exact ⟨c, rfl, h2⟩
  | c :: l, xs, i + 1, d, h, e => by
    obtain ⟨y, ys, rfl, h2, h3⟩ := OnL.cons.mp h
    obtain ⟨x, h4, h5⟩ := OnL.got (i := i) h3 (by simpa using e)
    exact ⟨x, by simpa using h4, h5⟩
theorem OnL.set : ∀ {l : List Dv} {xs : List V} {i : Nat} {d : Dv} {x : V}, OnL Z G l xs → On Z G d x → OnL Z G (l.set i d) (xs.set i x)
  | [], xs, i, d, x, h, e => by rw [OnL.nil.mp h]; exact OnL.nil'
  | c :: l, xs, 0, d, x, h, e => by
    obtain ⟨y, ys, rfl, h2, h3⟩ := OnL.cons.mp h
    exact OnL.cons' e h3
  | c :: l, xs, i + 1, d, x, h, e => by
    obtain ⟨y, ys, rfl, h2, h3⟩ := OnL.cons.mp h
    exact OnL.cons' h2 (OnL.set h3 e)
theorem OnL.take : ∀ {l : List Dv} {xs : List V} (n : Nat), OnL Z G l xs → OnL Z G (l.take n) (xs.take n)
  | _, _, 0, _ => by rw [List.take_zero, List.take_zero]; exact OnL.nil'
  | [], _, n + 1, h => by rw [OnL.nil.mp h]; exact OnL.nil'
  | d :: l, _, n + 1, h => by
    obtain ⟨y, ys, rfl, h2, h3⟩ := OnL.cons.mp h
    exact OnL.cons' h2 (OnL.take n h3)
theorem OnL.drop : ∀ {l : List Dv} {xs : List V} (n : Nat), OnL Z G l xs → OnL Z G (l.drop n) (xs.drop n)
  | _, _, 0, h => h
  | [], _, n + 1, h => by rw [OnL.nil.mp h]; exact OnL.nil'
  | d :: l, _, n + 1, h => by
    obtain ⟨y, ys, rfl, h2, h3⟩ := OnL.cons.mp h
    exact OnL.drop n h3
theorem OnL.rev {l : List Dv} {xs : List V} (h : OnL Z G l xs) : OnL Z G l.reverse xs.reverse := by
  induction l generalizing xs with
  | nil => rw [OnL.nil.mp h]; exact OnL.nil'
  | cons d l ih =>
    obtain ⟨y, ys, rfl, h2, h3⟩ := OnL.cons.mp h
    rw [List.reverse_cons, List.reverse_cons]
    exact (ih h3).app (OnL.cons' h2 OnL.nil')
theorem OnL.erase : ∀ {l : List Dv} {xs : List V} (i : Nat), OnL Z G l xs → OnL Z G (l.eraseIdx i) (xs.eraseIdx i)
  | [], _, _, h => by rw [OnL.nil.mp h]; exact OnL.nil'
  | d :: l, _, 0, h => by
    obtain ⟨y, ys, rfl, h2, h3⟩ := OnL.cons.mp h
    exact h3
  | d :: l, _, i + 1, h => by
    obtain ⟨y, ys, rfl, h2, h3⟩ := OnL.cons.mp h
    exact OnL.cons' h2 (OnL.erase i h3)
/-- what v is at its top, in the heap as it stands; its parts are known -/
def OnH (Z : Zt) (G H : Hp) : Dv → V → Prop
  | .non, v => v = .non
  | .bl b, v => v = .bl b
  | .int i, v => v = .int i
  | .str s, v => v = .str s
  | .ty s, v => v = .ty s
  | .cls c, v => v = .ref (Z.cm c)
  | .scr l, v => ∃ a, v = .ref a ∧ SqL Z.K G a (l.map V.int)
  | .lst l, v => ∃ a xs, v = .ref a ∧ H a = some (.lst xs) ∧ OnL Z G l xs
  | .ktp l, v => ∃ a xs, v = .ref a ∧ SqT Z.K (fun _ => none) a xs ∧ OnL Z G l xs
  | .tup l, v => ∃ a xs, v = .ref a ∧ G a = some (.tup xs) ∧ OnL Z G l xs
  | .obj c l, v => ∃ a dx xs, v = .ref a ∧ H a = some (.ins (Z.cm c) dx ((flds c).zip xs)) ∧ l.length ≤ (flds c).length ∧ OnL Z G l xs
  | .dic t ks vs, v => ∃ a ws, v = .ref a ∧ DicAt t (H a) ks ws ∧ ks.length = ws.length ∧ OnL Z G vs ws
theorem On.h (e : Ex G H) {d : Dv} {v : V} (h : On Z G d v) : OnH Z G H d v := by
  cases d with
  | scr l => unfold On at h; exact h
  | lst l => unfold On at h; obtain ⟨a, xs, h1, h2, h3⟩ := h; exact ⟨a, xs, h1, e _ _ h2, h3⟩
  | ktp l => unfold On at h; exact h
  | tup l => unfold On at h; exact h
  | obj c l => unfold On at h; obtain ⟨a, dx, xs, h1, h2, h4, h3⟩ := h; exact ⟨a, dx, xs, h1, e _ _ h2, h4, h3⟩
  | dic t ks l => unfold On at h; obtain ⟨a, xs, h1, h2, h4, h3⟩ := h; exact ⟨a, xs, h1, h2.up e, h4, h3⟩
  | _ => unfold On at h; exact h
theorem OnH.on (e : Ex G H) {d : Dv} {v : V} (h : OnH Z G H d v) : On Z H d v := by
  cases d with
  | lst l => obtain ⟨a, xs, h1, h2, h3⟩ := h; unfold On; exact ⟨a, xs, h1, h2, h3.up e⟩
  | scr l => obtain ⟨a, h1, h2⟩ := h; unfold On; exact ⟨a, h1, ex_l e h2⟩
  | ktp l => obtain ⟨a, xs, h1, h2, h3⟩ := h; unfold On; exact ⟨a, xs, h1, h2, h3.up e⟩
  | tup l => obtain ⟨a, xs, h1, h2, h3⟩ := h; unfold On; exact ⟨a, xs, h1, e _ _ h2, h3.up e⟩
  | obj c l => obtain ⟨a, dx, xs, h1, h2, h4, h3⟩ := h; unfold On; exact ⟨a, dx, xs, h1, h2, h4, h3.up e⟩
  | dic t ks l => obtain ⟨a, xs, h1, h2, h4, h3⟩ := h; unfold On; exact ⟨a, xs, h1, h2, h4, h3.up e⟩
  | _ => unfold On; exact h
theorem OnH.upG (e : Ex G G') {d : Dv} {v : V} (h : OnH Z G H d v) : OnH Z G' H d v := by
  cases d with
  | lst l => obtain ⟨a, xs, h1, h2, h3⟩ := h; exact ⟨a, xs, h1, h2, h3.up e⟩
  | scr l => obtain ⟨a, h1, h2⟩ := h; exact ⟨a, h1, ex_l e h2⟩
  | ktp l => obtain ⟨a, xs, h1, h2, h3⟩ := h; exact ⟨a, xs, h1, h2, h3.up e⟩
  | tup l => obtain ⟨a, xs, h1, h2, h3⟩ := h; exact ⟨a, xs, h1, e _ _ h2, h3.up e⟩
  | obj c l => obtain ⟨a, dx, xs, h1, h2, h4, h3⟩ := h; exact ⟨a, dx, xs, h1, h2, h4, h3.up e⟩
  | dic t ks l => obtain ⟨a, xs, h1, h2, h4, h3⟩ := h; exact ⟨a, xs, h1, h2, h4, h3.up e⟩
  | _ => exact h
theorem ex_nil {G : Hp} : Ex (fun _ => none) G := fun _ _ h => nomatch h
/-! ### cells -/
def CellAt (Z : Zt) (G : Hp) : Cell → Option HO → Prop
  | .lst l, o => ∃ xs, o = some (.lst xs) ∧ OnL Z G l xs
  | .ob c l, o => ∃ dx xs, o = some (.ins (Z.cm c) dx ((flds c).zip xs)) ∧ l.length ≤ (flds c).length ∧ OnL Z G l xs
  | .dc t ks vs, o => ∃ ws, DicAt t o ks ws ∧ ks.length = ws.length ∧ OnL Z G vs ws
  | .dead, o => o ≠ none
theorem CellAt.up {c : Cell} {o : Option HO} (e : Ex G G') (h : CellAt Z G c o) : CellAt Z G' c o := by
  cases c with
  | lst l => obtain ⟨xs, h1, h2⟩ := h; exact ⟨xs, h1, h2.up e⟩
  | ob c l => obtain ⟨dx, xs, h1, h3, h2⟩ := h; exact ⟨dx, xs, h1, h3, h2.up e⟩
  | dc t ks vs => obtain ⟨xs, h1, h3, h2⟩ := h; exact ⟨xs, h1, h3, h2.up e⟩
  | dead => exact h
theorem DicAt.ne {t : Bool} {o : Option HO} {ks : List Dv} {ws : List V} (h : DicAt t o ks ws) : o ≠ none := by
  cases t with
  | false => obtain ⟨kk, h1, h2⟩ := h; rw [h2]; exact fun h => nomatch h
  | true => obtain ⟨kk, h1, h2⟩ := h; rw [h2]; exact fun h => nomatch h
theorem CellAt.ne {c : Cell} {o : Option HO} (h : CellAt Z G c o) : o ≠ none := by
  cases c with
  | lst l => obtain ⟨xs, h1, h2⟩ := h; rw [h1]; exact fun h => nomatch h
  | ob c l => obtain ⟨dx, xs, h1, h3, h2⟩ := h; rw [h1]; exact fun h => nomatch h
  | dc t ks vs => obtain ⟨xs, h1, h3, h2⟩ := h; exact h1.ne
  | dead => exact h
/-- the cells S stand at α, beside what is known -/
structure Hd (Z : Zt) (G : Hp) (α : List Addr) (S : Sto) (H : Hp) : Prop where
  ex : Ex G H
  len : α.length = S.length
  nd : α.Nodup
  at_ : ∀ (n : Nat) (a : Addr) (c : Cell), α[n]? = some a → S[n]? = some c → (c ≠ .dead → G a = none) ∧ CellAt Z G c (H a)
structure Fr (G : Hp) (α : List Addr) (H : Hp) (G2 : Hp) (α2 : List Addr) (H2 : Hp) : Prop where
  g : Ex G G2
  a : Px α α2
  h : ∀ b o, H b = some o → b ∉ α → H2 b = some o
  n : ∀ b, G b = none → H b ≠ none → b ∉ α → G2 b = none
  m : ∀ b, b ∈ α2 → b ∈ α ∨ H b = none
  s : ∀ b, H b ≠ none → H2 b ≠ none
theorem Fr.refl (G : Hp) (α : List Addr) (H : Hp) : Fr G α H G α H := ⟨Ex.refl G, Px.refl α, fun _ _ h _ => h, fun _ h _ _ => h, fun _ h => .inl h, fun _ h => h⟩
theorem Fr.trans {G H G2 H2 G3 H3 : Hp} {α α2 α3 : List Addr} (x : Fr G α H G2 α2 H2) (y : Fr G2 α2 H2 G3 α3 H3) : Fr G α H G3 α3 H3 := by
  have k : ∀ b, H b ≠ none → b ∉ α → b ∉ α2 := fun b h1 h2 h3 => by
    rcases x.m b h3 with h | h
    · exact h2 h
    · exact h1 h
  refine ⟨x.g.trans y.g, x.a.trans y.a, fun b o h1 h2 => y.h b o (x.h b o h1 h2) (k b (by rw [h1]; exact fun h => nomatch h) h2), fun b h1 h2 h3 => y.n b (x.n b h1 h2 h3) (x.s b h2) (k b h2 h3), fun b hb => ?_, fun b h => y.s b (x.s b h)⟩
  rcases y.m b hb with h | h
  · exact x.m b h
  · right
    cases q : H b with
    | none => rfl
    | some o => exact absurd h (x.s b (by rw [q]; exact fun h => nomatch h))
theorem Ex.ne {G H : Hp} (e : Ex G H) {a : Addr} (h : G a ≠ none) : H a ≠ none := by
  cases q : G a with
  | none => exact absurd q h
  | some o => rw [e a o q]; exact fun h => nomatch h
variable {S : Sto} {G2 H2 : Hp} {α2 : List Addr}
theorem Fr.back {a : Addr} (f : Fr G α H G2 α2 H2) (h : H2 a = none) : H a = none := by
  cases q : H a with
  | none => rfl
  | some o => exact absurd h (f.s a (by rw [q]; exact fun h => nomatch h))
theorem Hd.live (h : Hd Z G α S H) {a : Addr} (ha : a ∈ α) : H a ≠ none := by
  obtain ⟨n, hn, rfl⟩ := List.mem_iff_getElem.mp ha
  have h1 : α[n]? = some α[n] := List.getElem?_eq_getElem hn
  have h2 : n < S.length := by rw [← h.len]; exact hn
  exact (h.at_ n _ _ h1 (List.getElem?_eq_getElem h2)).2.ne
theorem Hd.cell (h : Hd Z G α S H) {n : Nat} {c : Cell} (hc : S[n]? = some c) : ∃ a, α[n]? = some a ∧ (c ≠ .dead → G a = none) ∧ CellAt Z G c (H a) := by
  have h1 := (List.getElem?_eq_some_iff.mp hc).1
  have h2 : n < α.length := by rw [h.len]; exact h1
  exact ⟨α[n], List.getElem?_eq_getElem h2, h.at_ n _ c (List.getElem?_eq_getElem h2) hc⟩
theorem Hd.cell2 (h : Hd Z G α S H) {n : Nat} {a : Addr} (ha : α[n]? = some a) : ∃ c, S[n]? = some c ∧ (c ≠ .dead → G a = none) ∧ CellAt Z G c (H a) := by
  have h1 := (List.getElem?_eq_some_iff.mp ha).1
  have h2 : n < S.length := by rw [← h.len]; exact h1
  exact ⟨S[n], List.getElem?_eq_getElem h2, h.at_ n a _ ha (List.getElem?_eq_getElem h2)⟩
/-- the heap grows beside -/
theorem Hd.grow {H2 : Hp} (h : Hd Z G α S H) (e : Ex H H2) : Hd Z G α S H2 := ⟨h.ex.trans e, h.len, h.nd, fun n a c h1 h2 => by
  obtain ⟨h3, h4⟩ := h.at_ n a c h1 h2
  refine ⟨h3, ?_⟩
  cases q : H a with
  | none => exact absurd q h4.ne
  | some o => rw [e a o q, ← q]; exact h4⟩
theorem Fr.grow {H2 : Hp} (h : Hd Z G α S H) (e : Ex H H2) : Fr G α H G α H2 := ⟨Ex.refl G, Px.refl α, fun b o h1 _ => e b o h1, fun _ h _ _ => h, fun _ h => .inl h, fun b h => Ex.ne e h⟩
/-- a new thing is known -/
theorem Hd.know {p : Addr} {o : HO} (h : Hd Z G α S H) (hp : H p = none) : Hd Z (upd G p o) α S (upd H p o) ∧ Fr G α H (upd G p o) α (upd H p o) := by
  have hG : G p = none := fresh_back h.ex hp
  have hpa : ∀ a ∈ α, a ≠ p := fun a ha c => h.live ha (c ▸ hp)
  refine ⟨⟨OP.ex_upd h.ex, h.len, h.nd, fun n a c h1 h2 => ?_⟩, ⟨Ex.new hG, Px.refl α, fun b o' h1 _ => Ex.new hp b o' h1, fun b h1 h2 _ => ?_, fun _ h => .inl h, fun b h => Ex.ne (Ex.new hp) h⟩⟩
  · obtain ⟨h3, h4⟩ := h.at_ n a c h1 h2
    have ne := hpa a (List.mem_of_getElem? h1)
    rw [upd_ne ne, upd_ne ne]
    exact ⟨h3, h4.up (Ex.new hG)⟩
  · have : b ≠ p := fun c => by subst c; exact h2 hp
    rw [upd_ne this]
    exact h1
/-- what stands unknown at p, beside the cells, becomes known -/
theorem Hd.freeze {p : Addr} {o : HO} (h : Hd Z G α S H) (hG : G p = none) (ho : H p = some o) (hn : p ∉ α) : Hd Z (upd G p o) α S H := by
  obtain ⟨e1, e2⟩ := OP.Fr.freeze h.ex hG ho
  refine ⟨e2, h.len, h.nd, fun n a c h1 h2 => ?_⟩
  obtain ⟨h3, h4⟩ := h.at_ n a c h1 h2
  have ne : a ≠ p := fun c => hn (c ▸ List.mem_of_getElem? h1)
  rw [upd_ne ne]
  exact ⟨h3, h4.up e1⟩
/-- it becomes a cell -/
theorem Hd.push {p : Addr} {c : Cell} (h : Hd Z G α S H) (hG : G p = none) (hn : p ∉ α) (hc : CellAt Z G c (H p)) : Hd Z G (α ++ [p]) (S ++ [c]) H := by
  refine ⟨h.ex, by rw [List.length_append, List.length_append, h.len]; rfl, ?_, fun n a d h1 h2 => ?_⟩
  · rw [List.nodup_append]
    exact ⟨h.nd, by simp, fun a ha b hb => by rw [List.mem_singleton.mp hb]; exact fun c => hn (c ▸ ha)⟩
  · by_cases hl : n < α.length
    · rw [List.getElem?_append_left hl] at h1
      rw [List.getElem?_append_left (by rw [← h.len]; exact hl)] at h2
      exact h.at_ n a d h1 h2
    · rw [List.getElem?_append_right (by omega)] at h1
      rw [List.getElem?_append_right (by rw [← h.len]; omega)] at h2
      have hn0 : n - α.length = 0 := by
        cases q : n - α.length with
        | zero => rfl
        | succ m => rw [q] at h1; simp at h1
      rw [← h.len] at h2
      rw [hn0] at h1 h2
      simp at h1 h2
      subst h1 h2
      exact ⟨fun _ => hG, hc⟩
theorem Fr.push {p : Addr} (f : Fr G α H G2 α2 H2) (hp : H p = none) : Fr G α H G2 (α2 ++ [p]) H2 :=
  ⟨f.g, f.a.trans ⟨[p], rfl⟩, f.h, f.n, fun b hb => by
    rcases List.mem_append.mp hb with h | h
    · exact f.m b h
    · rw [List.mem_singleton.mp h]; exact .inr hp, f.s⟩
/-- a cell is changed -/
theorem Hd.put {n : Nat} {a : Addr} {c c2 : Cell} {o : HO} (h : Hd Z G α S H) (ha : α[n]? = some a) (hs : S[n]? = some c) (hc : c ≠ .dead) (h2 : CellAt Z G c2 (some o)) : Hd Z G α (S.set n c2) (upd H a o) ∧ Fr G α H G α (upd H a o) := by
  obtain ⟨h3, h4⟩ := h.at_ n a c ha hs
  have hG := h3 hc
  have hm := List.mem_of_getElem? ha
  refine ⟨⟨fun b u hb => ?_, by rw [List.length_set]; exact h.len, h.nd, fun m b d h5 h6 => ?_⟩, ⟨Ex.refl G, Px.refl α, fun b u h5 h6 => ?_, fun _ h _ _ => h, fun _ h => .inl h, fun b hb => ?_⟩⟩
  · have : b ≠ a := fun c => by subst c; rw [hG] at hb; cases hb
    rw [upd_ne this]
    exact h.ex b u hb
  · by_cases q : b = a
    · subst q
      have e : m = n := (List.getElem?_inj (List.getElem?_eq_some_iff.mp h5).1 h.nd).mp (h5.trans ha.symm)
      subst e
      rw [List.getElem?_set_self (List.getElem?_eq_some_iff.mp hs).1] at h6
      cases h6
      rw [upd_same]
      exact ⟨fun _ => hG, h2⟩
    · have e : n ≠ m := fun c => by subst c; rw [ha] at h5; exact q (Option.some.inj h5).symm
      rw [List.getElem?_set_ne e] at h6
      rw [upd_ne q]
      exact h.at_ m b d h5 h6
  · have : b ≠ a := fun c => h6 (c ▸ hm)
    rw [upd_ne this]
    exact h5
  · by_cases q : b = a
    · subst q; rw [upd_same]; exact fun h => nomatch h
    · rw [upd_ne q]; exact hb
/-- the cells behind k are forgotten -/
theorem Hd.cut (h : Hd Z G α S H) (k : Nat) : Hd Z G (α.take k) (S.take k) H := by
  refine ⟨h.ex, by rw [List.length_take, List.length_take, h.len], h.nd.sublist (List.take_sublist _ _), fun n a c h1 h2 => ?_⟩
  have hk : n < k := by
    have := (List.getElem?_eq_some_iff.mp h1).1
    rw [List.length_take] at this
    omega
  rw [List.getElem?_take_of_lt hk] at h1 h2
  exact h.at_ n a c h1 h2
theorem Fr.cut (f : Fr G α H G2 α2 H2) : Fr G α H G2 α H2 := ⟨f.g, Px.refl α, f.h, f.n, fun b hb => .inl hb, f.s⟩
theorem Px.cut {α α2 : List Addr} (p : Px α α2) : α2.take α.length = α := by
  obtain ⟨γ, rfl⟩ := p
  rw [List.take_left']
  rfl
def OnR (Z : Zt) (G : Hp) (α : List Addr) : Vr → V → Prop
  | .d d, v => On Z G d v
  | .r n, v => ∃ a, v = .ref a ∧ α[n]? = some a
theorem OnR.up {r : Vr} {v : V} (e : Ex G G') (p : Px α β) (h : OnR Z G α r v) : OnR Z G' β r v := by
  cases r with
  | d d => exact On.up e h
  | r n => obtain ⟨a, h1, h2⟩ := h; exact ⟨a, h1, p.get h2⟩
def OnA (Z : Zt) (G : Hp) (α : List Addr) : List Vr → List V → Prop
  | [], xs => xs = []
  | d :: l, xs => ∃ y ys, xs = y :: ys ∧ OnR Z G α d y ∧ OnA Z G α l ys
theorem OnA.up (e : Ex G G') (p : Px α β) : ∀ {l : List Vr} {xs : List V}, OnA Z G α l xs → OnA Z G' β l xs
  | [], _, h => h
  | d :: l, xs, h => by
    obtain ⟨y, ys, h1, h2, h3⟩ := h
    exact ⟨y, ys, h1, h2.up e p, OnA.up e p h3⟩
theorem OnA.len : ∀ {l : List Vr} {xs : List V}, OnA Z G α l xs → xs.length = l.length
  | [], _, h => by rw [show _ = [] from h]; rfl
  | d :: l, xs, h => by
    obtain ⟨y, ys, rfl, _, h3⟩ := h
    rw [List.length_cons, List.length_cons, OnA.len h3]
/-- what a name's thing is just now -/
def snap (S : Sto) : Vr → Option Dv
  | .d d => some d
  | .r n => match S[n]? with
    | some (.lst l) => some (.lst l)
    | some (.ob c l) => some (.obj c l)
    | some (.dc t ks vs) => some (.dic t ks vs)
    | _ => none
theorem snap_on {r : Vr} {v : V} {d : Dv} (h : Hd Z G α S H) (hr : OnR Z G α r v) (e : snap S r = some d) : OnH Z G H d v := by
  cases r with
  | d x => cases e; exact On.h h.ex hr
  | r n =>
    obtain ⟨a, rfl, ha⟩ := hr
    obtain ⟨c, h1, h2, h3⟩ := h.cell2 ha
    unfold snap at e
    simp only [h1] at e
    cases c with
    | lst l => cases e; obtain ⟨xs, h4, h5⟩ := h3; exact ⟨a, xs, rfl, h4, h5⟩
    | ob c l => cases e; obtain ⟨dx, xs, h4, h6, h5⟩ := h3; exact ⟨a, dx, xs, rfl, h4, h6, h5⟩
    | dc t ks vs => cases e; obtain ⟨ws, h4, h6, h5⟩ := h3; exact ⟨a, ws, rfl, h4, h6, h5⟩
    | dead => cases e
end
end DN

/-! DnB: results (R), what they promise (Wk), judgements (SE, ST, SA), plain expressions. -/
namespace DN
open PySem PySem.Spec PyProof.Rows L2 Evl
inductive Xn where
  | own (c : String) (v : Vr) | blt (n : String)
inductive Rt where
  | val (v : Vr) | new (c : Cell)
inductive R (β : Type) where
  | ok (S : Sto) (b : β) | ex (S : Sto) (x : Xn) | no
def frzC : Cell → Option Dv
  | .lst l => some (.lst l)
  | .ob c l => some (.obj c l)
  | .dc t ks vs => some (.dic t ks vs)
  | .dead => none
def R.bind {β γ : Type} (r : R β) (f : Sto → β → R γ) : R γ := match r with
  | .ok S b => f S b
  | .ex S x => .ex S x
  | .no => .no
/-- a value is wanted: a new thing is known from now on -/
def R.bindV {γ : Type} (r : R Rt) (f : Sto → Vr → R γ) : R γ := match r with
  | .ok S (.val v) => f S v
  | .ok S (.new (.lst l)) => f S (.d (.lst l))
  | .ok S (.new (.ob c l)) => f S (.d (.obj c l))
  | .ok S (.new (.dc t ks vs)) => f S (.d (.dic t ks vs))
  | .ok _ (.new .dead) => .no
  | .ex S x => .ex S x
  | .no => .no
def R.of {β : Type} (S : Sto) : Option β → R β
  | some r => .ok S r
  | none => .no
inductive Sl where
  | u | v (r : Vr) | x (c : String) (r : Vr)
abbrev Env := List Sl
abbrev FE := Env → Sto → R Rt
abbrev FT := Env → Sto → R Bool
abbrev FA := Env → Sto → R (List Vr)
/-- at the slot: the caught exception -/
def OnXv (Z : Zt) (G : Hp) (α : List Addr) (c : String) (r : Vr) (v : V) : Prop := True
structure OnE (Z : Zt) (G : Hp) (α : List Addr) (env : Env) (σ : L2.St) : Prop where
  len : env.length = σ.length
  at_ : ∀ (i : Nat) (d : Vr), env[i]? = some (.v d) → ∃ v, σ[i]? = some (some v) ∧ OnR Z G α d v
def OnX (Z : Zt) (G : Hp) (α : List Addr) : Xn → Value → Option Addr → Prop
  | .own c v, cls, d => cls = .ref (Z.cm c) ∧ ∃ dd w, d = some dd ∧ G dd = some (.xd [(("value" : Str), w)]) ∧ OnR Z G α v w
  | .blt n, cls, d => cls = .type n ∧ d = none
section
variable {Z : Zt} {G G2 H H2 : Hp} {α α2 : List Addr} {S : Sto}
theorem OnE.up {G' : Hp} {β : List Addr} {env : Env} {σ : L2.St} (e : Ex G G') (p : Px α β) (h : OnE Z G α env σ) : OnE Z G' β env σ := ⟨h.len, fun i d hd => by
  obtain ⟨v, h1, h2⟩ := h.at_ i d hd
  exact ⟨v, h1, h2.up e p⟩⟩
theorem OnE.set {env : Env} {σ : L2.St} {d : Vr} {v : V} (i : Nat) (h : OnE Z G α env σ) (hv : OnR Z G α d v) : OnE Z G α (env.set i (.v d)) (σ.set i (some v)) := by
  refine ⟨by rw [List.length_set, List.length_set]; exact h.len, fun j e he => ?_⟩
  by_cases q : i = j
  · subst q
    by_cases hl : i < env.length
    · rw [List.getElem?_set_self hl] at he
      cases he
      exact ⟨v, List.getElem?_set_self (by rw [← h.len]; exact hl), hv⟩
    · rw [List.getElem?_eq_none (by rw [List.length_set]; omega)] at he
      cases he
  · rw [List.getElem?_set_ne q] at he ⊢
    exact h.at_ j e he
/-- a slot of which nothing is known any more -/
theorem OnE.forget {env : Env} {σ : L2.St} {o : Option V} (i : Nat) (h : OnE Z G α env σ) : OnE Z G α (env.set i .u) (σ.set i o) := by
  refine ⟨by rw [List.length_set, List.length_set]; exact h.len, fun j e he => ?_⟩
  by_cases q : i = j
  · subst q
    by_cases hl : i < env.length
    · rw [List.getElem?_set_self hl] at he
      cases he
    · rw [List.getElem?_eq_none (by rw [List.length_set]; omega)] at he
      cases he
  · rw [List.getElem?_set_ne q] at he ⊢
    exact h.at_ j e he
/-! ### what a result promises -/
def Xp (Z : Zt) (S : Sto) (x : Xn) (G : Hp) (α : List Addr) (H : Hp) (E : XK) : Prop :=
  ∀ cls d H2 G2 α2, Fr G α H G2 α2 H2 → Hd Z G2 α2 S H2 → OnX Z G2 α2 x cls d → E cls d H2
/-- a wish: of the result b, the heap ahead, what is known, the cells and the heap behind -/
structure Pst (β : Type) where
  p : β → Hp → Hp → List Addr → Hp → Prop
  mono : ∀ {b : β} {H H' G2 : Hp} {α2 : List Addr} {H2 : Hp}, (∀ a, H' a = none → H a = none) → p b H G2 α2 H2 → p b H' G2 α2 H2
def Wk {β : Type} (Z : Zt) (r : R β) (G : Hp) (α : List Addr) (H : Hp) (P : Pst β) (E : XK) : Prop := match r with
  | .ok S b => ∀ H2 G2 α2, Fr G α H G2 α2 H2 → Hd Z G2 α2 S H2 → P.p b H G2 α2 H2
  | .ex S x => Xp Z S x G α H E
  | .no => False
/-- p is a new thing c, not known yet -/
structure Nw (Z : Zt) (H G2 : Hp) (α2 : List Addr) (H2 : Hp) (c : Cell) (p : Addr) : Prop where
  h : H p = none
  g : G2 p = none
  a : p ∉ α2
  c : CellAt Z G2 c (H2 p)
def pRt (Z : Zt) (Q : VK) : Pst Rt := ⟨fun b H G2 α2 H2 => match b with
  | .val v => ∀ w, OnR Z G2 α2 v w → Q w H2
  | .new c => ∀ p, Nw Z H G2 α2 H2 c p → Q (.ref p) H2, fun {b H H' G2 α2 H2} h q => by
  cases b with
  | val v => exact q
  | new c => exact fun p n => q p ⟨h p n.h, n.g, n.a, n.c⟩⟩
def pB (Q : Bool → Hp → Prop) : Pst Bool := ⟨fun b _ _ _ H2 => Q b H2, fun _ q => q⟩
def pA (Z : Zt) (Q : List V → Hp → Prop) : Pst (List Vr) := ⟨fun l _ G2 α2 H2 => ∀ vs, OnA Z G2 α2 l vs → Q vs H2, fun _ q => q⟩
variable {E : XK}
theorem Xp.later {x : Xn} (h : Xp Z S x G α H E) (f : Fr G α H G2 α2 H2) : Xp Z S x G2 α2 H2 E := fun cls d H3 G3 α3 f3 => h cls d H3 G3 α3 (f.trans f3)
theorem Wk.later {β : Type} {r : R β} {P : Pst β} (h : Wk Z r G α H P E) (f : Fr G α H G2 α2 H2) : Wk Z r G2 α2 H2 P E := by
  match r, h with
  | .ok S b, h => exact fun H3 G3 α3 f3 hd => P.mono (fun a ha => f.back ha) (h H3 G3 α3 (f.trans f3) hd)
  | .ex S x, h => exact Xp.later h f
theorem Wk.here {β : Type} {b : β} {P : Pst β} (h : Wk Z (.ok S b) G α H P E) (hd : Hd Z G α S H) : P.p b H G α H := h H G α (Fr.refl G α H) hd
theorem Wk.any {β : Type} {r : Option β} {P : Pst β} {E' : XK} (w : Wk Z (R.of S r) G α H P E) : Wk Z (R.of S r) G α H P E' := by
  cases r with
  | some b => exact w
  | none => exact w
/-- a new cell, known from now on -/
theorem On.frz {c : Cell} {p : Addr} {o : HO} {d : Dv} (ho : CellAt Z G c (some o)) (hd : frzC c = some d) (hp : G p = none) : On Z (upd G p o) d (.ref p) := by
  have ex : Ex G (upd G p o) := Ex.new hp
  cases c with
  | lst l =>
    obtain ⟨xs, h1, h2⟩ := ho
    cases h1
    cases hd
    unfold On
    exact ⟨p, xs, rfl, upd_same, h2.up ex⟩
  | ob c l =>
    obtain ⟨dx, xs, h1, h3, h2⟩ := ho
    cases h1
    cases hd
    unfold On
    exact ⟨p, dx, xs, rfl, upd_same, h3, h2.up ex⟩
  | dc t ks vs =>
    obtain ⟨ws, h1, h3, h2⟩ := ho
    cases hd
    unfold On
    exact ⟨p, ws, rfl, by rw [upd_same]; exact h1, h3, h2.up ex⟩
  | dead => cases hd
theorem Fr.freeze {p : Addr} {o : HO} (f : Fr G α H G2 α2 H2) (hp : H p = none) (hG : G2 p = none) : Fr G α H (upd G2 p o) α2 H2 :=
  ⟨f.g.trans (Ex.new hG), f.a, f.h, fun b h1 h2 h3 => by
    have : b ≠ p := fun c => by subst c; exact h2 hp
    rw [upd_ne this]
    exact f.n b h1 h2 h3, f.m, f.s⟩
theorem bindV_new {γ : Type} {S : Sto} {c : Cell} {d : Dv} {f : Sto → Vr → R γ} (h : frzC c = some d) : R.bindV (.ok S (.new c)) f = f S (.d d) := by
  cases c <;> cases h <;> rfl
theorem bindV_dead {γ : Type} {S : Sto} {c : Cell} {f : Sto → Vr → R γ} (h : frzC c = none) : R.bindV (.ok S (.new c)) f = .no := by
  cases c <;> first | rfl | cases h
/-- r gives d -/
inductive Got : R Rt → Sto → Vr → Prop where
  | val (S : Sto) (v : Vr) : Got (.ok S (.val v)) S v
  | new (S : Sto) (c : Cell) (d : Dv) (h : frzC c = some d) : Got (.ok S (.new c)) S (.d d)
theorem Got.bind {γ : Type} {r : R Rt} {S : Sto} {d : Vr} {f : Sto → Vr → R γ} (h : Got r S d) : r.bindV f = f S d := by
  cases h with
  | val => rfl
  | new S c d h => exact bindV_new h
/-- the value, run behind the state that the rest is told from -/
theorem Wk.bind0 {γ : Type} {r : R Rt} {f : Sto → Vr → R γ} {P : Pst γ} {Q' : VK} {G' H' : Hp} {α' : List Addr} (f0 : Fr G α H G' α' H') (w : Wk Z (r.bindV f) G α H P E)
    (k : ∀ S2 d v H2 G2 α2, Got r S2 d → Fr G' α' H' G2 α2 H2 → Hd Z G2 α2 S2 H2 → OnR Z G2 α2 d v → Wk Z (f S2 d) G α H P E → Q' v H2) : Wk Z r G' α' H' (pRt Z Q') E := by
  match r, w with
  | .ok S (.val v), w => exact fun H2 G2 α2 f2 hd2 x ox => k S v x H2 G2 α2 (.val S v) f2 hd2 ox w
  | .ok S (.new c), w =>
    intro H2 G2 α2 f2 hd2 p n
    cases e : frzC c with
    | none => rw [bindV_dead e] at w; exact w.elim
    | some d =>
      rw [bindV_new e] at w
      cases q : H2 p with
      | none => exact absurd q n.c.ne
      | some o =>
        have hc := n.c
        rw [q] at hc
        exact k S (.d d) _ H2 _ α2 (.new S c d e) (f2.freeze (o := o) n.h n.g) (hd2.freeze n.g q n.a) (On.frz hc e n.g) w
  | .ex S x, w => exact Xp.later w f0
/-- the first part of a row of parts: its value, then the rest -/
theorem Wk.bindV {γ : Type} {r : R Rt} {f : Sto → Vr → R γ} {P : Pst γ} {Q' : VK} (w : Wk Z (r.bindV f) G α H P E)
    (k : ∀ S2 d v H2 G2 α2, Fr G α H G2 α2 H2 → Hd Z G2 α2 S2 H2 → OnR Z G2 α2 d v → Wk Z (f S2 d) G2 α2 H2 P E → Q' v H2) : Wk Z r G α H (pRt Z Q') E := by
  match r, w with
  | .ok S (.val v), w => exact fun H2 G2 α2 f2 hd2 x ox => k S v x H2 G2 α2 f2 hd2 ox (w.later f2)
  | .ok S (.new c), w =>
    intro H2 G2 α2 f2 hd2 p n
    cases e : frzC c with
    | none => rw [bindV_dead e] at w; exact w.elim
    | some d =>
      rw [bindV_new e] at w
      cases q : H2 p with
      | none => exact absurd q n.c.ne
      | some o =>
        have hc := n.c
        rw [q] at hc
        have f3 := f2.freeze (o := o) n.h n.g
        exact k S (.d d) _ H2 _ α2 f3 (hd2.freeze n.g q n.a) (On.frz hc e n.g) (w.later f3)
  | .ex S x, w => exact w
theorem Wk.bind {β γ : Type} {r : R β} {f : Sto → β → R γ} {P : Pst γ} {P' : Pst β} (w : Wk Z (r.bind f) G α H P E)
    (k : ∀ S2 b H2 G2 α2, Fr G α H G2 α2 H2 → Hd Z G2 α2 S2 H2 → Wk Z (f S2 b) G2 α2 H2 P E → P'.p b H G2 α2 H2) : Wk Z r G α H P' E := by
  match r, w with
  | .ok S b, w => exact fun H2 G2 α2 f2 hd2 => k S b H2 G2 α2 f2 hd2 (w.later f2)
  | .ex S x, w => exact w
end
/-! ### judgements -/
def SE (Z : Zt) (Ew : L2.St → XK) (te : TE) (f : FE) : Prop :=
  ∀ env σ G α S H Q, Hd Z G α S H → OnE Z G α env σ → Wk Z (f env S) G α H (pRt Z Q) (Ew σ) → te σ H Q
def ST (Z : Zt) (Ew : L2.St → XK) (tt : TT) (f : FT) : Prop :=
  ∀ env σ G α S H Q, Hd Z G α S H → OnE Z G α env σ → Wk Z (f env S) G α H (pB Q) (Ew σ) → tt σ H Q
def SA (Z : Zt) (Ew : L2.St → XK) (ta : TA) (f : FA) : Prop :=
  ∀ env σ G α S H Q, Hd Z G α S H → OnE Z G α env σ → Wk Z (f env S) G α H (pA Z Q) (Ew σ) → ta σ H Q
structure PF (Z : Zt) (Ew : L2.St → XK) (X : Cx) (e : Expr) (f : FE) : Prop where
  ex : ∃ te, PE X e te ∧ SE Z Ew te f
structure PTF (Z : Zt) (Ew : L2.St → XK) (X : Cx) (e : Expr) (f : FT) : Prop where
  ex : ∃ te, PT X e te ∧ ST Z Ew te f
structure PWF (Z : Zt) (Ew : L2.St → XK) (X : Cx) (e : Expr) (f : FT) : Prop where
  ex : ∃ te, PW X e te ∧ ST Z Ew te f
structure PAF (Z : Zt) (Ew : L2.St → XK) (X : Cx) (es : List Expr) (f : FA) : Prop where
  ex : ∃ te, PA X es te ∧ SA Z Ew te f
/-! ### denotations -/
def fVar (i : Nat) : FE := fun env S => match env[i]? with
  | some (.v d) => .ok S (.val d)
  | _ => .no
def fC (d : Dv) : FE := fun _ S => .ok S (.val (.d d))
def g2 (S : Sto) (a b : Vr) (g : Dv → Dv → Option Rt) : R Rt := match snap S a, snap S b with
  | some x, some y => R.of S (g x y)
  | _, _ => .no
def fOp (g : Dv → Dv → Option Rt) (fa fb : FE) : FE := fun env S => (fa env S).bindV fun S1 a => (fb env S1).bindV fun S2 b => g2 S2 a b g
def g1 (S : Sto) (a : Vr) (g : Dv → Option Rt) : R Rt := match snap S a with
  | some x => R.of S (g x)
  | none => .no
def fUn (g : Dv → Option Rt) (fa : FE) : FE := fun env S => (fa env S).bindV fun S1 a => g1 S1 a g
def fNil : FA := fun _ S => .ok S []
def fCons (fa : FE) (fr : FA) : FA := fun env S => (fa env S).bindV fun S1 a => (fr env S1).bind fun S2 l => .ok S2 (a :: l)
def allD : List Vr → Option (List Dv)
  | [] => some []
  | .d x :: l => match allD l with
    | some r => some (x :: r)
    | none => none
  | .r _ :: _ => none
def gTupD (l : List Vr) : Option Rt := match allD l with
  | some r => if r.length ≤ 100000 then some (.val (.d (.tup r))) else none
  | none => none
def gLstD (l : List Vr) : Option Rt := match allD l with
  | some r => if r.length ≤ 100000 then some (.new (.lst r)) else none
  | none => none
def fTup (fa : FA) : FE := fun env S => (fa env S).bind fun S1 l => R.of S1 (gTupD l)
def fLst (fa : FA) : FE := fun env S => (fa env S).bind fun S1 l => R.of S1 (gLstD l)
def onB {β : Type} (S : Sto) (a : Vr) (f : Bool → R β) : R β := match a with
  | .d (.bl b) => f b
  | _ => .no
def fAnd (fa fb : FE) : FE := fun env S => (fa env S).bindV fun S1 a => onB S1 a fun b => if b then fb env S1 else .ok S1 (.val (.d (.bl false)))
def fOr (fa fb : FE) : FE := fun env S => (fa env S).bindV fun S1 a => onB S1 a fun b => if b then .ok S1 (.val (.d (.bl true))) else fb env S1
def fNot (fa : FE) : FE := fun env S => (fa env S).bindV fun S1 a => onB S1 a fun b => .ok S1 (.val (.d (.bl (!b))))
def fIf (ft : FT) (fa fb : FE) : FE := fun env S => (ft env S).bind fun S1 b => if b then fa env S1 else fb env S1
/-- tests -/
def kVal (fa : FE) : FT := fun env S => (fa env S).bindV fun S1 a => onB S1 a fun b => .ok S1 b
def kAnd (ta tb : FT) : FT := fun env S => (ta env S).bind fun S1 b => if b then tb env S1 else .ok S1 false
def kOr (ta tb : FT) : FT := fun env S => (ta env S).bind fun S1 b => if b then .ok S1 true else tb env S1
def kNot (ta : FT) : FT := fun env S => (ta env S).bind fun S1 b => .ok S1 (!b)
def truD : Dv → Option Bool
  | .non => some false
  | .bl b => some b
  | .int i => some (i != 0)
  | .str s => if s.length ≤ 100000 then some ((s.length : Int) != 0) else none
  | .lst l => some (!l.isEmpty)
  | .tup l => some (!l.isEmpty)
  | _ => none
def kTru (fa : FE) : FT := fun env S => (fa env S).bindV fun S1 a => match snap S1 a with
  | some x => R.of S1 (truD x)
  | none => .no
section
variable {Z : Zt} {Ew : L2.St → XK} {ta tb te : TE} {fa fb : FE} {G H : Hp} {α : List Addr} {S : Sto} {env : Env} {σ : L2.St}
theorem SE.bind {γ : Type} {f : Sto → Vr → R γ} {P : Pst γ} {Q' : VK} (h : SE Z Ew ta fa) (hd : Hd Z G α S H) (oe : OnE Z G α env σ) (w : Wk Z ((fa env S).bindV f) G α H P (Ew σ))
    (k : ∀ S2 d v H2 G2 α2, Fr G α H G2 α2 H2 → Hd Z G2 α2 S2 H2 → OnE Z G2 α2 env σ → OnR Z G2 α2 d v → Wk Z (f S2 d) G2 α2 H2 P (Ew σ) → Q' v H2) : ta σ H Q' :=
  h env σ G α S H Q' hd oe (w.bindV fun S2 d v H2 G2 α2 f2 hd2 ov w2 => k S2 d v H2 G2 α2 f2 hd2 (oe.up f2.g f2.a) ov w2)
theorem SE.bind0 {γ : Type} {f : Sto → Vr → R γ} {P : Pst γ} {Q' : VK} {G' H' : Hp} {α' : List Addr} (h : SE Z Ew ta fa) (f0 : Fr G α H G' α' H') (hd : Hd Z G' α' S H') (oe : OnE Z G' α' env σ) (w : Wk Z ((fa env S).bindV f) G α H P (Ew σ))
    (k : ∀ S2 d v H2 G2 α2, Got (fa env S) S2 d → Fr G' α' H' G2 α2 H2 → Hd Z G2 α2 S2 H2 → OnE Z G2 α2 env σ → OnR Z G2 α2 d v → Wk Z (f S2 d) G α H P (Ew σ) → Q' v H2) : ta σ H' Q' :=
  h env σ G' α' S H' Q' hd oe (w.bind0 f0 fun S2 d v H2 G2 α2 g f2 hd2 ov w2 => k S2 d v H2 G2 α2 g f2 hd2 (oe.up f2.g f2.a) ov w2)
theorem ST.bind0 {tt : TT} {ft : FT} {γ : Type} {f : Sto → Bool → R γ} {P : Pst γ} {Q' : Bool → Hp → Prop} {G' H' : Hp} {α' : List Addr} (h : ST Z Ew tt ft) (f0 : Fr G α H G' α' H') (hd : Hd Z G' α' S H') (oe : OnE Z G' α' env σ) (w : Wk Z ((ft env S).bind f) G α H P (Ew σ))
    (k : ∀ S2 b H2 G2 α2, Fr G' α' H' G2 α2 H2 → Hd Z G2 α2 S2 H2 → OnE Z G2 α2 env σ → Wk Z (f S2 b) G α H P (Ew σ) → Q' b H2) : tt σ H' Q' := by
  refine h env σ G' α' S H' Q' hd oe ?_
  cases e : ft env S with
  | ok S2 b => rw [e] at w; exact fun H2 G2 α2 f2 hd2 => k S2 b H2 G2 α2 f2 hd2 (oe.up f2.g f2.a) w
  | ex S2 x => rw [e] at w; exact Xp.later w f0
  | no => rw [e] at w; exact w.elim
theorem SA.bind {ta : TA} {fa : FA} {γ : Type} {f : Sto → List Vr → R γ} {P : Pst γ} {Q' : List V → Hp → Prop} (h : SA Z Ew ta fa) (hd : Hd Z G α S H) (oe : OnE Z G α env σ) (w : Wk Z ((fa env S).bind f) G α H P (Ew σ))
    (k : ∀ S2 l vs H2 G2 α2, Fr G α H G2 α2 H2 → Hd Z G2 α2 S2 H2 → OnE Z G2 α2 env σ → OnA Z G2 α2 l vs → Wk Z (f S2 l) G2 α2 H2 P (Ew σ) → Q' vs H2) : ta σ H Q' :=
  h env σ G α S H Q' hd oe (w.bind (P' := pA Z Q') fun S2 l H2 G2 α2 f2 hd2 w2 vs ov => k S2 l vs H2 G2 α2 f2 hd2 (oe.up f2.g f2.a) ov w2)
theorem ST.bind {tt : TT} {ft : FT} {γ : Type} {f : Sto → Bool → R γ} {P : Pst γ} {Q' : Bool → Hp → Prop} (h : ST Z Ew tt ft) (hd : Hd Z G α S H) (oe : OnE Z G α env σ) (w : Wk Z ((ft env S).bind f) G α H P (Ew σ))
    (k : ∀ S2 b H2 G2 α2, Fr G α H G2 α2 H2 → Hd Z G2 α2 S2 H2 → OnE Z G2 α2 env σ → Wk Z (f S2 b) G2 α2 H2 P (Ew σ) → Q' b H2) : tt σ H Q' :=
  h env σ G α S H Q' hd oe (w.bind (P' := pB Q') fun S2 b H2 G2 α2 f2 hd2 w2 => k S2 b H2 G2 α2 f2 hd2 (oe.up f2.g f2.a) w2)
/-! ### plain readings -/
theorem Wk.dat {v : Vr} {w : V} {Q : VK} {E : XK} (h : Wk Z (.ok S (.val v)) G α H (pRt Z Q) E) (hd : Hd Z G α S H) (o : OnR Z G α v w) : Q w H := h.here hd w o
theorem Wk.bool {b : Bool} {Q : Bool → Hp → Prop} {E : XK} (h : Wk Z (.ok S b) G α H (pB Q) E) (hd : Hd Z G α S H) : Q b H := h.here hd
theorem on_non : On Z G .non .non := by unfold On; rfl
theorem on_bl {b : Bool} : On Z G (.bl b) (.bl b) := by unfold On; rfl
theorem on_int {b : Int} : On Z G (.int b) (.int b) := by unfold On; rfl
theorem on_str {b : Str} : On Z G (.str b) (.str b) := by unfold On; rfl
theorem on_cls {c : String} : On Z G (.cls c) (.ref (Z.cm c)) := by unfold On; rfl
theorem on_ty {a : String} : On Z G (.ty a) (.ty a) := by unfold On; rfl
theorem or_bl (Z : Zt) (G : Hp) (α : List Addr) (b : Bool) : OnR Z G α (.d (.bl b)) (.bl b) := on_bl (Z := Z) (G := G)
theorem or_int (Z : Zt) (G : Hp) (α : List Addr) (b : Int) : OnR Z G α (.d (.int b)) (.int b) := on_int (Z := Z) (G := G)
theorem or_str (Z : Zt) (G : Hp) (α : List Addr) (b : Str) : OnR Z G α (.d (.str b)) (.str b) := on_str (Z := Z) (G := G)
theorem or_non (Z : Zt) (G : Hp) (α : List Addr) : OnR Z G α (.d .non) .non := on_non (Z := Z) (G := G)
theorem se_var {i : Nat} : SE Z Ew (tVar i) (fVar i) := fun env σ G α S H Q hd oe w => by
  unfold fVar at w
  cases e : env[i]? with
  | none => rw [e] at w; exact w.elim
  | some s =>
    rw [e] at w
    cases s with
    | u => exact w.elim
    | x => exact w.elim
    | v d =>
      obtain ⟨v, h1, h2⟩ := oe.at_ i d e
      exact ⟨v, h1, w.dat hd h2⟩
theorem se_c {d : Dv} {v : V} (h : ∀ G, On Z G d v) : SE Z Ew (tC v) (fC d) := fun env σ G α S H Q hd oe w => w.dat hd (h G)
/-- an operation on two values as they stand -/
def rD (Z : Zt) (g : Dv → Dv → Option Rt) : R2 := fun x y H Q => ∃ G α S a b, Hd Z G α S H ∧ OnH Z G H a x ∧ OnH Z G H b y ∧ Wk Z (R.of S (g a b)) G α H (pRt Z Q) E0
theorem g2_ok {G2 H2 : Hp} {α2 : List Addr} {S2 : Sto} {a b : Vr} {x y : V} {g : Dv → Dv → Option Rt} {Q : VK} {E : XK} (hd : Hd Z G2 α2 S2 H2) (ox : OnR Z G2 α2 a x) (oy : OnR Z G2 α2 b y) (w : Wk Z (g2 S2 a b g) G2 α2 H2 (pRt Z Q) E) : rD Z g x y H2 Q := by
  unfold g2 at w
  cases e1 : snap S2 a with
  | none => rw [e1] at w; exact w.elim
  | some u =>
    cases e2 : snap S2 b with
    | none => rw [e1, e2] at w; exact w.elim
    | some v =>
      rw [e1, e2] at w
      exact ⟨G2, α2, S2, u, v, hd, snap_on hd ox e1, snap_on hd oy e2, w.any⟩
theorem se_op {g : Dv → Dv → Option Rt} (ha : SE Z Ew ta fa) (hb : SE Z Ew tb fb) : SE Z Ew (tOp (rD Z g) ta tb) (fOp g fa fb) := fun env σ G α S H Q hd oe w =>
  ha.bind hd oe w fun S2 a x H2 G2 α2 f2 hd2 oe2 ox w2 => hb.bind hd2 oe2 w2 fun S3 b y H3 G3 α3 f3 hd3 oe3 oy w3 => g2_ok hd3 (ox.up f3.g f3.a) oy w3
def rU (Z : Zt) (g : Dv → Option Rt) : V → Hp → VK → Prop := fun x H Q => ∃ G α S a, Hd Z G α S H ∧ OnH Z G H a x ∧ Wk Z (R.of S (g a)) G α H (pRt Z Q) E0
theorem g1_ok {G2 H2 : Hp} {α2 : List Addr} {S2 : Sto} {a : Vr} {x : V} {g : Dv → Option Rt} {Q : VK} {E : XK} (hd : Hd Z G2 α2 S2 H2) (ox : OnR Z G2 α2 a x) (w : Wk Z (g1 S2 a g) G2 α2 H2 (pRt Z Q) E) : rU Z g x H2 Q := by
  unfold g1 at w
  cases e1 : snap S2 a with
  | none => rw [e1] at w; exact w.elim
  | some u =>
    rw [e1] at w
    exact ⟨G2, α2, S2, u, hd, snap_on hd ox e1, w.any⟩
theorem se_un {g : Dv → Option Rt} (ha : SE Z Ew ta fa) : SE Z Ew (tUn (rU Z g) ta) (fUn g fa) := fun env σ G α S H Q hd oe w =>
  ha.bind hd oe w fun S2 a x H2 G2 α2 f2 hd2 oe2 ox w2 => g1_ok hd2 ox w2
theorem sa_nil : SA Z Ew tNil fNil := fun env σ G α S H Q hd oe w => w.here hd [] rfl
theorem sa_cons {tr : TA} {fr : FA} (ha : SE Z Ew ta fa) (hr : SA Z Ew tr fr) : SA Z Ew (tCons ta tr) (fCons fa fr) := fun env σ G α S H Q hd oe w =>
  ha.bind hd oe w fun S2 a x H2 G2 α2 f2 hd2 oe2 ox w2 => hr.bind hd2 oe2 w2 fun S3 l vs H3 G3 α3 f3 hd3 oe3 ol w3 => w3.here hd3 _ ⟨_, _, rfl, ox.up f3.g f3.a, ol⟩
theorem sz_of {n : Nat} (h : n ≤ 100000) : n ≤ sizeLine := Nat.le_trans h (by decide)
theorem allD_on : ∀ {l : List Vr} {r : List Dv} {vs : List V}, allD l = some r → OnA Z G α l vs → OnL Z G r vs
  | [], r, vs, e, h => by
    cases e
    exact OnL.nil.mpr h
  | .d x :: l, r, vs, e, h => by
    obtain ⟨y, ys, rfl, h2, h3⟩ := h
    unfold allD at e
    cases q : allD l with
    | none => rw [q] at e; cases e
    | some m =>
      rw [q] at e
      cases e
      exact OnL.cons' h2 (allD_on q h3)
  | .r _ :: l, r, vs, e, h => by cases e
theorem se_tup {ta : TA} {fa : FA} (ha : SA Z Ew ta fa) : SE Z Ew (tTup ta) (fTup fa) := fun env σ G α S H Q hd oe w =>
  ha.bind hd oe w fun S2 l vs H2 G2 α2 f2 hd2 oe2 ol w2 => by
    unfold gTupD at w2
    cases e : allD l with
    | none => rw [e] at w2; exact w2.elim
    | some r =>
      rw [e] at w2
      have or := allD_on e ol
      by_cases hl : r.length ≤ 100000
      · simp only [if_pos hl] at w2
        refine ⟨sz_of (by rw [or.len]; exact hl), fun p hp => ?_⟩
        obtain ⟨h3, f3⟩ := hd2.know (o := .tup vs) hp
        exact w2 _ _ _ f3 h3 _ (by show On _ _ _ _; unfold On; exact ⟨p, vs, rfl, upd_same, or.up f3.g⟩)
      · simp only [if_neg hl] at w2
        exact w2.elim
/-- a new object that nobody knows -/
theorem Wk.fresh {S : Sto} {c : Cell} {p : Addr} {o : HO} {Q : VK} {E : XK} (w : Wk Z (.ok S (.new c)) G α H (pRt Z Q) E) (hd : Hd Z G α S H) (hp : H p = none) (hc : CellAt Z G c (some o)) : Q (.ref p) (upd H p o) := by
  have e := Ex.new (o := o) hp
  exact w _ G α (Fr.grow hd e) (hd.grow e) p ⟨hp, fresh_back hd.ex hp, fun h => hd.live h hp, by rw [upd_same]; exact hc⟩
theorem se_lst {ta : TA} {fa : FA} (ha : SA Z Ew ta fa) : SE Z Ew (tLst ta) (fLst fa) := fun env σ G α S H Q hd oe w =>
  ha.bind hd oe w fun S2 l vs H2 G2 α2 f2 hd2 oe2 ol w2 => by
    unfold gLstD at w2
    cases e : allD l with
    | none => rw [e] at w2; exact w2.elim
    | some r =>
      rw [e] at w2
      have or := allD_on e ol
      by_cases hl : r.length ≤ 100000
      · simp only [if_pos hl] at w2
        exact ⟨sz_of (by rw [or.len]; exact hl), fun p hp => w2.fresh hd2 hp ⟨vs, rfl, or⟩⟩
      · simp only [if_neg hl] at w2
        exact w2.elim
theorem onB_ok {β : Type} {a : Vr} {f : Bool → R β} {P : Pst β} {E : XK} {x : V} (w : Wk Z (onB S a f) G α H P E) (ox : OnR Z G α a x) : ∃ b, x = .bl b ∧ Wk Z (f b) G α H P E := by
  match a, w, ox with
  | .d (.bl b), w, ox =>
    have e : On Z G (.bl b) x := ox
    unfold On at e
    exact ⟨b, e, w⟩
theorem se_and (ha : SE Z Ew ta fa) (hb : SE Z Ew tb fb) : SE Z Ew (tAndV ta tb) (fAnd fa fb) := fun env σ G α S H Q hd oe w =>
  ha.bind hd oe w fun S2 a x H2 G2 α2 f2 hd2 oe2 ox w2 => by
    obtain ⟨b, e, w3⟩ := onB_ok w2 ox
    refine ⟨b, e, ?_⟩
    cases b with
    | true => rw [if_pos rfl]; exact hb env σ G2 α2 S2 H2 Q hd2 oe2 w3
    | false => rw [if_neg Bool.false_ne_true]; exact Wk.dat w3 hd2 (or_bl Z G2 α2 _)
theorem se_or (ha : SE Z Ew ta fa) (hb : SE Z Ew tb fb) : SE Z Ew (tOrV ta tb) (fOr fa fb) := fun env σ G α S H Q hd oe w =>
  ha.bind hd oe w fun S2 a x H2 G2 α2 f2 hd2 oe2 ox w2 => by
    obtain ⟨b, e, w3⟩ := onB_ok w2 ox
    refine ⟨b, e, ?_⟩
    cases b with
    | false => rw [if_neg Bool.false_ne_true]; exact hb env σ G2 α2 S2 H2 Q hd2 oe2 w3
    | true => rw [if_pos rfl]; exact Wk.dat w3 hd2 (or_bl Z G2 α2 _)
theorem se_not (ha : SE Z Ew ta fa) : SE Z Ew (tNotV ta) (fNot fa) := fun env σ G α S H Q hd oe w =>
  ha.bind hd oe w fun S2 a x H2 G2 α2 f2 hd2 oe2 ox w2 => by
    obtain ⟨b, e, w3⟩ := onB_ok w2 ox
    exact ⟨b, e, Wk.dat w3 hd2 (or_bl Z G2 α2 _)⟩
theorem se_if {tt : TT} {ft : FT} (ht : ST Z Ew tt ft) (ha : SE Z Ew ta fa) (hb : SE Z Ew tb fb) : SE Z Ew (tIf tt ta tb) (fIf ft fa fb) := fun env σ G α S H Q hd oe w =>
  ht.bind hd oe w fun S2 b H2 G2 α2 f2 hd2 oe2 w2 => by
    cases b with
    | true => rw [if_pos rfl]; exact ha env σ G2 α2 S2 H2 Q hd2 oe2 w2
    | false => rw [if_neg Bool.false_ne_true]; exact hb env σ G2 α2 S2 H2 Q hd2 oe2 w2
theorem st_val (ha : SE Z Ew ta fa) : ST Z Ew (tB ta) (kVal fa) := fun env σ G α S H Q hd oe w =>
  ha.bind hd oe w fun S2 a x H2 G2 α2 f2 hd2 oe2 ox w2 => by
    obtain ⟨b, e, w3⟩ := onB_ok w2 ox
    exact ⟨b, e, w3.bool hd2⟩
theorem st_and {tt tu : TT} {ft fu : FT} (ha : ST Z Ew tt ft) (hb : ST Z Ew tu fu) : ST Z Ew (tAnd tt tu) (kAnd ft fu) := fun env σ G α S H Q hd oe w =>
  ha.bind hd oe w fun S2 b H2 G2 α2 f2 hd2 oe2 w2 => by
    cases b with
    | true => rw [if_pos rfl]; exact hb env σ G2 α2 S2 H2 Q hd2 oe2 w2
    | false => rw [if_neg Bool.false_ne_true]; exact Wk.bool w2 hd2
theorem st_or {tt tu : TT} {ft fu : FT} (ha : ST Z Ew tt ft) (hb : ST Z Ew tu fu) : ST Z Ew (tOr tt tu) (kOr ft fu) := fun env σ G α S H Q hd oe w =>
  ha.bind hd oe w fun S2 b H2 G2 α2 f2 hd2 oe2 w2 => by
    cases b with
    | true => rw [if_pos rfl]; exact Wk.bool w2 hd2
    | false => rw [if_neg Bool.false_ne_true]; exact hb env σ G2 α2 S2 H2 Q hd2 oe2 w2
theorem st_not {tt : TT} {ft : FT} (ha : ST Z Ew tt ft) : ST Z Ew (tNot tt) (kNot ft) := fun env σ G α S H Q hd oe w =>
  ha.bind hd oe w fun S2 b H2 G2 α2 f2 hd2 oe2 w2 => Wk.bool w2 hd2
theorem OnL.emp {l : List Dv} {xs : List V} (h : OnL Z G l xs) : (!l.isEmpty) = !xs.isEmpty := by
  cases l with
  | nil => rw [OnL.nil.mp h]; rfl
  | cons d l => obtain ⟨y, ys, rfl, _, _⟩ := OnL.cons.mp h; rfl
theorem tru_ok' {x : Dv} {v : V} {b : Bool} (eG : Ex G H) (h : OnH Z G H x v) (e : truD x = some b) : TruV Z.K v H b := by
  cases x with
  | non => cases h; cases e; rfl
  | bl b => cases h; cases e; rfl
  | int i => cases h; cases e; rfl
  | str s =>
    cases h
    have e' : (if s.length ≤ 100000 then some ((s.length : Int) != 0) else none) = some b := e
    by_cases hl : s.length ≤ 100000
    · rw [if_pos hl] at e'; cases e'; exact ⟨sz_of hl, rfl⟩
    · rw [if_neg hl] at e'; cases e'
  | lst l => cases e; obtain ⟨a, xs, rfl, h1, h2⟩ := h; exact .inl ⟨xs, SqL.of h1, h2.emp⟩
  | tup l => cases e; obtain ⟨a, xs, rfl, h1, h2⟩ := h; exact .inr (.inl ⟨xs, SqT.of (eG _ _ h1), h2.emp⟩)
  | _ => cases e
theorem st_tru (ha : SE Z Ew ta fa) : ST Z Ew (fun σ H Q => ta σ H fun x H' => ∃ k, TruV Z.K x H' k ∧ Q k H') (kTru fa) := fun env σ G α S H Q hd oe w =>
  ha.bind hd oe w fun S2 a x H2 G2 α2 f2 hd2 oe2 ox w2 => by
    cases e : snap S2 a with
    | none => rw [e] at w2; exact w2.elim
    | some d =>
      rw [e] at w2
      cases q : truD d with
      | none => simp only [q] at w2; exact w2.elim
      | some b =>
        simp only [q] at w2
        exact ⟨b, tru_ok' hd2.ex (snap_on hd2 ox e) q, Wk.bool w2 hd2⟩
end
/-! ### rules -/
section
variable {Z : Zt} {Ew : L2.St → XK} {X : Cx} {a b c : Expr} {fa fb fc : FE} {pos : Pos}
theorem pf_var (i : Nat) {x : Str} (hN : X.N[i]? = some x := by rfl) (hv : Vis X.env.scope x := by first | exact Or.inl rfl | exact Or.inr (Or.inl rfl) | exact Or.inr (Or.inr rfl)) (hd : (x == ("__debug__" : Str)) = false := by decide)
    (hcd : (x == ("__classdict__" : Str)) = false := by decide) : PF Z Ew X (.Name x pos) (fVar i) := ⟨_, pe_var hN hv hd hcd, se_var⟩
theorem pf_int {i : Int} {j pos} : PF Z Ew X (.Constant (.int i) j pos) (fC (.int i)) := ⟨_, pe_int, se_c fun G => on_int (Z := Z) (G := G)⟩
theorem pf_bl {i : Bool} {j pos} : PF Z Ew X (.Constant (.bool i) j pos) (fC (.bl i)) := ⟨_, pe_bl, se_c fun G => on_bl (Z := Z) (G := G)⟩
theorem pf_str {i : Str} {j pos} : PF Z Ew X (.Constant (.str i) j pos) (fC (.str i)) := ⟨_, pe_str, se_c fun G => on_str (Z := Z) (G := G)⟩
theorem pf_non {j pos} : PF Z Ew X (.Constant .none j pos) (fC .non) := ⟨_, pe_non, se_c fun G => on_non (Z := Z) (G := G)⟩
theorem pf_glob {x : Str} {u : Value} {d : Dv} {v : V} (hg : Gl X x) (hm : X.mg x = some u) (r : RelV v u) (h : ∀ G, On Z G d v) (hd : (x == ("__debug__" : Str)) = false := by decide) : PF Z Ew X (.Name x pos) (fC d) := ⟨_, pe_glob hg hm r hd, se_c h⟩
theorem pf_bltn {x : Str} {v : V} {u : Value} {d : Dv} (hg : Gl X x) (hm : X.mg x = none) (hv : bootBuiltins x = some u) (r : RelV v u) (h : ∀ G, On Z G d v) (hn : x ≠ "__name__" := by decide) (hd : (x == ("__debug__" : Str)) = false := by decide) : PF Z Ew X (.Name x pos) (fC d) :=
  ⟨_, pe_bltn hg hm hv r hn hd, se_c h⟩
theorem pf_op {op : Operator} {g : Dv → Dv → Option Rt} (h : OpR X (binaryOp op) (rD Z g)) (ha : PF Z Ew X a fa) (hb : PF Z Ew X b fb) : PF Z Ew X (.BinOp a op b pos) (fOp g fa fb) := by
  obtain ⟨ta, h1, h2⟩ := ha.ex
  obtain ⟨tb, h3, h4⟩ := hb.ex
  exact ⟨_, pe_op h h1 h3, se_op h2 h4⟩
theorem pf_cmp {op : CmpOp} {g : Dv → Dv → Option Rt} (h : OpR X (compareOp op) (rD Z g)) (ha : PF Z Ew X a fa) (hb : PF Z Ew X b fb) (hm : behindInMarks op b = false) : PF Z Ew X (.Compare a [op] [b] pos) (fOp g fa fb) := by
  obtain ⟨ta, h1, h2⟩ := ha.ex
  obtain ⟨tb, h3, h4⟩ := hb.ex
  exact ⟨_, pe_cmpR h h1 h3 hm, se_op h2 h4⟩
theorem ptf_cmp {op : CmpOp} {g : Dv → Dv → Option Rt} (h : OpR X (compareOp op) (rD Z g)) (ha : PF Z Ew X a fa) (hb : PF Z Ew X b fb) (hm : behindInMarks op b = false) : PTF Z Ew X (.Compare a [op] [b] pos) (kVal (fOp g fa fb)) := by
  obtain ⟨ta, h1, h2⟩ := ha.ex
  obtain ⟨tb, h3, h4⟩ := hb.ex
  exact ⟨_, pt_cmpR h h1 h3 hm, st_val (se_op h2 h4)⟩
theorem pf_and {rest : List Expr} (ha : PF Z Ew X a fa) (hb : PF Z Ew X (.BoolOp .And (b :: rest) pos) fb) : PF Z Ew X (.BoolOp .And (a :: b :: rest) pos) (fAnd fa fb) := by
  obtain ⟨ta, h1, h2⟩ := ha.ex
  obtain ⟨tb, h3, h4⟩ := hb.ex
  exact ⟨_, pe_and h1 h3, se_and h2 h4⟩
theorem pf_or {rest : List Expr} (ha : PF Z Ew X a fa) (hb : PF Z Ew X (.BoolOp .Or (b :: rest) pos) fb) : PF Z Ew X (.BoolOp .Or (a :: b :: rest) pos) (fOr fa fb) := by
  obtain ⟨ta, h1, h2⟩ := ha.ex
  obtain ⟨tb, h3, h4⟩ := hb.ex
  exact ⟨_, pe_or h1 h3, se_or h2 h4⟩
theorem pf_one {op} (ha : PF Z Ew X a fa) : PF Z Ew X (.BoolOp op [a] pos) fa := by
  obtain ⟨ta, h1, h2⟩ := ha.ex
  exact ⟨_, pe_one h1, h2⟩
theorem pf_not (ha : PF Z Ew X a fa) : PF Z Ew X (.UnaryOp .Not a pos) (fNot fa) := by
  obtain ⟨ta, h1, h2⟩ := ha.ex
  exact ⟨_, pe_not h1, se_not h2⟩
theorem pf_un {op : UnaryOp} {g : Dv → Option Rt} (h : UnR X (unaryOp op) (rU Z g)) (ha : PF Z Ew X a fa) : PF Z Ew X (.UnaryOp op a pos) (fUn g fa) := by
  obtain ⟨ta, h1, h2⟩ := ha.ex
  exact ⟨_, pe_un h h1, se_un h2⟩
theorem pf_if {ft : FT} (hc : PTF Z Ew X c ft) (ha : PF Z Ew X a fa) (hb : PF Z Ew X b fb) : PF Z Ew X (.IfExp c a b pos) (fIf ft fa fb) := by
  obtain ⟨tt, h5, h6⟩ := hc.ex
  obtain ⟨ta, h1, h2⟩ := ha.ex
  obtain ⟨tb, h3, h4⟩ := hb.ex
  exact ⟨_, pe_ifExp h5 h1 h3, se_if h6 h2 h4⟩
theorem paf_nil : PAF Z Ew X [] fNil := ⟨_, pa_nil, sa_nil⟩
theorem paf_cons {es : List Expr} {fr : FA} (ha : PF Z Ew X a fa) (hr : PAF Z Ew X es fr) (he : starEach (a :: es) X.env = (false, eval a X.env) :: starEach es X.env := by rfl) : PAF Z Ew X (a :: es) (fCons fa fr) := by
  obtain ⟨ta, h1, h2⟩ := ha.ex
  obtain ⟨tb, h3, h4⟩ := hr.ex
  exact ⟨_, pa_cons h1 h3 he, sa_cons h2 h4⟩
theorem pf_tup {es : List Expr} {fr : FA} {k} (h : PAF Z Ew X es fr) : PF Z Ew X (.Tuple es k pos) (fTup fr) := by
  obtain ⟨ta, h1, h2⟩ := h.ex
  exact ⟨_, pe_tup h1, se_tup h2⟩
theorem pf_lst {es : List Expr} {fr : FA} (h : PAF Z Ew X es fr) : PF Z Ew X (.List es pos) (fLst fr) := by
  obtain ⟨ta, h1, h2⟩ := h.ex
  exact ⟨_, pe_lst h1, se_lst h2⟩
theorem ptf_val {e : Expr} {f : FE} (h : PF Z Ew X e f) (he : ∀ whole, isTrue e X.env whole = (do let v ← whole; standAt e.pos; holding [v] (truthy v)) := by intro _; rfl) : PTF Z Ew X e (kVal f) := by
  obtain ⟨ta, h1, h2⟩ := h.ex
  exact ⟨_, pt_val h1 he, st_val h2⟩
theorem ptf_tru {e : Expr} {f : FE} (hK : X.K = Z.K) (h : PF Z Ew X e f) (he : ∀ whole, isTrue e X.env whole = (do let v ← whole; standAt e.pos; holding [v] (truthy v)) := by intro _; rfl) : PTF Z Ew X e (kTru f) := by
  obtain ⟨ta, h1, h2⟩ := h.ex
  exact ⟨_, pt_truth h1 he, hK ▸ st_tru h2⟩
theorem pwf_one {op} {ft : FT} (h : PTF Z Ew X a ft) (ho : op = .And ∨ op = .Or := by first | exact .inl rfl | exact .inr rfl) : PWF Z Ew X (.BoolOp op [a] pos) ft := by
  obtain ⟨ta, h1, h2⟩ := h.ex
  rcases ho with rfl | rfl
  · exact ⟨_, pw_and1 h1, h2⟩
  · exact ⟨_, pw_or1 h1, h2⟩
theorem pwf_and {rest : List Expr} {ft fu : FT} (h : PTF Z Ew X a ft) (hb : PWF Z Ew X (.BoolOp .And (b :: rest) pos) fu) : PWF Z Ew X (.BoolOp .And (a :: b :: rest) pos) (kAnd ft fu) := by
  obtain ⟨ta, h1, h2⟩ := h.ex
  obtain ⟨tb, h3, h4⟩ := hb.ex
  exact ⟨_, pw_and h1 h3, st_and h2 h4⟩
theorem pwf_or {rest : List Expr} {ft fu : FT} (h : PTF Z Ew X a ft) (hb : PWF Z Ew X (.BoolOp .Or (b :: rest) pos) fu) : PWF Z Ew X (.BoolOp .Or (a :: b :: rest) pos) (kOr ft fu) := by
  obtain ⟨ta, h1, h2⟩ := h.ex
  obtain ⟨tb, h3, h4⟩ := hb.ex
  exact ⟨_, pw_or h1 h3, st_or h2 h4⟩
theorem ptf_w {ft : FT} (h : PWF Z Ew X a ft) : PTF Z Ew X a ft := by
  obtain ⟨ta, h1, h2⟩ := h.ex
  exact ⟨_, h1.pt, h2⟩
theorem ptf_not {ft : FT} (h : PTF Z Ew X a ft) : PTF Z Ew X (.UnaryOp .Not a pos) (kNot ft) := by
  obtain ⟨ta, h1, h2⟩ := h.ex
  exact ⟨_, pt_not h1, st_not h2⟩
end
end DN

/-! DnC: operators and comparisons on values. -/
namespace DN
open PySem PySem.Spec PyProof.Rows L2 Evl
def vI (i : Int) : Option Rt := some (.val (.d (.int i)))
def vB (b : Bool) : Option Rt := some (.val (.d (.bl b)))
def vS (s : Str) : Option Rt := some (.val (.d (.str s)))
def vT (l : List Dv) : Option Rt := some (.val (.d (.tup l)))
def nL (l : List Dv) : Option Rt := some (.new (.lst l))
def onlyIf (b : Bool) (r : Option Rt) : Option Rt := if b then r else none
def gAdd : Dv → Dv → Option Rt
  | .int i, .int j => vI (i + j)
  | .str a, .str b => onlyIf (decide (a.length + b.length ≤ 100000)) (vS (a ++ b))
  | .lst a, .lst b => onlyIf (decide (a.length + b.length ≤ 100000)) (nL (a ++ b))
  | .tup a, .tup b => onlyIf (decide (a.length + b.length ≤ 100000)) (vT (a ++ b))
  | _, _ => none
def gSub : Dv → Dv → Option Rt
  | .int i, .int j => vI (i - j)
  | _, _ => none
def small64 (i : Int) : Bool := decide (-(2 ^ 64) < i) && decide (i < 2 ^ 64)
def gMul : Dv → Dv → Option Rt
  | .int i, .int j => onlyIf (small64 i || small64 j) (vI (i * j))
  | .str a, .int n => onlyIf (decide (0 ≤ n) && decide (n ≤ 10000) && decide (a.length ≤ 1000)) (vS (OP.repS a n.toNat))
  | .lst a, .int n => onlyIf (decide (-100000 ≤ n) && decide (n ≤ 100000) && decide (a.length * n.toNat ≤ 100000)) (nL (List.replicate n.toNat a).flatten)
  | _, _ => none
def gDiv : Dv → Dv → Option Rt
  | .int i, .int j => onlyIf (decide (j ≠ 0) && decide (j.natAbs < 1073741824)) (vI (i.fdiv j))
  | _, _ => none
def gMod : Dv → Dv → Option Rt
  | .int i, .int j => onlyIf (decide (j ≠ 0)) (vI (i.fmod j))
  | _, _ => none
def gPow : Dv → Dv → Option Rt
  | .int i, .int j => onlyIf (decide (0 ≤ j) && decide (j ≤ 1000000) && decide (i.natAbs < 2 ^ 64)) (vI (i ^ j.toNat))
  | _, _ => none
def gShl : Dv → Dv → Option Rt
  | .int i, .int j => onlyIf (decide (0 ≤ j) && decide (j ≤ 1000000) && decide (i.natAbs < 2 ^ 64)) (vI (i * 2 ^ j.toNat))
  | _, _ => none
def gShr : Dv → Dv → Option Rt
  | .int i, .int j => onlyIf (decide (0 ≤ j)) (vI (i / 2 ^ j.toNat))
  | _, _ => none
def gBAnd : Dv → Dv → Option Rt
  | .int i, .int j => vI (Builtin.bitAnd i j)
  | _, _ => none
def gBOr : Dv → Dv → Option Rt
  | .int i, .int j => vI (Builtin.bitOr i j)
  | _, _ => none
def gBXor : Dv → Dv → Option Rt
  | .int i, .int j => vI (Builtin.bitXor i j)
  | _, _ => none
def gNeg : Dv → Option Rt
  | .int i => vI (-i)
  | _ => none
def gLt : Dv → Dv → Option Rt
  | .int i, .int j => vB (decide (i < j))
  | .str a, .str b => vB (decide (a.cps.toList < b.cps.toList))
  | _, _ => none
def gLe : Dv → Dv → Option Rt
  | .int i, .int j => vB (decide (i ≤ j))
  | _, _ => none
def gGt : Dv → Dv → Option Rt
  | .int i, .int j => vB (decide (j < i))
  | _, _ => none
def gGe : Dv → Dv → Option Rt
  | .int i, .int j => vB (decide (j ≤ i))
  | _, _ => none
def Dv.isNon : Dv → Bool
  | .non => true
  | _ => false
/-- is, is not: with None -/
def gIs : Dv → Dv → Option Rt
  | a, .non => vB a.isNon
  | _, _ => none
def gIsNot : Dv → Dv → Option Rt
  | a, .non => vB (!a.isNon)
  | _, _ => none
/-! ### == and in, on data -/
mutual
def okN : Nat → Dv → Bool
  | _, .non => true
  | _, .bl _ => true
  | _, .int _ => true
  | _, .str s => PyData.strOk s
  | n + 1, .lst l => okNs n l
  | n + 1, .tup l => okNs n l
  | _, _ => false
def okNs : Nat → List Dv → Bool
  | _, [] => true
  | n, d :: l => okN n d && okNs n l
end
mutual
def eqD : Dv → Dv → Bool
  | .non, .non => true
  | .bl a, .bl b => a == b
  | .bl a, .int j => (if a then 1 else 0) == j
  | .int i, .bl b => i == (if b then 1 else 0)
  | .int i, .int j => i == j
  | .str a, .str b => a == b
  | .lst a, .lst b => eqDs a b
  | .tup a, .tup b => eqDs a b
  | _, _ => false
def eqDs : List Dv → List Dv → Bool
  | [], [] => true
  | a :: l, b :: m => eqD a b && eqDs l m
  | _, _ => false
end
def gEq (a b : Dv) : Option Rt := onlyIf (okN 60 a && okN 60 b) (vB (eqD a b))
def gNe (a b : Dv) : Option Rt := onlyIf (okN 60 a && okN 60 b) (vB (!eqD a b))
def inD (a : Dv) (l : List Dv) : Bool := l.any fun y => eqD y a
def inS (a z : Str) : Bool := match a.cps.toList with
  | [c] => decide (c ∈ z.cps.toList)
  | _ => !(Builtin.Str.occurrences z a 0 z.length 1).isEmpty
def gIn : Dv → Dv → Option Rt
  | .str a, .str z => vB (inS a z)
  | a, .lst l => onlyIf (okN 60 a && okNs 60 l) (vB (inD a l))
  | a, .tup l => onlyIf (okN 60 a && okNs 60 l) (vB (inD a l))
  | a, .ktp l => onlyIf (okN 60 a && okNs 60 l) (vB (inD a l))
  | _, _ => none
def gNotIn : Dv → Dv → Option Rt
  | .str a, .str z => vB (!inS a z)
  | a, .lst l => onlyIf (okN 60 a && okNs 60 l) (vB (!inD a l))
  | a, .tup l => onlyIf (okN 60 a && okNs 60 l) (vB (!inD a l))
  | a, .ktp l => onlyIf (okN 60 a && okNs 60 l) (vB (!inD a l))
  | _, _ => none
/-! ### their rules -/
section
variable {Z : Zt} {X : Cx} {G H : Hp} {α : List Addr} {S : Sto} {Q : VK} {E : XK}
theorem onlyIf_ok {b : Bool} {r : Option Rt} {P : Pst Rt} (w : Wk Z (R.of S (onlyIf b r)) G α H P E) : b = true ∧ Wk Z (R.of S r) G α H P E := by
  cases b with
  | true => exact ⟨rfl, w⟩
  | false => exact w.elim
theorem wI {i : Int} (w : Wk Z (R.of S (vI i)) G α H (pRt Z Q) E) (hd : Hd Z G α S H) : Q (.int i) H := Wk.dat (v := .d (.int i)) w hd (or_int Z G α i)
theorem wB {i : Bool} (w : Wk Z (R.of S (vB i)) G α H (pRt Z Q) E) (hd : Hd Z G α S H) : Q (.bl i) H := Wk.dat (v := .d (.bl i)) w hd (or_bl Z G α i)
theorem wS {i : Str} (w : Wk Z (R.of S (vS i)) G α H (pRt Z Q) E) (hd : Hd Z G α S H) : Q (.str i) H := Wk.dat (v := .d (.str i)) w hd (or_str Z G α i)
/-- a new list, of what is known -/
theorem wL {l : List Dv} {xs : List V} (w : Wk Z (R.of S (nL l)) G α H (pRt Z Q) E) (hd : Hd Z G α S H) (o : OnL Z G l xs) {p : Addr} (hp : H p = none) : Q (.ref p) (upd H p (.lst xs)) := Wk.fresh w hd hp ⟨xs, rfl, o⟩
/-- a new tuple -/
theorem wT {l : List Dv} {xs : List V} (w : Wk Z (R.of S (vT l)) G α H (pRt Z Q) E) (hd : Hd Z G α S H) (o : OnL Z G l xs) {p : Addr} (hp : H p = none) : Q (.ref p) (upd H p (.tup xs)) := by
  obtain ⟨h3, f3⟩ := hd.know (o := .tup xs) hp
  exact w _ _ _ f3 h3 _ (by show On _ _ _ _; unfold On; exact ⟨p, xs, rfl, upd_same, o.up f3.g⟩)
/-- a tuple that stands already -/
theorem wkT {l : List Dv} {xs : List V} {a : Addr} (w : Wk Z (R.of S (vT l)) G α H (pRt Z Q) E) (hd : Hd Z G α S H) (h : G a = some (.tup xs)) (o : OnL Z G l xs) : Q (.ref a) H :=
  Wk.dat (v := .d (.tup l)) w hd (by show On _ _ _ _; unfold On; exact ⟨a, xs, rfl, h, o⟩)
theorem onl_rep {l : List Dv} {xs : List V} (h : OnL Z G l xs) : ∀ n : Nat, OnL Z G (List.replicate n l).flatten (List.replicate n xs).flatten
  | 0 => OnL.nil'
  | n + 1 => by
    rw [List.replicate_succ, List.replicate_succ, List.flatten_cons, List.flatten_cons]
    exact h.app (onl_rep h n)
theorem and3 {a b c : Bool} (h : (a && b && c) = true) : a = true ∧ b = true ∧ c = true := by
  cases a <;> cases b <;> cases c <;> simp_all
theorem od_add (hK : X.K = Z.K) : OpR X (binaryOp .Add) (rD Z gAdd) := by
  intro pins s σ H x y v u Q I rx ry h
  obtain ⟨G, α, S, a, b, hd, ha, hb, w⟩ := h
  cases a with
  | int i =>
    cases b with
    | int j => cases ha; cases hb; exact op_add pins s σ H _ _ v u Q I rx ry ⟨i, j, rfl, rfl, wI w hd⟩
    | _ => exact w.elim
  | str i =>
    cases b with
    | str j =>
      cases ha; cases hb
      obtain ⟨h1, w⟩ := onlyIf_ok w
      exact op_add_str pins s σ H _ _ v u Q I rx ry ⟨i, j, rfl, rfl, sz_of (of_decide_eq_true h1), wS w hd⟩
    | _ => exact w.elim
  | lst i =>
    cases b with
    | lst j =>
      obtain ⟨a, xs, rfl, h1, h2⟩ := ha
      obtain ⟨b, ys, rfl, h3, h4⟩ := hb
      obtain ⟨h5, w⟩ := onlyIf_ok w
      exact op_cat pins s σ H _ _ v u Q I rx ry ⟨a, b, xs, ys, rfl, rfl, h1, h3, by rw [h2.len, h4.len]; exact sz_of (of_decide_eq_true h5), fun p hp => wL w hd (h2.app h4) hp⟩
    | _ => exact w.elim
  | tup i =>
    cases b with
    | tup j =>
      obtain ⟨a, xs, rfl, h1, h2⟩ := ha
      obtain ⟨b, ys, rfl, h3, h4⟩ := hb
      obtain ⟨h5, w⟩ := onlyIf_ok w
      refine op_catA pins s σ H _ _ v u Q I rx ry ⟨a, b, xs, ys, rfl, rfl, SqT.of (hd.ex _ _ h1), SqT.of (hd.ex _ _ h3), by rw [h2.len, h4.len]; exact sz_of (of_decide_eq_true h5), fun e => ?_, fun _ e => ?_, fun _ _ p hp => wT w hd (h2.app h4) hp⟩
      · have e2 := h2.len
        rw [e] at e2
        have e3 : i = [] := List.length_eq_zero_iff.mp e2.symm
        subst e3
        exact wkT w hd h3 h4
      · have e2 := h4.len
        rw [e] at e2
        have e3 : j = [] := List.length_eq_zero_iff.mp e2.symm
        subst e3
        rw [List.append_nil] at w
        exact wkT w hd h1 h2
    | _ => exact w.elim
  | _ => cases b <;> exact w.elim
/-- two ints -/
theorem od_ii {f : Value → Value → Sem Value} {g : Dv → Dv → Option Rt} {C : Int → Int → Prop} {k : Int → Int → Int} (h : OpR X f (rI C fun i j => .int (k i j)))
    (hg : ∀ (a b : Dv) {G α S H} {Q : VK} {E : XK}, Wk Z (R.of S (g a b)) G α H (pRt Z Q) E → ∃ i j, a = .int i ∧ b = .int j ∧ C i j ∧ Wk Z (R.of S (vI (k i j))) G α H (pRt Z Q) E) : OpR X f (rD Z g) := by
  intro pins s σ H x y v u Q I rx ry h'
  obtain ⟨G, α, S, a, b, hd, ha, hb, w⟩ := h'
  obtain ⟨i, j, rfl, rfl, hc, w⟩ := hg a b w
  cases ha; cases hb
  exact h pins s σ H _ _ v u Q I rx ry ⟨i, j, rfl, rfl, hc, wI w hd⟩
theorem rI_of0 {f : Value → Value → Sem Value} {g : Int → Int → V} (h : OpR X f (rI0 g)) : OpR X f (rI (fun _ _ => True) g) := fun pins s σ H x y v u Q I rx ry q => by
  obtain ⟨i, j, h1, h2, _, h3⟩ := q
  exact h pins s σ H x y v u Q I rx ry ⟨i, j, h1, h2, h3⟩
theorem od_sub : OpR X (binaryOp .Sub) (rD Z gSub) := od_ii (rI_of0 op_sub) fun a b {G α S H Q E} w => by
  cases a <;> first | (exact w.elim) | skip
  cases b <;> first | (exact w.elim) | exact ⟨_, _, rfl, rfl, trivial, w⟩
theorem od_band : OpR X (binaryOp .BitAnd) (rD Z gBAnd) := od_ii (rI_of0 op_and) fun a b {G α S H Q E} w => by
  cases a <;> first | (exact w.elim) | skip
  cases b <;> first | (exact w.elim) | exact ⟨_, _, rfl, rfl, trivial, w⟩
theorem od_bor : OpR X (binaryOp .BitOr) (rD Z gBOr) := od_ii (rI_of0 op_or) fun a b {G α S H Q E} w => by
  cases a <;> first | (exact w.elim) | skip
  cases b <;> first | (exact w.elim) | exact ⟨_, _, rfl, rfl, trivial, w⟩
theorem od_bxor : OpR X (binaryOp .BitXor) (rD Z gBXor) := od_ii (rI_of0 op_xor) fun a b {G α S H Q E} w => by
  cases a <;> first | (exact w.elim) | skip
  cases b <;> first | (exact w.elim) | exact ⟨_, _, rfl, rfl, trivial, w⟩
theorem od_div : OpR X (binaryOp .FloorDiv) (rD Z gDiv) := od_ii op_fdivN fun a b {G α S H Q E} w => by
  cases a <;> first | (exact w.elim) | skip
  cases b <;> first | (exact w.elim) | skip
  obtain ⟨h1, w⟩ := onlyIf_ok w
  rw [Bool.and_eq_true] at h1
  exact ⟨_, _, rfl, rfl, ⟨of_decide_eq_true h1.1, of_decide_eq_true h1.2⟩, w⟩
theorem od_mod : OpR X (binaryOp .Mod) (rD Z gMod) := od_ii op_modN fun a b {G α S H Q E} w => by
  cases a <;> first | (exact w.elim) | skip
  cases b <;> first | (exact w.elim) | skip
  obtain ⟨h1, w⟩ := onlyIf_ok w
  exact ⟨_, _, rfl, rfl, of_decide_eq_true h1, w⟩
theorem od_pow : OpR X (binaryOp .Pow) (rD Z gPow) := od_ii op_pow fun a b {G α S H Q E} w => by
  cases a <;> first | (exact w.elim) | skip
  cases b <;> first | (exact w.elim) | skip
  obtain ⟨h1, w⟩ := onlyIf_ok w
  obtain ⟨h1, h2, h3⟩ := and3 h1
  exact ⟨_, _, rfl, rfl, ⟨of_decide_eq_true h1, of_decide_eq_true h2, of_decide_eq_true h3⟩, w⟩
theorem od_shl : OpR X (binaryOp .LShift) (rD Z gShl) := od_ii op_shl fun a b {G α S H Q E} w => by
  cases a <;> first | (exact w.elim) | skip
  cases b <;> first | (exact w.elim) | skip
  obtain ⟨h1, w⟩ := onlyIf_ok w
  obtain ⟨h1, h2, h3⟩ := and3 h1
  exact ⟨_, _, rfl, rfl, ⟨of_decide_eq_true h1, of_decide_eq_true h2, of_decide_eq_true h3⟩, w⟩
theorem od_shr : OpR X (binaryOp .RShift) (rD Z gShr) := od_ii op_shr fun a b {G α S H Q E} w => by
  cases a <;> first | (exact w.elim) | skip
  cases b <;> first | (exact w.elim) | skip
  obtain ⟨h1, w⟩ := onlyIf_ok w
  exact ⟨_, _, rfl, rfl, of_decide_eq_true h1, w⟩
theorem small64_ok {i : Int} (h : small64 i = true) : -(2 ^ 64) < i ∧ i < 2 ^ 64 := by
  unfold small64 at h
  rw [Bool.and_eq_true] at h
  exact ⟨of_decide_eq_true h.1, of_decide_eq_true h.2⟩
theorem od_mul : OpR X (binaryOp .Mult) (rD Z gMul) := by
  intro pins s σ H x y v u Q I rx ry h
  obtain ⟨G, α, S, a, b, hd, ha, hb, w⟩ := h
  cases a with
  | int i =>
    cases b with
    | int j =>
      cases ha; cases hb
      obtain ⟨h1, w⟩ := onlyIf_ok w
      rw [Bool.or_eq_true] at h1
      exact op_mul pins s σ H _ _ v u Q I rx ry ⟨i, j, rfl, rfl, h1.imp small64_ok small64_ok, wI w hd⟩
    | _ => exact w.elim
  | str i =>
    cases b with
    | int j =>
      cases ha; cases hb
      obtain ⟨h1, w⟩ := onlyIf_ok w
      obtain ⟨h1, h2, h3⟩ := and3 h1
      exact OP.op_mul_str pins s σ H _ _ v u Q I rx ry ⟨i, j, rfl, rfl, of_decide_eq_true h1, of_decide_eq_true h2, of_decide_eq_true h3, wS w hd⟩
    | _ => exact w.elim
  | lst i =>
    cases b with
    | int j =>
      obtain ⟨a, xs, rfl, h1, h2⟩ := ha
      cases hb
      obtain ⟨h5, w⟩ := onlyIf_ok w
      obtain ⟨h5, h6, h7⟩ := and3 h5
      have h5 := of_decide_eq_true h5
      have h6 := of_decide_eq_true h6
      exact op_rep pins s σ H _ _ v u Q I rx ry ⟨a, j, xs, rfl, rfl, h1, by omega, by omega, by rw [h2.len]; exact sz_of (of_decide_eq_true h7), fun p hp => wL w hd (onl_rep h2 _) hp⟩
    | _ => exact w.elim
  | _ => cases b <;> exact w.elim
theorem ud_neg : UnR X (unaryOp .USub) (rU Z gNeg) := by
  intro pins s σ H x v Q I rx h
  obtain ⟨G, α, S, a, hd, ha, w⟩ := h
  cases a with
  | int i => cases ha; exact un_neg pins s σ H _ v Q I rx ⟨i, rfl, wI w hd⟩
  | _ => exact w.elim
/-- comparisons of two ints -/
theorem od_ib {f : Value → Value → Sem Value} {g : Dv → Dv → Option Rt} {k : Int → Int → Bool} (h : OpR X f (rI0 fun i j => .bl (k i j)))
    (hg : ∀ (a b : Dv) {G α S H} {Q : VK} {E : XK}, Wk Z (R.of S (g a b)) G α H (pRt Z Q) E → ∃ i j, a = .int i ∧ b = .int j ∧ Wk Z (R.of S (vB (k i j))) G α H (pRt Z Q) E) : OpR X f (rD Z g) := by
  intro pins s σ H x y v u Q I rx ry h'
  obtain ⟨G, α, S, a, b, hd, ha, hb, w⟩ := h'
  obtain ⟨i, j, e1, e2, w2⟩ := hg a b w
  subst e1; subst e2
  cases ha; cases hb
  exact h pins s σ H _ _ v u Q I rx ry ⟨i, j, rfl, rfl, wB w2 hd⟩
theorem od_le : OpR X (compareOp .LtE) (rD Z gLe) := od_ib op_le fun a b {G α S H Q E} w => by
  cases a <;> first | (exact w.elim) | skip
  cases b <;> first | (exact w.elim) | exact ⟨_, _, rfl, rfl, w⟩
theorem od_gt : OpR X (compareOp .Gt) (rD Z gGt) := od_ib op_gt fun a b {G α S H Q E} w => by
  cases a <;> first | (exact w.elim) | skip
  cases b <;> first | (exact w.elim) | exact ⟨_, _, rfl, rfl, w⟩
theorem od_ge : OpR X (compareOp .GtE) (rD Z gGe) := od_ib op_ge fun a b {G α S H Q E} w => by
  cases a <;> first | (exact w.elim) | skip
  cases b <;> first | (exact w.elim) | exact ⟨_, _, rfl, rfl, w⟩
theorem od_lt : OpR X (compareOp .Lt) (rD Z gLt) := by
  intro pins s σ H x y v u Q I rx ry h
  obtain ⟨G, α, S, a, b, hd, ha, hb, w⟩ := h
  cases a with
  | int i =>
    cases b with
    | int j => cases ha; cases hb; exact op_lt pins s σ H _ _ v u Q I rx ry ⟨i, j, rfl, rfl, wB w hd⟩
    | _ => exact w.elim
  | str i =>
    cases b with
    | str j => cases ha; cases hb; exact op_lt_str pins s σ H _ _ v u Q I rx ry ⟨i, j, rfl, rfl, wB w hd⟩
    | _ => exact w.elim
  | _ => cases b <;> exact w.elim
theorem isNon_on {a : Dv} {x : V} (h : OnH Z G H a x) : a.isNon = decide (x = .non) := by
  cases a with
  | non => cases h; rfl
  | bl _ => cases h; rfl
  | int _ => cases h; rfl
  | str _ => cases h; rfl
  | ty _ => cases h; rfl
  | cls _ => cases h; rfl
  | scr _ => obtain ⟨a, rfl, _⟩ := h; rfl
  | ktp _ => obtain ⟨a, _, rfl, _⟩ := h; rfl
  | lst _ => obtain ⟨a, _, rfl, _⟩ := h; rfl
  | tup _ => obtain ⟨a, _, rfl, _⟩ := h; rfl
  | obj _ _ => obtain ⟨a, _, _, rfl, _⟩ := h; rfl
  | dic _ _ _ => obtain ⟨a, _, rfl, _⟩ := h; rfl
theorem od_is : OpR X (compareOp .Is) (rD Z gIs) := by
  intro pins s σ H x y v u Q I rx ry h
  obtain ⟨G, α, S, a, b, hd, ha, hb, w⟩ := h
  cases b with
  | non =>
    cases hb
    have w' : Wk Z (R.of S (vB a.isNon)) G α H (pRt Z Q) E0 := by cases a <;> exact w
    rw [isNon_on ha] at w'
    exact op_isN pins s σ H _ _ v u Q I rx ry ⟨rfl, wB w' hd⟩
  | _ => cases a <;> exact w.elim
theorem od_isnot : OpR X (compareOp .IsNot) (rD Z gIsNot) := by
  intro pins s σ H x y v u Q I rx ry h
  obtain ⟨G, α, S, a, b, hd, ha, hb, w⟩ := h
  cases b with
  | non =>
    cases hb
    have w' : Wk Z (R.of S (vB (!a.isNon))) G α H (pRt Z Q) E0 := by cases a <;> exact w
    rw [isNon_on ha] at w'
    exact op_notN pins s σ H _ _ v u Q I rx ry ⟨rfl, wB w' hd⟩
  | _ => cases a <;> exact w.elim
end
/-! ### data -/
mutual
def toP : Dv → PyData
  | .non => .none
  | .bl b => .bool b
  | .int i => .int i
  | .str s => .str s
  | .lst l => .list (toPs l)
  | .tup l => .tuple (toPs l)
  | _ => .none
def toPs : List Dv → List PyData
  | [] => []
  | d :: l => toP d :: toPs l
end
section
variable {Z : Zt} {X : Cx} {G H : Hp} {α : List Addr} {S : Sto} {Q : VK} {E : XK}
mutual
theorem on_dp {n : Nat} : ∀ {d : Dv} {v : V}, okN n d = true → On Z G d v → Dp Z.K G v (toP d)
  | .non, _, _, h => by unfold On at h; subst h; unfold toP; exact .non
  | .bl _, _, _, h => by unfold On at h; subst h; unfold toP; exact .bl _
  | .int _, _, _, h => by unfold On at h; subst h; unfold toP; exact .int _
  | .str _, _, _, h => by unfold On at h; subst h; unfold toP; exact .str _
  | .lst l, v, k, h => by
    cases n with
    | zero => simp [okN] at k
    | succ n =>
      unfold On at h
      obtain ⟨a, xs, rfl, h1, h2⟩ := h
      unfold toP
      exact .lst (SqL.of h1) (onl_dp (n := n) (by simpa [okN] using k) h2)
  | .tup l, v, k, h => by
    cases n with
    | zero => simp [okN] at k
    | succ n =>
      unfold On at h
      obtain ⟨a, xs, rfl, h1, h2⟩ := h
      unfold toP
      exact .tup (SqT.of h1) (onl_dp (n := n) (by simpa [okN] using k) h2)
  | .ty _, _, k, _ => by simp [okN] at k
  | .cls _, _, k, _ => by simp [okN] at k
  | .scr _, _, k, _ => by simp [okN] at k
  | .ktp _, _, k, _ => by simp [okN] at k
  | .obj _ _, _, k, _ => by simp [okN] at k
  | .dic _ _ _, _, k, _ => by simp [okN] at k
theorem onl_dp {n : Nat} : ∀ {l : List Dv} {xs : List V}, okNs n l = true → OnL Z G l xs → DpAll Z.K G xs (toPs l)
  | [], xs, _, h => by rw [OnL.nil.mp h]; unfold toPs; exact .nil
  | d :: l, xs, k, h => by
    obtain ⟨y, ys, rfl, h2, h3⟩ := OnL.cons.mp h
    have k' : okN n d = true ∧ okNs n l = true := by simpa [okNs] using k
    unfold toPs
    exact .cons (on_dp k'.1 h2) (onl_dp k'.2 h3)
end
mutual
theorem ok_lay : ∀ {n : Nat} {d : Dv}, okN n d = true → (toP d).canLay0 = true ∧ (toP d).depth ≤ n
  | _, .non, _ => by simp [toP, PyData.canLay0, PyData.depth]
  | _, .bl _, _ => by simp [toP, PyData.canLay0, PyData.depth]
  | _, .int _, _ => by simp [toP, PyData.canLay0, PyData.depth]
  | _, .str s, k => by simp only [okN] at k; simp [toP, PyData.canLay0, PyData.depth, k]
  | 0, .lst l, k => by simp [okN] at k
  | n + 1, .lst l, k => by
    have h := ok_lays (n := n) (l := l) (by simpa [okN] using k)
    simp only [toP, PyData.canLay0, PyData.depth]
    exact ⟨h.1, by omega⟩
  | 0, .tup l, k => by simp [okN] at k
  | n + 1, .tup l, k => by
    have h := ok_lays (n := n) (l := l) (by simpa [okN] using k)
    simp only [toP, PyData.canLay0, PyData.depth]
    exact ⟨h.1, by omega⟩
  | _, .ty _, k => by simp [okN] at k
  | _, .cls _, k => by simp [okN] at k
  | _, .scr _, k => by simp [okN] at k
  | _, .ktp _, k => by simp [okN] at k
  | _, .obj _ _, k => by simp [okN] at k
  | _, .dic _ _ _, k => by simp [okN] at k
theorem ok_lays : ∀ {n : Nat} {l : List Dv}, okNs n l = true → PyData.canLayAll0 (toPs l) = true ∧ PyData.depthAll (toPs l) ≤ n
  | _, [], _ => by simp [toPs, PyData.canLayAll0, PyData.depthAll]
  | n, d :: l, k => by
    have k' : okN n d = true ∧ okNs n l = true := by simpa [okNs] using k
    have h1 := ok_lay k'.1
    have h2 := ok_lays k'.2
    simp only [toPs, PyData.canLayAll0, PyData.depthAll, h1.1, h2.1]
    exact ⟨rfl, by omega⟩
end
mutual
theorem eq_eqv : ∀ {n m : Nat} {a b : Dv}, okN n a = true → okN m b = true → PyData.eqv (toP a) (toP b) = eqD a b
  | n, m, a, b, ha, hb => by
    cases a <;> cases b <;> first
      | (simp [okN] at ha; done)
      | (simp [okN] at hb; done)
      | (simp [toP, PyData.eqv, eqD]; done)
      | skip
    · rename_i l k
      cases n with
      | zero => simp [okN] at ha
      | succ n =>
        cases m with
        | zero => simp [okN] at hb
        | succ m =>
          simp only [toP, PyData.eqv, eqD]
          exact eqs_eqv (by simpa [okN] using ha) (by simpa [okN] using hb)
    · rename_i l k
      cases n with
      | zero => simp [okN] at ha
      | succ n =>
        cases m with
        | zero => simp [okN] at hb
        | succ m =>
          simp only [toP, PyData.eqv, eqD]
          exact eqs_eqv (by simpa [okN] using ha) (by simpa [okN] using hb)
theorem eqs_eqv : ∀ {n m : Nat} {a b : List Dv}, okNs n a = true → okNs m b = true → PyData.eqvAll (toPs a) (toPs b) = eqDs a b
  | _, _, [], [], _, _ => by simp [toPs, PyData.eqvAll, eqDs]
  | _, _, [], _ :: _, _, _ => by simp [toPs, PyData.eqvAll, eqDs]
  | _, _, _ :: _, [], _, _ => by simp [toPs, PyData.eqvAll, eqDs]
  | n, m, a :: l, b :: k, ha, hb => by
    have ha' : okN n a = true ∧ okNs n l = true := by simpa [okNs] using ha
    have hb' : okN m b = true ∧ okNs m k = true := by simpa [okNs] using hb
    simp only [toPs, PyData.eqvAll, eqDs]
    rw [eq_eqv ha'.1 hb'.1, eqs_eqv ha'.2 hb'.2]
end
theorem ok_shaped {a : Dv} (h : okN 60 a = true) : SeqAt.shaped (toP a) = true := by
  obtain ⟨h1, h2⟩ := ok_lay h
  show ((toP a).canLay0 && decide ((toP a).depth ≤ 64)) = true
  rw [h1, decide_eq_true (by omega)]
  rfl
theorem oks_shaped {l : List Dv} (h : okNs 60 l = true) : SeqAt.shaped (.list (toPs l)) = true ∧ SeqAt.shaped (.tuple (toPs l)) = true := by
  obtain ⟨h1, h2⟩ := ok_lays h
  have e1 : (PyData.list (toPs l)).canLay0 = true := by simp only [PyData.canLay0]; exact h1
  have e2 : (PyData.tuple (toPs l)).canLay0 = true := by simp only [PyData.canLay0]; exact h1
  have d1 : (PyData.list (toPs l)).depth ≤ 64 := by simp only [PyData.depth]; omega
  have d2 : (PyData.tuple (toPs l)).depth ≤ 64 := by simp only [PyData.depth]; omega
  constructor
  · show ((PyData.list (toPs l)).canLay0 && decide ((PyData.list (toPs l)).depth ≤ 64)) = true
    rw [e1, decide_eq_true d1]; rfl
  · show ((PyData.tuple (toPs l)).canLay0 && decide ((PyData.tuple (toPs l)).depth ≤ 64)) = true
    rw [e2, decide_eq_true d2]; rfl
theorem and2 {a b : Bool} (h : (a && b) = true) : a = true ∧ b = true := by
  cases a <;> cases b <;> simp_all
theorem od_eq (hu : X.A.units + 64 < cLine) (hK : X.K = Z.K) : OpR X (compareOp .Eq) (rD Z gEq) := by
  intro pins s σ H x y v u Q I rx ry h
  obtain ⟨G, α, S, a, b, hd, ha, hb, w⟩ := h
  obtain ⟨h1, w⟩ := onlyIf_ok w
  obtain ⟨h1, h2⟩ := and2 h1
  refine op_eqD hu pins s σ H _ _ v u Q I rx ry ⟨toP a, toP b, hK ▸ on_dp h1 (ha.on hd.ex), hK ▸ on_dp h2 (hb.on hd.ex), ok_shaped h1, ok_shaped h2, ?_⟩
  rw [eq_eqv h1 h2]
  exact wB w hd
theorem od_ne (hu : X.A.units + 64 < cLine) (hK : X.K = Z.K) : OpR X (compareOp .NotEq) (rD Z gNe) := by
  intro pins s σ H x y v u Q I rx ry h
  obtain ⟨G, α, S, a, b, hd, ha, hb, w⟩ := h
  obtain ⟨h1, w⟩ := onlyIf_ok w
  obtain ⟨h1, h2⟩ := and2 h1
  refine op_neD hu pins s σ H _ _ v u Q I rx ry ⟨toP a, toP b, hK ▸ on_dp h1 (ha.on hd.ex), hK ▸ on_dp h2 (hb.on hd.ex), ok_shaped h1, ok_shaped h2, ?_⟩
  rw [eq_eqv h1 h2]
  exact wB w hd
theorem any_eqv {a : Dv} (ha : okN 60 a = true) : ∀ {l : List Dv}, okNs 60 l = true → ((toPs l).any fun z => PyData.eqv z (toP a)) = inD a l
  | [], _ => rfl
  | d :: l, h => by
    have h' : okN 60 d = true ∧ okNs 60 l = true := by simpa [okNs] using h
    simp only [toPs, inD, List.any_cons]
    rw [eq_eqv h'.1 ha, any_eqv ha h'.2]
    rfl
theorem sg_of {a : Str} {c : Nat} (h : a.cps.toList = [c]) : a = ⟨#[c]⟩ := by
  obtain ⟨⟨l⟩⟩ := a
  simp at h
  subst h
  rfl
theorem in_cases {a b : Dv} {neg : Bool} {g : Dv → Dv → Option Rt} (hg : g = if neg then gNotIn else gIn) (w : Wk Z (R.of S (g a b)) G α H (pRt Z Q) E) :
    (∃ s z, a = .str s ∧ b = .str z ∧ Wk Z (R.of S (vB (if neg then !inS s z else inS s z))) G α H (pRt Z Q) E) ∨
    (∃ l, (b = .lst l ∨ b = .tup l ∨ b = .ktp l) ∧ okN 60 a = true ∧ okNs 60 l = true ∧ Wk Z (R.of S (vB (if neg then !inD a l else inD a l))) G α H (pRt Z Q) E) := by
  subst hg
  cases b with
  | lst l =>
    have w' : Wk Z (R.of S (onlyIf (okN 60 a && okNs 60 l) (vB (if neg then !inD a l else inD a l)))) G α H (pRt Z Q) E := by cases neg <;> cases a <;> exact w
    obtain ⟨h1, w'⟩ := onlyIf_ok w'
    obtain ⟨h1, h2⟩ := and2 h1
    exact .inr ⟨l, .inl rfl, h1, h2, w'⟩
  | tup l =>
    have w' : Wk Z (R.of S (onlyIf (okN 60 a && okNs 60 l) (vB (if neg then !inD a l else inD a l)))) G α H (pRt Z Q) E := by cases neg <;> cases a <;> exact w
    obtain ⟨h1, w'⟩ := onlyIf_ok w'
    obtain ⟨h1, h2⟩ := and2 h1
    exact .inr ⟨l, .inr (.inl rfl), h1, h2, w'⟩
  | ktp l =>
    have w' : Wk Z (R.of S (onlyIf (okN 60 a && okNs 60 l) (vB (if neg then !inD a l else inD a l)))) G α H (pRt Z Q) E := by cases neg <;> cases a <;> exact w
    obtain ⟨h1, w'⟩ := onlyIf_ok w'
    obtain ⟨h1, h2⟩ := and2 h1
    exact .inr ⟨l, .inr (.inr rfl), h1, h2, w'⟩
  | str z =>
    cases a with
    | str s => exact .inl ⟨s, z, rfl, rfl, by cases neg <;> exact w⟩
    | _ => cases neg <;> exact w.elim
  | _ => cases neg <;> cases a <;> exact w.elim
theorem od_in (hu : X.A.units + 65 < cLine) (hK : X.K = Z.K) : OpR X (compareOp .In) (rD Z gIn) := by
  intro pins s σ H x y v u Q I rx ry h
  obtain ⟨G, α, S, a, b, hd, ha, hb, w⟩ := h
  rcases in_cases (neg := false) rfl w with ⟨t, z, rfl, rfl, w2⟩ | ⟨l, e, h1, h2, w2⟩
  · cases ha; cases hb
    unfold inS at w2
    cases e : t.cps.toList with
    | nil => simp only [e] at w2; exact op_in_str pins s σ H _ _ v u Q I rx ry ⟨t, z, rfl, rfl, wB w2 hd⟩
    | cons c r =>
      cases r with
      | nil => simp only [e] at w2; exact op_in_sign pins s σ H _ _ v u Q I rx ry ⟨c, z, by rw [sg_of e], rfl, wB w2 hd⟩
      | cons d r => simp only [e] at w2; exact op_in_str pins s σ H _ _ v u Q I rx ry ⟨t, z, rfl, rfl, wB w2 hd⟩
  · rcases e with rfl | rfl | rfl
    · obtain ⟨b, ys, rfl, h3, h4⟩ := hb
      exact op_inD hu pins s σ H _ _ v u Q I rx ry ⟨toP a, toPs l, hK ▸ on_dp h1 (ha.on hd.ex), hK ▸ .lst (SqL.of h3) (onl_dp h2 (h4.up hd.ex)), ok_shaped h1, (oks_shaped h2).1, by rw [any_eqv h1 h2]; exact wB w2 hd⟩
    · obtain ⟨b, ys, rfl, h3, h4⟩ := hb
      exact OP.op_inT hu pins s σ H _ _ v u Q I rx ry ⟨toP a, toPs l, hK ▸ on_dp h1 (ha.on hd.ex), hK ▸ .tup (SqT.of (hd.ex _ _ h3)) (onl_dp h2 (h4.up hd.ex)), ok_shaped h1, (oks_shaped h2).2, by rw [any_eqv h1 h2]; exact wB w2 hd⟩
    · obtain ⟨b, ys, rfl, h3, h4⟩ := hb
      exact OP.op_inT hu pins s σ H _ _ v u Q I rx ry ⟨toP a, toPs l, hK ▸ on_dp h1 (ha.on hd.ex), hK ▸ .tup (ex_t ex_nil h3) (onl_dp h2 (h4.up hd.ex)), ok_shaped h1, (oks_shaped h2).2, by rw [any_eqv h1 h2]; exact wB w2 hd⟩
theorem od_notin (hu : X.A.units + 65 < cLine) (hK : X.K = Z.K) : OpR X (compareOp .NotIn) (rD Z gNotIn) := by
  intro pins s σ H x y v u Q I rx ry h
  obtain ⟨G, α, S, a, b, hd, ha, hb, w⟩ := h
  rcases in_cases (neg := true) rfl w with ⟨t, z, rfl, rfl, w2⟩ | ⟨l, e, h1, h2, w2⟩
  · cases ha; cases hb
    unfold inS at w2
    cases e : t.cps.toList with
    | nil => simp only [e] at w2; exact op_notin_str pins s σ H _ _ v u Q I rx ry ⟨t, z, rfl, rfl, wB w2 hd⟩
    | cons c r =>
      cases r with
      | nil => simp only [e] at w2; exact op_notIn_sign pins s σ H _ _ v u Q I rx ry ⟨c, z, by rw [sg_of e], rfl, wB w2 hd⟩
      | cons d r => simp only [e] at w2; exact op_notin_str pins s σ H _ _ v u Q I rx ry ⟨t, z, rfl, rfl, wB w2 hd⟩
  · rcases e with rfl | rfl | rfl
    · obtain ⟨b, ys, rfl, h3, h4⟩ := hb
      exact op_notInD hu pins s σ H _ _ v u Q I rx ry ⟨toP a, toPs l, hK ▸ on_dp h1 (ha.on hd.ex), hK ▸ .lst (SqL.of h3) (onl_dp h2 (h4.up hd.ex)), ok_shaped h1, (oks_shaped h2).1, by rw [any_eqv h1 h2]; exact wB w2 hd⟩
    · obtain ⟨b, ys, rfl, h3, h4⟩ := hb
      exact OP.op_notInT hu pins s σ H _ _ v u Q I rx ry ⟨toP a, toPs l, hK ▸ on_dp h1 (ha.on hd.ex), hK ▸ .tup (SqT.of (hd.ex _ _ h3)) (onl_dp h2 (h4.up hd.ex)), ok_shaped h1, (oks_shaped h2).2, by rw [any_eqv h1 h2]; exact wB w2 hd⟩
    · obtain ⟨b, ys, rfl, h3, h4⟩ := hb
      exact OP.op_notInT hu pins s σ H _ _ v u Q I rx ry ⟨toP a, toPs l, hK ▸ on_dp h1 (ha.on hd.ex), hK ▸ .tup (ex_t ex_nil h3) (onl_dp h2 (h4.up hd.ex)), ok_shaped h1, (oks_shaped h2).2, by rw [any_eqv h1 h2]; exact wB w2 hd⟩
/-- a op1 b op2 c -/
def fChain (g g' : Dv → Dv → Option Rt) (fa fb fc : FE) : FE := fun env S => (fa env S).bindV fun S1 a => (fb env S1).bindV fun S2 b => (g2 S2 a b g).bindV fun S3 k => onB S3 k fun t =>
  if t then (fc env S3).bindV fun S4 c => g2 S4 b c g' else .ok S3 (.val (.d (.bl false)))
variable {Ew : L2.St → XK} {ta tb tc : TE} {fa fb fc : FE}
theorem rD_bind {γ : Type} {g : Dv → Dv → Option Rt} {a b : Vr} {x y : V} {f : Sto → Vr → R γ} {P : Pst γ} {Q' : VK} (hd : Hd Z G α S H) (ox : OnR Z G α a x) (oy : OnR Z G α b y) (w : Wk Z ((g2 S a b g).bindV f) G α H P E)
    (k : ∀ S2 d v H2 G2 α2, Fr G α H G2 α2 H2 → Hd Z G2 α2 S2 H2 → OnR Z G2 α2 d v → Wk Z (f S2 d) G2 α2 H2 P E → Q' v H2) : rD Z g x y H Q' := g2_ok hd ox oy (w.bindV k)
theorem se_chain {g g' : Dv → Dv → Option Rt} (ha : SE Z Ew ta fa) (hb : SE Z Ew tb fb) (hc : SE Z Ew tc fc) : SE Z Ew (tChain (rD Z g) (rD Z g') ta tb tc) (fChain g g' fa fb fc) := fun env σ G α S H Q hd oe w =>
  ha.bind hd oe w fun S2 a x H2 G2 α2 f2 hd2 oe2 ox w2 => hb.bind hd2 oe2 w2 fun S3 b y H3 G3 α3 f3 hd3 oe3 oy w3 =>
    rD_bind hd3 (ox.up f3.g f3.a) oy w3 fun S4 d v H4 G4 α4 f4 hd4 ov w4 => by
      obtain ⟨t, e, w5⟩ := onB_ok w4 ov
      refine ⟨t, e, ?_⟩
      cases t with
      | true => rw [if_pos rfl]; exact hc.bind hd4 (oe3.up f4.g f4.a) w5 fun S5 c z H5 G5 α5 f5 hd5 oe5 oz w6 => g2_ok hd5 ((oy.up f4.g f4.a).up f5.g f5.a) oz w6
      | false => rw [if_neg Bool.false_ne_true]; exact Wk.dat w5 hd4 (or_bl Z G4 α4 false)
variable {a b c : Expr} {pos : Pos}
theorem pf_chain {op op' : CmpOp} {g g' : Dv → Dv → Option Rt} (h : OpR X (compareOp op) (rD Z g)) (h' : OpR X (compareOp op') (rD Z g')) (ha : PF Z Ew X a fa) (hb : PF Z Ew X b fb) (hc : PF Z Ew X c fc)
    (hm : lastMarks [op, op'] [b, c] = false := by with_unfolding_all rfl) : PF Z Ew X (.Compare a [op, op'] [b, c] pos) (fChain g g' fa fb fc) := by
  obtain ⟨ta, h1, h2⟩ := ha.ex
  obtain ⟨tb, h3, h4⟩ := hb.ex
  obtain ⟨tc, h5, h6⟩ := hc.ex
  exact ⟨_, pe_chain h h' h1 h3 h5 hm, se_chain h2 h4 h6⟩
theorem ptf_chain {op op' : CmpOp} {g g' : Dv → Dv → Option Rt} (h : OpR X (compareOp op) (rD Z g)) (h' : OpR X (compareOp op') (rD Z g')) (ha : PF Z Ew X a fa) (hb : PF Z Ew X b fb) (hc : PF Z Ew X c fc)
    (hm : lastMarks [op, op'] [b, c] = false := by with_unfolding_all rfl) : PTF Z Ew X (.Compare a [op, op'] [b, c] pos) (kVal (fChain g g' fa fb fc)) := by
  obtain ⟨ta, h1, h2⟩ := ha.ex
  obtain ⟨tb, h3, h4⟩ := hb.ex
  obtain ⟨tc, h5, h6⟩ := hc.ex
  exact ⟨_, pt_chain h h' h1 h3 h5 hm, st_val (se_chain h2 h4 h6)⟩
end
end DN

/-! DnD: subscripts, slices, built-in functions, methods of texts and lists. -/
namespace DN
open PySem PySem.Spec PyProof.Rows L2 Evl
def vD (d : Dv) : Option Rt := some (.val (.d d))
/-! ### dicts -/
def kHit (t : Bool) (a k : Dv) : Bool := match t with
  | false => decide (key? a = key? k)
  | true => decide (tkey? a = tkey? k)
def dLookG (g : Dv → Bool) : List Dv → List Dv → Option Dv
  | a :: ks, v :: vs => if g a then some v else dLookG g ks vs
  | _, _ => none
def dLook (t : Bool) (k : Dv) (ks vs : List Dv) : Option Dv := dLookG (fun a => kHit t a k) ks vs
def isKey (t : Bool) (k : Dv) : Bool := match t with
  | false => (key? k).isSome
  | true => (tkey? k).isSome
def gIx : Dv → Dv → Option Rt
  | .lst l, .int i => match atI l i with
    | some d => vD d
    | none => none
  | .tup l, .int i => match atI l i with
    | some d => vD d
    | none => none
  | .ktp l, .int i => match atI l i with
    | some d => vD d
    | none => none
  | .scr l, .int i => match atI l i with
    | some d => vI d
    | none => none
  | .str s, .int i => if s.length ≤ 100000 then (match atI s.cps.toList i with
    | some c => vS ⟨#[c]⟩
    | none => none) else none
  | .dic t ks vs, k => onlyIf (isKey t k) (match dLook t k ks vs with
    | some d => vD d
    | none => none)
  | _, _ => none
section
variable {Z : Zt} {X : Cx} {G H : Hp} {α : List Addr} {S : Sto} {Q : VK} {E : XK}
theorem wD {d : Dv} {v : V} (w : Wk Z (R.of S (vD d)) G α H (pRt Z Q) E) (hd : Hd Z G α S H) (o : On Z G d v) : Q v H := Wk.dat (v := .d d) w hd o
theorem onl_at {l : List Dv} {xs : List V} {i : Int} {d : Dv} (h : OnL Z G l xs) (e : atI l i = some d) : ∃ v, atI xs i = some v ∧ On Z G d v := by
  unfold atI at e ⊢
  rw [h.len]
  cases q : ixN l.length i with
  | none => rw [q] at e; cases e
  | some j => rw [q] at e; exact h.get e
theorem key_on {k : Dv} {x : V} {κ : Key} (h : OnH Z G H k x) (e : key? k = some κ) : x = kV κ := by
  cases k with
  | int i => cases e; cases h; rfl
  | str i => cases e; cases h; rfl
  | _ => cases e
theorem keys_on : ∀ {l : List Dv} {xs : List V} {kk : List Key}, OnL Z G l xs → l.mapM key? = some kk → xs = kk.map kV
  | [], xs, kk, h, e => by
    simp at e
    subst e
    rw [OnL.nil.mp h]
    rfl
  | d :: l, xs, kk, h, e => by
    obtain ⟨y, ys, rfl, h2, h3⟩ := OnL.cons.mp h
    rw [List.mapM_cons] at e
    cases q : key? d with
    | none => rw [q] at e; cases e
    | some a =>
      rw [q] at e
      cases q2 : l.mapM key? with
      | none => rw [q2] at e; cases e
      | some b =>
        rw [q2] at e
        cases e
        rw [keys_on h3 q2]
        have : y = kV a := key_on (H := G) (On.h (Ex.refl G) h2) q
        rw [this]
        rfl
theorem look_on {κ : Type} [DecidableEq κ] {f : Dv → Option κ} {k' : κ} {g : Dv → Bool} (hg : ∀ a b, f a = some b → g a = decide (b = k')) :
    ∀ {ks vs : List Dv} {kk : List κ} {ws : List V}, ks.map f = kk.map some → OnL Z G vs ws → ks.length = ws.length →
    (∀ d, dLookG g ks vs = some d → ∃ v, valV (kk.zip ws) k' = some v ∧ On Z G d v) ∧ (dLookG g ks vs = none → valV (kk.zip ws) k' = none)
  | [], vs, kk, ws, h1, h2, h3 => by
    have : ws = [] := List.length_eq_zero_iff.mp h3.symm
    subst this
    have e : kk = [] := by cases kk with
      | nil => rfl
      | cons a b => simp at h1
    subst e
    refine ⟨fun d h => ?_, fun _ => rfl⟩
    unfold dLookG at h
    cases h
  | a :: ks, vs, kk, ws, h1, h2, h3 => by
    cases kk with
    | nil => simp at h1
    | cons b kk =>
      simp only [List.map_cons, List.cons.injEq] at h1
      cases ws with
      | nil => simp at h3
      | cons w ws =>
        cases vs with
        | nil => have := OnL.nil.mp h2; cases this
        | cons v vs =>
          obtain ⟨y, ys, e, h4, h5⟩ := OnL.cons.mp h2
          cases e
          have ih := look_on hg (ks := ks) h1.2 h5 (by simpa using h3)
          have hb := hg a b h1.1
          show (∀ d, (if g a then some v else dLookG g ks vs) = some d → _) ∧ ((if g a then some v else dLookG g ks vs) = none → _)
          rw [hb, List.zip_cons_cons]
          by_cases q : b = k'
          · rw [decide_eq_true q, if_pos rfl]
            refine ⟨fun d e => ?_, fun e => ?_⟩
            · cases e
              exact ⟨w, valV_pos q, h4⟩
            · cases e
          · rw [decide_eq_false q, if_neg Bool.false_ne_true]
            rw [show valV ((b, w) :: kk.zip ws) k' = valV (kk.zip ws) k' from valV_neg q]
            exact ih
/-- what a dict tells of a key -/
theorem dic_get {t : Bool} {ks vs : List Dv} {k : Dv} {x y : V} (eG : Ex G H) (hx : OnH Z G H (.dic t ks vs) x) (hy : OnH Z G H k y) (hk : isKey t k = true) :
    ∃ a, x = .ref a ∧ (∀ d, dLook t k ks vs = some d → ∃ v, DGet H a y (some v) ∧ On Z G d v) ∧ (dLook t k ks vs = none → DGet H a y none) := by
  obtain ⟨a, ws, rfl, h1, h2, h3⟩ := hx
  refine ⟨a, rfl, ?_⟩
  cases t with
  | false =>
    obtain ⟨kk, e1, e2⟩ := h1
    cases q : key? k with
    | none => simp [isKey, q] at hk
    | some κ =>
      have ey := key_on hy q
      subst ey
      obtain ⟨p1, p2⟩ := look_on (f := key?) (k' := κ) (g := fun a => kHit false a k) (fun a b e => by
        show decide (key? a = key? k) = decide (b = κ)
        rw [e, q, decide_eq_decide, Option.some.injEq]) e1 h3 h2
      refine ⟨fun d e => ?_, fun e => ?_⟩
      · obtain ⟨v, e3, o⟩ := p1 d e
        exact ⟨v, e3 ▸ DGet.k e2, o⟩
      · exact p2 e ▸ DGet.k e2
  | true =>
    obtain ⟨kk, e1, e2⟩ := h1
    cases k with
    | tup l =>
      cases q : l.mapM key? with
      | none => simp [isKey, tkey?, q] at hk
      | some κ =>
        obtain ⟨b, xs, rfl, h4, h5⟩ := hy
        have ex := keys_on h5 q
        subst ex
        obtain ⟨p1, p2⟩ := look_on (f := tkey?) (k' := κ) (g := fun a => kHit true a (.tup l)) (fun a b e => by
          show decide (tkey? a = tkey? (.tup l)) = decide (b = κ)
          rw [e, show tkey? (.tup l) = some κ from q, decide_eq_decide, Option.some.injEq]) e1 h3 h2
        refine ⟨fun d e => ?_, fun e => ?_⟩
        · obtain ⟨v, e3, o⟩ := p1 d e
          exact ⟨v, e3 ▸ DGet.t e2 (eG _ _ h4), o⟩
        · exact p2 e ▸ DGet.t e2 (eG _ _ h4)
    | _ => simp [isKey, tkey?] at hk
theorem ix_dict (hu : X.A.units + 1 < cLine) : IxR X (fun x y H Q => ∃ a v, x = .ref a ∧ DGet H a y (some v) ∧ Q v H) := by
  intro value slice pins s σ H x y v u Q I rx ry h hs
  obtain ⟨a, r, rfl, g, q⟩ := h
  cases rx
  exact tail_any (dict_typeIs I g) PySem.F.slot_dict_getitem.lookup (d_getItem hu I g ry fun w' s3 I3 rw' => ⟨r, H, I3, rw', q⟩) hs
theorem ix_d (hu : X.A.units + 1 < cLine) (hK : X.K = Z.K) : IxR X (rD Z gIx) := by
  intro value slice pins s σ H x y v u Q I rx ry h hs
  obtain ⟨G, α, S, a, b, hd, ha, hb, w⟩ := h
  cases a with
  | lst l =>
    cases b with
    | int i =>
      cases hb
      obtain ⟨p, xs, rfl, h1, h2⟩ := ha
      have w' : Wk Z (R.of S (match atI l i with | some d => vD d | none => none)) G α H (pRt Z Q) E0 := w
      cases e : atI l i with
      | none => simp only [e] at w'; exact w'.elim
      | some d =>
        simp only [e] at w'
        obtain ⟨r, e2, o⟩ := onl_at h2 e
        exact ix_list value slice pins s σ H _ _ v u Q I rx ry ⟨p, xs, i, r, rfl, rfl, hK ▸ SqL.of h1, e2, wD w' hd o⟩ hs
    | _ => exact w.elim
  | tup l =>
    cases b with
    | int i =>
      cases hb
      obtain ⟨p, xs, rfl, h1, h2⟩ := ha
      have w' : Wk Z (R.of S (match atI l i with | some d => vD d | none => none)) G α H (pRt Z Q) E0 := w
      cases e : atI l i with
      | none => simp only [e] at w'; exact w'.elim
      | some d =>
        simp only [e] at w'
        obtain ⟨r, e2, o⟩ := onl_at h2 e
        exact ix_tup value slice pins s σ H _ _ v u Q I rx ry ⟨p, xs, i, r, rfl, rfl, hK ▸ SqT.of (hd.ex _ _ h1), e2, wD w' hd o⟩ hs
    | _ => exact w.elim
  | ktp l =>
    cases b with
    | int i =>
      cases hb
      obtain ⟨p, xs, rfl, h1, h2⟩ := ha
      have w' : Wk Z (R.of S (match atI l i with | some d => vD d | none => none)) G α H (pRt Z Q) E0 := w
      cases e : atI l i with
      | none => simp only [e] at w'; exact w'.elim
      | some d =>
        simp only [e] at w'
        obtain ⟨r, e2, o⟩ := onl_at h2 e
        exact ix_tup value slice pins s σ H _ _ v u Q I rx ry ⟨p, xs, i, r, rfl, rfl, hK ▸ ex_t ex_nil h1, e2, wD w' hd o⟩ hs
    | _ => exact w.elim
  | scr l =>
    cases b with
    | int i =>
      cases hb
      obtain ⟨p, rfl, h1⟩ := ha
      have w' : Wk Z (R.of S (match atI l i with | some d => vI d | none => none)) G α H (pRt Z Q) E0 := w
      cases e : atI l i with
      | none => simp only [e] at w'; exact w'.elim
      | some d =>
        simp only [e] at w'
        refine ix_list value slice pins s σ H _ _ v u Q I rx ry ⟨p, l.map V.int, i, .int d, rfl, rfl, hK ▸ ex_l hd.ex h1, ?_, wI w' hd⟩ hs
        unfold atI at e ⊢
        rw [List.length_map]
        cases q : ixN l.length i with
        | none => rw [q] at e; cases e
        | some j =>
          rw [q] at e
          show (l.map V.int)[j]? = _
          rw [List.getElem?_map, show l[j]? = some d from e]
          rfl
    | _ => exact w.elim
  | str t =>
    cases b with
    | int i =>
      cases hb; cases ha
      have w' : Wk Z (R.of S (if t.length ≤ 100000 then (match atI t.cps.toList i with | some c => vS ⟨#[c]⟩ | none => none) else none)) G α H (pRt Z Q) E0 := w
      by_cases hl : t.length ≤ 100000
      · rw [if_pos hl] at w'
        cases e : atI t.cps.toList i with
        | none => simp only [e] at w'; exact w'.elim
        | some c =>
          simp only [e] at w'
          exact ix_str value slice pins s σ H _ _ v u Q I rx ry ⟨t, i, c, rfl, rfl, sz_of hl, e, wS w' hd⟩ hs
      · rw [if_neg hl] at w'
        exact w'.elim
    | _ => exact w.elim
  | dic t ks vs =>
    have w' : Wk Z (R.of S (onlyIf (isKey t b) (match dLook t b ks vs with | some d => vD d | none => none))) G α H (pRt Z Q) E0 := by cases b <;> exact w
    obtain ⟨hk, w'⟩ := onlyIf_ok w'
    obtain ⟨p, rfl, p1, p2⟩ := dic_get hd.ex ha hb hk
    cases e : dLook t b ks vs with
    | none => simp only [e] at w'; exact w'.elim
    | some d =>
      simp only [e] at w'
      obtain ⟨r, g, o⟩ := p1 d e
      exact ix_dict hu value slice pins s σ H _ _ v u Q I rx ry ⟨p, r, rfl, g, wD w' hd o⟩ hs
  | _ => cases b <;> exact w.elim
variable {Ew : L2.St → XK} {a b c : Expr} {fa fb fc : FE} {pos : Pos}
theorem pf_ix {g : Dv → Dv → Option Rt} (h : IxR X (rD Z g)) (ha : PF Z Ew X a fa) (hb : PF Z Ew X b fb) (hs : PlainIx b := by exact fun _ _ => rfl) : PF Z Ew X (.Subscript a b pos) (fOp g fa fb) := by
  obtain ⟨ta, h1, h2⟩ := ha.ex
  obtain ⟨tb, h3, h4⟩ := hb.ex
  exact ⟨_, pe_ix h h1 h3 hs, se_op h2 h4⟩
/-! ### slices -/
abbrev FO := Env → Sto → R (Option Int)
def fNoPart : FO := fun _ S => .ok S none
def fPart (fa : FE) : FO := fun env S => (fa env S).bindV fun S1 a => match a with
  | .d (.int i) => .ok S1 (some i)
  | _ => .no
def pO (Q : Option Int → Hp → Prop) : Pst (Option Int) := ⟨fun b _ _ _ H2 => Q b H2, fun _ q => q⟩
def SO (Z : Zt) (Ew : L2.St → XK) (t : TO) (f : FO) : Prop := ∀ env σ G α S H Q, Hd Z G α S H → OnE Z G α env σ → Wk Z (f env S) G α H (pO Q) (Ew σ) → t σ H Q
structure POF (Z : Zt) (Ew : L2.St → XK) (X : Cx) (e : Option Expr) (f : FO) : Prop where
  ex : ∃ te, PO X e te ∧ SO Z Ew te f
theorem pof_none : POF Z Ew X none fNoPart := ⟨_, po_none, fun env σ G α S H Q hd oe w => w.here hd⟩
theorem pof_some (h : PF Z Ew X a fa) : POF Z Ew X (some a) (fPart fa) := by
  obtain ⟨ta, h1, h2⟩ := h.ex
  refine ⟨_, po_some h1, fun env σ G α S H Q hd oe w => h2.bind hd oe w fun S2 d x H2 G2 α2 f2 hd2 oe2 ox w2 => ?_⟩
  match d, w2, ox with
  | .d (.int i), w2, ox =>
    have e : On Z G2 (.int i) x := ox
    unfold On at e
    exact ⟨i, e, w2.here hd2⟩
def cutL {β : Type} (l : List β) (lo hi : Option Int) : List β := (l.drop (HT.sIx l.length 0 lo)).take (HT.sIx l.length l.length hi - HT.sIx l.length 0 lo)
def gSl (lo hi : Option Int) : Dv → Option Rt
  | .lst l => nL (cutL l lo hi)
  | .tup l => vT (cutL l lo hi)
  | .str s => if s.length ≤ 100000 then vS (cutS s lo hi) else none
  | _ => none
def fSl (fa : FE) (lo hi : FO) : FE := fun env S => (fa env S).bindV fun S1 a => (lo env S1).bind fun S2 l => (hi env S2).bind fun S3 h => g1 S3 a (gSl l h)
theorem onl_cut {l : List Dv} {xs : List V} (h : OnL Z G l xs) (lo hi : Option Int) : OnL Z G (cutL l lo hi) (cutV xs lo hi) := by
  unfold cutL cutV
  rw [h.len]
  exact (h.drop _).take _
theorem cut_all {l : List Dv} {lo hi : Option Int} (h : HT.sIx l.length 0 lo = 0 ∧ HT.sIx l.length l.length hi = l.length) : cutL l lo hi = l := by
  unfold cutL
  rw [h.1, h.2, List.drop_zero, Nat.sub_zero, List.take_length]
def rSl (Z : Zt) : V → Option Int → Option Int → Hp → VK → Prop := fun x lo hi H Q => rU Z (gSl lo hi) x H Q
theorem sl_d (hK : X.K = Z.K) : L2.SlR X (rSl Z) := by
  intro pins s σ H x v vl vu lo hi sl Q I rx hs pl pu h
  obtain ⟨G, α, S, a, hd, ha, w⟩ := h
  cases a with
  | lst l =>
    obtain ⟨p, xs, rfl, h1, h2⟩ := ha
    exact sl_list pins s σ H _ v vl vu lo hi sl Q I rx hs pl pu ⟨p, xs, rfl, hK ▸ SqL.of h1, fun q hq => wL w hd (onl_cut h2 lo hi) hq⟩
  | tup l =>
    obtain ⟨p, xs, rfl, h1, h2⟩ := ha
    refine sl_tupA pins s σ H _ v vl vu lo hi sl Q I rx hs pl pu ⟨p, xs, rfl, SqT.of (hd.ex _ _ h1), fun e => ?_, fun _ q hq => wT w hd (onl_cut h2 lo hi) hq⟩
    rw [h2.len] at e
    have w' : Wk Z (R.of S (vT (cutL l lo hi))) G α H (pRt Z Q) E0 := w
    rw [cut_all e] at w'
    exact wkT w' hd h1 h2
  | str t =>
    cases ha
    have w' : Wk Z (R.of S (if t.length ≤ 100000 then vS (cutS t lo hi) else none)) G α H (pRt Z Q) E0 := w
    by_cases hl : t.length ≤ 100000
    · rw [if_pos hl] at w'
      exact sl_str pins s σ H _ v vl vu lo hi sl Q I rx hs pl pu ⟨t, rfl, sz_of hl, wS w' hd⟩
    · rw [if_neg hl] at w'
      exact w'.elim
  | _ => exact w.elim
theorem pf_slice {lo hi : Option Expr} {fl fh : FO} {p2 : Pos} (hK : X.K = Z.K) (ha : PF Z Ew X a fa) (hl : POF Z Ew X lo fl) (hh : POF Z Ew X hi fh) : PF Z Ew X (.Subscript a (.Slice lo hi none p2) pos) (fSl fa fl fh) := by
  obtain ⟨ta, h1, h2⟩ := ha.ex
  obtain ⟨tl, h3, h4⟩ := hl.ex
  obtain ⟨th, h5, h6⟩ := hh.ex
  refine ⟨_, pe_slice (sl_d hK) h1 h3 h5, fun env σ G α S H Q hd oe w => h2.bind hd oe w fun S2 d x H2 G2 α2 f2 hd2 oe2 ox w2 => ?_⟩
  refine h4 env σ G2 α2 S2 H2 _ hd2 oe2 (w2.bind (P' := pO _) fun S3 l H3 G3 α3 f3 hd3 w3 => ?_)
  refine h6 env σ G3 α3 S3 H3 _ hd3 (oe2.up f3.g f3.a) (w3.bind (P' := pO _) fun S4 u H4 G4 α4 f4 hd4 w4 => ?_)
  exact g1_ok hd4 ((ox.up f3.g f3.a).up f4.g f4.a) w4
/-- xs[::-1] -/
def gRev : Dv → Option Rt
  | .lst l => nL l.reverse
  | _ => none
theorem pf_rev {k : Nat} {p1 p2 p3 : Pos} (hK : X.K = Z.K) (ha : PF Z Ew X a fa) : PF Z Ew X (.Subscript a (.Slice none none (some (.UnaryOp .USub (.Constant (.int 1) k p1) p2)) p3) pos) (fUn gRev fa) := by
  obtain ⟨ta, h1, h2⟩ := ha.ex
  refine ⟨_, pe_revL h1, fun env σ G α S H Q hd oe w => h2.bind hd oe w fun S2 d x H2 G2 α2 f2 hd2 oe2 ox w2 => ?_⟩
  obtain ⟨G3, α3, S3, u, hd3, hu, w3⟩ := g1_ok hd2 ox w2
  cases u with
  | lst l =>
    obtain ⟨p, xs, rfl, h3, h4⟩ := hu
    exact ⟨p, xs, rfl, hK ▸ SqL.of h3, fun q hq => wL w3 hd3 h4.rev hq⟩
  | _ => exact w3.elim
end
end DN

/-! DnE: built-in functions, methods of texts, lists and dicts. -/
namespace DN
open PySem PySem.Spec PyProof.Rows L2 Evl
def OnHA (Z : Zt) (G H : Hp) : List Dv → List V → Prop
  | [], xs => xs = []
  | d :: l, xs => ∃ y ys, xs = y :: ys ∧ OnH Z G H d y ∧ OnHA Z G H l ys
def snaps (S : Sto) : List Vr → Option (List Dv)
  | [] => some []
  | r :: l => match snap S r, snaps S l with
    | some d, some m => some (d :: m)
    | _, _ => none
section
variable {Z : Zt} {X : Cx} {G H : Hp} {α : List Addr} {S : Sto} {Q : VK} {E : XK}
theorem snaps_on : ∀ {l : List Vr} {vs : List V} {ds : List Dv}, Hd Z G α S H → OnA Z G α l vs → snaps S l = some ds → OnHA Z G H ds vs
  | [], vs, ds, hd, h, e => by cases e; exact h
  | r :: l, vs, ds, hd, h, e => by
    obtain ⟨y, ys, rfl, h2, h3⟩ := h
    unfold snaps at e
    cases e1 : snap S r with
    | none => rw [e1] at e; cases e
    | some d =>
      cases e2 : snaps S l with
      | none => rw [e1, e2] at e; cases e
      | some m =>
        rw [e1, e2] at e
        cases e
        exact ⟨y, ys, rfl, snap_on hd h2 e1, snaps_on hd h3 e2⟩
theorem OnHA.one {d : Dv} {xs : List V} (h : OnHA Z G H [d] xs) : ∃ y, xs = [y] ∧ OnH Z G H d y := by
  obtain ⟨y, ys, rfl, h2, h3⟩ := h
  cases (show ys = [] from h3)
  exact ⟨y, rfl, h2⟩
theorem OnHA.two {d e : Dv} {xs : List V} (h : OnHA Z G H [d, e] xs) : ∃ y z, xs = [y, z] ∧ OnH Z G H d y ∧ OnH Z G H e z := by
  obtain ⟨y, ys, rfl, h2, h3⟩ := h
  obtain ⟨z, rfl, h4⟩ := h3.one
  exact ⟨y, z, rfl, h2, h4⟩
def gA (S : Sto) (l : List Vr) (g : List Dv → Option Rt) : R Rt := match snaps S l with
  | some ds => R.of S (g ds)
  | none => .no
def fCall (g : List Dv → Option Rt) (fa : FA) : FE := fun env S => (fa env S).bind fun S1 l => gA S1 l g
def rA (Z : Zt) (g : List Dv → Option Rt) : List V → Hp → VK → Prop := fun xs H Q => ∃ G α S l, Hd Z G α S H ∧ OnHA Z G H l xs ∧ Wk Z (R.of S (g l)) G α H (pRt Z Q) E0
theorem gA_ok {l : List Vr} {vs : List V} {g : List Dv → Option Rt} (hd : Hd Z G α S H) (ol : OnA Z G α l vs) (w : Wk Z (gA S l g) G α H (pRt Z Q) E) : rA Z g vs H Q := by
  unfold gA at w
  cases e : snaps S l with
  | none => rw [e] at w; exact w.elim
  | some ds => rw [e] at w; exact ⟨G, α, S, ds, hd, snaps_on hd ol e, w.any⟩
variable {Ew : L2.St → XK} {ta : TA} {fa : FA}
theorem se_call {g : List Dv → Option Rt} (ha : SA Z Ew ta fa) : SE Z Ew (tCB (rA Z g) ta) (fCall g fa) := fun env σ G α S H Q hd oe w =>
  ha.bind hd oe w fun S2 l vs H2 G2 α2 f2 hd2 oe2 ol w2 => gA_ok hd2 ol w2
variable {x : Str} {p pos : Pos} {e : Expr} {es : List Expr}
theorem pf_callB {id : String} {g : List Dv → Option Rt} (hc : CallR X (.builtin id) (rA Z g)) (hg : Gl X x) (hm : X.mg x = none) (hv : bootBuiltins x = some (.builtin id)) (ha : PAF Z Ew X (e :: es) fa) (hn : x ≠ "__name__" := by decide) (hdb : (x == ("__debug__" : Str)) = false := by decide)
    (he : starEach (e :: es) X.env = (false, eval e X.env) :: starEach es X.env := by rfl) (hpl : (backTo pos (starEach es X.env)).any (·.1) = false := by rfl) : PF Z Ew X (.Call (.Name x p) (e :: es) [] pos) (fCall g fa) := by
  obtain ⟨ta, h1, h2⟩ := ha.ex
  exact ⟨_, pe_callB hc hg hm hv h1 hn hdb he hpl, se_call h2⟩
theorem pf_callT {T : String} {g : List Dv → Option Rt} (hc : CallR X (.type T) (rA Z g)) (hg : Gl X x) (hm : X.mg x = none) (hv : bootBuiltins x = some (.type T)) (ha : PAF Z Ew X (e :: es) fa) (hn : x ≠ "__name__" := by decide) (hdb : (x == ("__debug__" : Str)) = false := by decide)
    (he : starEach (e :: es) X.env = (false, eval e X.env) :: starEach es X.env := by rfl) (hpl : (backTo pos (starEach es X.env)).any (·.1) = false := by rfl) : PF Z Ew X (.Call (.Name x p) (e :: es) [] pos) (fCall g fa) := by
  obtain ⟨ta, h1, h2⟩ := ha.ex
  exact ⟨_, pe_callTy hc hg hm hv h1 hn hdb he hpl, se_call h2⟩
end
/-! ### the functions -/
def arg1 (f : Dv → Option Rt) : List Dv → Option Rt
  | [x] => f x
  | _ => none
def arg12 (f : Dv → Option Rt) (g : Dv → Dv → Option Rt) : List Dv → Option Rt
  | [x] => f x
  | [x, y] => g x y
  | _ => none
theorem arg1_ok {Z : Zt} {G H : Hp} {α : List Addr} {S : Sto} {P : Pst Rt} {E : XK} {f : Dv → Option Rt} {l : List Dv} {xs : List V} (h : OnHA Z G H l xs) (w : Wk Z (R.of S (arg1 f l)) G α H P E) : ∃ x y, xs = [y] ∧ OnH Z G H x y ∧ Wk Z (R.of S (f x)) G α H P E := by
  cases l with
  | nil => exact w.elim
  | cons a r =>
    cases r with
    | nil =>
      obtain ⟨y, e, o⟩ := h.one
      exact ⟨a, y, e, o, w⟩
    | cons b r => exact w.elim
theorem arg12_ok {Z : Zt} {G H : Hp} {α : List Addr} {S : Sto} {P : Pst Rt} {E : XK} {f : Dv → Option Rt} {g : Dv → Dv → Option Rt} {l : List Dv} {xs : List V} (h : OnHA Z G H l xs) (w : Wk Z (R.of S (arg12 f g l)) G α H P E) :
    (∃ x y, xs = [y] ∧ OnH Z G H x y ∧ Wk Z (R.of S (f x)) G α H P E) ∨ ∃ x x2 y y2, xs = [y, y2] ∧ OnH Z G H x y ∧ OnH Z G H x2 y2 ∧ Wk Z (R.of S (g x x2)) G α H P E := by
  cases l with
  | nil => exact w.elim
  | cons a r =>
    cases r with
    | nil =>
      obtain ⟨y, e, o⟩ := h.one
      exact .inl ⟨a, y, e, o, w⟩
    | cons b r =>
      cases r with
      | nil =>
        obtain ⟨y, z, e, o, o2⟩ := h.two
        exact .inr ⟨a, b, y, z, e, o, o2, w⟩
      | cons c r => exact w.elim
def gLen1 : Dv → Option Rt
  | .lst l => vI l.length
  | .tup l => vI l.length
  | .ktp l => vI l.length
  | .scr l => vI l.length
  | .str s => if s.length ≤ 100000 then vI s.length else none
  | .dic false ks _ => vI ks.length
  | _ => none
def gLen : List Dv → Option Rt := arg1 gLen1
def ints? : List Dv → Option (List Int)
  | [] => some []
  | .int i :: l => match ints? l with
    | some m => some (i :: m)
    | none => none
  | _ => none
def bools? : List Dv → Option (List Bool)
  | [] => some []
  | .bl i :: l => match bools? l with
    | some m => some (i :: m)
    | none => none
  | _ => none
def strs? : List Dv → Option (List Str)
  | [] => some []
  | .str i :: l => match strs? l with
    | some m => some (i :: m)
    | none => none
  | _ => none
def maxI : List Int → Option Int
  | [] => none
  | i :: l => match maxI l with
    | some m => some (if m ≤ i then i else m)
    | none => some i
def minI : List Int → Option Int
  | [] => none
  | i :: l => match minI l with
    | some m => some (if i ≤ m then i else m)
    | none => some i
def onI (o : Option (List Int)) (f : List Int → Option Rt) : Option Rt := match o with
  | some l => f l
  | none => none
def gMax1 : Dv → Option Rt
  | .lst l => onI (ints? l) fun ns => match maxI ns with
    | some m => vI m
    | none => none
  | _ => none
def gMax2 : Dv → Dv → Option Rt
  | .int i, .int j => vI (if j > i then j else i)
  | _, _ => none
def gMax : List Dv → Option Rt := arg12 gMax1 gMax2
def gMin1 : Dv → Option Rt
  | .lst l => onI (ints? l) fun ns => match minI ns with
    | some m => vI m
    | none => none
  | _ => none
def gMin2 : Dv → Dv → Option Rt
  | .int i, .int j => vI (if j < i then j else i)
  | _, _ => none
def gMin : List Dv → Option Rt := arg12 gMin1 gMin2
def gSum1 : Dv → Option Rt
  | .lst l => onI (ints? l) fun ns => vI ns.sum
  | _ => none
def gSum : List Dv → Option Rt := arg1 gSum1
def gAbs1 : Dv → Option Rt
  | .int i => vI (if i < 0 then -i else i)
  | _ => none
def gAbs : List Dv → Option Rt := arg1 gAbs1
def gInt1 : Dv → Option Rt
  | .int i => vI i
  | .bl b => vI (if b then 1 else 0)
  | .str s => if s.length ≤ 640 then (match PySem.intText? s with
    | some n => vI n
    | none => none) else none
  | _ => none
def gInt : List Dv → Option Rt := arg1 gInt1
def gAll1 : Dv → Option Rt
  | .lst l => match bools? l with
    | some bs => vB (bs.all id)
    | none => none
  | _ => none
def gAll : List Dv → Option Rt := arg1 gAll1
def gAny1 : Dv → Option Rt
  | .lst l => match bools? l with
    | some bs => vB (bs.any id)
    | none => none
  | _ => none
def gAny : List Dv → Option Rt := arg1 gAny1
def gList1 : Dv → Option Rt
  | .lst l => nL l
  | .tup l => nL l
  | .ktp l => nL l
  | .str s => if s.length ≤ 100000 then nL (s.cps.toList.map fun c => .str ⟨#[c]⟩) else none
  | _ => none
def gList : List Dv → Option Rt := arg1 gList1
def gTuple1 : Dv → Option Rt
  | .lst l => vT l
  | .tup l => vT l
  | _ => none
def gTuple : List Dv → Option Rt := arg1 gTuple1
def insI (i : Int) : List Int → List Int
  | [] => [i]
  | j :: l => if i ≤ j then i :: j :: l else j :: insI i l
def sortI : List Int → List Int
  | [] => []
  | i :: l => insI i (sortI l)
def gSorted1 : Dv → Option Rt
  | .lst l => onI (ints? l) fun ns => nL ((sortI ns).map .int)
  | _ => none
def gSorted : List Dv → Option Rt := arg1 gSorted1
def gStr1 : Dv → Option Rt
  | .int i => if i.natAbs.log2 < 1920 then vS (toString i) else none
  | .str s => vS s
  | _ => none
def gStr : List Dv → Option Rt := arg1 gStr1
section
variable {Z : Zt} {X : Cx} {G H : Hp} {α : List Addr} {S : Sto} {Q : VK} {E : XK}
theorem ints_on : ∀ {l : List Dv} {ns : List Int} {xs : List V}, ints? l = some ns → OnL Z G l xs → xs = ns.map V.int
  | [], ns, xs, e, h => by cases e; rw [OnL.nil.mp h]; rfl
  | .int i :: l, ns, xs, e, h => by
    obtain ⟨y, ys, rfl, h2, h3⟩ := OnL.cons.mp h
    unfold ints? at e
    cases q : ints? l with
    | none => rw [q] at e; cases e
    | some m =>
      rw [q] at e
      cases e
      unfold On at h2
      rw [h2, ints_on q h3]
      rfl
theorem bools_on : ∀ {l : List Dv} {ns : List Bool} {xs : List V}, bools? l = some ns → OnL Z G l xs → xs = ns.map V.bl
  | [], ns, xs, e, h => by cases e; rw [OnL.nil.mp h]; rfl
  | .bl i :: l, ns, xs, e, h => by
    obtain ⟨y, ys, rfl, h2, h3⟩ := OnL.cons.mp h
    unfold bools? at e
    cases q : bools? l with
    | none => rw [q] at e; cases e
    | some m =>
      rw [q] at e
      cases e
      unfold On at h2
      rw [h2, bools_on q h3]
      rfl
theorem strs_on : ∀ {l : List Dv} {ns : List Str} {xs : List V}, strs? l = some ns → OnL Z G l xs → xs = ns.map V.str
  | [], ns, xs, e, h => by cases e; rw [OnL.nil.mp h]; rfl
  | .str i :: l, ns, xs, e, h => by
    obtain ⟨y, ys, rfl, h2, h3⟩ := OnL.cons.mp h
    unfold strs? at e
    cases q : strs? l with
    | none => rw [q] at e; cases e
    | some m =>
      rw [q] at e
      cases e
      unfold On at h2
      rw [h2, strs_on q h3]
      rfl
theorem on_ints : ∀ (ns : List Int), OnL Z G (ns.map .int) (ns.map V.int)
  | [] => OnL.nil'
  | i :: l => OnL.cons' on_int (on_ints l)
theorem on_strs : ∀ (ns : List Str), OnL Z G (ns.map .str) (ns.map V.str)
  | [] => OnL.nil'
  | i :: l => OnL.cons' on_str (on_strs l)
theorem maxI_ok : ∀ {l : List Int} {m : Int}, maxI l = some m → m ∈ l ∧ ∀ y ∈ l, y ≤ m
  | [], m, e => by cases e
  | i :: l, m, e => by
    unfold maxI at e
    cases q : maxI l with
    | none =>
      rw [q] at e
      cases e
      have : l = [] := by
        cases l with
        | nil => rfl
        | cons a b => unfold maxI at q; cases r : maxI b <;> simp [r] at q
      subst this
      exact ⟨by simp, fun y hy => by simp at hy; omega⟩
    | some k =>
      rw [q] at e
      obtain ⟨h1, h2⟩ := maxI_ok q
      cases e
      by_cases c : k ≤ i
      · rw [if_pos c]
        exact ⟨by simp, fun y hy => by
          rcases List.mem_cons.mp hy with rfl | hy
          · omega
          · have := h2 y hy; omega⟩
      · rw [if_neg c]
        exact ⟨List.mem_cons_of_mem _ h1, fun y hy => by
          rcases List.mem_cons.mp hy with rfl | hy
          · omega
          · exact h2 y hy⟩
theorem minI_ok : ∀ {l : List Int} {m : Int}, minI l = some m → m ∈ l ∧ ∀ y ∈ l, m ≤ y
  | [], m, e => by cases e
  | i :: l, m, e => by
    unfold minI at e
    cases q : minI l with
    | none =>
      rw [q] at e
      cases e
      have : l = [] := by
        cases l with
        | nil => rfl
        | cons a b => unfold minI at q; cases r : minI b <;> simp [r] at q
      subst this
      exact ⟨by simp, fun y hy => by simp at hy; omega⟩
    | some k =>
      rw [q] at e
      obtain ⟨h1, h2⟩ := minI_ok q
      cases e
      by_cases c : i ≤ k
      · rw [if_pos c]
        exact ⟨by simp, fun y hy => by
          rcases List.mem_cons.mp hy with rfl | hy
          · omega
          · have := h2 y hy; omega⟩
      · rw [if_neg c]
        exact ⟨List.mem_cons_of_mem _ h1, fun y hy => by
          rcases List.mem_cons.mp hy with rfl | hy
          · omega
          · exact h2 y hy⟩
theorem insI_perm (i : Int) : ∀ l : List Int, (insI i l).Perm (i :: l)
  | [] => .refl _
  | j :: l => by
    unfold insI
    split
    · exact .refl _
    · exact ((insI_perm i l).cons j).trans (.swap i j l)
theorem sortI_perm : ∀ l : List Int, (sortI l).Perm l
  | [] => .refl _
  | i :: l => (insI_perm i _).trans ((sortI_perm l).cons i)
theorem insI_pw {i : Int} : ∀ {l : List Int}, l.Pairwise (· ≤ ·) → (insI i l).Pairwise (· ≤ ·)
  | [], _ => by unfold insI; exact List.pairwise_singleton _ _
  | j :: l, h => by
    unfold insI
    rw [List.pairwise_cons] at h
    split
    · rename_i c
      rw [List.pairwise_cons]
      exact ⟨fun y hy => by
        rcases List.mem_cons.mp hy with rfl | hy
        · exact c
        · have := h.1 y hy; omega, List.pairwise_cons.mpr h⟩
    · rename_i c
      rw [List.pairwise_cons]
      exact ⟨fun y hy => by
        rcases List.mem_cons.mp ((insI_perm i l).mem_iff.mp hy) with rfl | hy
        · omega
        · exact h.1 y hy, insI_pw h.2⟩
theorem sortI_pw : ∀ l : List Int, (sortI l).Pairwise (· ≤ ·)
  | [] => .nil
  | i :: l => insI_pw (sortI_pw l)
theorem pw_perm_eq : ∀ {a b : List Int}, a.Perm b → a.Pairwise (· ≤ ·) → b.Pairwise (· ≤ ·) → a = b := fun {a b} p h1 h2 => p.eq_of_pairwise (fun x y _ _ h3 h4 => Int.le_antisymm h3 h4) h1 h2
theorem cd_len (hK : X.K = Z.K) : CallR X (.builtin "len") (rA Z gLen) := by
  intro pins s σ H xs us Q I r h
  obtain ⟨G, α, S, l, hd, hl, w⟩ := h
  obtain ⟨x, y, rfl, hx, w⟩ := arg1_ok hl w
  cases x with
  | lst l =>
    obtain ⟨a, xs, rfl, h1, h2⟩ := hx
    have w' := wI w hd
    rw [← h2.len] at w'
    exact call_len_seq pins s σ H _ us Q I r ⟨a, xs, rfl, .inl (SqL.of h1), w'⟩
  | tup l =>
    obtain ⟨a, xs, rfl, h1, h2⟩ := hx
    have w' := wI w hd
    rw [← h2.len] at w'
    exact call_len_seq pins s σ H _ us Q I r ⟨a, xs, rfl, .inr (SqT.of (hd.ex _ _ h1)), w'⟩
  | ktp l =>
    obtain ⟨a, xs, rfl, h1, h2⟩ := hx
    have w' := wI w hd
    rw [← h2.len] at w'
    exact call_len_seq pins s σ H _ us Q I r ⟨a, xs, rfl, .inr (hK ▸ ex_t ex_nil h1), w'⟩
  | scr l =>
    obtain ⟨a, rfl, h1⟩ := hx
    have w' := wI w hd
    rw [← List.length_map (f := V.int)] at w'
    exact call_len_seq pins s σ H _ us Q I r ⟨a, _, rfl, .inl (hK ▸ ex_l hd.ex h1), w'⟩
  | str t =>
    cases hx
    have w' : Wk Z (R.of S (if t.length ≤ 100000 then vI t.length else none)) G α H (pRt Z Q) E0 := w
    by_cases c : t.length ≤ 100000
    · rw [if_pos c] at w'
      exact call_len_str pins s σ H _ us Q I r ⟨t, rfl, sz_of c, wI w' hd⟩
    · rw [if_neg c] at w'
      exact w'.elim
  | dic t ks vs =>
    cases t with
    | true => exact w.elim
    | false =>
    obtain ⟨a, ws, rfl, ⟨kk, e1, e2⟩, h2, h3⟩ := hx
    have w' := wI w hd
    have e3 : kk.length = ks.length := by have := congrArg List.length e1; rw [List.length_map, List.length_map] at this; exact this.symm
    refine call_lenD pins s σ H _ us Q I r ⟨a, kk.zip ws, rfl, e2, ?_⟩
    rw [List.length_zip, e3, ← h2, Nat.min_self]
    exact w'
  | _ => exact w.elim
theorem cd_max (hc : X.calm = true) (hK : X.K = Z.K) : CallR X (.builtin "max") (rA Z gMax) := by
  intro pins s σ H xs us Q I r h
  obtain ⟨G, α, S, l, hd, hl, w⟩ := h
  rcases arg12_ok hl w with ⟨x, y, rfl, hx, w⟩ | ⟨x, x2, y, y2, rfl, hx, hx2, w⟩
  · cases x with
    | lst l =>
      obtain ⟨a, xs, rfl, h1, h2⟩ := hx
      have w' : Wk Z (R.of S (onI (ints? l) fun ns => match maxI ns with | some m => vI m | none => none)) G α H (pRt Z Q) E0 := w
      cases q : ints? l with
      | none => rw [q] at w'; exact w'.elim
      | some ns =>
        rw [q] at w'
        have w' : Wk Z (R.of S (match maxI ns with | some m => vI m | none => none)) G α H (pRt Z Q) E0 := w'
        cases q2 : maxI ns with
        | none => simp only [q2] at w'; exact w'.elim
        | some m =>
          simp only [q2] at w'
          obtain ⟨m1, m2⟩ := maxI_ok q2
          have ex := ints_on q h2
          subst ex
          refine cr_max hc pins s σ H _ us Q I r ⟨a, ns, rfl, SqL.of h1, List.length_pos_of_mem m1, fun k k1 k2 => ?_⟩
          have e : k = m := Int.le_antisymm (m2 k k1) (k2 m m1)
          subst e
          exact wI w' hd
    | _ => exact w.elim
  · cases x with
    | int i =>
      cases x2 with
      | int j => cases hx; cases hx2; exact call_max2 hc pins s σ H _ us Q I r ⟨i, j, rfl, wI w hd⟩
      | _ => exact w.elim
    | _ => cases x2 <;> exact w.elim
theorem cd_min (hc : X.calm = true) (hK : X.K = Z.K) : CallR X (.builtin "min") (rA Z gMin) := by
  intro pins s σ H xs us Q I r h
  obtain ⟨G, α, S, l, hd, hl, w⟩ := h
  rcases arg12_ok hl w with ⟨x, y, rfl, hx, w⟩ | ⟨x, x2, y, y2, rfl, hx, hx2, w⟩
  · cases x with
    | lst l =>
      obtain ⟨a, xs, rfl, h1, h2⟩ := hx
      have w' : Wk Z (R.of S (onI (ints? l) fun ns => match minI ns with | some m => vI m | none => none)) G α H (pRt Z Q) E0 := w
      cases q : ints? l with
      | none => rw [q] at w'; exact w'.elim
      | some ns =>
        rw [q] at w'
        have w' : Wk Z (R.of S (match minI ns with | some m => vI m | none => none)) G α H (pRt Z Q) E0 := w'
        cases q2 : minI ns with
        | none => simp only [q2] at w'; exact w'.elim
        | some m =>
          simp only [q2] at w'
          obtain ⟨m1, m2⟩ := minI_ok q2
          have ex := ints_on q h2
          subst ex
          refine cr_min hc pins s σ H _ us Q I r ⟨a, ns, rfl, SqL.of h1, List.length_pos_of_mem m1, fun k k1 k2 => ?_⟩
          have e : k = m := Int.le_antisymm (k2 m m1) (m2 k k1)
          subst e
          exact wI w' hd
    | _ => exact w.elim
  · cases x with
    | int i =>
      cases x2 with
      | int j => cases hx; cases hx2; exact call_min2 hc pins s σ H _ us Q I r ⟨i, j, rfl, wI w hd⟩
      | _ => exact w.elim
    | _ => cases x2 <;> exact w.elim
theorem cd_sum (hc : X.calm = true) : CallR X (.builtin "sum") (rA Z gSum) := by
  intro pins s σ H xs us Q I r h
  obtain ⟨G, α, S, l, hd, hl, w⟩ := h
  obtain ⟨x, y, rfl, hx, w⟩ := arg1_ok hl w
  cases x with
  | lst l =>
    obtain ⟨a, xs, rfl, h1, h2⟩ := hx
    have w' : Wk Z (R.of S (onI (ints? l) fun ns => vI ns.sum)) G α H (pRt Z Q) E0 := w
    cases q : ints? l with
    | none => rw [q] at w'; exact w'.elim
    | some ns =>
      rw [q] at w'
      have ex := ints_on q h2
      subst ex
      exact cr_sum hc pins s σ H _ us Q I r ⟨a, ns, rfl, SqL.of h1, wI w' hd⟩
  | _ => exact w.elim
theorem cd_sorted : CallR X (.builtin "sorted") (rA Z gSorted) := by
  intro pins s σ H xs us Q I r h
  obtain ⟨G, α, S, l, hd, hl, w⟩ := h
  obtain ⟨x, y, rfl, hx, w⟩ := arg1_ok hl w
  cases x with
  | lst l =>
    obtain ⟨a, xs, rfl, h1, h2⟩ := hx
    have w' : Wk Z (R.of S (onI (ints? l) fun ns => nL ((sortI ns).map .int))) G α H (pRt Z Q) E0 := w
    cases q : ints? l with
    | none => rw [q] at w'; exact w'.elim
    | some ns =>
      rw [q] at w'
      have ex := ints_on q h2
      subst ex
      refine cr_sortedI pins s σ H _ us Q I r ⟨a, ns, rfl, SqL.of h1, fun ns' p hp hs hn => ?_⟩
      have e : ns' = sortI ns := pw_perm_eq (hp.trans (sortI_perm ns).symm) hs (sortI_pw ns)
      subst e
      exact wL w' hd (on_ints _) hn
  | _ => exact w.elim
theorem cd_abs : CallR X (.builtin "abs") (rA Z gAbs) := by
  intro pins s σ H xs us Q I r h
  obtain ⟨G, α, S, l, hd, hl, w⟩ := h
  obtain ⟨x, y, rfl, hx, w⟩ := arg1_ok hl w
  cases x with
  | int i =>
    cases hx
    exact call_abs pins s σ H _ us Q I r ⟨i, rfl, wI w hd⟩
  | _ => exact w.elim
theorem cd_int : CallR X (.type "int") (rA Z gInt) := by
  intro pins s σ H xs us Q I r h
  obtain ⟨G, α, S, l, hd, hl, w⟩ := h
  obtain ⟨x, y, rfl, hx, w⟩ := arg1_ok hl w
  cases x with
  | int i =>
    cases hx
    exact call_int1 pins s σ H _ us Q I r (.inl ⟨i, rfl, wI w hd⟩)
  | bl i =>
    cases hx
    exact call_int1 pins s σ H _ us Q I r (.inr ⟨i, rfl, wI w hd⟩)
  | str t =>
    cases hx
    have w' : Wk Z (R.of S (if t.length ≤ 640 then (match PySem.intText? t with | some n => vI n | none => none) else none)) G α H (pRt Z Q) E0 := w
    by_cases c : t.length ≤ 640
    · rw [if_pos c] at w'
      cases q : PySem.intText? t with
      | none => simp only [q] at w'; exact w'.elim
      | some n => simp only [q] at w'; exact call_int_str pins s σ H _ us Q I r ⟨t, n, rfl, q, c, wI w' hd⟩
    · rw [if_neg c] at w'
      exact w'.elim
  | _ => exact w.elim
theorem cd_all (hc : X.calm = true) : CallR X (.builtin "all") (rA Z gAll) := by
  intro pins s σ H xs us Q I r h
  obtain ⟨G, α, S, l, hd, hl, w⟩ := h
  obtain ⟨x, y, rfl, hx, w⟩ := arg1_ok hl w
  cases x with
  | lst l =>
    obtain ⟨a, xs, rfl, h1, h2⟩ := hx
    have w' : Wk Z (R.of S (match bools? l with | some bs => vB (bs.all id) | none => none)) G α H (pRt Z Q) E0 := w
    cases q : bools? l with
    | none => simp only [q] at w'; exact w'.elim
    | some ns =>
      simp only [q] at w'
      have ex := bools_on q h2
      subst ex
      exact cr_all hc pins s σ H _ us Q I r ⟨a, ns, rfl, SqL.of h1, wB w' hd⟩
  | _ => exact w.elim
theorem cd_any (hc : X.calm = true) : CallR X (.builtin "any") (rA Z gAny) := by
  intro pins s σ H xs us Q I r h
  obtain ⟨G, α, S, l, hd, hl, w⟩ := h
  obtain ⟨x, y, rfl, hx, w⟩ := arg1_ok hl w
  cases x with
  | lst l =>
    obtain ⟨a, xs, rfl, h1, h2⟩ := hx
    have w' : Wk Z (R.of S (match bools? l with | some bs => vB (bs.any id) | none => none)) G α H (pRt Z Q) E0 := w
    cases q : bools? l with
    | none => simp only [q] at w'; exact w'.elim
    | some ns =>
      simp only [q] at w'
      have ex := bools_on q h2
      subst ex
      exact cr_any hc pins s σ H _ us Q I r ⟨a, ns, rfl, SqL.of h1, wB w' hd⟩
  | _ => exact w.elim
theorem onl_signs : ∀ l : List Nat, OnL Z G (l.map fun c => .str ⟨#[c]⟩) (l.map fun c => V.str ⟨#[c]⟩)
  | [] => OnL.nil'
  | c :: l => OnL.cons' on_str (onl_signs l)
theorem cd_list (hc : X.calm = true) (hK : X.K = Z.K) : CallR X (.type "list") (rA Z gList) := by
  intro pins s σ H xs us Q I r h
  obtain ⟨G, α, S, l, hd, hl, w⟩ := h
  obtain ⟨x, y, rfl, hx, w⟩ := arg1_ok hl w
  cases x with
  | lst l =>
    obtain ⟨a, xs, rfl, h1, h2⟩ := hx
    exact call_list_of pins s σ H _ us Q I r ⟨a, xs, rfl, .inl (SqL.of h1), fun p hp => wL w hd h2 hp⟩
  | tup l =>
    obtain ⟨a, xs, rfl, h1, h2⟩ := hx
    exact call_list_of pins s σ H _ us Q I r ⟨a, xs, rfl, .inr (SqT.of (hd.ex _ _ h1)), fun p hp => wL w hd h2 hp⟩
  | ktp l =>
    obtain ⟨a, xs, rfl, h1, h2⟩ := hx
    exact call_list_of pins s σ H _ us Q I r ⟨a, xs, rfl, .inr (hK ▸ ex_t ex_nil h1), fun p hp => wL w hd h2 hp⟩
  | str t =>
    cases hx
    have w' : Wk Z (R.of S (if t.length ≤ 100000 then nL (t.cps.toList.map fun c => .str ⟨#[c]⟩) else none)) G α H (pRt Z Q) E0 := w
    by_cases c : t.length ≤ 100000
    · rw [if_pos c] at w'
      exact OP.call_list_text hc pins s σ H _ us Q I r ⟨t, rfl, sz_of c, fun p hp => wL w' hd (onl_signs _) hp⟩
    · rw [if_neg c] at w'
      exact w'.elim
  | _ => exact w.elim
theorem cd_tuple : CallR X (.type "tuple") (rA Z gTuple) := by
  intro pins s σ H xs us Q I r h
  obtain ⟨G, α, S, l, hd, hl, w⟩ := h
  obtain ⟨x, y, rfl, hx, w⟩ := arg1_ok hl w
  cases x with
  | lst l =>
    obtain ⟨a, xs, rfl, h1, h2⟩ := hx
    exact call_tuple_of pins s σ H _ us Q I r ⟨a, xs, rfl, .inl ⟨SqL.of h1, fun p hp => wT w hd h2 hp⟩⟩
  | tup l =>
    obtain ⟨a, xs, rfl, h1, h2⟩ := hx
    exact call_tuple_of pins s σ H _ us Q I r ⟨a, xs, rfl, .inr ⟨SqT.of (hd.ex _ _ h1), wkT w hd h1 h2⟩⟩
  | _ => exact w.elim
theorem cd_str : CallR X (.type "str") (rA Z gStr) := by
  intro pins s σ H xs us Q I r h
  obtain ⟨G, α, S, l, hd, hl, w⟩ := h
  obtain ⟨x, y, rfl, hx, w⟩ := arg1_ok hl w
  cases x with
  | int i =>
    cases hx
    have w' : Wk Z (R.of S (if i.natAbs.log2 < 1920 then vS (toString i) else none)) G α H (pRt Z Q) E0 := w
    by_cases c : i.natAbs.log2 < 1920
    · rw [if_pos c] at w'
      exact call_str_int pins s σ H _ us Q I r ⟨i, rfl, c, wS w' hd⟩
    · rw [if_neg c] at w'
      exact w'.elim
  | str t =>
    cases hx
    exact SkE.call_str_str pins s σ H _ us Q I r ⟨t, rfl, wS w hd⟩
  | _ => exact w.elim
end
end DN

/-! DnF: methods of texts and lists, lists that change, dicts asked, isinstance. -/
namespace DN
open PySem PySem.Spec PyProof.Rows L2 Evl
def isT (T : String) : Dv → Bool
  | .str _ => T == "str"
  | .int _ => T == "int"
  | .lst _ => T == "list"
  | _ => false
def gM (S : Sto) (a : Vr) (l : List Vr) (g : Dv → List Dv → Option Rt) : R Rt := match snap S a, snaps S l with
  | some d, some ds => R.of S (g d ds)
  | _, _ => .no
def onT {β : Type} (T : String) (S : Sto) (a : Vr) (r : R β) : R β := match snap S a with
  | some d => if isT T d then r else .no
  | none => .no
def fMeth (T : String) (g : Dv → List Dv → Option Rt) (fo : FE) (fa : FA) : FE := fun env S => (fo env S).bindV fun S1 a => onT T S1 a ((fa env S1).bind fun S2 l => gM S2 a l g)
/-- a list that is changed: its items, the arguments; its items behind, what is handed back -/
def gMu (S : Sto) (a : Vr) (l : List Vr) (g : List Dv → List Dv → Option (List Dv × Dv)) : R Rt := match a, allD l with
  | .r n, some ds => match S[n]? with
    | some (.lst l0) => match g l0 ds with
      | some (l1, res) => .ok (S.set n (.lst l1)) (.val (.d res))
      | none => .no
    | _ => .no
  | _, _ => .no
def fMut (g : List Dv → List Dv → Option (List Dv × Dv)) (fo : FE) (fa : FA) : FE := fun env S => (fo env S).bindV fun S1 a => onT "list" S1 a ((fa env S1).bind fun S2 l => gMu S2 a l g)
def gEx (S : Sto) (a : Vr) (l : List Vr) : R Rt := match a, snaps S l with
  | .r n, some [.lst m] => match S[n]? with
    | some (.lst l0) => if l0.length + m.length ≤ 100000 then .ok (S.set n (.lst (l0 ++ m))) (.val (.d .non)) else .no
    | _ => .no
  | _, _ => .no
def fExt (fo : FE) (fa : FA) : FE := fun env S => (fo env S).bindV fun S1 a => onT "list" S1 a ((fa env S1).bind fun S2 l => gEx S2 a l)
def gAppend (l ds : List Dv) : Option (List Dv × Dv) := match ds with
  | [y] => if l.length < 100000 then some (l ++ [y], .non) else none
  | _ => none
def gPop (l ds : List Dv) : Option (List Dv × Dv) := match ds with
  | [] => match l[l.length - 1]? with
    | some y => some (l.dropLast, y)
    | none => none
  | _ => none
def gClear (l ds : List Dv) : Option (List Dv × Dv) := match ds with
  | [] => some ([], .non)
  | _ => none
def gReverse (l ds : List Dv) : Option (List Dv × Dv) := match ds with
  | [] => some (l.reverse, .non)
  | _ => none
section
variable {Z : Zt} {X : Cx} {G H : Hp} {α : List Addr} {S : Sto} {Q : VK} {E : XK}
def rM (Z : Zt) (g : Dv → List Dv → Option Rt) : V → List V → Hp → VK → Prop := fun x xs H Q => ∃ G α S d l, Hd Z G α S H ∧ OnH Z G H d x ∧ OnHA Z G H l xs ∧ Wk Z (R.of S (g d l)) G α H (pRt Z Q) E0
def rMu (Z : Zt) (g : List Dv → List Dv → Option (List Dv × Dv)) : V → List V → Hp → VK → Prop := fun x xs H Q => ∃ G α S n a l0 ds l1 res, Hd Z G α S H ∧ x = .ref a ∧ α[n]? = some a ∧ S[n]? = some (.lst l0) ∧ OnL Z G ds xs ∧ g l0 ds = some (l1, res) ∧
  Wk Z (.ok (S.set n (.lst l1)) (.val (.d res))) G α H (pRt Z Q) E0
theorem ty_on {T : String} {d : Dv} {x : V} (eG : Ex G H) (h : OnH Z G H d x) (e : isT T d = true) : tyV Z.K T x H := by
  cases d with
  | str s => cases h; exact beq_iff_eq.mp e
  | int s => cases h; exact beq_iff_eq.mp e
  | lst l => obtain ⟨a, xs, rfl, h1, h2⟩ := h; exact .inl ⟨beq_iff_eq.mp e, xs, SqL.of h1⟩
  | _ => cases e
theorem onT_ok {β : Type} {T : String} {a : Vr} {x : V} {r : R β} {P : Pst β} (hd : Hd Z G α S H) (ox : OnR Z G α a x) (w : Wk Z (onT T S a r) G α H P E) : tyV Z.K T x H ∧ Wk Z r G α H P E := by
  unfold onT at w
  cases e : snap S a with
  | none => rw [e] at w; exact w.elim
  | some d =>
    rw [e] at w
    cases e2 : isT T d with
    | false => simp only [e2] at w; exact w.elim
    | true => simp only [e2] at w; exact ⟨ty_on hd.ex (snap_on hd ox e) e2, w⟩
theorem gM_ok {a : Vr} {x : V} {l : List Vr} {vs : List V} {g : Dv → List Dv → Option Rt} (hd : Hd Z G α S H) (ox : OnR Z G α a x) (ol : OnA Z G α l vs) (w : Wk Z (gM S a l g) G α H (pRt Z Q) E) : rM Z g x vs H Q := by
  unfold gM at w
  cases e : snap S a with
  | none => rw [e] at w; exact w.elim
  | some d =>
    cases e2 : snaps S l with
    | none => rw [e, e2] at w; exact w.elim
    | some ds => rw [e, e2] at w; exact ⟨G, α, S, d, ds, hd, snap_on hd ox e, snaps_on hd ol e2, w.any⟩
theorem gMu_ok {a : Vr} {x : V} {l : List Vr} {vs : List V} {g : List Dv → List Dv → Option (List Dv × Dv)} (hd : Hd Z G α S H) (ox : OnR Z G α a x) (ol : OnA Z G α l vs) (w : Wk Z (gMu S a l g) G α H (pRt Z Q) E) : rMu Z g x vs H Q := by
  unfold gMu at w
  cases a with
  | d d => cases e : allD l <;> (rw [e] at w; exact w.elim)
  | r n =>
    cases e : allD l with
    | none => rw [e] at w; exact w.elim
    | some ds =>
      rw [e] at w
      cases e2 : S[n]? with
      | none => simp only [e2] at w; exact w.elim
      | some c =>
        simp only [e2] at w
        cases c with
        | lst l0 =>
          cases e3 : g l0 ds with
          | none => simp only [e3] at w; exact w.elim
          | some p =>
            simp only [e3] at w
            obtain ⟨b, rfl, hb⟩ := ox
            exact ⟨G, α, S, n, b, l0, ds, p.1, p.2, hd, rfl, hb, e2, allD_on e ol, e3, w⟩
        | _ => exact w.elim
variable {Ew : L2.St → XK} {to : TE} {fo : FE} {ta : TA} {fa : FA} {T : String}
theorem se_meth {g : Dv → List Dv → Option Rt} (ho : SE Z Ew to fo) (ha : SA Z Ew ta fa) : SE Z Ew (tBM Z.K T (rM Z g) to ta) (fMeth T g fo fa) := fun env σ G α S H Q hd oe w =>
  ho.bind hd oe w fun S2 a x H2 G2 α2 f2 hd2 oe2 ox w2 => by
    obtain ⟨t, w3⟩ := onT_ok hd2 ox w2
    exact ⟨t, ha.bind hd2 oe2 w3 fun S3 l vs H3 G3 α3 f3 hd3 oe3 ol w4 => gM_ok hd3 (ox.up f3.g f3.a) ol w4⟩
theorem se_meth0 {g : Dv → List Dv → Option Rt} (ho : SE Z Ew to fo) : SE Z Ew (tBM0 Z.K T (rM Z g) to) (fMeth T g fo fNil) := fun env σ G α S H Q hd oe w =>
  ho.bind hd oe w fun S2 a x H2 G2 α2 f2 hd2 oe2 ox w2 => by
    obtain ⟨t, w3⟩ := onT_ok hd2 ox w2
    exact ⟨t, gM_ok (l := []) hd2 ox rfl w3⟩
theorem se_mut {g : List Dv → List Dv → Option (List Dv × Dv)} (ho : SE Z Ew to fo) (ha : SA Z Ew ta fa) : SE Z Ew (tBM Z.K "list" (rMu Z g) to ta) (fMut g fo fa) := fun env σ G α S H Q hd oe w =>
  ho.bind hd oe w fun S2 a x H2 G2 α2 f2 hd2 oe2 ox w2 => by
    obtain ⟨t, w3⟩ := onT_ok hd2 ox w2
    exact ⟨t, ha.bind hd2 oe2 w3 fun S3 l vs H3 G3 α3 f3 hd3 oe3 ol w4 => gMu_ok hd3 (ox.up f3.g f3.a) ol w4⟩
theorem se_mut0 {g : List Dv → List Dv → Option (List Dv × Dv)} (ho : SE Z Ew to fo) : SE Z Ew (tBM0 Z.K "list" (rMu Z g) to) (fMut g fo fNil) := fun env σ G α S H Q hd oe w =>
  ho.bind hd oe w fun S2 a x H2 G2 α2 f2 hd2 oe2 ox w2 => by
    obtain ⟨t, w3⟩ := onT_ok hd2 ox w2
    exact ⟨t, gMu_ok (l := []) hd2 ox rfl w3⟩
def rEx (Z : Zt) : V → List V → Hp → VK → Prop := fun x xs H Q => ∃ G α S n a l0 m, Hd Z G α S H ∧ x = .ref a ∧ α[n]? = some a ∧ S[n]? = some (.lst l0) ∧ OnHA Z G H [.lst m] xs ∧ l0.length + m.length ≤ 100000 ∧
  Wk Z (.ok (S.set n (.lst (l0 ++ m))) (.val (.d .non))) G α H (pRt Z Q) E0
theorem gEx_ok {a : Vr} {x : V} {l : List Vr} {vs : List V} (hd : Hd Z G α S H) (ox : OnR Z G α a x) (ol : OnA Z G α l vs) (w : Wk Z (gEx S a l) G α H (pRt Z Q) E) : rEx Z x vs H Q := by
  cases a with
  | d d => exact absurd w (by unfold gEx; cases snaps S l <;> exact id)
  | r n =>
    unfold gEx at w
    cases e : snaps S l with
    | none => rw [e] at w; exact w.elim
    | some ds =>
      rw [e] at w
      have so := snaps_on hd ol e
      cases ds with
      | nil => exact w.elim
      | cons d ds =>
        cases ds with
        | cons d2 ds => cases d <;> exact w.elim
        | nil =>
          cases d with
          | lst m =>
            have w' : Wk Z (match S[n]? with | some (.lst l0) => if l0.length + m.length ≤ 100000 then R.ok (S.set n (.lst (l0 ++ m))) (Rt.val (.d .non)) else .no | _ => .no) G α H (pRt Z Q) E := w
            cases e2 : S[n]? with
            | none => rw [e2] at w'; exact w'.elim
            | some c =>
              rw [e2] at w'
              cases c with
              | lst l0 =>
                have w' : Wk Z (if l0.length + m.length ≤ 100000 then R.ok (S.set n (.lst (l0 ++ m))) (Rt.val (.d .non)) else .no) G α H (pRt Z Q) E := w'
                by_cases hl : l0.length + m.length ≤ 100000
                · rw [if_pos hl] at w'
                  obtain ⟨b, rfl, hb⟩ := ox
                  exact ⟨G, α, S, n, b, l0, m, hd, rfl, hb, e2, so, hl, w'⟩
                · rw [if_neg hl] at w'
                  exact w'.elim
              | _ => exact w'.elim
          | _ => exact w.elim
theorem se_ext (ho : SE Z Ew to fo) (ha : SA Z Ew ta fa) : SE Z Ew (tBM Z.K "list" (rEx Z) to ta) (fExt fo fa) := fun env σ G α S H Q hd oe w =>
  ho.bind hd oe w fun S2 a x H2 G2 α2 f2 hd2 oe2 ox w2 => by
    obtain ⟨t, w3⟩ := onT_ok hd2 ox w2
    exact ⟨t, ha.bind hd2 oe2 w3 fun S3 l vs H3 G3 α3 f3 hd3 oe3 ol w4 => gEx_ok hd3 (ox.up f3.g f3.a) ol w4⟩
/-- the cell is changed -/
theorem Wk.put {n : Nat} {a : Addr} {c c2 : Cell} {o : HO} {v : Vr} {x : V} (w : Wk Z (.ok (S.set n c2) (.val v)) G α H (pRt Z Q) E) (hd : Hd Z G α S H) (ha : α[n]? = some a) (hs : S[n]? = some c) (hc : c ≠ .dead) (h2 : CellAt Z G c2 (some o)) (hx : OnR Z G α v x) : Q x (upd H a o) := by
  obtain ⟨hd2, f2⟩ := hd.put ha hs hc h2
  exact w _ _ _ f2 hd2 x hx
theorem OnL.dropLast {l : List Dv} {xs : List V} (h : OnL Z G l xs) : OnL Z G l.dropLast xs.dropLast := by
  rw [List.dropLast_eq_take, List.dropLast_eq_take, h.len]
  exact h.take _
theorem md_append : MtR X "list.append" (rMu Z gAppend) := by
  intro pins s σ H x xs v us Q I rx rxs h
  obtain ⟨G, α, S, n, a, l0, ds, l1, res, hd, rfl, ha, hs, ol, e, w⟩ := h
  cases ds with
  | nil => cases e
  | cons y r =>
    cases r with
    | cons _ _ => cases e
    | nil =>
      have e' : (if l0.length < 100000 then some (l0 ++ [y], Dv.non) else none) = some (l1, res) := e
      by_cases hl : l0.length < 100000
      · rw [if_pos hl] at e'
        cases e'
        obtain ⟨z, rfl, oz⟩ := ol.one
        obtain ⟨zs, h1, h2⟩ := (hd.at_ n a _ ha hs).2
        exact mt_append pins s σ H _ _ v us Q I rx rxs ⟨a, zs, z, rfl, rfl, h1, Nat.lt_of_lt_of_le (by rw [h2.len]; exact hl) (by decide), w.put hd ha hs (fun c => nomatch c) ⟨_, rfl, h2.app (OnL.cons' oz OnL.nil')⟩ (or_non Z G α)⟩
      · rw [if_neg hl] at e'
        cases e'
theorem md_pop : MtR X "list.pop" (rMu Z gPop) := by
  intro pins s σ H x xs v us Q I rx rxs h
  obtain ⟨G, α, S, n, a, l0, ds, l1, res, hd, rfl, ha, hs, ol, e, w⟩ := h
  cases ds with
  | cons y r => cases e
  | nil =>
    have e' : (match l0[l0.length - 1]? with | some y => some (l0.dropLast, y) | none => none) = some (l1, res) := e
    cases q : l0[l0.length - 1]? with
    | none => simp only [q] at e'; cases e'
    | some y =>
      simp only [q] at e'
      cases e'
      obtain ⟨zs, h1, h2⟩ := (hd.at_ n a _ ha hs).2
      obtain ⟨z, h3, h4⟩ := h2.get q
      rw [← h2.len] at h3
      exact mt_pop pins s σ H _ _ v us Q I rx rxs ⟨a, zs, z, rfl, OnL.nil.mp ol, h1, h3, w.put hd ha hs (fun c => nomatch c) ⟨_, rfl, h2.dropLast⟩ h4⟩
theorem md_clear : MtR X "list.clear" (rMu Z gClear) := by
  intro pins s σ H x xs v us Q I rx rxs h
  obtain ⟨G, α, S, n, a, l0, ds, l1, res, hd, rfl, ha, hs, ol, e, w⟩ := h
  cases ds with
  | cons y r => cases e
  | nil =>
    cases e
    obtain ⟨zs, h1, h2⟩ := (hd.at_ n a _ ha hs).2
    exact mt_clear pins s σ H _ _ v us Q I rx rxs ⟨a, zs, rfl, OnL.nil.mp ol, h1, w.put hd ha hs (fun c => nomatch c) ⟨_, rfl, OnL.nil'⟩ (or_non Z G α)⟩
theorem md_reverse : MtR X "list.reverse" (rMu Z gReverse) := by
  intro pins s σ H x xs v us Q I rx rxs h
  obtain ⟨G, α, S, n, a, l0, ds, l1, res, hd, rfl, ha, hs, ol, e, w⟩ := h
  cases ds with
  | cons y r => cases e
  | nil =>
    cases e
    obtain ⟨zs, h1, h2⟩ := (hd.at_ n a _ ha hs).2
    exact mt_reverse pins s σ H _ _ v us Q I rx rxs ⟨a, zs, rfl, OnL.nil.mp ol, h1, w.put hd ha hs (fun c => nomatch c) ⟨_, rfl, h2.rev⟩ (or_non Z G α)⟩
theorem md_extend : MtR X "list.extend" (rEx Z) := by
  intro pins s σ H x xs v us Q I rx rxs h
  obtain ⟨G, α, S, n, a, l0, m, hd, rfl, ha, hs, ol, hl, w⟩ := h
  obtain ⟨y, rfl, b, zs, rfl, h3, h4⟩ := ol.one
  obtain ⟨ys, h1, h2⟩ := (hd.at_ n a _ ha hs).2
  exact mt_extend pins s σ H _ _ v us Q I rx rxs ⟨a, b, ys, zs, rfl, rfl, h1, h3, by rw [h2.len, h4.len]; exact sz_of hl, w.put hd ha hs (fun c => nomatch c) ⟨_, rfl, h2.app h4⟩ (or_non Z G α)⟩
/-! ### methods of texts -/
def gJoin : Dv → List Dv → Option Rt
  | .str a, [.lst l] => match strs? l with
    | some ss => if (ss.map (·.length)).sum + ss.length * a.length ≤ 100000 then vS (Txt.join a ss) else none
    | none => none
  | .str a, [.tup l] => match strs? l with
    | some ss => if (ss.map (·.length)).sum + ss.length * a.length ≤ 100000 then vS (Txt.join a ss) else none
    | none => none
  | _, _ => none
def gSplit : Dv → List Dv → Option Rt
  | .str a, [.str b] => if b.length ≠ 0 ∧ a.length + 2 ≤ 100000 then nL ((Txt.split a b).map .str) else none
  | _, _ => none
def gRemSuf : Dv → List Dv → Option Rt
  | .str a, [.str b] => if a.length ≤ 100000 then vS (Txt.removesuffix a b) else none
  | _, _ => none
def gEndsW : Dv → List Dv → Option Rt
  | .str a, [.str b] => vB (Txt.endswith a b)
  | _, _ => none
def gCountS : Dv → List Dv → Option Rt
  | .str a, [.str b] => vI (Txt.count a b)
  | _, _ => none
theorem join_ok {a : Str} {l : List Dv} {xs : List V} {p : Addr} (hx : (OnL Z G l xs)) (h : SqL X.K H p xs ∨ SqT X.K H p xs) (hd : Hd Z G α S H)
    (w : Wk Z (R.of S (match strs? l with | some ss => if (ss.map (·.length)).sum + ss.length * a.length ≤ 100000 then vS (Txt.join a ss) else none | none => none)) G α H (pRt Z Q) E) :
    ∃ ys : List Str, (SqL X.K H p (ys.map V.str) ∨ SqT X.K H p (ys.map V.str)) ∧ (ys.map (·.length)).sum + ys.length * a.length ≤ 16777216 ∧ Q (.str (Txt.join a ys)) H := by
  cases q : strs? l with
  | none => simp only [q] at w; exact w.elim
  | some ss =>
    simp only [q] at w
    have ex := strs_on q hx
    subst ex
    by_cases c : (ss.map (·.length)).sum + ss.length * a.length ≤ 100000
    · rw [if_pos c] at w
      exact ⟨ss, h, by omega, wS w hd⟩
    · rw [if_neg c] at w
      exact w.elim
theorem meth2 {d : Dv} {l : List Dv} {g : Dv → List Dv → Option Rt} {xs : List V} (ol : OnHA Z G H l xs) (w : Wk Z (R.of S (g d l)) G α H (pRt Z Q) E) (hg : ∀ l, (∀ x, l ≠ [x]) → g d l = none) : ∃ x y, l = [x] ∧ xs = [y] ∧ OnH Z G H x y := by
  cases l with
  | nil => rw [hg [] (fun x h => nomatch h)] at w; exact w.elim
  | cons a r =>
    cases r with
    | cons b r => rw [hg _ (fun x h => by cases h)] at w; exact w.elim
    | nil =>
      obtain ⟨y, rfl, o⟩ := ol.one
      exact ⟨a, y, rfl, rfl, o⟩
theorem md_join : MtR X "str.join" (rM Z gJoin) := by
  intro pins s σ H x xs v us Q I rx rxs h
  obtain ⟨G, α, S, d, l, hd, od, ol, w⟩ := h
  cases d with
  | str a =>
    cases od
    obtain ⟨u, y, rfl, rfl, ou⟩ := meth2 ol w fun l h => by
      cases l with
      | nil => rfl
      | cons c r => cases r with
        | nil => exact absurd rfl (h c)
        | cons _ _ => cases c <;> rfl
    cases u with
    | lst l =>
      obtain ⟨p, zs, rfl, h1, h2⟩ := ou
      obtain ⟨ys, h3, h4, h5⟩ := join_ok (X := X) h2 (.inl (SqL.of h1)) hd w
      exact mt_join pins s σ H _ _ v us Q I rx rxs ⟨a, p, ys, rfl, rfl, h3, h4, h5⟩
    | tup l =>
      obtain ⟨p, zs, rfl, h1, h2⟩ := ou
      obtain ⟨ys, h3, h4, h5⟩ := join_ok (X := X) h2 (.inr (SqT.of (hd.ex _ _ h1))) hd w
      exact mt_join pins s σ H _ _ v us Q I rx rxs ⟨a, p, ys, rfl, rfl, h3, h4, h5⟩
    | _ => exact w.elim
  | _ => exact w.elim
/-- a method of a text with one text -/
theorem md_ss {id : String} {g : Dv → List Dv → Option Rt} (hg : ∀ d l {G α S H} {Q : VK} {E : XK}, Wk Z (R.of S (g d l)) G α H (pRt Z Q) E → ∃ a b, d = .str a ∧ l = [.str b])
    (h : ∀ (a b : Str) {G α S} (pins : List (Addr × Obj)) (s : Shared) (σ : L2.St) (H : Hp) (v : Value) (us : List Value) (Q : VK), Hd Z G α S H → Wk Z (R.of S (g (.str a) [.str b])) G α H (pRt Z Q) E0 → Inv X pins σ H s → RelV (.str a) v → Vals [.str b] us →
      wpAny (model X.prog X.w) X.A (call (.builtin id) (v :: us)) (EP X pins σ Q) X.xe s) : MtR X id (rM Z g) := by
  intro pins s σ H x xs v us Q I rx rxs h'
  obtain ⟨G, α, S, d, l, hd, od, ol, w⟩ := h'
  obtain ⟨a, b, rfl, rfl⟩ := hg d l w
  cases od
  obtain ⟨y, rfl, o⟩ := ol.one
  cases o
  exact h a b pins s σ H v us Q hd w I rx rxs
theorem two_str {g : Dv → List Dv → Option Rt} (hg : ∀ d l, (∀ a b, ¬ (d = .str a ∧ l = [.str b])) → g d l = none) (d : Dv) (l : List Dv) (w : Wk Z (R.of S (g d l)) G α H (pRt Z Q) E) : ∃ a b, d = .str a ∧ l = [.str b] := by
  by_cases c : ∃ a b, d = .str a ∧ l = [.str b]
  · exact c
  · rw [hg d l (fun a b h => c ⟨a, b, h⟩)] at w
    exact w.elim
theorem md_split : MtR X "str.split" (rM Z gSplit) := md_ss (fun d l {G α S H Q E} w => two_str (fun d l h => by unfold gSplit; split <;> first | rfl | exact absurd ⟨rfl, rfl⟩ (h _ _)) d l w) fun a b {G α S} pins s σ H v us Q hd w I rx rxs => by
  have w' : Wk Z (R.of S (if b.length ≠ 0 ∧ a.length + 2 ≤ 100000 then nL ((Txt.split a b).map .str) else none)) G α H (pRt Z Q) E0 := w
  by_cases c : b.length ≠ 0 ∧ a.length + 2 ≤ 100000
  · rw [if_pos c] at w'
    exact mt_split pins s σ H _ _ v us Q I rx rxs ⟨a, b, rfl, rfl, by simpa using c.1, sz_of c.2, fun p hp => wL w' hd (on_strs _) hp⟩
  · rw [if_neg c] at w'
    exact w'.elim
theorem md_remsuf : MtR X "str.removesuffix" (rM Z gRemSuf) := md_ss (fun d l {G α S H Q E} w => two_str (fun d l h => by unfold gRemSuf; split <;> first | rfl | exact absurd ⟨rfl, rfl⟩ (h _ _)) d l w) fun a b {G α S} pins s σ H v us Q hd w I rx rxs => by
  have w' : Wk Z (R.of S (if a.length ≤ 100000 then vS (Txt.removesuffix a b) else none)) G α H (pRt Z Q) E0 := w
  by_cases c : a.length ≤ 100000
  · rw [if_pos c] at w'
    exact mt_removesuffix pins s σ H _ _ v us Q I rx rxs ⟨a, b, rfl, rfl, sz_of c, wS w' hd⟩
  · rw [if_neg c] at w'
    exact w'.elim
theorem md_endsw : MtR X "str.endswith" (rM Z gEndsW) := md_ss (fun d l {G α S H Q E} w => two_str (fun d l h => by unfold gEndsW; split <;> first | rfl | exact absurd ⟨rfl, rfl⟩ (h _ _)) d l w) fun a b {G α S} pins s σ H v us Q hd w I rx rxs =>
  mt_endswith pins s σ H _ _ v us Q I rx rxs ⟨a, b, rfl, rfl, wB w hd⟩
theorem md_countS : MtR X "str.count" (rM Z gCountS) := md_ss (fun d l {G α S H Q E} w => two_str (fun d l h => by unfold gCountS; split <;> first | rfl | exact absurd ⟨rfl, rfl⟩ (h _ _)) d l w) fun a b {G α S} pins s σ H v us Q hd w I rx rxs =>
  mt_count pins s σ H _ _ v us Q I rx rxs ⟨a, b, rfl, rfl, wI w hd⟩
/-- xs.index(x): the first place -/
def gIndex : Dv → List Dv → Option Rt
  | .lst l, [y] => onlyIf (okN 60 y && okNs 60 l) (match l.findIdx? fun z => eqD z y with
    | some j => vI j
    | none => none)
  | _, _ => none
theorem md_index (hu : X.A.units + 65 < cLine) (hK : X.K = Z.K) : MtR X "list.index" (rM Z gIndex) := by
  intro pins s σ H x xs v us Q I rx rxs h
  obtain ⟨G, α, S, d, l, hd, od, ol, w⟩ := h
  cases d with
  | lst l0 =>
    obtain ⟨u, y, rfl, rfl, ou⟩ := meth2 ol w fun l h => by
      cases l with
      | nil => rfl
      | cons c r => cases r with
        | nil => exact absurd rfl (h c)
        | cons _ _ => rfl
    obtain ⟨p, zs, rfl, h1, h2⟩ := od
    have w' : Wk Z (R.of S (onlyIf (okN 60 u && okNs 60 l0) (match l0.findIdx? fun z => eqD z u with | some j => vI j | none => none))) G α H (pRt Z Q) E0 := w
    obtain ⟨hk, w'⟩ := onlyIf_ok w'
    obtain ⟨k1, k2⟩ := and2 hk
    cases q : l0.findIdx? fun z => eqD z u with
    | none => simp only [q] at w'; exact w'.elim
    | some j =>
      simp only [q] at w'
      have at_ : ∀ (l : List Dv) (m : Nat), (toPs l)[m]? = (l[m]?).map toP := fun l => by
        induction l with
        | nil => intro m; simp [toPs]
        | cons a r ih => intro m; cases m with
          | zero => simp [toPs]
          | succ m => simp [toPs, ih]
      have okAt : ∀ (l : List Dv) (m : Nat) (z : Dv), okNs 60 l = true → l[m]? = some z → okN 60 z = true := fun l => by
        induction l with
        | nil => intro m z _ e; simp at e
        | cons a r ih => intro m z k e; cases m with
          | zero => simp at e; subst e; exact (and2 (by simpa [okNs] using k)).1
          | succ m => exact ih m z (and2 (by simpa [okNs] using k)).2 (by simpa using e)
      rw [List.findIdx?_eq_some_iff_getElem] at q
      obtain ⟨hj, hp, hn⟩ := q
      have e1 : l0[j]? = some l0[j] := List.getElem?_eq_getElem hj
      refine mt_indexD hu pins s σ H _ _ v us Q I rx rxs ⟨p, y, toP u, toPs l0, j, toP l0[j], rfl, rfl, .lst (SqL.of h1) ?_, ?_, (oks_shaped k2).1, ok_shaped k1, by rw [at_, e1]; rfl, ?_, fun m z' hm e => ?_, wI w' hd⟩
      · exact hK ▸ onl_dp k2 (h2.up hd.ex)
      · exact hK ▸ on_dp k1 (ou.on hd.ex)
      · rw [eq_eqv (okAt l0 j _ k2 e1) k1]; exact hp
      · rw [at_] at e
        have hm' : m < l0.length := Nat.lt_trans hm hj
        rw [List.getElem?_eq_getElem hm'] at e
        cases e
        rw [eq_eqv (okAt l0 m _ k2 (List.getElem?_eq_getElem hm')) k1]
        simpa using hn m hm
  | _ => exact w.elim
/-! ### their calls -/
variable {name : Str} {id : String} {o e : Expr} {es : List Expr} {apos cpos : Pos}
theorem pf_meth {g : Dv → List Dv → Option Rt} (hm : MtR X id (rM Z g)) (pa : PlainAttrs T) (slot : Slot T name id) (hty : typeOf (.builtin id) = pure (.type "method_descriptor")) (hK : X.K = Z.K) (ho : PF Z Ew X o fo) (ha : PAF Z Ew X (e :: es) fa)
    (hbase : attributeBase o name X.env (eval o X.env) = eval o X.env := by rfl)
    (hfew : ((backTo cpos (starEach (e :: es) X.env)).all (fun x => !x.1) && (backToKw cpos (keywordEach [] X.env)).all (fun x => x.1.isSome) && decide ((e :: es).length + ([] : List Keyword).length + (if ([] : List Keyword).isEmpty then 0 else 1) < 30)) = true := by rfl)
    (hline : (apos.endLine == cpos.line) = true := by rfl) (hst : starEach (e :: es) X.env = (false, eval e X.env) :: starEach es X.env := by rfl) (hpl : (backTo cpos (starEach es X.env)).any (·.1) = false := by rfl) :
    PF Z Ew X (.Call (.Attribute o name apos) (e :: es) [] cpos) (fMeth T g fo fa) := by
  obtain ⟨to, h1, h2⟩ := ho.ex
  obtain ⟨ta, h3, h4⟩ := ha.ex
  exact ⟨_, OP.pe_bmK Z.K pa slot hty hm h1 h3 hbase hfew hline hst hpl hK, se_meth h2 h4⟩
theorem pf_meth0 {g : Dv → List Dv → Option Rt} (hm : MtR X id (rM Z g)) (pa : PlainAttrs T) (slot : Slot T name id) (hty : typeOf (.builtin id) = pure (.type "method_descriptor")) (hK : X.K = Z.K) (ho : PF Z Ew X o fo)
    (hbase : attributeBase o name X.env (eval o X.env) = eval o X.env := by rfl) (hline : (apos.endLine == cpos.line) = true := by rfl) :
    PF Z Ew X (.Call (.Attribute o name apos) [] [] cpos) (fMeth T g fo fNil) := by
  obtain ⟨to, h1, h2⟩ := ho.ex
  exact ⟨_, OP.pe_bm0K Z.K pa slot hty hm h1 hbase hline hK, se_meth0 h2⟩
theorem pf_mut {g : List Dv → List Dv → Option (List Dv × Dv)} (hm : MtR X id (rMu Z g)) (slot : Slot "list" name id) (hty : typeOf (.builtin id) = pure (.type "method_descriptor")) (hK : X.K = Z.K) (ho : PF Z Ew X o fo) (ha : PAF Z Ew X (e :: es) fa)
    (hbase : attributeBase o name X.env (eval o X.env) = eval o X.env := by rfl)
    (hfew : ((backTo cpos (starEach (e :: es) X.env)).all (fun x => !x.1) && (backToKw cpos (keywordEach [] X.env)).all (fun x => x.1.isSome) && decide ((e :: es).length + ([] : List Keyword).length + (if ([] : List Keyword).isEmpty then 0 else 1) < 30)) = true := by rfl)
    (hline : (apos.endLine == cpos.line) = true := by rfl) (hst : starEach (e :: es) X.env = (false, eval e X.env) :: starEach es X.env := by rfl) (hpl : (backTo cpos (starEach es X.env)).any (·.1) = false := by rfl) :
    PF Z Ew X (.Call (.Attribute o name apos) (e :: es) [] cpos) (fMut g fo fa) := by
  obtain ⟨to, h1, h2⟩ := ho.ex
  obtain ⟨ta, h3, h4⟩ := ha.ex
  exact ⟨_, OP.pe_bmK Z.K PySem.F.plainAttrs_list slot hty hm h1 h3 hbase hfew hline hst hpl hK, se_mut h2 h4⟩
theorem pf_mut0 {g : List Dv → List Dv → Option (List Dv × Dv)} (hm : MtR X id (rMu Z g)) (slot : Slot "list" name id) (hty : typeOf (.builtin id) = pure (.type "method_descriptor")) (hK : X.K = Z.K) (ho : PF Z Ew X o fo)
    (hbase : attributeBase o name X.env (eval o X.env) = eval o X.env := by rfl) (hline : (apos.endLine == cpos.line) = true := by rfl) :
    PF Z Ew X (.Call (.Attribute o name apos) [] [] cpos) (fMut g fo fNil) := by
  obtain ⟨to, h1, h2⟩ := ho.ex
  exact ⟨_, OP.pe_bm0K Z.K PySem.F.plainAttrs_list slot hty hm h1 hbase hline hK, se_mut0 h2⟩
theorem pf_ext (hm : MtR X id (rEx Z)) (slot : Slot "list" name id) (hty : typeOf (.builtin id) = pure (.type "method_descriptor")) (hK : X.K = Z.K) (ho : PF Z Ew X o fo) (ha : PAF Z Ew X (e :: es) fa)
    (hbase : attributeBase o name X.env (eval o X.env) = eval o X.env := by rfl)
    (hfew : ((backTo cpos (starEach (e :: es) X.env)).all (fun x => !x.1) && (backToKw cpos (keywordEach [] X.env)).all (fun x => x.1.isSome) && decide ((e :: es).length + ([] : List Keyword).length + (if ([] : List Keyword).isEmpty then 0 else 1) < 30)) = true := by rfl)
    (hline : (apos.endLine == cpos.line) = true := by rfl) (hst : starEach (e :: es) X.env = (false, eval e X.env) :: starEach es X.env := by rfl) (hpl : (backTo cpos (starEach es X.env)).any (·.1) = false := by rfl) :
    PF Z Ew X (.Call (.Attribute o name apos) (e :: es) [] cpos) (fExt fo fa) := by
  obtain ⟨to, h1, h2⟩ := ho.ex
  obtain ⟨ta, h3, h4⟩ := ha.ex
  exact ⟨_, OP.pe_bmK Z.K PySem.F.plainAttrs_list slot hty hm h1 h3 hbase hfew hline hst hpl hK, se_ext h2 h4⟩
/-- two readings: which one, the values tell -/
theorem pf_alt {e : Expr} {f1 f2 : FE} (p : Env → Sto → Bool) (h1 : PF Z Ew X e f1) (h2 : PF Z Ew X e f2) : PF Z Ew X e (fun env S => if p env S then f1 env S else f2 env S) := by
  obtain ⟨t1, p1, s1⟩ := h1.ex
  obtain ⟨t2, p2, s2⟩ := h2.ex
  refine ⟨_, OP.pe_alt p1 p2, fun env σ G α S H Q hd oe w => ?_⟩
  cases e : p env S with
  | true => simp only [e, if_true] at w; exact .inl (s1 env σ G α S H Q hd oe w)
  | false => simp only [e] at w; exact .inr (s2 env σ G α S H Q hd oe w)
end
end DN

/-! DnG: what is gone over, targets, list comprehensions. -/
namespace DN
open PySem PySem.Spec PyProof.Rows L2 Evl
/-- the items, and the cell that they are read from (if it is one) -/
abbrev Its := List Dv × Option Nat
abbrev FI := Env → Sto → R Its
def OkI (Z : Zt) (G2 : Hp) (α2 : List Addr) (t : Its) (G' H : Hp) : Prop := Ex G2 G' ∧ Ex G' H ∧ ∀ n, t.2 = some n → ∃ a xs, α2[n]? = some a ∧ H a = some (.lst xs) ∧ OnL Z G' t.1 xs
structure Gz (Z : Zt) (J : It) (G2 : Hp) (α2 : List Addr) (t : Its) : Prop where
  go : ∀ i G' H, i < t.1.length → OkI Z G2 α2 t G' H → J.go i H
  stop : ∀ G' H, OkI Z G2 α2 t G' H → J.stop t.1.length H
  yld : ∀ i G' H x H', i < t.1.length → OkI Z G2 α2 t G' H → J.yld i H x H' → ∃ d, t.1[i]? = some d ∧ ∀ α' S', Hd Z G' α' S' H → ∃ G3, Fr G' α' H G3 α' H' ∧ Hd Z G3 α' S' H' ∧ On Z G3 d x
def pI (Z : Zt) (R' : It → Hp → Prop) : Pst Its := ⟨fun t _ G2 α2 H2 => ∀ J, Gz Z J G2 α2 t → R' J H2, fun _ q => q⟩
def SI (Z : Zt) (Ew : L2.St → XK) (wi : TI) (f : FI) : Prop :=
  ∀ env σ G α S H R', Hd Z G α S H → OnE Z G α env σ → Wk Z (f env S) G α H (pI Z R') (Ew σ) → wi σ H R'
structure PIF (Z : Zt) (Ew : L2.St → XK) (X : Cx) (tg e : Expr) (f : FI) : Prop where
  ex : ∃ wi, PI X tg e wi ∧ SI Z Ew wi f
/-- the items of a value -/
def iterD : Dv → Option (List Dv)
  | .lst l => some l
  | .tup l => some l
  | .ktp l => some l
  | .str s => some (s.cps.toList.map fun c => .str ⟨#[c]⟩)
  | _ => none
def itOf (S : Sto) (a : Vr) : R Its := match a with
  | .d d => match iterD d with
    | some l => .ok S (l, none)
    | none => .no
  | .r n => match S[n]? with
    | some (.lst l) => .ok S (l, some n)
    | _ => .no
def iVal (fa : FE) : FI := fun env S => (fa env S).bindV fun S1 a => itOf S1 a
section
variable {Z : Zt} {X : Cx} {Ew : L2.St → XK} {G H G' H' : Hp} {α : List Addr} {S : Sto} {Q : VK} {E : XK}
/-- nothing new at a turn -/
theorem y_same {d : Dv} {x : V} (o : On Z G' d x) : ∀ α' S', Hd Z G' α' S' H → ∃ G3, Fr G' α' H G3 α' H ∧ Hd Z G3 α' S' H ∧ On Z G3 d x := fun α' S' hd => ⟨G', Fr.refl G' α' H, hd, o⟩
theorem gz_list {K : PySem.W.Frag} {a : Addr} {l : List Dv} {xs : List V} {G2 : Hp} {α2 : List Addr} (h1 : G2 a = some (.lst xs)) (h2 : OnL Z G2 l xs) : Gz Z (Itl K a) G2 α2 (l, none) := by
  have sq : ∀ {G' H}, OkI Z G2 α2 (l, none) G' H → SqL K H a xs := fun ok => SqL.of (ok.2.1 _ _ (ok.1 _ _ h1))
  have w : Walk (Itl K a) xs.length (fun H => SqL K H a xs) (YAt xs) := walk_list
  refine ⟨fun i G' H hi ok => w.goes i H (by rw [h2.len]; exact hi) (sq ok), fun G' H ok => ?_, fun i G' H x H' hi ok y => ?_⟩
  · have := w.stops H (sq ok)
    rw [h2.len] at this
    exact this
  · obtain ⟨rfl, hx⟩ := w.yields i H x H' (by rw [h2.len]; exact hi) (sq ok) y
    obtain ⟨d, e, o⟩ := h2.got hx
    exact ⟨d, e, y_same (o.up ok.1)⟩
theorem gz_cell {K : PySem.W.Frag} {a : Addr} {n : Nat} {l : List Dv} {G2 : Hp} {α2 : List Addr} (h1 : α2[n]? = some a) : Gz Z (Itl K a) G2 α2 (l, some n) := by
  have sq : ∀ {G' H}, OkI Z G2 α2 (l, some n) G' H → ∃ xs, SqL K H a xs ∧ OnL Z G' l xs := fun ok => by
    obtain ⟨b, xs, e, h, o⟩ := ok.2.2 n rfl
    rw [h1] at e
    cases e
    exact ⟨xs, SqL.of h, o⟩
  refine ⟨fun i G' H hi ok => ?_, fun G' H ok => ?_, fun i G' H x H' hi ok y => ?_⟩
  · obtain ⟨xs, h, o⟩ := sq ok
    exact (walk_list : Walk (Itl K a) xs.length (fun H => SqL K H a xs) (YAt xs)).goes i H (by rw [o.len]; exact hi) h
  · obtain ⟨xs, h, o⟩ := sq ok
    have := (walk_list : Walk (Itl K a) xs.length (fun H => SqL K H a xs) (YAt xs)).stops H h
    rw [o.len] at this
    exact this
  · obtain ⟨xs, h, o⟩ := sq ok
    obtain ⟨rfl, hx⟩ := (walk_list : Walk (Itl K a) xs.length (fun H => SqL K H a xs) (YAt xs)).yields i H x H' (by rw [o.len]; exact hi) h y
    obtain ⟨d, e, o2⟩ := o.got hx
    exact ⟨d, e, y_same o2⟩
theorem gz_tup {K : PySem.W.Frag} {a : Addr} {l : List Dv} {xs : List V} {G2 : Hp} {α2 : List Addr} (h1 : ∀ H, Ex G2 H → SqT K H a xs) (h2 : OnL Z G2 l xs) : Gz Z (Itt K a) G2 α2 (l, none) := by
  have sq : ∀ {G' H}, OkI Z G2 α2 (l, none) G' H → SqT K H a xs := fun ok => h1 _ (ok.1.trans ok.2.1)
  have w : Walk (Itt K a) xs.length (fun H => SqT K H a xs) (YAt xs) := walk_tup
  refine ⟨fun i G' H hi ok => w.goes i H (by rw [h2.len]; exact hi) (sq ok), fun G' H ok => ?_, fun i G' H x H' hi ok y => ?_⟩
  · have := w.stops H (sq ok)
    rw [h2.len] at this
    exact this
  · obtain ⟨rfl, hx⟩ := w.yields i H x H' (by rw [h2.len]; exact hi) (sq ok) y
    obtain ⟨d, e, o⟩ := h2.got hx
    exact ⟨d, e, y_same (o.up ok.1)⟩
theorem gz_str {s : Str} {G2 : Hp} {α2 : List Addr} : Gz Z (L2.Its s) G2 α2 (s.cps.toList.map fun c => .str ⟨#[c]⟩, none) := by
  have hl : (s.cps.toList.map fun c => Dv.str ⟨#[c]⟩).length = s.cps.size := by rw [List.length_map, Array.length_toList]
  refine ⟨fun i G' H hi ok => by rw [hl] at hi; exact hi, fun G' H ok => by rw [hl]; exact Nat.le_refl _, fun i G' H x H' hi ok y => ?_⟩
  obtain ⟨rfl, c, hc, rfl⟩ := y
  exact ⟨.str ⟨#[c]⟩, by rw [List.getElem?_map, Array.getElem?_toList, hc]; rfl, y_same on_str⟩
theorem gz_range {lo : Int} {n : Nat} {G2 : Hp} {α2 : List Addr} : Gz Z (Itr lo n) G2 α2 ((List.range n).map fun (i : Nat) => Dv.int (lo + i), none) := by
  have hl : ((List.range n).map fun (i : Nat) => Dv.int (lo + i)).length = n := by rw [List.length_map, List.length_range]
  refine ⟨fun i G' H hi ok => by rw [hl] at hi; exact hi, fun G' H ok => by rw [hl]; exact Nat.le_refl _, fun i G' H x H' hi ok y => ?_⟩
  rw [hl] at hi
  obtain ⟨rfl, rfl⟩ := y
  exact ⟨.int (lo + i), by rw [List.getElem?_map, List.getElem?_range hi]; rfl, y_same on_int⟩
/-- a new pair at a turn -/
theorem y_pair {T : Addr} {x y : V} {c d : Dv} (hT : H T = none) (hx : On Z G' c x) (hy : On Z G' d y) : ∀ α' S', Hd Z G' α' S' H → ∃ G3, Fr G' α' H G3 α' (upd H T (.tup [x, y])) ∧ Hd Z G3 α' S' (upd H T (.tup [x, y])) ∧ On Z G3 (.tup [c, d]) (.ref T) := fun α' S' hd => by
  obtain ⟨h1, h2⟩ := hd.know (o := .tup [x, y]) hT
  refine ⟨_, h2, h1, ?_⟩
  unfold On
  exact ⟨T, _, rfl, upd_same, OnL.cons' (hx.up h2.g) (OnL.cons' (hy.up h2.g) OnL.nil')⟩
/-- which reading a value wants -/
def kindD : Dv → Nat
  | .lst _ => 0
  | .str _ => 2
  | _ => 1
def kindR (r : R Rt) : Nat := match r with
  | .ok _ (.val (.d d)) => kindD d
  | _ => 0
variable {tg e : Expr} {fa : FE} {te : TE}
theorem kind_got {r : R Rt} {S2 : Sto} {d : Dv} (g : Got r S2 (.d d)) (h : kindR r = 0) : kindD d = 0 ∨ ∃ c, frzC c = some d := by
  cases g with
  | val => exact .inl h
  | new S c d h => exact .inr ⟨c, h⟩
theorem got_kind {r : R Rt} {S2 : Sto} {d : Vr} {k : Nat} (g : Got r S2 d) (h : kindR r = k + 1) : ∃ x, d = .d x ∧ kindD x = k + 1 := by
  cases g with
  | val =>
    cases d with
    | r n => cases h
    | d d => exact ⟨d, rfl, h⟩
  | new S c d h' => cases h
theorem pif_val (hK : X.K = Z.K) (h : PF Z Ew X e fa) : PIF Z Ew X tg e (iVal fa) := by
  obtain ⟨te, h1, h2⟩ := h.ex
  refine ⟨_, OP.pi_alt (OP.pi_listK (K := Z.K) h1 hK) (OP.pi_alt (OP.pi_tupK (K := Z.K) h1 hK) (pi_str h1)), fun env σ G α S H R' hd oe w => ?_⟩
  have f0 := Fr.refl G α H
  match hk : kindR (fa env S) with
  | 0 =>
    refine .inl (h2.bind0 f0 hd oe w fun S2 d x H2 G2 α2 g f2 hd2 oe2 ox w2 => ?_)
    cases d with
    | r n =>
      have w2 : Wk Z (match S2[n]? with | some (.lst l) => R.ok S2 (l, some n) | _ => .no) G α H (pI Z R') (Ew σ) := w2
      obtain ⟨a, rfl, ha⟩ := ox
      cases q : S2[n]? with
      | none => rw [q] at w2; exact w2.elim
      | some c =>
        rw [q] at w2
        cases c with
        | lst l =>
          obtain ⟨xs, e1, e2⟩ := (hd2.at_ n a _ ha q).2
          exact ⟨a, rfl, ⟨xs, SqL.of e1⟩, (w2.later f2) H2 G2 α2 (Fr.refl _ _ _) hd2 _ (gz_cell ha)⟩
        | _ => exact w2.elim
    | d d =>
      rcases kind_got g hk with e | ⟨c, e⟩
      · cases d with
        | lst l =>
          have ox : On Z G2 (.lst l) x := ox
          unfold On at ox
          obtain ⟨a, xs, rfl, e1, e2⟩ := ox
          exact ⟨a, rfl, ⟨xs, SqL.of (hd2.ex _ _ e1)⟩, (w2.later f2) H2 G2 α2 (Fr.refl _ _ _) hd2 _ (gz_list e1 e2)⟩
        | _ => cases e
      · cases c with
        | lst l =>
          cases e
          have ox : On Z G2 (.lst l) x := ox
          unfold On at ox
          obtain ⟨a, xs, rfl, e1, e2⟩ := ox
          exact ⟨a, rfl, ⟨xs, SqL.of (hd2.ex _ _ e1)⟩, (w2.later f2) H2 G2 α2 (Fr.refl _ _ _) hd2 _ (gz_list e1 e2)⟩
        | ob c l => cases e; exact w2.elim
        | dc t ks vs => cases e; exact w2.elim
        | dead => cases e
  | 1 =>
    refine .inr (.inl (h2.bind0 f0 hd oe w fun S2 d x H2 G2 α2 g f2 hd2 oe2 ox w2 => ?_))
    obtain ⟨d, rfl, hk⟩ := got_kind g hk
    · · cases d with
        | tup l =>
          have ox : On Z G2 (.tup l) x := ox
          unfold On at ox
          obtain ⟨a, xs, rfl, e1, e2⟩ := ox
          exact ⟨a, rfl, ⟨xs, SqT.of (hd2.ex _ _ e1)⟩, (w2.later f2) H2 G2 α2 (Fr.refl _ _ _) hd2 _ (gz_tup (fun H e => SqT.of (e _ _ e1)) e2)⟩
        | ktp l =>
          have ox : On Z G2 (.ktp l) x := ox
          unfold On at ox
          obtain ⟨a, xs, rfl, e1, e2⟩ := ox
          exact ⟨a, rfl, ⟨xs, ex_t ex_nil e1⟩, (w2.later f2) H2 G2 α2 (Fr.refl _ _ _) hd2 _ (gz_tup (fun H e => ex_t ex_nil e1) e2)⟩
        | lst l => cases hk
        | str l => cases hk
        | _ => exact w2.elim
  | n + 2 =>
    refine .inr (.inr (h2.bind0 f0 hd oe w fun S2 d x H2 G2 α2 g f2 hd2 oe2 ox w2 => ?_))
    obtain ⟨d, rfl, hk⟩ := got_kind g hk
    · · cases d with
        | str l =>
          have ox : On Z G2 (.str l) x := ox
          unfold On at ox
          exact ⟨l, ox, (w2.later f2) H2 G2 α2 (Fr.refl _ _ _) hd2 _ gz_str⟩
        | _ => cases hk
/-! ### range, enumerate, zip -/
def smallR (i : Int) : Bool := decide (-1000000 ≤ i) && decide (i ≤ 1000000)
def rangeD (lo hi : Int) : List Dv := (List.range (hi - lo).toNat).map fun (i : Nat) => Dv.int (lo + i)
def vi (a : Vr) : Option Int := match a with
  | .d (.int j) => some j
  | _ => none
def vi1 (l : List Vr) : Option Int := match l with
  | [a] => vi a
  | _ => none
def vi2 (l : List Vr) : Option (Int × Int) := match l with
  | [a, b] => match vi a, vi b with
    | some i, some j => some (i, j)
    | _, _ => none
  | _ => none
def rng1 (S : Sto) (o : Option Int) : R Its := match o with
  | some j => if smallR j then .ok S (rangeD 0 j, none) else .no
  | none => .no
def rng2 (S : Sto) (o : Option (Int × Int)) : R Its := match o with
  | some p => if smallR p.1 && smallR p.2 then .ok S (rangeD p.1 p.2, none) else .no
  | none => .no
def iRange1 (fa : FA) : FI := fun env S => (fa env S).bind fun S1 l => rng1 S1 (vi1 l)
def iRange2 (fa : FA) : FI := fun env S => (fa env S).bind fun S1 l => rng2 S1 (vi2 l)
theorem vi_on {a : Vr} {i : Int} {x : V} (e : vi a = some i) (h : OnR Z G α a x) : x = .int i := by
  cases a with
  | r n => cases e
  | d d =>
    cases d with
    | int j =>
      cases e
      have h : On Z G (.int i) x := h
      unfold On at h
      exact h
    | _ => cases e
theorem vi1_on {l : List Vr} {i : Int} {vs : List V} (e : vi1 l = some i) (h : OnA Z G α l vs) : vs = [.int i] := by
  cases l with
  | nil => cases e
  | cons a r =>
    cases r with
    | nil =>
      obtain ⟨y, ys, rfl, o1, o2⟩ := h
      cases (show ys = [] from o2)
      rw [vi_on e o1]
    | cons b r => cases e
theorem vi2_on {l : List Vr} {i j : Int} {vs : List V} (e : vi2 l = some (i, j)) (h : OnA Z G α l vs) : vs = [.int i, .int j] := by
  cases l with
  | nil => cases e
  | cons a r =>
    cases r with
    | nil => cases e
    | cons b r =>
      cases r with
      | nil =>
        obtain ⟨y, ys, rfl, o1, z, zs, rfl, o2, o3⟩ := h
        cases (show zs = [] from o3)
        have e' : (match vi a, vi b with | some i, some j => some (i, j) | _, _ => none) = some (i, j) := e
        cases q1 : vi a with
        | none => rw [q1] at e'; cases e'
        | some u =>
          cases q2 : vi b with
          | none => rw [q1, q2] at e'; cases e'
          | some v =>
            rw [q1, q2] at e'
            cases e'
            rw [vi_on q1 o1, vi_on q2 o2]
      | cons c r => cases e
theorem smallR_ok {i : Int} (h : smallR i = true) : -1000000 ≤ i ∧ i ≤ 1000000 := by
  obtain ⟨h1, h2⟩ := and2 h
  exact ⟨of_decide_eq_true h1, of_decide_eq_true h2⟩
variable {a b : Expr} {fl : FA} {p pos : Pos}
theorem pif_range1 (hg : Gl X "range") (hm : X.mg "range" = none) (ha : PAF Z Ew X [a] fl) (hs : starEach [a] X.env = [(false, eval a X.env)] := by rfl) : PIF Z Ew X tg (.Call (.Name "range" p) [a] [] pos) (iRange1 fl) := by
  obtain ⟨ta, h1, h2⟩ := ha.ex
  refine ⟨_, pi_range1 hg hm h1 hs, fun env σ G α S H R' hd oe w => h2.bind hd oe w fun S2 l vs H2 G2 α2 f2 hd2 oe2 ol w2 => ?_⟩
  cases q : vi1 l with
  | none => rw [q] at w2; exact w2.elim
  | some j =>
    rw [q] at w2
    have w2 : Wk Z (if smallR j then R.ok S2 (rangeD 0 j, none) else .no) G2 α2 H2 (pI Z R') (Ew σ) := w2
    cases c : smallR j with
    | false => rw [c] at w2; exact w2.elim
    | true =>
      rw [c] at w2
      obtain ⟨b1, b2⟩ := smallR_ok c
      refine ⟨j, vi1_on q ol, by omega, by omega, w2 H2 G2 α2 (Fr.refl _ _ _) hd2 _ ?_⟩
      have := gz_range (Z := Z) (lo := 0) (n := j.toNat) (G2 := G2) (α2 := α2)
      unfold rangeD
      rw [Int.sub_zero]
      exact this
theorem pif_range2 (hg : Gl X "range") (hm : X.mg "range" = none) (ha : PAF Z Ew X [a, b] fl) (hs : starEach [a, b] X.env = [(false, eval a X.env), (false, eval b X.env)] := by rfl) (hs2 : starEach [b] X.env = [(false, eval b X.env)] := by rfl) :
    PIF Z Ew X tg (.Call (.Name "range" p) [a, b] [] pos) (iRange2 fl) := by
  obtain ⟨ta, h1, h2⟩ := ha.ex
  refine ⟨_, pi_range2 hg hm h1 hs hs2, fun env σ G α S H R' hd oe w => h2.bind hd oe w fun S2 l vs H2 G2 α2 f2 hd2 oe2 ol w2 => ?_⟩
  cases q : vi2 l with
  | none => rw [q] at w2; exact w2.elim
  | some ij =>
    obtain ⟨i, j⟩ := ij
    rw [q] at w2
    have w2 : Wk Z (if smallR i && smallR j then R.ok S2 (rangeD i j, none) else .no) G2 α2 H2 (pI Z R') (Ew σ) := w2
    cases c : smallR i && smallR j with
    | false => rw [c] at w2; exact w2.elim
    | true =>
      rw [c] at w2
      obtain ⟨c1, c2⟩ := and2 c
      obtain ⟨b1, b2⟩ := smallR_ok c1
      obtain ⟨b3, b4⟩ := smallR_ok c2
      exact ⟨i, j, vi2_on q ol, by omega, w2 H2 G2 α2 (Fr.refl _ _ _) hd2 _ gz_range⟩
/-- enumerate(a list or a text) -/
def enumD (l : List Dv) : List Dv := l.zipIdx.map fun p => .tup [.int p.2, p.1]
def itEnum (S : Sto) (a : Vr) : R Its := match a with
  | .d (.lst l) => .ok S (enumD l, none)
  | .d (.str s) => .ok S (enumD (s.cps.toList.map fun c => .str ⟨#[c]⟩), none)
  | _ => .no
def iEnumD (fa : FE) : FI := fun env S => (fa env S).bindV fun S1 a => itEnum S1 a
theorem enum_at {l : List Dv} {i : Nat} {d : Dv} (h : l[i]? = some d) : (enumD l)[i]? = some (.tup [.int i, d]) := by
  unfold enumD
  rw [List.getElem?_map, List.getElem?_zipIdx, h]
  simp
theorem enum_len (l : List Dv) : (enumD l).length = l.length := by unfold enumD; rw [List.length_map, List.length_zipIdx]
theorem gz_enum {K : PySem.W.Frag} {a : Addr} {l : List Dv} {xs : List V} {G2 : Hp} {α2 : List Addr} (h1 : G2 a = some (.lst xs)) (h2 : OnL Z G2 l xs) : Gz Z (Ite K a) G2 α2 (enumD l, none) := by
  have sq : ∀ {G' H}, OkI Z G2 α2 (enumD l, none) G' H → SqL K H a xs := fun ok => SqL.of (ok.2.1 _ _ (ok.1 _ _ h1))
  have w : Walk (Ite K a) xs.length (fun H => SqL K H a xs) (YPair (fun i => some (.int (i : Nat))) (fun i => xs[i]?)) := walk_enum
  refine ⟨fun i G' H hi ok => w.goes i H (by rw [h2.len]; rw [enum_len] at hi; exact hi) (sq ok), fun G' H ok => ?_, fun i G' H x H' hi ok y => ?_⟩
  · have := w.stops H (sq ok)
    rw [h2.len] at this
    rw [enum_len]
    exact this
  · rw [enum_len] at hi
    obtain ⟨T, x', y', rfl, hT, rfl, h3, h4⟩ := w.yields i H x H' (by rw [h2.len]; exact hi) (sq ok) y
    cases h3
    obtain ⟨d, e, o⟩ := h2.got h4
    exact ⟨_, enum_at e, y_pair hT on_int (o.up ok.1)⟩
theorem gz_enumS {s : Str} {G2 : Hp} {α2 : List Addr} : Gz Z (OP.Ites s) G2 α2 (enumD (s.cps.toList.map fun c => .str ⟨#[c]⟩), none) := by
  have hl : (enumD (s.cps.toList.map fun c => Dv.str ⟨#[c]⟩)).length = s.cps.size := by rw [enum_len, List.length_map, Array.length_toList]
  refine ⟨fun i G' H hi ok => by rw [hl] at hi; exact hi, fun G' H ok => by rw [hl]; rfl, fun i G' H x H' hi ok y => ?_⟩
  obtain ⟨T, c, rfl, hT, rfl, hc⟩ := y
  exact ⟨_, enum_at (d := .str ⟨#[c]⟩) (by rw [List.getElem?_map, Array.getElem?_toList, hc]; rfl), y_pair hT on_int on_str⟩
variable {elts : List Expr} {kk : Nat} {tpos : Pos}
theorem pi_enumD (hK : X.K = Z.K) (hg : Gl X "enumerate") (hm : X.mg "enumerate" = none) (h : PF Z Ew X a fa) (hs : starEach [a] X.env = [(false, eval a X.env)] := by rfl) : PIF Z Ew X (.Tuple elts kk tpos) (.Call (.Name "enumerate" p) [a] [] pos) (iEnumD fa) := by
  obtain ⟨te, h1, h2⟩ := h.ex
  refine ⟨_, OP.pi_alt (pi_enum hg hm (pa_cons h1 pa_nil hs) hs) (OP.pi_enumS hg hm h1 hs), fun env σ G α S H R' hd oe w => ?_⟩
  have f0 := Fr.refl G α H
  match hk : kindR (fa env S) with
  | 0 =>
    refine .inl (h2.bind0 f0 hd oe w fun S2 d x H2 G2 α2 g f2 hd2 oe2 ox w2 => ?_)
    cases d with
    | r n => exact w2.elim
    | d d =>
      cases d with
      | lst l =>
        have ox : On Z G2 (.lst l) x := ox
        unfold On at ox
        obtain ⟨a, xs, rfl, e1, e2⟩ := ox
        exact ⟨a, xs, rfl, SqL.of (hd2.ex _ _ e1), (w2.later f2) H2 G2 α2 (Fr.refl _ _ _) hd2 _ (gz_enum e1 e2)⟩
      | str s =>
        rcases kind_got g hk with e | ⟨c, e⟩
        · cases e
        · cases c <;> cases e
      | _ => exact w2.elim
  | n + 1 =>
    refine .inr (h2.bind0 f0 hd oe w fun S2 d x H2 G2 α2 g f2 hd2 oe2 ox w2 => ?_)
    obtain ⟨d, rfl, hk⟩ := got_kind g hk
    cases d with
    | str l =>
      have ox : On Z G2 (.str l) x := ox
      unfold On at ox
      exact ⟨l, ox, (w2.later f2) H2 G2 α2 (Fr.refl _ _ _) hd2 _ gz_enumS⟩
    | lst l => cases hk
    | _ => exact w2.elim
/-- zip of two lists, of two tuples -/
def zipD (l m : List Dv) : List Dv := (l.zip m).map fun p => .tup [p.1, p.2]
def itZip (S : Sto) (l : List Vr) : R Its := match l with
  | [.d (.lst a), .d (.lst b)] => .ok S (zipD a b, none)
  | [.d (.tup a), .d (.tup b)] => .ok S (zipD a b, none)
  | _ => .no
def iZipD (fa : FA) : FI := fun env S => (fa env S).bind fun S1 l => itZip S1 l
theorem zip_len (l m : List Dv) : (zipD l m).length = min l.length m.length := by unfold zipD; rw [List.length_map, List.length_zip]
theorem zip_at {l m : List Dv} {i : Nat} {c d : Dv} (h : l[i]? = some c) (h2 : m[i]? = some d) : (zipD l m)[i]? = some (.tup [c, d]) := by
  unfold zipD
  rw [List.getElem?_map, (List.getElem?_zip_eq_some (z := (c, d))).mpr ⟨h, h2⟩]
  rfl
theorem gz_zip {K : PySem.W.Frag} {a b : Addr} {l m : List Dv} {xs ys : List V} {G2 : Hp} {α2 : List Addr} (h1 : G2 a = some (.lst xs)) (h2 : OnL Z G2 l xs) (h3 : G2 b = some (.lst ys)) (h4 : OnL Z G2 m ys) : Gz Z (Itz K a b) G2 α2 (zipD l m, none) := by
  have sq : ∀ {G' H}, OkI Z G2 α2 (zipD l m, none) G' H → SqL K H a xs ∧ SqL K H b ys := fun ok => ⟨SqL.of (ok.2.1 _ _ (ok.1 _ _ h1)), SqL.of (ok.2.1 _ _ (ok.1 _ _ h3))⟩
  have hn : (zipD l m).length = min xs.length ys.length := by rw [zip_len, h2.len, h4.len]
  have w : Walk (Itz K a b) (zipD l m).length (fun H => SqL K H a xs ∧ SqL K H b ys) (YPair (fun i => xs[i]?) (fun i => ys[i]?)) := walk_zip hn
  refine ⟨fun i G' H hi ok => w.goes i H hi (sq ok), fun G' H ok => w.stops H (sq ok), fun i G' H x H' hi ok y => ?_⟩
  obtain ⟨T, x', y', rfl, hT, rfl, e1, e2⟩ := w.yields i H x H' hi (sq ok) y
  obtain ⟨c, e3, o3⟩ := h2.got e1
  obtain ⟨d, e4, o4⟩ := h4.got e2
  exact ⟨_, zip_at e3 e4, y_pair hT (o3.up ok.1) (o4.up ok.1)⟩
theorem gz_zipT {K : PySem.W.Frag} {a b : Addr} {l m : List Dv} {xs ys : List V} {G2 : Hp} {α2 : List Addr} (h1 : G2 a = some (.tup xs)) (h2 : OnL Z G2 l xs) (h3 : G2 b = some (.tup ys)) (h4 : OnL Z G2 m ys) : Gz Z (RZ.ItzT K a b) G2 α2 (zipD l m, none) := by
  have sq : ∀ {G' H}, OkI Z G2 α2 (zipD l m, none) G' H → SqT K H a xs ∧ SqT K H b ys := fun ok => ⟨SqT.of (ok.2.1 _ _ (ok.1 _ _ h1)), SqT.of (ok.2.1 _ _ (ok.1 _ _ h3))⟩
  have hn : (zipD l m).length = min xs.length ys.length := by rw [zip_len, h2.len, h4.len]
  refine ⟨fun i G' H hi ok => ?_, fun G' H ok => ?_, fun i G' H x H' hi ok y => ?_⟩
  · obtain ⟨s1, s2⟩ := sq ok
    have hi : i < (zipD l m).length := hi
    have g1 : i < xs.length := by omega
    have g2 : i < ys.length := by omega
    exact ⟨xs, ys, xs[i], ys[i], s1, s2, List.getElem?_eq_getElem g1, List.getElem?_eq_getElem g2⟩
  · obtain ⟨s1, s2⟩ := sq ok
    exact ⟨xs, ys, s1, s2, by show xs.length ≤ (zipD l m).length ∨ ys.length ≤ (zipD l m).length; omega⟩
  · obtain ⟨s1, s2⟩ := sq ok
    obtain ⟨T, x', y', rfl, hT, rfl, e1, e2⟩ := y
    obtain ⟨c, e3, o3⟩ := h2.got (e1 xs s1)
    obtain ⟨d, e4, o4⟩ := h4.got (e2 ys s2)
    exact ⟨_, zip_at e3 e4, y_pair hT (o3.up ok.1) (o4.up ok.1)⟩
theorem zip_cases {l : List Vr} {P : Pst Its} {E : XK} (w : Wk Z (itZip S l) G α H P E) : ∃ a b, (l = [.d (.lst a), .d (.lst b)] ∨ l = [.d (.tup a), .d (.tup b)]) ∧ Wk Z (.ok S (zipD a b, none)) G α H P E := by
  unfold itZip at w
  split at w
  · exact ⟨_, _, .inl rfl, w⟩
  · exact ⟨_, _, .inr rfl, w⟩
  · exact w.elim
theorem pif_zip (hK : X.K = Z.K) (hg : Gl X "zip") (hm : X.mg "zip" = none) (ha : PAF Z Ew X [a, b] fl)
    (hs : starEach [a, b] X.env = (false, eval a X.env) :: starEach [b] X.env := by rfl) (hpl : (backTo pos (starEach [b] X.env)).any (·.1) = false := by rfl) : PIF Z Ew X (.Tuple elts kk tpos) (.Call (.Name "zip" p) [a, b] [] pos) (iZipD fl) := by
  obtain ⟨ta, h1, h2⟩ := ha.ex
  refine ⟨_, RZ.pi_zipA hg hm h1 hs hpl, fun env σ G α S H R' hd oe w => h2.bind hd oe w fun S2 l vs H2 G2 α2 f2 hd2 oe2 ol w2 => ?_⟩
  obtain ⟨c, d, e, w3⟩ := zip_cases w2
  rcases e with rfl | rfl
  · obtain ⟨y, ys, rfl, o1, z, zs, rfl, o2, o3⟩ := ol
    cases (show zs = [] from o3)
    have o1 : On Z G2 (.lst c) y := o1
    have o2 : On Z G2 (.lst d) z := o2
    unfold On at o1 o2
    obtain ⟨a1, xs, rfl, e1, e2⟩ := o1
    obtain ⟨a2, ys, rfl, e3, e4⟩ := o2
    exact ⟨a1, a2, xs, ys, rfl, .inl ⟨SqL.of (hd2.ex _ _ e1), SqL.of (hd2.ex _ _ e3), w3 H2 G2 α2 (Fr.refl _ _ _) hd2 _ (gz_zip e1 e2 e3 e4)⟩⟩
  · obtain ⟨y, ys, rfl, o1, z, zs, rfl, o2, o3⟩ := ol
    cases (show zs = [] from o3)
    have o1 : On Z G2 (.tup c) y := o1
    have o2 : On Z G2 (.tup d) z := o2
    unfold On at o1 o2
    obtain ⟨a1, xs, rfl, e1, e2⟩ := o1
    obtain ⟨a2, ys, rfl, e3, e4⟩ := o2
    exact ⟨a1, a2, xs, ys, rfl, .inr ⟨SqT.of (hd2.ex _ _ e1), SqT.of (hd2.ex _ _ e3), w3 H2 G2 α2 (Fr.refl _ _ _) hd2 _ (gz_zipT e1 e2 e3 e4)⟩⟩
/-- enumerate(zip(text, text)) of one length -/
def itEz (S : Sto) (l : List Vr) : R Its := match l with
  | [.d (.str a), .d (.str b)] => if a.cps.size = b.cps.size then .ok S (enumD (zipD (a.cps.toList.map fun c => .str ⟨#[c]⟩) (b.cps.toList.map fun c => .str ⟨#[c]⟩)), none) else .no
  | _ => .no
def iEz (fa : FA) : FI := fun env S => (fa env S).bind fun S1 l => itEz S1 l
theorem gz_ez {s t : Str} {G2 : Hp} {α2 : List Addr} (hl : s.cps.size = t.cps.size) : Gz Z (OP.Itez s t) G2 α2 (enumD (zipD (s.cps.toList.map fun c => .str ⟨#[c]⟩) (t.cps.toList.map fun c => .str ⟨#[c]⟩)), none) := by
  have hl2 : (enumD (zipD (s.cps.toList.map fun c => Dv.str ⟨#[c]⟩) (t.cps.toList.map fun c => .str ⟨#[c]⟩))).length = s.cps.size := by rw [enum_len, zip_len, List.length_map, Array.length_toList, List.length_map, Array.length_toList, hl, Nat.min_self]
  refine ⟨fun i G' H hi ok => by rw [hl2] at hi; exact hi, fun G' H ok => by rw [hl2]; rfl, fun i G' H x H' hi ok y => ?_⟩
  obtain ⟨T, U, c, d, rfl, hT, hU, hn, rfl, h1, h2⟩ := y
  refine ⟨_, enum_at (zip_at (c := .str ⟨#[c]⟩) (d := .str ⟨#[d]⟩) (by rw [List.getElem?_map, Array.getElem?_toList, h1]; rfl) (by rw [List.getElem?_map, Array.getElem?_toList, h2]; rfl)), fun α' S' hd => ?_⟩
  obtain ⟨G3, g1, g2, g3⟩ := y_pair (Z := Z) (G' := G') (c := .str ⟨#[c]⟩) (d := .str ⟨#[d]⟩) hT on_str on_str α' S' hd
  obtain ⟨G4, g4, g5, g6⟩ := y_pair (Z := Z) (G' := G3) (T := U) (x := .int (i : Nat)) (c := .int (i : Nat)) (by rw [upd_ne hn]; exact hU) on_int g3 α' S' g2
  exact ⟨G4, g1.trans g4, g5, g6⟩
theorem ez_cases {l : List Vr} {P : Pst Its} {E : XK} (w : Wk Z (itEz S l) G α H P E) : ∃ a b : Str, l = [.d (.str a), .d (.str b)] ∧ a.cps.size = b.cps.size ∧ Wk Z (.ok S (enumD (zipD (a.cps.toList.map fun c => .str ⟨#[c]⟩) (b.cps.toList.map fun c => .str ⟨#[c]⟩)), none)) G α H P E := by
  unfold itEz at w
  split at w
  · rename_i a b
    by_cases c : a.cps.size = b.cps.size
    · rw [if_pos c] at w; exact ⟨a, b, rfl, c, w⟩
    · rw [if_neg c] at w; exact w.elim
  · exact w.elim
theorem pif_ez {p2 pos2 : Pos} (hg : Gl X "enumerate") (hm : X.mg "enumerate" = none) (hg2 : Gl X "zip") (hm2 : X.mg "zip" = none) (ha : PAF Z Ew X [a, b] fl)
    (hs : starEach [.Call (.Name "zip" p2) [a, b] [] pos2] X.env = [(false, eval (.Call (.Name "zip" p2) [a, b] [] pos2) X.env)] := by rfl)
    (hs2 : starEach [a, b] X.env = (false, eval a X.env) :: starEach [b] X.env := by rfl) (hpl : (backTo pos2 (starEach [b] X.env)).any (·.1) = false := by rfl) :
    PIF Z Ew X (.Tuple elts kk tpos) (.Call (.Name "enumerate" p) [.Call (.Name "zip" p2) [a, b] [] pos2] [] pos) (iEz fl) := by
  obtain ⟨ta, h1, h2⟩ := ha.ex
  refine ⟨_, OP.pi_ez hg hm hg2 hm2 h1 hs hs2 hpl, fun env σ G α S H R' hd oe w => h2.bind hd oe w fun S2 l vs H2 G2 α2 f2 hd2 oe2 ol w2 => ?_⟩
  obtain ⟨c, d, rfl, hl, w3⟩ := ez_cases w2
  obtain ⟨y, ys, rfl, o1, z, zs, rfl, o2, o3⟩ := ol
  cases (show zs = [] from o3)
  have o1 : On Z G2 (.str c) y := o1
  have o2 : On Z G2 (.str d) z := o2
  unfold On at o1 o2
  subst o1 o2
  exact ⟨c, d, rfl, hl, w3 H2 G2 α2 (Fr.refl _ _ _) hd2 _ (gz_ez hl)⟩
end
end DN

/-! DnH: targets, list comprehensions. -/
namespace DN
open PySem PySem.Spec PyProof.Rows L2 Evl
/-! ### what a denotation asks, as a reading -/
def tF (Z : Zt) (Ew : L2.St → XK) (f : FE) : TE := fun σ H Q => ∃ env G α S, Hd Z G α S H ∧ OnE Z G α env σ ∧ Wk Z (f env S) G α H (pRt Z Q) (Ew σ)
def tFT (Z : Zt) (Ew : L2.St → XK) (f : FT) : TT := fun σ H Q => ∃ env G α S, Hd Z G α S H ∧ OnE Z G α env σ ∧ Wk Z (f env S) G α H (pB Q) (Ew σ)
def tFI (Z : Zt) (Ew : L2.St → XK) (f : FI) : TI := fun σ H R' => ∃ env G α S, Hd Z G α S H ∧ OnE Z G α env σ ∧ Wk Z (f env S) G α H (pI Z R') (Ew σ)
section
variable {Z : Zt} {Ew : L2.St → XK} {X : Cx} {e tg : Expr}
theorem PF.pe {f : FE} (h : PF Z Ew X e f) : PE X e (tF Z Ew f) := by
  obtain ⟨te, h1, h2⟩ := h.ex
  refine ⟨fun pins s σ H Q I ht => ?_⟩
  obtain ⟨env, G, α, S, hd, oe, w⟩ := ht
  exact h1.run pins s σ H Q I (h2 env σ G α S H Q hd oe w)
theorem PTF.pt {f : FT} (h : PTF Z Ew X e f) : PT X e (tFT Z Ew f) := by
  obtain ⟨te, h1, h2⟩ := h.ex
  refine ⟨fun pins s σ H Q I ht => ?_⟩
  obtain ⟨env, G, α, S, hd, oe, w⟩ := ht
  exact h1.run pins s σ H Q I (h2 env σ G α S H Q hd oe w)
theorem PIF.pi {f : FI} (h : PIF Z Ew X tg e f) : PI X tg e (tFI Z Ew f) := by
  obtain ⟨te, h1, h2⟩ := h.ex
  refine ⟨fun pins s σ H Q I ht => ?_⟩
  obtain ⟨env, G, α, S, hd, oe, w⟩ := ht
  exact h1.run pins s σ H Q I (h2 env σ G α S H Q hd oe w)
theorem se_tF {f : FE} : SE Z Ew (tF Z Ew f) f := fun env σ G α S H Q hd oe w => ⟨env, G, α, S, hd, oe, w⟩
theorem st_tF {f : FT} : ST Z Ew (tFT Z Ew f) f := fun env σ G α S H Q hd oe w => ⟨env, G, α, S, hd, oe, w⟩
theorem si_tF {f : FI} : SI Z Ew (tFI Z Ew f) f := fun env σ G α S H Q hd oe w => ⟨env, G, α, S, hd, oe, w⟩
end
/-! ### targets -/
abbrev FG := Dv → Env → Option Env
abbrev FGs := List Dv → Env → Option Env
def tgN (i : Nat) : FG := fun d env => some (env.set i (.v (.d d)))
def tgNil : FGs := fun l env => match l with
  | [] => some env
  | _ => none
def tgCons (f : FG) (fs : FGs) : FGs := fun l env => match l with
  | d :: r => match f d env with
    | some env' => fs r env'
    | none => none
  | [] => none
def tgT (fs : FGs) : FG := fun d env => match d with
  | .tup l => fs l env
  | _ => none
def Wp1 (sl : List Nat) (σ σ' : L2.St) : Prop := ∀ vs : List Nat, (∀ i ∈ sl, i ∈ vs) → wipe σ' vs = wipe σ vs
def tG (Z : Zt) (f : FG) (sl : List Nat) : TG := fun v σ H Q => ∃ env G α S d env', Hd Z G α S H ∧ OnE Z G α env σ ∧ On Z G d v ∧ f d env = some env' ∧ ∀ σ', OnE Z G α env' σ' → Wp1 sl σ σ' → Q σ' H
def tGs (Z : Zt) (f : FGs) (sl : List Nat) : TGs := fun vs σ H Q => ∃ env G α S l env', Hd Z G α S H ∧ OnE Z G α env σ ∧ OnL Z G l vs ∧ f l env = some env' ∧ ∀ σ', OnE Z G α env' σ' → Wp1 sl σ σ' → Q σ' H
structure PGF (Z : Zt) (X : Cx) (tg : Expr) (f : FG) (sl : List Nat) : Prop where
  pg : PG X tg (tG Z f sl)
structure PGFs (Z : Zt) (X : Cx) (n : Nat) (ts : List Expr) (f : FGs) (sl : List Nat) : Prop where
  pg : PGs X ts (tGs Z f sl)
  len : ∀ l env env', f l env = some env' → l.length = n
section
variable {Z : Zt} {X : Cx} {pos : Pos}
theorem wipe_set {σ : L2.St} {i : Nat} {x : Option V} : ∀ {vs : List Nat}, i ∈ vs → wipe (σ.set i x) vs = wipe σ vs
  | [], h => nomatch h
  | j :: vs, h => by
    show (wipe (σ.set i x) vs).set j none = (wipe σ vs).set j none
    by_cases q : i ∈ vs
    · rw [wipe_set q]
    · have e : i = j := by
        rcases List.mem_cons.mp h with e | e
        · exact e
        · exact absurd e q
      subst e
      clear h
      have aux : ∀ (σ : L2.St) (vs : List Nat), i ∉ vs → wipe (σ.set i x) vs = (wipe σ vs).set i x := fun σ vs => by
        induction vs generalizing σ with
        | nil => intro _; rfl
        | cons k r ih =>
          intro h
          have hk : i ≠ k := fun e => h (e ▸ List.mem_cons_self)
          have hr : i ∉ r := fun e => h (List.mem_cons_of_mem _ e)
          show (wipe (σ.set i x) r).set k none = ((wipe σ r).set k none).set i x
          rw [ih σ hr, List.set_comm _ _ hk]
      rw [aux σ vs q, List.set_set]
theorem Wp1.refl (sl : List Nat) (σ : L2.St) : Wp1 sl σ σ := fun _ _ => rfl
theorem Wp1.trans {sl sl' : List Nat} {σ σ' σ'' : L2.St} (a : Wp1 sl σ σ') (b : Wp1 sl' σ' σ'') : Wp1 (sl ++ sl') σ σ'' := fun vs h => (b vs fun i hi => h i (List.mem_append_right _ hi)).trans (a vs fun i hi => h i (List.mem_append_left _ hi))
theorem pgf_name (i : Nat) {x : Str} (hN : X.N.Nodup) (hi : X.N[i]? = some x) (hx : Loc X.env.scope x) (hf : X.fn x = true ∨ X.env.scope.names.lookup x = some .local := by first | exact .inl rfl | exact .inr rfl | assumption) : PGF Z X (.Name x pos) (tgN i) [i] := by
  refine ⟨⟨fun pins s σ H v u Q I r h => ?_⟩⟩
  obtain ⟨env, G, α, S, d, env', hd, oe, ov, e, k⟩ := h
  cases e
  exact (pg_name hN hi hx hf).run pins s σ H v u Q I r (k _ (oe.set i ov) fun vs hv => wipe_set (hv i (by simp)))
theorem pgfs_nil : PGFs Z X 0 [] tgNil [] := by
  refine ⟨⟨fun pins s σ H vs us Q I r h => ?_⟩, fun l env env' e => ?_⟩
  · obtain ⟨env, G, α, S, l, env', hd, oe, ol, e, k⟩ := h
    cases l with
    | nil =>
      cases e
      exact pgs_nil.run pins s σ H vs us Q I r ⟨OnL.nil.mp ol, k _ oe (Wp1.refl _ _)⟩
    | cons a b => cases e
  · cases l with
    | nil => rfl
    | cons a b => cases e
theorem pgfs_cons {e : Expr} {es : List Expr} {f : FG} {fs : FGs} {sl sl' : List Nat} {n : Nat} (h1 : PGF Z X e f sl) (h2 : PGFs Z X n es fs sl')
    (hs : (assignEach (e :: es) X.env).map (·.2) = assign e X.env :: (assignEach es X.env).map (·.2) := by rfl) : PGFs Z X (n + 1) (e :: es) (tgCons f fs) (sl ++ sl') := by
  refine ⟨⟨fun pins s σ H vs us Q I r h => ?_⟩, fun l env env' e => ?_⟩
  · obtain ⟨env, G, α, S, l, env', hd, oe, ol, q, k⟩ := h
    cases l with
    | nil => cases q
    | cons d l =>
      obtain ⟨y, ys, rfl, o1, o2⟩ := OnL.cons.mp ol
      have q' : (match f d env with | some env' => fs l env' | none => none) = some env' := q
      cases q2 : f d env with
      | none => rw [q2] at q'; cases q'
      | some env1 =>
        rw [q2] at q'
        refine (pgs_cons h1.pg h2.pg hs).run pins s σ H _ us Q I r ⟨y, ys, rfl, env, G, α, S, d, env1, hd, oe, o1, q2, fun σ' oe' wp => ⟨env1, G, α, S, l, env', hd, oe', o2, q', fun σ2 oe2 wp2 => k σ2 oe2 (wp.trans wp2)⟩⟩
  · cases l with
    | nil => cases e
    | cons d l =>
      have q' : (match f d env with | some env' => fs l env' | none => none) = some env' := e
      cases q2 : f d env with
      | none => rw [q2] at q'; cases q'
      | some env1 => rw [q2] at q'; rw [List.length_cons, h2.len _ _ _ q']
theorem pgf_tup {es : List Expr} {k : Nat} {fs : FGs} {sl : List Nat} {n : Nat} (hK : X.K = Z.K) (hc : X.calm = true) (h : PGFs Z X n es fs sl)
    (hn : (assignEach es X.env).length = n := by rfl) (hst : (assignEach es X.env).findIdx? (·.1) = none := by rfl) : PGF Z X (.Tuple es k pos) (tgT fs) sl := by
  refine ⟨⟨fun pins s σ H v u Q I r h' => ?_⟩⟩
  obtain ⟨env, G, α, S, d, env', hd, oe, ov, e, kk⟩ := h'
  cases d with
  | tup l =>
    unfold On at ov
    obtain ⟨a, xs, rfl, o1, o2⟩ := ov
    exact (pg_tup hc h.pg hn hst).run pins s σ H _ u Q I r ⟨a, xs, rfl, SqT.of (hd.ex _ _ o1), by rw [o2.len]; exact h.len _ _ _ e, env, G, α, S, l, env', hd, oe, o2, e, kk⟩
  | _ => cases e
end
/-! ### the same value -/
mutual
def beqD : Dv → Dv → Bool
  | .non, .non => true
  | .bl a, .bl b => a == b
  | .int a, .int b => a == b
  | .str a, .str b => a == b
  | .ty a, .ty b => a == b
  | .cls a, .cls b => a == b
  | .lst a, .lst b => beqDs a b
  | .tup a, .tup b => beqDs a b
  | .ktp a, .ktp b => beqDs a b
  | .obj c a, .obj d b => c == d && beqDs a b
  | .dic t a b, .dic u c d => t == u && beqDs a c && beqDs b d
  | .scr a, .scr b => a == b
  | _, _ => false
def beqDs : List Dv → List Dv → Bool
  | [], [] => true
  | a :: l, b :: m => beqD a b && beqDs l m
  | _, _ => false
end
mutual
theorem beqD_refl : ∀ d : Dv, beqD d d = true
  | .non => by simp [beqD]
  | .bl _ => by simp [beqD]
  | .int _ => by simp [beqD]
  | .str _ => by simp [beqD]
  | .ty _ => by simp [beqD]
  | .cls _ => by simp [beqD]
  | .scr _ => by simp [beqD]
  | .lst l => by simp [beqD, beqDs_refl l]
  | .tup l => by simp [beqD, beqDs_refl l]
  | .ktp l => by simp [beqD, beqDs_refl l]
  | .obj c l => by simp [beqD, beqDs_refl l]
  | .dic t l m => by simp [beqD, beqDs_refl l, beqDs_refl m]
theorem beqDs_refl : ∀ l : List Dv, beqDs l l = true
  | [] => by simp [beqDs]
  | d :: l => by simp [beqDs, beqD_refl d, beqDs_refl l]
end
mutual
theorem beqD_eq : ∀ {a b : Dv}, beqD a b = true → a = b
  | a, b, h => by
    cases a <;> cases b <;> first
      | rfl
      | (simp [beqD] at h; done)
      | (simp [beqD] at h; subst h; rfl)
      | skip
    · rename_i l m; rw [beqDs_eq (a := l) (b := m) (by simpa [beqD] using h)]
    · rename_i l m; rw [beqDs_eq (a := l) (b := m) (by simpa [beqD] using h)]
    · rename_i c l d m
      have h' : c = d ∧ beqDs l m = true := by simpa [beqD] using h
      rw [h'.1, beqDs_eq h'.2]
    · rename_i t l m u l' m'
      have h' : (t = u ∧ beqDs l l' = true) ∧ beqDs m m' = true := by simpa [beqD] using h
      rw [h'.1.1, beqDs_eq h'.1.2, beqDs_eq h'.2]
    · rename_i l m; rw [beqDs_eq (a := l) (b := m) (by simpa [beqD] using h)]
theorem beqDs_eq : ∀ {a b : List Dv}, beqDs a b = true → a = b
  | [], [], _ => rfl
  | [], _ :: _, h => by simp [beqDs] at h
  | _ :: _, [], h => by simp [beqDs] at h
  | a :: l, b :: m, h => by
    have h' : beqD a b = true ∧ beqDs l m = true := by simpa [beqDs] using h
    rw [beqD_eq h'.1, beqDs_eq h'.2]
end
/-- the list that is gone over stands as it did -/
def lockOk (t : Its) (S : Sto) : Bool := match t.2 with
  | none => true
  | some n => match S[n]? with
    | some (.lst l) => beqDs l t.1
    | _ => false
theorem lock_ok {Z : Zt} {G2 G' H : Hp} {α2 α' : List Addr} {t : Its} {S' : Sto} (hd : Hd Z G' α' S' H) (e : Ex G2 G') (p : Px α2 α') (hn : ∀ n, t.2 = some n → n < α2.length) (h : lockOk t S' = true) : OkI Z G2 α2 t G' H := by
  refine ⟨e, hd.ex, fun n q => ?_⟩
  unfold lockOk at h
  rw [q] at h
  obtain ⟨b, ha⟩ : ∃ b, α2[n]? = some b := ⟨_, List.getElem?_eq_getElem (hn n q)⟩
  cases q2 : S'[n]? with
  | none => simp only [q2] at h; cases h
  | some c =>
    simp only [q2] at h
    cases c with
    | lst l =>
      have e2 := beqDs_eq h
      subst e2
      obtain ⟨xs, h1, h2⟩ := (hd.at_ n _ _ (p.get ha) q2).2
      exact ⟨_, xs, ha, h1, h2⟩
    | _ => cases h
theorem lock_lt {Z : Zt} {G H : Hp} {α : List Addr} {t : Its} {S : Sto} (hd : Hd Z G α S H) (h : lockOk t S = true) : ∀ n, t.2 = some n → n < α.length := fun n q => by
  unfold lockOk at h
  rw [q] at h
  rw [hd.len]
  cases q2 : S[n]? with
  | none => simp only [q2] at h; cases h
  | some c => exact (List.getElem?_eq_some_iff.mp q2).1
/-! ### list comprehensions -/
def R.noex {β : Type} (r : R β) : R β := match r with
  | .ex _ _ => .no
  | r => r
def onD {β : Type} (v : Vr) (f : Dv → R β) : R β := match v with
  | .d d => f d
  | .r _ => .no
/-- the turns of a comprehension -/
def lcGo (t : Its) (tg : FG) (ft : FT) (fe : FE) (env : Env) : List Dv → Sto → List Dv → R (List Dv)
  | [], S, acc => if lockOk t S then .ok S acc else .no
  | d :: r, S, acc => if lockOk t S then (match tg d env with
    | some env' => (ft env' S).noex.bind fun S1 b => if b then (fe env' S1).noex.bindV fun S2 v => onD v fun y => if acc.length < 100000 then lcGo t tg ft fe env r S2 (acc ++ [y]) else .no else lcGo t tg ft fe env r S1 acc
    | none => .no) else .no
def wipeE (env : Env) : List Nat → Env
  | [] => env
  | i :: vs => (wipeE env vs).set i .u
def fLc (fi : FI) (tg : FG) (ft : FT) (fe : FE) (vs : List Nat) : FE := fun env S => (fi env S).bind fun S1 t => (lcGo t tg ft fe (wipeE env vs) t.1 S1 []).bind fun S2 l => .ok S2 (.new (.lst l))
def kYes : FT := fun _ S => .ok S true
abbrev Ew0 : L2.St → XK := fun _ => E0
section
variable {Z : Zt} {X : Cx} {Ew : L2.St → XK} {G H : Hp} {α : List Addr} {S : Sto}
theorem OnE.wipe {env : Env} {σ : L2.St} (h : OnE Z G α env σ) : ∀ vs : List Nat, OnE Z G α (wipeE env vs) (wipe σ vs)
  | [] => h
  | i :: vs => (OnE.wipe h vs).forget i
theorem wipe_wipe {σ : L2.St} {vs : List Nat} : ∀ {l : List Nat}, (∀ i ∈ l, i ∈ vs) → wipe (wipe σ l) vs = wipe σ vs
  | [], _ => rfl
  | i :: l, h => by
    show wipe ((wipe σ l).set i none) vs = wipe σ vs
    rw [wipe_set (h i List.mem_cons_self), wipe_wipe fun j hj => h j (List.mem_cons_of_mem _ hj)]
/-- beside what is known and the cells, something of ours is changed -/
theorem Hd.side {D : Addr} {o : HO} (h : Hd Z G α S H) (hG : G D = none) (hD : D ∉ α) : Hd Z G α S (upd H D o) := by
  refine ⟨fun b u hb => ?_, h.len, h.nd, fun n a c h1 h2 => ?_⟩
  · have : b ≠ D := fun e => by subst e; rw [hG] at hb; cases hb
    rw [upd_ne this]
    exact h.ex b u hb
  · have : a ≠ D := fun e => hD (e ▸ List.mem_of_getElem? h1)
    rw [upd_ne this]
    exact h.at_ n a c h1 h2
theorem Fr.side {G2 H2 : Hp} {α2 : List Addr} {D : Addr} {o : HO} (f : Fr G α H G2 α2 H2) (hD : H D = none) : Fr G α H G2 α2 (upd H2 D o) :=
  ⟨f.g, f.a, fun b u h1 h2 => by
    have : b ≠ D := fun e => by subst e; rw [hD] at h1; cases h1
    rw [upd_ne this]
    exact f.h b u h1 h2, f.n, f.m, fun b hb => by
    by_cases q : b = D
    · subst q; rw [upd_same]; exact fun h => nomatch h
    · rw [upd_ne q]; exact f.s b hb⟩
/-- D, of ours, through a step -/
theorem Fr.ours {G2 H2 : Hp} {α2 : List Addr} {D : Addr} {o : HO} (f : Fr G α H G2 α2 H2) (hG : G D = none) (hD : D ∉ α) (h : H D = some o) : G2 D = none ∧ D ∉ α2 ∧ H2 D = some o := by
  refine ⟨f.n D hG (by rw [h]; exact fun e => nomatch e) hD, fun hm => ?_, f.h D o h hD⟩
  rcases f.m D hm with e | e
  · exact hD e
  · rw [h] at e; cases e
theorem noex_V {γ δ : Type} {r : R Rt} {F : Sto → Vr → R γ} {fin : Sto → γ → R δ} {P : Pst δ} {E : XK} {Q' : VK} {G' H' : Hp} {α' : List Addr} (w : Wk Z ((r.noex.bindV F).bind fin) G α H P E)
    (k : ∀ S2 d v H2 G2 α2, Fr G' α' H' G2 α2 H2 → Hd Z G2 α2 S2 H2 → OnR Z G2 α2 d v → Wk Z ((F S2 d).bind fin) G α H P E → Q' v H2) : Wk Z r G' α' H' (pRt Z Q') E0 := by
  match r, w with
  | .ok S (.val v), w => exact fun H2 G2 α2 f2 hd2 x ox => k S v x H2 G2 α2 f2 hd2 ox w
  | .ok S (.new c), w =>
    intro H2 G2 α2 f2 hd2 p n
    cases e : frzC c with
    | none =>
      have w : Wk Z ((R.bindV (.ok S (.new c)) F).bind fin) G α H P E := w
      rw [bindV_dead e] at w
      exact w.elim
    | some d =>
      have w : Wk Z ((R.bindV (.ok S (.new c)) F).bind fin) G α H P E := w
      rw [bindV_new e] at w
      cases q : H2 p with
      | none => exact absurd q n.c.ne
      | some o =>
        have hc := n.c
        rw [q] at hc
        exact k S (.d d) _ H2 _ α2 (f2.freeze (o := o) n.h n.g) (hd2.freeze n.g q n.a) (On.frz hc e n.g) w
structure PTsF (Z : Zt) (X : Cx) (ifs : List Expr) (f : FT) : Prop where
  pts : PTs X ifs (tFT Z Ew0 f)
theorem ptsf_nil : PTsF Z X [] kYes := ⟨⟨fun pins s σ H Q I h => by
  obtain ⟨env, G, α, S, hd, oe, w⟩ := h
  exact pts_nil.run pins s σ H Q I (Wk.bool w hd)⟩⟩
theorem ptsf_one {c : Expr} {f : FT} (h : PTF Z Ew0 X c f) : PTsF Z X [c] f := ⟨pts_one h.pt⟩
/-- [elt for target in iter if ..] -/
theorem se_lc {fi : FI} {tg : FG} {ft : FT} {fe : FE} {sl vs : List Nat} (hsl : ∀ i ∈ sl, i ∈ vs) : SE Z Ew (tLc (tFI Z Ew fi) (tG Z tg sl) (tFT Z Ew0 ft) (tF Z Ew0 fe) vs) (fLc fi tg ft fe vs) := fun env σ G α S H Q hd oe w => by
  refine ⟨env, G, α, S, hd, oe, w.bind (P' := pI Z _) fun S1 t H1 G1 α1 f1 hd1 w1 J gz D hD => ?_⟩
  have oe1 : OnE Z G1 α1 (wipeE env vs) (wipe σ vs) := (oe.up f1.g f1.a).wipe vs
  let fin : Sto → List Dv → R Rt := fun S2 l => .ok S2 (.new (.lst l))
  have lk0 : lockOk t S1 = true := by
    have w1 : Wk Z ((lcGo t tg ft fe (wipeE env vs) t.1 S1 []).bind fin) G1 α1 H1 (pRt Z Q) (Ew σ) := w1
    cases q : lockOk t S1 with
    | true => rfl
    | false =>
      cases q2 : t.1 with
      | nil => rw [q2] at w1; simp only [lcGo, q] at w1; exact w1.elim
      | cons d r => rw [q2] at w1; simp only [lcGo, q] at w1; exact w1.elim
  have hlt := lock_lt hd1 lk0
  refine ⟨fun i m H' => m = t.1.length - i ∧ i ≤ t.1.length ∧ ∃ G' α' S' acc xs, Fr G1 α1 H1 G' α' H' ∧ Hd Z G' α' S' H' ∧ G' D = none ∧ D ∉ α' ∧ H' D = some (.lst xs) ∧ OnL Z G' acc xs ∧
    Wk Z ((lcGo t tg ft fe (wipeE env vs) (t.1.drop i) S' acc).bind fin) G1 α1 H1 (pRt Z Q) (Ew σ),
    ⟨t.1.length, by simp, Nat.zero_le _, G1, α1, S1, [], [], Fr.grow hd1 (Ex.new hD), hd1.grow (Ex.new hD), fresh_back hd1.ex hD, fun h => hd1.live h hD, upd_same, OnL.nil', w1⟩, ?_⟩
  rintro i m H' ⟨rfl, hi, G', α', S', acc, xs, f2, hd2, gD, aD, hHD, oa, w2⟩
  cases lk : lockOk t S' with
  | false =>
    cases q2 : t.1.drop i with
    | nil => rw [q2] at w2; simp only [lcGo, lk] at w2; exact w2.elim
    | cons d r => rw [q2] at w2; simp only [lcGo, lk] at w2; exact w2.elim
  | true =>
    have ok := lock_ok hd2 f2.g f2.a hlt lk
    by_cases hlt2 : i < t.1.length
    · refine .inr ⟨gz.go i G' H' hlt2 ok, _, fun H3 h3 => ⟨t.1.length - (i + 1), by omega, rfl, hlt2, h3⟩, fun x H3 y => ?_⟩
      obtain ⟨d, ed, hy⟩ := gz.yld i G' H' x H3 hlt2 ok y
      obtain ⟨G3, f3, hd3, od⟩ := hy α' S' hd2
      obtain ⟨gD3, aD3, hHD3⟩ := f3.ours gD aD hHD
      have e1 : t.1.drop i = d :: t.1.drop (i + 1) := by
        rw [List.drop_eq_getElem_cons hlt2]
        rw [List.getElem?_eq_getElem hlt2] at ed
        cases ed
        rfl
      rw [e1] at w2
      simp only [lcGo, lk, if_true] at w2
      cases q : tg d (wipeE env vs) with
      | none => simp only [q] at w2; exact w2.elim
      | some env' =>
        simp only [q] at w2
        have oe3 : OnE Z G3 α' (wipeE env vs) (wipe σ vs) := (oe1.up f2.g f2.a).up f3.g f3.a
        refine ⟨_, G3, α', S', d, env', hd3, oe3, od, q, fun σ2 oe2 wp => ⟨(wp vs hsl).trans (wipe_wipe fun i h => h), env', G3, α', S', hd3, oe2, ?_⟩⟩
        cases q3 : ft env' S' with
        | no => rw [q3] at w2; exact w2.elim
        | ex S x => rw [q3] at w2; exact w2.elim
        | ok S4 b =>
          rw [q3] at w2
          intro H4 G4 α4 f4 hd4
          obtain ⟨gD4, aD4, hHD4⟩ := f4.ours gD3 aD3 hHD3
          have f14 := (f2.trans f3).trans f4
          cases b with
          | false =>
            dsimp only [pB]
            rw [if_neg Bool.false_ne_true]
            exact ⟨G4, α4, S4, acc, xs, f14, hd4, gD4, aD4, hHD4, oa.up (f3.g.trans f4.g), w2⟩
          | true =>
            dsimp only [pB]
            rw [if_pos rfl]
            refine ⟨env', G4, α4, S4, hd4, oe2.up f4.g f4.a, noex_V (F := fun S2 v => onD v fun y => if acc.length < 100000 then lcGo t tg ft fe (wipeE env vs) (t.1.drop (i + 1)) S2 (acc ++ [y]) else .no) w2 fun S5 v y H5 G5 α5 f5 hd5 ov w5 => ?_⟩
            obtain ⟨gD5, aD5, hHD5⟩ := f5.ours gD4 aD4 hHD4
            cases v with
            | r n => exact w5.elim
            | d v =>
              by_cases hl : acc.length < 100000
              · have w5 : Wk Z ((if acc.length < 100000 then lcGo t tg ft fe (wipeE env vs) (t.1.drop (i + 1)) S5 (acc ++ [v]) else .no).bind fin) G1 α1 H1 (pRt Z Q) (Ew σ) := w5
                rw [if_pos hl] at w5
                have oa5 := (oa.up (f3.g.trans f4.g)).up f5.g
                exact ⟨xs, hHD5, Nat.lt_of_lt_of_le (by rw [oa.len]; exact hl) (by decide), G5, α5, S5, acc ++ [v], xs ++ [y], (f14.trans f5).side hD, hd5.side gD5 aD5, gD5, aD5, upd_same, oa5.app (OnL.cons' ov OnL.nil'), w5⟩
              · have w5 : Wk Z ((if acc.length < 100000 then lcGo t tg ft fe (wipeE env vs) (t.1.drop (i + 1)) S5 (acc ++ [v]) else .no).bind fin) G1 α1 H1 (pRt Z Q) (Ew σ) := w5
                rw [if_neg hl] at w5
                exact w5.elim
    · have e : i = t.1.length := by omega
      subst e
      rw [List.drop_length] at w2
      simp only [lcGo, lk, if_true] at w2
      have w2 : Wk Z (.ok S' (Rt.new (.lst acc))) G1 α1 H1 (pRt Z Q) (Ew σ) := w2
      exact .inl ⟨gz.stop G' H' ok, w2 H' G' α' f2 hd2 D ⟨hD, gD, aD, ⟨xs, hHD, oa⟩⟩⟩
theorem pf_lc {elt tg iter : Expr} {ifs : List Expr} {scope : Scope} {own : List (Str × Nat)} {pos : Pos} {fi : FI} {ftg : FG} {ft : FT} {fe : FE} {sl : List Nat} (hc : X.calm = true) (hN : X.N.Nodup) (hi : PIF Z Ew X tg iter fi) (ok : BlkOk X.N X.env.scope scope own)
    (hg : ∀ (s : Shared) (H : Hp) (C : Addr) (cl : List (Str × Addr)) (fp : List Addr), PGF Z (X.blk s H scope (compEnvC scope cl C X.env) fp) tg ftg sl)
    (ht : ∀ (s : Shared) (H : Hp) (C : Addr) (cl : List (Str × Addr)) (fp : List Addr), PTsF Z (X.blk s H scope (compEnvC scope cl C X.env) fp) ifs ft)
    (he : ∀ (s : Shared) (H : Hp) (C : Addr) (cl : List (Str × Addr)) (fp : List Addr), PF Z Ew0 (X.blk s H scope (compEnvC scope cl C X.env) fp) elt fe)
    (hsl : ∀ i ∈ sl, i ∈ own.map (·.2) := by decide) (hs : ∀ x, foldedSetIterable iter X.env x = pure x := by intro _; rfl) : PF Z Ew X (.ListComp elt [⟨tg, iter, ifs, 0⟩] scope pos) (fLc fi ftg ft fe (own.map (·.2))) :=
  ⟨_, pe_lc hc hN hi.pi ok (fun s H C cl fp => (hg s H C cl fp).pg) (fun s H C cl fp => (ht s H C cl fp).pts) (fun s H C cl fp => (he s H C cl fp).pe) hs, se_lc hsl⟩
end
end DN

/-! DnI: statements. -/
namespace DN
open PySem PySem.Spec PyProof.Rows L2 Evl
inductive RS where
  | nx (env : Env) (S : Sto) | rt (S : Sto) (r : Rt) | bk (env : Env) (S : Sto) | ct (env : Env) (S : Sto) | ex (env : Env) (S : Sto) (x : Xn) | no
abbrev FS := Env → Sto → RS
/-- a value is wanted, then a statement goes on -/
def sV (env : Env) (r : R Rt) (F : Sto → Vr → RS) : RS := match r with
  | .ok S (.val v) => F S v
  | .ok S (.new (.lst l)) => F S (.d (.lst l))
  | .ok S (.new (.ob c l)) => F S (.d (.obj c l))
  | .ok S (.new (.dc t ks vs)) => F S (.d (.dic t ks vs))
  | .ok _ (.new .dead) => .no
  | .ex S x => .ex env S x
  | .no => .no
def sB {β : Type} (env : Env) (r : R β) (F : Sto → β → RS) : RS := match r with
  | .ok S b => F S b
  | .ex S x => .ex env S x
  | .no => .no
def WkS (Z : Zt) (r : RS) (G : Hp) (α : List Addr) (H : Hp) (D : Ends) (W : WX) : Prop := match r with
  | .nx env S => ∀ σ2 H2 G2 α2, Fr G α H G2 α2 H2 → Hd Z G2 α2 S H2 → OnE Z G2 α2 env σ2 → D.nx σ2 H2
  | .bk env S => ∀ σ2 H2 G2 α2, Fr G α H G2 α2 H2 → Hd Z G2 α2 S H2 → OnE Z G2 α2 env σ2 → D.bk σ2 H2
  | .ct env S => ∀ σ2 H2 G2 α2, Fr G α H G2 α2 H2 → Hd Z G2 α2 S H2 → OnE Z G2 α2 env σ2 → D.ct σ2 H2
  | .rt S r => Wk Z (.ok S r) G α H (pRt Z D.rt) E0
  | .ex env S x => ∀ σ2 cls d H2 G2 α2, Fr G α H G2 α2 H2 → Hd Z G2 α2 S H2 → OnE Z G2 α2 env σ2 → OnX Z G2 α2 x cls d → W cls d σ2 H2
  | .no => False
def SS (Z : Zt) (W : WX) (ts : TS) (f : FS) : Prop := ∀ env σ G α S H D, Hd Z G α S H → OnE Z G α env σ → WkS Z (f env S) G α H D W → ts D σ H
def tS (Z : Zt) (W : WX) (f : FS) : TS := fun D σ H => ∃ env G α S, Hd Z G α S H ∧ OnE Z G α env σ ∧ WkS Z (f env S) G α H D W
structure PSF (Z : Zt) (W : WX) (X : Cx) (st : Stmt) (f : FS) : Prop where
  ps : PS X st (tS Z W f)
structure PSsF (Z : Zt) (W : WX) (X : Cx) (st : List Stmt) (f : FS) : Prop where
  ps : PSs X st (tS Z W f)
section
variable {Z : Zt} {W : WX} {X : Cx} {G H G2 H2 : Hp} {α α2 : List Addr} {S : Sto} {D : Ends} {env : Env} {σ : L2.St}
theorem WkS.later {r : RS} (w : WkS Z r G α H D W) (f : Fr G α H G2 α2 H2) : WkS Z r G2 α2 H2 D W := by
  cases r with
  | nx env S => exact fun σ2 H3 G3 α3 f3 => w σ2 H3 G3 α3 (f.trans f3)
  | bk env S => exact fun σ2 H3 G3 α3 f3 => w σ2 H3 G3 α3 (f.trans f3)
  | ct env S => exact fun σ2 H3 G3 α3 f3 => w σ2 H3 G3 α3 (f.trans f3)
  | rt S r => exact Wk.later (show Wk Z (.ok S r) G α H (pRt Z D.rt) E0 from w) f
  | ex env S x => exact fun σ2 cls d H3 G3 α3 f3 => w σ2 cls d H3 G3 α3 (f.trans f3)
  | no => exact w
theorem PSF.of {st : Stmt} {ts : TS} {f : FS} (h : PS X st ts) (s : SS Z W ts f) : PSF Z W X st f := ⟨⟨fun pins sh σ H D I ht => by
  obtain ⟨env, G, α, S, hd, oe, w⟩ := ht
  exact h.run pins sh σ H D I (s env σ G α S H D hd oe w)⟩⟩
theorem PSsF.of {st : List Stmt} {ts : TS} {f : FS} (h : PSs X st ts) (s : SS Z W ts f) : PSsF Z W X st f := ⟨⟨fun pins sh σ H D I ht => by
  obtain ⟨env, G, α, S, hd, oe, w⟩ := ht
  exact h.run pins sh σ H D I (s env σ G α S H D hd oe w)⟩⟩
theorem ss_tS {f : FS} : SS Z W (tS Z W f) f := fun env σ G α S H D hd oe w => ⟨env, G, α, S, hd, oe, w⟩
theorem Got.sV {r : R Rt} {S : Sto} {d : Vr} {F : Sto → Vr → RS} (h : Got r S d) : sV env r F = F S d := by
  cases h with
  | val => rfl
  | new S c d h => cases c <;> cases h <;> rfl
/-- an expression's value, then the rest of the statement -/
theorem SE.bindS {te : TE} {fe : FE} {F : Sto → Vr → RS} {Q' : VK} (h : SE Z (WE W) te fe) (hd : Hd Z G α S H) (oe : OnE Z G α env σ) (w : WkS Z (sV env (fe env S) F) G α H D W)
    (k : ∀ S2 d v H2 G2 α2, Got (fe env S) S2 d → Fr G α H G2 α2 H2 → Hd Z G2 α2 S2 H2 → OnE Z G2 α2 env σ → OnR Z G2 α2 d v → WkS Z (F S2 d) G2 α2 H2 D W → Q' v H2) : te σ H Q' := by
  refine h env σ G α S H Q' hd oe ?_
  cases e : fe env S with
  | no => rw [e] at w; exact w.elim
  | ex S2 x =>
    rw [e] at w
    exact fun cls d H2 G2 α2 f2 hd2 ox => w σ cls d H2 G2 α2 f2 hd2 (oe.up f2.g f2.a) ox
  | ok S2 b =>
    cases b with
    | val v =>
      rw [e] at w
      exact fun H2 G2 α2 f2 hd2 x ox => k S2 v x H2 G2 α2 (e ▸ .val S2 v) f2 hd2 (oe.up f2.g f2.a) ox (WkS.later w f2)
    | new c =>
      intro H2 G2 α2 f2 hd2 p n
      cases q : frzC c with
      | none =>
        rw [e] at w
        cases c with
        | dead => exact w.elim
        | _ => cases q
      | some d =>
        have g : Got (fe env S) S2 (.d d) := e ▸ .new S2 c d q
        rw [g.sV] at w
        cases q2 : H2 p with
        | none => exact absurd q2 n.c.ne
        | some o =>
          have hc := n.c
          rw [q2] at hc
          have f3 := f2.freeze (o := o) n.h n.g
          exact k S2 (.d d) _ H2 _ α2 g f3 (hd2.freeze n.g q2 n.a) (oe.up f3.g f3.a) (On.frz hc q n.g) (WkS.later w f3)
theorem ST.bindS {tt : TT} {ft : FT} {F : Sto → Bool → RS} {Q' : Bool → Hp → Prop} (h : ST Z (WE W) tt ft) (hd : Hd Z G α S H) (oe : OnE Z G α env σ) (w : WkS Z (sB env (ft env S) F) G α H D W)
    (k : ∀ S2 b H2 G2 α2, Fr G α H G2 α2 H2 → Hd Z G2 α2 S2 H2 → OnE Z G2 α2 env σ → WkS Z (F S2 b) G2 α2 H2 D W → Q' b H2) : tt σ H Q' := by
  refine h env σ G α S H Q' hd oe ?_
  cases e : ft env S with
  | no => rw [e] at w; exact w.elim
  | ex S2 x =>
    rw [e] at w
    exact fun cls d H2 G2 α2 f2 hd2 ox => w σ cls d H2 G2 α2 f2 hd2 (oe.up f2.g f2.a) ox
  | ok S2 b =>
    rw [e] at w
    exact fun H2 G2 α2 f2 hd2 => k S2 b H2 G2 α2 f2 hd2 (oe.up f2.g f2.a) (WkS.later w f2)
theorem SA.bindS {ta : TA} {fa : FA} {F : Sto → List Vr → RS} {Q' : List V → Hp → Prop} (h : SA Z (WE W) ta fa) (hd : Hd Z G α S H) (oe : OnE Z G α env σ) (w : WkS Z (sB env (fa env S) F) G α H D W)
    (k : ∀ S2 l vs H2 G2 α2, Fr G α H G2 α2 H2 → Hd Z G2 α2 S2 H2 → OnE Z G2 α2 env σ → OnA Z G2 α2 l vs → WkS Z (F S2 l) G2 α2 H2 D W → Q' vs H2) : ta σ H Q' := by
  refine h env σ G α S H Q' hd oe ?_
  cases e : fa env S with
  | no => rw [e] at w; exact w.elim
  | ex S2 x =>
    rw [e] at w
    exact fun cls d H2 G2 α2 f2 hd2 ox => w σ cls d H2 G2 α2 f2 hd2 (oe.up f2.g f2.a) ox
  | ok S2 b =>
    rw [e] at w
    exact fun H2 G2 α2 f2 hd2 vs ov => k S2 b vs H2 G2 α2 f2 hd2 (oe.up f2.g f2.a) ov (WkS.later w f2)
theorem WkS.here {env' : Env} (w : WkS Z (.nx env' S) G α H D W) (hd : Hd Z G α S H) (oe : OnE Z G α env' σ) : D.nx σ H := w σ H G α (Fr.refl G α H) hd oe
end
/-! ### blocks -/
def kNext : FS := fun env S => .nx env S
def kSeq (a b : FS) : FS := fun env S => match a env S with
  | .nx e2 S2 => b e2 S2
  | r => r
def kIf (ft : FT) (a b : FS) : FS := fun env S => sB env (ft env S) fun S1 t => if t then a env S1 else b env S1
def kRet (fe : FE) : FS := fun env S => match fe env S with
  | .ok S2 r => .rt S2 r
  | .ex S2 x => .ex env S2 x
  | .no => .no
def kRetN : FS := fun _ S => .rt S (.val (.d .non))
def kExpr (fe : FE) : FS := fun env S => sB env (fe env S) fun S1 _ => .nx env S1
def kBreak : FS := fun env S => .bk env S
def kCont : FS := fun env S => .ct env S
/-- name = value -/
def kSet (i : Nat) (fe : FE) : FS := fun env S => sV env (fe env S) fun S1 v => .nx (env.set i (.v v)) S1
/-- name = value, a new thing becomes a cell -/
def kSetC (i : Nat) (fe : FE) : FS := fun env S => match fe env S with
  | .ok S1 (.val v) => .nx (env.set i (.v v)) S1
  | .ok S1 (.new c) => .nx (env.set i (.v (.r S1.length))) (S1 ++ [c])
  | .ex S1 x => .ex env S1 x
  | .no => .no
/-- target = value -/
def kAsg (f : FG) (fe : FE) : FS := fun env S => sV env (fe env S) fun S1 v => match v with
  | .d d => match f d env with
    | some env' => .nx env' S1
    | none => .no
  | .r _ => .no
/-- a, b = x, y -/
def kPar (i j : Nat) (fa : FA) : FS := fun env S => sB env (fa env S) fun S1 l => match l with
  | [v, w] => .nx ((env.set i (.v v)).set j (.v w)) S1
  | _ => .no
def kAug (i : Nat) (g : Dv → Dv → Option Rt) (fe : FE) : FS := fun env S => match env[i]? with
  | some (.v (.d x)) => sV env (fe env S) fun S1 v => match v with
    | .d y => sV env (R.of S1 (g x y)) fun S2 z => .nx (env.set i (.v z)) S2
    | .r _ => .no
  | _ => .no
section
variable {Z : Zt} {W : WX} {X : Cx} {st : Stmt} {rest : List Stmt} {f g : FS} {e : Expr} {fe : FE} {pos : Pos}
theorem psf_nil : PSsF Z W X [] kNext := .of pss_nil fun env σ G α S H D hd oe w => w.here hd oe
theorem psf_cons (h1 : PSF Z W X st f) (h2 : PSsF Z W X rest g) : PSsF Z W X (st :: rest) (kSeq f g) := .of (pss_cons h1.ps h2.ps) fun env σ G α S H D hd oe w => by
  refine ⟨env, G, α, S, hd, oe, ?_⟩
  unfold kSeq at w
  cases q : f env S with
  | nx e2 S2 =>
    rw [q] at w
    exact fun σ2 H2 G2 α2 f2 hd2 oe2 => ⟨e2, G2, α2, S2, hd2, oe2, WkS.later w f2⟩
  | rt S2 r => rw [q] at w; exact w
  | bk e2 S2 => rw [q] at w; exact w
  | ct e2 S2 => rw [q] at w; exact w
  | ex e2 S2 x => rw [q] at w; exact w
  | no => rw [q] at w; exact w
theorem psf_one (h1 : PSF Z W X st f) : PSsF Z W X [st] f := ⟨pss_one h1.ps⟩
theorem psf_pass : PSF Z W X (.Pass pos) kNext := .of ps_pass fun env σ G α S H D hd oe w => w.here hd oe
theorem psf_break : PSF Z W X (.Break pos) kBreak := .of ps_break fun env σ G α S H D hd oe w => w σ H G α (Fr.refl G α H) hd oe
theorem psf_cont : PSF Z W X (.Continue pos) kCont := .of ps_continue fun env σ G α S H D hd oe w => w σ H G α (Fr.refl G α H) hd oe
theorem psf_doc {x j p1 p2} : PSF Z W X (.Expr (.Constant (.str x) j p1) p2) kNext := .of ps_doc fun env σ G α S H D hd oe w => w.here hd oe
theorem psf_retN : PSF Z W X (.Return none pos) kRetN := .of ps_retN fun env σ G α S H D hd oe w => Wk.dat (v := .d .non) (E := E0) w hd (or_non Z G α)
theorem psf_ret (h : PF Z (WE W) X e fe) : PSF Z W X (.Return (some e) pos) (kRet fe) := by
  obtain ⟨te, h1, h2⟩ := h.ex
  refine .of (ps_ret h1) fun env σ G α S H D hd oe w => h2 env σ G α S H _ hd oe ?_
  unfold kRet at w
  cases q : fe env S with
  | ok S2 r => rw [q] at w; exact w
  | ex S2 x =>
    rw [q] at w
    exact fun cls d H2 G2 α2 f2 hd2 ox => w σ cls d H2 G2 α2 f2 hd2 (oe.up f2.g f2.a) ox
  | no => rw [q] at w; exact w.elim
theorem psf_expr (h : PF Z (WE W) X e fe) (hs : swapsWith e none pos.line X.env = pure false := by rfl) : PSF Z W X (.Expr e pos) (kExpr fe) := by
  obtain ⟨te, h1, h2⟩ := h.ex
  refine .of (ps_expr h1 hs) fun env σ G α S H D hd oe w => h2 env σ G α S H _ hd oe ?_
  unfold kExpr at w
  cases q : fe env S with
  | ok S2 r =>
    rw [q] at w
    cases r with
    | val v => exact fun H2 G2 α2 f2 hd2 x ox => w σ H2 G2 α2 f2 hd2 (oe.up f2.g f2.a)
    | new c => exact fun H2 G2 α2 f2 hd2 p n => w σ H2 G2 α2 f2 hd2 (oe.up f2.g f2.a)
  | ex S2 x =>
    rw [q] at w
    exact fun cls d H2 G2 α2 f2 hd2 ox => w σ cls d H2 G2 α2 f2 hd2 (oe.up f2.g f2.a) ox
  | no => rw [q] at w; exact w.elim
theorem psf_if {c : Expr} {a b : List Stmt} {ft : FT} (hc : PTF Z (WE W) X c ft) (ha : PSsF Z W X a f) (hb : PSsF Z W X b g) : PSF Z W X (.If c a b pos) (kIf ft f g) := by
  refine .of (ps_if hc.pt ha.ps hb.ps) fun env σ G α S H D hd oe w => st_tF.bindS hd oe w fun S2 b H2 G2 α2 f2 hd2 oe2 w2 => ?_
  cases b with
  | true => rw [if_pos rfl]; exact ⟨env, G2, α2, S2, hd2, oe2, w2⟩
  | false => rw [if_neg Bool.false_ne_true]; exact ⟨env, G2, α2, S2, hd2, oe2, w2⟩
/-- what a plain name's store leaves -/
theorem ss_set {i : Nat} {te : TE} (h : SE Z (WE W) te fe) : SS Z W (tAsg te (gName i)) (kSet i fe) := fun env σ G α S H D hd oe w =>
  h.bindS hd oe w fun S2 d v H2 G2 α2 _ f2 hd2 oe2 ov w2 => w2.here hd2 (oe2.set i ov)
theorem ss_setC {i : Nat} {te : TE} (h : SE Z (WE W) te fe) : SS Z W (tAsg te (gName i)) (kSetC i fe) := fun env σ G α S H D hd oe w => by
  refine h env σ G α S H _ hd oe ?_
  unfold kSetC at w
  cases q : fe env S with
  | no => rw [q] at w; exact w.elim
  | ex S2 x =>
    rw [q] at w
    exact fun cls d H2 G2 α2 f2 hd2 ox => w σ cls d H2 G2 α2 f2 hd2 (oe.up f2.g f2.a) ox
  | ok S2 r =>
    rw [q] at w
    cases r with
    | val v => exact fun H2 G2 α2 f2 hd2 x ox => w _ H2 G2 α2 f2 hd2 ((oe.up f2.g f2.a).set i ox)
    | new c =>
      intro H2 G2 α2 f2 hd2 p n
      have hd3 := hd2.push n.g n.a n.c
      have f3 := f2.push n.h
      refine w _ H2 G2 _ f3 hd3 ((oe.up f3.g f3.a).set i ⟨p, rfl, ?_⟩)
      rw [← hd2.len, List.getElem?_append_right (Nat.le_refl _), Nat.sub_self]
      rfl
theorem psf_set (i : Nat) {x : Str} {p' : Pos} (hN : X.N.Nodup) (hi : X.N[i]? = some x) (hx : Loc X.env.scope x) (h : PF Z (WE W) X e fe) (hs : swapsWith e (some (.Name x p')) pos.line X.env = pure false := by rfl) (hf : X.fn x = true ∨ X.env.scope.names.lookup x = some .local := by first | exact .inl rfl | exact .inr rfl | assumption) :
    PSF Z W X (.Assign [.Name x p'] e pos) (kSet i fe) := .of (ps_set hN hi hx h.pe hs hf) (ss_set se_tF)
theorem psf_setC (i : Nat) {x : Str} {p' : Pos} (hN : X.N.Nodup) (hi : X.N[i]? = some x) (hx : Loc X.env.scope x) (h : PF Z (WE W) X e fe) (hs : swapsWith e (some (.Name x p')) pos.line X.env = pure false := by rfl) (hf : X.fn x = true ∨ X.env.scope.names.lookup x = some .local := by first | exact .inl rfl | exact .inr rfl | assumption) :
    PSF Z W X (.Assign [.Name x p'] e pos) (kSetC i fe) := .of (ps_set hN hi hx h.pe hs hf) (ss_setC se_tF)
/-- name = [..] on one line -/
theorem psf_setLc (i : Nat) {y : Str} {py : Pos} {elt tg iter : Expr} {ifs : List Expr} {scope : Scope} {own : List (Str × Nat)} {lpos : Pos} {fi : FI} {ftg : FG} {ft : FT} {fe : FE} {sl : List Nat} (hc : X.calm = true) (hN : X.N.Nodup) (hy : X.N[i]? = some y) (hyl : X.env.scope.names.lookup y = some .local)
    (hsw : swapsWith (.ListComp elt [⟨tg, iter, ifs, 0⟩] scope lpos) (some (.Name y py)) pos.line X.env = pure true) (hi : PIF Z (WE W) X tg iter fi) (ok : BlkOk X.N X.env.scope scope own)
    (hg : ∀ (s : Shared) (H : Hp) (C : Addr) (cl : List (Str × Addr)) (fp : List Addr), PGF Z (X.blk s H scope (compEnvC scope cl C X.env) fp) tg ftg sl)
    (ht : ∀ (s : Shared) (H : Hp) (C : Addr) (cl : List (Str × Addr)) (fp : List Addr), PTsF Z (X.blk s H scope (compEnvC scope cl C X.env) fp) ifs ft)
    (he : ∀ (s : Shared) (H : Hp) (C : Addr) (cl : List (Str × Addr)) (fp : List Addr), PF Z Ew0 (X.blk s H scope (compEnvC scope cl C X.env) fp) elt fe)
    (hsl : ∀ i ∈ sl, i ∈ own.map (·.2) := by decide) (hs : ∀ x, foldedSetIterable iter X.env x = pure x := by intro _; rfl) : PSF Z W X (.Assign [.Name y py] (.ListComp elt [⟨tg, iter, ifs, 0⟩] scope lpos) pos) (kSet i (fLc fi ftg ft fe (own.map (·.2)))) :=
  .of (ps_setLc hc hN hy hyl hsw hi.pi ok (fun s H C cl fp => (hg s H C cl fp).pg) (fun s H C cl fp => (ht s H C cl fp).pts) (fun s H C cl fp => (he s H C cl fp).pe) hs) (ss_set (se_lc hsl))
theorem psf_setLcC (i : Nat) {y : Str} {py : Pos} {elt tg iter : Expr} {ifs : List Expr} {scope : Scope} {own : List (Str × Nat)} {lpos : Pos} {fi : FI} {ftg : FG} {ft : FT} {fe : FE} {sl : List Nat} (hc : X.calm = true) (hN : X.N.Nodup) (hy : X.N[i]? = some y) (hyl : X.env.scope.names.lookup y = some .local)
    (hsw : swapsWith (.ListComp elt [⟨tg, iter, ifs, 0⟩] scope lpos) (some (.Name y py)) pos.line X.env = pure true) (hi : PIF Z (WE W) X tg iter fi) (ok : BlkOk X.N X.env.scope scope own)
    (hg : ∀ (s : Shared) (H : Hp) (C : Addr) (cl : List (Str × Addr)) (fp : List Addr), PGF Z (X.blk s H scope (compEnvC scope cl C X.env) fp) tg ftg sl)
    (ht : ∀ (s : Shared) (H : Hp) (C : Addr) (cl : List (Str × Addr)) (fp : List Addr), PTsF Z (X.blk s H scope (compEnvC scope cl C X.env) fp) ifs ft)
    (he : ∀ (s : Shared) (H : Hp) (C : Addr) (cl : List (Str × Addr)) (fp : List Addr), PF Z Ew0 (X.blk s H scope (compEnvC scope cl C X.env) fp) elt fe)
    (hsl : ∀ i ∈ sl, i ∈ own.map (·.2) := by decide) (hs : ∀ x, foldedSetIterable iter X.env x = pure x := by intro _; rfl) : PSF Z W X (.Assign [.Name y py] (.ListComp elt [⟨tg, iter, ifs, 0⟩] scope lpos) pos) (kSetC i (fLc fi ftg ft fe (own.map (·.2)))) :=
  .of (ps_setLc hc hN hy hyl hsw hi.pi ok (fun s H C cl fp => (hg s H C cl fp).pg) (fun s H C cl fp => (ht s H C cl fp).pts) (fun s H C cl fp => (he s H C cl fp).pe) hs) (ss_setC (se_lc hsl))
theorem psf_asg {tg : Expr} {ftg : FG} {sl : List Nat} (h : PF Z (WE W) X e fe) (hg : PGF Z X tg ftg sl) (hs : swapsWithSole [tg] e pos.line X.env = pure false := by rfl) (hw : swappedStores [tg] e X.env = pure none := by rfl)
    (h1 : (assignEach [tg] X.env).map (·.2) = [assign tg X.env] := by rfl) : PSF Z W X (.Assign [tg] e pos) (kAsg ftg fe) := by
  refine .of (ps_asg h.pe hg.pg hs hw h1) fun env σ G α S H D hd oe w => se_tF.bindS hd oe w fun S2 d v H2 G2 α2 _ f2 hd2 oe2 ov w2 => ?_
  cases d with
  | r n => exact w2.elim
  | d d =>
    cases q : ftg d env with
    | none => simp only [q] at w2; exact w2.elim
    | some env' =>
      simp only [q] at w2
      exact ⟨env, G2, α2, S2, d, env', hd2, oe2, ov, q, fun σ' oe' _ => w2.here hd2 oe'⟩
theorem psf_par (i j : Nat) {x y : Str} {a b : Expr} {fa : FA} {px py pt : Pos} {kt k2 pt2} (hc : X.calm = true) (hN : X.N.Nodup) (hi : X.N[i]? = some x) (hj : X.N[j]? = some y) (hij : i ≠ j)
    (hx : X.env.scope.names.lookup x = some .local) (hy : X.env.scope.names.lookup y = some .local) (ha : PAF Z (WE W) X [a, b] fa)
    (hw : swappedStores [.Tuple [.Name x px, .Name y py] kt pt] (.Tuple [a, b] k2 pt2) X.env = pure (some [x, y]))
    (hs : swapsWithSole [.Tuple [.Name x px, .Name y py] kt pt] (.Tuple [a, b] k2 pt2) pos.line X.env = pure false := by rfl) :
    PSF Z W X (.Assign [.Tuple [.Name x px, .Name y py] kt pt] (.Tuple [a, b] k2 pt2) pos) (kPar i j fa) := by
  obtain ⟨ta, h1, h2⟩ := ha.ex
  refine .of (ps_par hc hN hi hj hij hx hy h1 hw hs) fun env σ G α S H D hd oe w => h2.bindS hd oe w fun S2 l vs H2 G2 α2 f2 hd2 oe2 ol w2 => ?_
  cases l with
  | nil => exact w2.elim
  | cons u r =>
    cases r with
    | nil => exact w2.elim
    | cons v r =>
      cases r with
      | cons _ _ => exact w2.elim
      | nil =>
        obtain ⟨y1, ys, rfl, o1, z, zs, rfl, o2, o3⟩ := ol
        cases (show zs = [] from o3)
        exact ⟨y1, z, rfl, w2.here hd2 ((oe2.set i o1).set j o2)⟩
/-! ### x op= e -/
def rIp (Z : Zt) (g : Dv → Dv → Option Rt) : TIp := rD Z g
theorem ip_d {op : Operator} {g : Dv → Dv → Option Rt} (h : OpR X (inplaceOp op) (rD Z g)) : PIp X op (rIp Z g) := fun pins s σ H x y v u Q I rx ry q => h pins s σ H x y v u Q I rx ry q
theorem psf_aug (i : Nat) {x : Str} {op : Operator} {g : Dv → Dv → Option Rt} {p' : Pos} (ho : OpR X (inplaceOp op) (rD Z g)) (hN : X.N.Nodup) (hi : X.N[i]? = some x) (hx : Loc X.env.scope x) (h : PF Z (WE W) X e fe)
    (hf : X.fn x = true ∨ X.env.scope.names.lookup x = some .local := by first | exact .inl rfl | exact .inr rfl | assumption) : PSF Z W X (.AugAssign (.Name x p') op e pos) (kAug i g fe) := by
  refine .of (ps_aug hN hi hx h.pe (ip_d ho) hf) fun env σ G α S H D hd oe w => ?_
  unfold kAug at w
  cases q : env[i]? with
  | none => rw [q] at w; exact w.elim
  | some s =>
    rw [q] at w
    cases s with
    | u => exact w.elim
    | x => exact w.elim
    | v d =>
      cases d with
      | r n => exact w.elim
      | d d =>
        obtain ⟨v, hv, ov⟩ := oe.at_ i _ q
        refine ⟨v, hv, se_tF.bindS hd oe w fun S2 d2 v2 H2 G2 α2 _ f2 hd2 oe2 ov2 w2 => ?_⟩
        cases d2 with
        | r n => exact w2.elim
        | d d2 =>
          have ov : On Z G d v := ov
          refine ⟨G2, α2, S2, d, d2, hd2, On.h hd2.ex (ov.up f2.g), On.h hd2.ex ov2, ?_⟩
          cases q2 : g d d2 with
          | none => simp only [q2] at w2; exact w2.elim
          | some r =>
            simp only [q2] at w2
            cases r with
            | val z => exact fun H3 G3 α3 f3 hd3 x3 ox3 => (WkS.later w2 f3).here hd3 ((oe2.up f3.g f3.a).set i ox3)
            | new c =>
              intro H3 G3 α3 f3 hd3 p n
              cases q3 : frzC c with
              | none =>
                cases c with
                | dead => exact w2.elim
                | _ => cases q3
              | some d3 =>
                cases q4 : H3 p with
                | none => exact absurd q4 n.c.ne
                | some o =>
                  have hc := n.c
                  rw [q4] at hc
                  have f4 := f3.freeze (o := o) n.h n.g
                  have w3 : WkS Z (.nx (env.set i (.v (.d d3))) S2) G2 α2 H2 D W := by cases c <;> cases q3 <;> exact w2
                  exact (WkS.later w3 f4).here (hd3.freeze n.g q4 n.a) ((oe2.up f4.g f4.a).set i (On.frz hc q3 n.g))
end
end DN

/-! DnJ: loops, stores to items and fields. -/
namespace DN
open PySem PySem.Spec PyProof.Rows L2 Evl
def forGo (t : Its) (tg : FG) (body : FS) : List Dv → Env → Sto → RS
  | [], env, S => if lockOk t S then .nx env S else .no
  | d :: r, env, S => if lockOk t S then (match tg d env with
    | some env' => match body env' S with
      | .nx e2 S2 => forGo t tg body r e2 S2
      | .ct e2 S2 => forGo t tg body r e2 S2
      | .bk e2 S2 => .nx e2 S2
      | r => r
    | none => .no) else .no
def kFor (fi : FI) (tg : FG) (body : FS) : FS := fun env S => sB env (fi env S) fun S1 t => forGo t tg body t.1 env S1
def whileGo (ft : FT) (body : FS) : Nat → Env → Sto → RS
  | 0, _, _ => .no
  | n + 1, env, S => sB env (ft env S) fun S1 b => if b then (match body env S1 with
    | .nx e2 S2 => whileGo ft body n e2 S2
    | .ct e2 S2 => whileGo ft body n e2 S2
    | .bk e2 S2 => .nx e2 S2
    | r => r) else .nx env S1
def kWhile (ft : FT) (body : FS) : FS := fun env S => whileGo ft body 100000 env S
section
variable {Z : Zt} {W : WX} {X : Cx} {G H G2 H2 : Hp} {α α2 : List Addr} {S : Sto} {D : Ends} {env : Env} {σ : L2.St} {pos : Pos}
theorem SI.bindS {wi : TI} {fi : FI} {F : Sto → Its → RS} {R' : It → Hp → Prop} (h : SI Z (WE W) wi fi) (hd : Hd Z G α S H) (oe : OnE Z G α env σ) (w : WkS Z (sB env (fi env S) F) G α H D W)
    (k : ∀ S2 t H2 G2 α2, Fr G α H G2 α2 H2 → Hd Z G2 α2 S2 H2 → OnE Z G2 α2 env σ → WkS Z (F S2 t) G2 α2 H2 D W → ∀ J, Gz Z J G2 α2 t → R' J H2) : wi σ H R' := by
  refine h env σ G α S H R' hd oe ?_
  cases e : fi env S with
  | no => rw [e] at w; exact w.elim
  | ex S2 x =>
    rw [e] at w
    exact fun cls d H2 G2 α2 f2 hd2 ox => w σ cls d H2 G2 α2 f2 hd2 (oe.up f2.g f2.a) ox
  | ok S2 b =>
    rw [e] at w
    exact fun H2 G2 α2 f2 hd2 J gz => k S2 b H2 G2 α2 f2 hd2 (oe.up f2.g f2.a) (WkS.later w f2) J gz
theorem psf_for {tg iter : Expr} {body : List Stmt} {fi : FI} {ftg : FG} {sl : List Nat} {fb : FS} (hp : PassesOwn (model X.prog X.w) X.A X.env X.xe) (hc : X.calm = true) (hi : PIF Z (WE W) X tg iter fi) (hg : PGF Z X tg ftg sl) (hb : PSsF Z W X body fb)
    (hs : ∀ x, foldedSetIterable iter X.env x = pure x := by intro _; rfl) : PSF Z W X (.For tg iter body [] pos) (kFor fi ftg fb) := by
  refine .of (ps_for hp hc hi.pi hg.pg hb.ps hs) fun env σ G α S H D hd oe w => si_tF.bindS hd oe w fun S1 t H1 G1 α1 f1 hd1 oe1 w1 J gz => ?_
  have lk0 : lockOk t S1 = true := by
    cases q : lockOk t S1 with
    | true => rfl
    | false =>
      cases q2 : t.1 with
      | nil => rw [q2] at w1; simp only [forGo, q] at w1; exact w1.elim
      | cons d r => rw [q2] at w1; simp only [forGo, q] at w1; exact w1.elim
  have hlt := lock_lt hd1 lk0
  refine ⟨fun i m σ' H' => m = t.1.length - i ∧ i ≤ t.1.length ∧ ∃ env' G' α' S', Fr G1 α1 H1 G' α' H' ∧ Hd Z G' α' S' H' ∧ OnE Z G' α' env' σ' ∧ WkS Z (forGo t ftg fb (t.1.drop i) env' S') G' α' H' D W,
    ⟨t.1.length, by simp, Nat.zero_le _, env, G1, α1, S1, Fr.refl _ _ _, hd1, oe1, w1⟩, ?_⟩
  rintro i m σ' H' ⟨rfl, hi, env', G', α', S', f2, hd2, oe2, w2⟩
  cases lk : lockOk t S' with
  | false =>
    cases q2 : t.1.drop i with
    | nil => rw [q2] at w2; simp only [forGo, lk] at w2; exact w2.elim
    | cons d r => rw [q2] at w2; simp only [forGo, lk] at w2; exact w2.elim
  | true =>
    have ok := lock_ok hd2 f2.g f2.a hlt lk
    by_cases hlt2 : i < t.1.length
    · refine .inr ⟨gz.go i G' H' hlt2 ok, _, fun σ3 H3 h3 => ⟨t.1.length - (i + 1), by omega, rfl, hlt2, h3⟩, fun x H3 y => ?_⟩
      obtain ⟨d, ed, hy⟩ := gz.yld i G' H' x H3 hlt2 ok y
      obtain ⟨G3, f3, hd3, od⟩ := hy α' S' hd2
      have e1 : t.1.drop i = d :: t.1.drop (i + 1) := by
        rw [List.drop_eq_getElem_cons hlt2]
        rw [List.getElem?_eq_getElem hlt2] at ed
        cases ed
        rfl
      rw [e1] at w2
      simp only [forGo, lk, if_true] at w2
      cases q : ftg d env' with
      | none => simp only [q] at w2; exact w2.elim
      | some env2 =>
        simp only [q] at w2
        refine ⟨env', G3, α', S', d, env2, hd3, oe2.up f3.g f3.a, od, q, fun σ4 oe4 _ => ⟨env2, G3, α', S', hd3, oe4, ?_⟩⟩
        have w3 := WkS.later w2 f3
        cases q3 : fb env2 S' with
        | nx e5 S5 =>
          simp only [q3] at w3
          exact fun σ5 H5 G5 α5 f5 hd5 oe5 => ⟨e5, G5, α5, S5, (f2.trans f3).trans f5, hd5, oe5, WkS.later w3 f5⟩
        | ct e5 S5 =>
          simp only [q3] at w3
          exact fun σ5 H5 G5 α5 f5 hd5 oe5 => ⟨e5, G5, α5, S5, (f2.trans f3).trans f5, hd5, oe5, WkS.later w3 f5⟩
        | bk e5 S5 => simp only [q3] at w3; exact w3
        | rt S5 r => simp only [q3] at w3; exact w3
        | ex e5 S5 x => simp only [q3] at w3; exact w3
        | no => simp only [q3] at w3; exact w3
    · have e : i = t.1.length := by omega
      subst e
      rw [List.drop_length] at w2
      simp only [forGo, lk, if_true] at w2
      exact .inl ⟨gz.stop G' H' ok, w2.here hd2 oe2⟩
theorem psf_while {c : Expr} {body : List Stmt} {ft : FT} {fb : FS} (hp : PassesOwn (model X.prog X.w) X.A X.env X.xe) (hc : PTF Z (WE W) X c ft) (hb : PSsF Z W X body fb) : PSF Z W X (.While c body [] pos) (kWhile ft fb) := by
  refine .of (ps_while hp hc.pt hb.ps) fun env σ G α S H D hd oe w => ?_
  refine ⟨fun m σ' H' => ∃ env' G' α' S', Hd Z G' α' S' H' ∧ OnE Z G' α' env' σ' ∧ WkS Z (whileGo ft fb m env' S') G' α' H' D W, ⟨100000, env, G, α, S, hd, oe, w⟩, ?_⟩
  rintro m σ' H' ⟨env', G', α', S', hd2, oe2, w2⟩
  cases m with
  | zero => exact w2.elim
  | succ m =>
    refine st_tF.bindS hd2 oe2 w2 fun S3 b H3 G3 α3 f3 hd3 oe3 w3 => ?_
    cases b with
    | false => rw [if_neg Bool.false_ne_true]; exact WkS.here w3 hd3 oe3
    | true =>
      rw [if_pos rfl]
      refine ⟨_, fun σ4 H4 h4 => ⟨m, Nat.lt_succ_self m, h4⟩, env', G3, α3, S3, hd3, oe3, ?_⟩
      simp only [if_true] at w3
      cases q3 : fb env' S3 with
      | nx e5 S5 =>
        simp only [q3] at w3
        exact fun σ5 H5 G5 α5 f5 hd5 oe5 => ⟨e5, G5, α5, S5, hd5, oe5, WkS.later w3 f5⟩
      | ct e5 S5 =>
        simp only [q3] at w3
        exact fun σ5 H5 G5 α5 f5 hd5 oe5 => ⟨e5, G5, α5, S5, hd5, oe5, WkS.later w3 f5⟩
      | bk e5 S5 => simp only [q3] at w3; exact w3
      | rt S5 r => simp only [q3] at w3; exact w3
      | ex e5 S5 x => simp only [q3] at w3; exact w3
      | no => simp only [q3] at w3; exact w3
end
/-! ### o[i] = v -/
/-- a cell is changed at an index or a key -/
def putC (c : Cell) (i v : Dv) : Option Cell := match c, i with
  | .lst l, .int k => match ixN l.length k with
    | some j => some (.lst (l.set j v))
    | none => none
  | _, _ => none
def setIx (env : Env) (S : Sto) (o i v : Vr) : RS := match o, i, v with
  | .r n, .d i, .d v => match S[n]? with
    | some c => match putC c i v with
      | some c2 => .nx env (S.set n c2)
      | none => .no
    | none => .no
  | _, _, _ => .no
def kSub (fo fi fv : FE) : FS := fun env S => sV env (fv env S) fun S1 v => sV env (fo env S1) fun S2 o => sV env (fi env S2) fun S3 i => setIx env S3 o i v
section
variable {Z : Zt} {W : WX} {X : Cx} {pos p' : Pos} {o i e : Expr} {fo fi fe : FE}
theorem psf_sub (ho : PF Z (WE W) X o fo) (hi : PF Z (WE W) X i fi) (he : PF Z (WE W) X e fe)
    (ha : ∀ v, assign (.Subscript o i p') X.env v = (do
      let ov ← holding [v] (eval o X.env)
      let iv ← holding [v, ov] (eval i X.env)
      standAt p'
      holding [v, ov, iv] (setItem ov iv v)
      release [v, ov, iv] []) := by intro _; rfl)
    (hs : swapsWithSole [.Subscript o i p'] e pos.line X.env = pure false := by rfl) (hw : swappedStores [.Subscript o i p'] e X.env = pure none := by rfl)
    (h1 : (assignEach [.Subscript o i p'] X.env).map (·.2) = [assign (.Subscript o i p') X.env] := by rfl) : PSF Z W X (.Assign [.Subscript o i p'] e pos) (kSub fo fi fe) := by
  refine .of (ps_asg he.pe (pg_sub ho.pe hi.pe set_list ha) hs hw h1) fun env σ G α S H D hd oe w => se_tF.bindS hd oe w fun S2 dv v H2 G2 α2 _ f2 hd2 oe2 ov w2 => ?_
  refine se_tF.bindS hd2 oe2 w2 fun S3 d3 o3 H3 G3 α3 _ f3 hd3 oe3 ov3 w3 => se_tF.bindS hd3 oe3 w3 fun S4 d4 i4 H4 G4 α4 _ f4 hd4 oe4 ov4 w4 => ?_
  cases d3 with
  | d _ => exact w4.elim
  | r n =>
    cases d4 with
    | r _ => exact w4.elim
    | d di =>
      cases dv with
      | r _ => exact w4.elim
      | d dv =>
        have w4 : WkS Z (match S4[n]? with | some c => (match putC c di dv with | some c2 => RS.nx env (S4.set n c2) | none => .no) | none => .no) G4 α4 H4 D W := w4
        cases q : S4[n]? with
        | none => rw [q] at w4; exact w4.elim
        | some c =>
          rw [q] at w4
          have w4 : WkS Z (match putC c di dv with | some c2 => RS.nx env (S4.set n c2) | none => .no) G4 α4 H4 D W := w4
          cases q2 : putC c di dv with
          | none => rw [q2] at w4; exact w4.elim
          | some c2 =>
            rw [q2] at w4
            have w4 : WkS Z (RS.nx env (S4.set n c2)) G4 α4 H4 D W := w4
            obtain ⟨a, rfl, ha3⟩ := ov3
            have ha4 := f4.a.get ha3
            have ovv : On Z G4 dv v := (On.up f3.g (show On Z G2 dv v from ov)).up f4.g
            cases c with
            | lst l =>
              cases di with
              | int k =>
                have e' : (match ixN l.length k with | some j => some (Cell.lst (l.set j dv)) | none => none) = some c2 := q2
                cases q3 : ixN l.length k with
                | none => rw [q3] at e'; cases e'
                | some j =>
                  rw [q3] at e'
                  cases e'
                  obtain ⟨xs, e1, e2⟩ := (hd4.at_ n a _ ha4 q).2
                  obtain ⟨hd5, f5⟩ := hd4.put (c2 := .lst (l.set j dv)) (o := .lst (xs.set j v)) ha4 q (fun c => nomatch c) ⟨_, rfl, e2.set ovv⟩
                  have ok4 : On Z G4 (.int k) i4 := ov4
                  unfold On at ok4
                  exact ⟨a, xs, k, j, rfl, ok4, e1, by rw [e2.len]; exact q3, w4 _ _ _ _ f5 hd5 (oe4.up f5.g f5.a)⟩
              | _ => cases q2
            | _ => cases di <;> cases q2
end
end DN

/-! DnK: defs, their calls, classes. -/
namespace DN
open PySem PySem.Spec PyProof.Rows L2 Evl
abbrev FD := List Vr → Sto → R Rt
def cutX (k : Nat) (S : Sto) (x : Xn) : R Rt := match x with
  | .own c (.r n) => if n < k then .ex (S.take k) (.own c (.r n)) else .no
  | x => .ex (S.take k) x
/-- a def is left: its own cells are forgotten, one that is handed back is new -/
def exitR (k : Nat) (r : R Rt) : R Rt := match r with
  | .ok S (.val (.r n)) => if n < k then .ok (S.take k) (.val (.r n)) else (match S[n]? with
    | some (.lst l) => .ok (S.take k) (.new (.lst l))
    | some (.ob c l) => .ok (S.take k) (.new (.ob c l))
    | some (.dc t ks vs) => .ok (S.take k) (.new (.dc t ks vs))
    | _ => .no)
  | .ok S b => .ok (S.take k) b
  | .ex S x => cutX k S x
  | .no => .no
def startE (n : Nat) (args : List Vr) : Env := args.map .v ++ List.replicate (n - args.length) .u
def outS (r : RS) : R Rt := match r with
  | .nx _ S => .ok S (.val (.d .non))
  | .rt S r => .ok S r
  | .ex _ S x => .ex S x
  | _ => .no
def defD (n : Nat) (body : FS) : FD := fun args S => exitR S.length (outS (body (startE n args) S))
def spD (Z : Zt) (m : Nat) (D : FD) : Sp := fun vs H Q E => ∃ G α S args, Hd Z G α S H ∧ OnA Z G α args vs ∧ args.length = m ∧ Wk Z (D args S) G α H (pRt Z Q) E
section
variable {Z : Zt} {G H G2 H2 : Hp} {α α2 : List Addr} {S : Sto} {Q : VK} {E : XK}
theorem take_pre {S2 : Sto} (f : Fr G α H G2 α2 H2) (hd2 : Hd Z G2 α2 S2 H2) : Hd Z G2 α (S2.take α.length) H2 := by
  have := hd2.cut α.length
  rw [f.a.cut] at this
  exact this
theorem pre_get {n : Nat} {a : Addr} (p : Px α α2) (hn : n < α.length) (h : α2[n]? = some a) : α[n]? = some a := by
  obtain ⟨γ, rfl⟩ := p
  rw [List.getElem?_append_left hn] at h
  exact h
theorem cutX_ok {S2 : Sto} {x : Xn} (w : Wk Z (cutX α.length S2 x) G α H (pRt Z Q) E) : Xp Z S2 x G α H E := by
  intro cls d H2 G2 α2 f2 hd2 ox
  have hd3 := take_pre f2 hd2
  cases x with
  | blt n => exact w cls d H2 G2 α f2.cut hd3 ox
  | own c v =>
    cases v with
    | d v => exact w cls d H2 G2 α f2.cut hd3 ox
    | r n =>
      have w : Wk Z (if n < α.length then R.ex (S2.take α.length) (.own c (.r n)) else .no) G α H (pRt Z Q) E := w
      by_cases hn : n < α.length
      · rw [if_pos hn] at w
        obtain ⟨h1, dd, v, h2, h3, a, h4, h5⟩ := ox
        exact w cls d H2 G2 α f2.cut hd3 ⟨h1, dd, v, h2, h3, a, h4, pre_get f2.a hn h5⟩
      · rw [if_neg hn] at w
        exact w.elim
/-- a cell that the def made -/
theorem own_cell {S2 : Sto} {n : Nat} {a : Addr} {c : Cell} (hd : Hd Z G α S H) (f2 : Fr G α H G2 α2 H2) (hd2 : Hd Z G2 α2 S2 H2) (hn : ¬ n < α.length) (ha : α2[n]? = some a) (hs : S2[n]? = some c) (hc : c ≠ .dead) : Nw Z H G2 α H2 c a := by
  obtain ⟨h1, h2⟩ := hd2.at_ n a c ha hs
  have na : a ∉ α := fun hm => by
    obtain ⟨m, hm1, hm2⟩ := List.mem_iff_getElem.mp hm
    have h3 : α2[m]? = some a := f2.a.get (by rw [List.getElem?_eq_getElem hm1, hm2])
    have e : m = n := (List.getElem?_inj (List.getElem?_eq_some_iff.mp h3).1 hd2.nd).mp (h3.trans ha.symm)
    omega
  refine ⟨?_, h1 hc, na, h2⟩
  rcases f2.m a (List.mem_of_getElem? ha) with h | h
  · exact absurd h na
  · exact h
theorem exitR_ok {r : R Rt} (hd : Hd Z G α S H) (w : Wk Z (exitR S.length r) G α H (pRt Z Q) E) : Wk Z r G α H (pRt Z Q) E := by
  rw [← hd.len] at w
  cases r with
  | no => exact w.elim
  | ex S2 x => exact cutX_ok w
  | ok S2 b =>
    cases b with
    | new c =>
      intro H2 G2 α2 f2 hd2 p n
      exact w H2 G2 α f2.cut (take_pre f2 hd2) p ⟨n.h, n.g, fun hm => n.a (f2.a.mem hm), n.c⟩
    | val v =>
      cases v with
      | d d => exact fun H2 G2 α2 f2 hd2 x ox => w H2 G2 α f2.cut (take_pre f2 hd2) x ox
      | r n =>
        intro H2 G2 α2 f2 hd2 x ox
        obtain ⟨a, rfl, ha⟩ := ox
        have hd3 := take_pre f2 hd2
        by_cases hn : n < α.length
        · simp only [exitR, if_pos hn] at w
          exact w H2 G2 α f2.cut hd3 _ ⟨a, rfl, pre_get f2.a hn ha⟩
        · simp only [exitR, if_neg hn] at w
          cases q : S2[n]? with
          | none => simp only [q] at w; exact w.elim
          | some c =>
            simp only [q] at w
            have nw : c ≠ .dead → Nw Z H G2 α H2 c a := fun hc => own_cell hd f2 hd2 hn ha q hc
            cases c with
            | lst l => exact w H2 G2 α f2.cut hd3 a (nw (fun e => nomatch e))
            | ob c l => exact w H2 G2 α f2.cut hd3 a (nw (fun e => nomatch e))
            | dc t ks vs => exact w H2 G2 α f2.cut hd3 a (nw (fun e => nomatch e))
            | dead => exact w.elim
theorem OnA.get : ∀ {l : List Vr} {xs : List V} {i : Nat} {d : Vr}, OnA Z G α l xs → l[i]? = some d → ∃ x, xs[i]? = some x ∧ OnR Z G α d x
  | [], _, _, _, _, e => by simp at e
  | c :: l, xs, 0, d, h, e => by
    obtain ⟨y, ys, rfl, h2, h3⟩ := h
    simp at e
    subst e
    exact ⟨y, rfl, h2⟩
  | c :: l, xs, i + 1, d, h, e => by
    obtain ⟨y, ys, rfl, h2, h3⟩ := h
    obtain ⟨x, h4, h5⟩ := OnA.get (i := i) h3 (by simpa using e)
    exact ⟨x, by simpa using h4, h5⟩
theorem start_on {N : List Str} {args : List Vr} {vs : List V} (h : OnA Z G α args vs) : OnE Z G α (startE N.length args) (L2.start N vs) := by
  have hl := h.len
  refine ⟨?_, fun i d e => ?_⟩
  · unfold startE L2.start
    rw [List.length_append, List.length_append, List.length_map, List.length_map, List.length_replicate, List.length_replicate, hl]
  · unfold startE at e
    by_cases hi : i < args.length
    · rw [List.getElem?_append_left (by rw [List.length_map]; exact hi), List.getElem?_map] at e
      cases q : args[i]? with
      | none => rw [q] at e; cases e
      | some a =>
        rw [q] at e
        cases e
        obtain ⟨x, h1, h2⟩ := h.get q
        refine ⟨x, ?_, h2⟩
        unfold L2.start
        rw [List.getElem?_append_left (by rw [List.length_map, hl]; exact hi), List.getElem?_map, h1]
        rfl
    · rw [List.getElem?_append_right (by rw [List.length_map]; omega), List.getElem?_replicate] at e
      split at e <;> cases e
end
/-- a def with defaults or without -/
structure FunD (K : PySem.W.Frag) (x qual : Str) (st : Stmt) (f : Addr) (fd : FuncData) : Prop where
  ex : ∃ (oc : Value) (od : Option Addr) (dV kV doc pm : Value) (an : Option Addr) (cdv ct : Value) (osl : Array (Option Value)),
    fd = PySem.W.fnOf x qual (defArgs st) (defBody st) (defScope st) dV kV doc pm an cdv ct ∧ K.lookup f = some ⟨oc, od, .func fd, osl⟩ ∧ PySem.W.codeIn K cdv qual = true
  kp : PySem.W.keepIn K (.ref f) = true
theorem Fun.d {K : PySem.W.Frag} {x qual : Str} {st : Stmt} {f : Addr} {fd : FuncData} (F : Fun K x qual st f fd) : FunD K x qual st f fd := by
  obtain ⟨⟨oc, od, kV, doc, pm, an, cdv, ct, osl, h1, h2, h3⟩, h4⟩ := F
  exact ⟨⟨oc, od, .none, kV, doc, pm, an, cdv, ct, osl, h1, h2, h3⟩, h4⟩
/-- the wish of a def about exceptions -/
abbrev WD (E : XK) : WX := fun cls d _ H => E cls d H
/-- THE RULE: a def computes its denotation -/
theorem fn_d {Z : Zt} {P : Program} {w : World} {K : PySem.W.Frag} {mg : Str → Option Value} {base : Heap} {x qual : Str} {st : Stmt} {f : Addr} {fd : FuncData} {N ps : List Str} {k : Nat} {fb : FS} (F : FunD K x qual st f fd) (sc : FnScope N ps (defScope st))
    (hb : ∀ (cdv : Value) (A : Around) (outer : List PySem.Env) (s : Shared) (H : Hp) (E : XK), Room k (A.deeper (envOfC qual (defScope st) s.heap.objs.size f cdv)) →
      PSsF Z (WD E) (cxOf (L2.CX P w) P w K mg base N qual (defScope st) f cdv A outer s H E) (defBody st) fb) : FnOk P w K mg base (L2.CX P w) (k + 1) f fd ps (spD Z ps.length (defD N.length fb)) := by
  obtain ⟨oc, od, dV, kV, doc, pm, an, cdv, ct, osl, rfl, lk, hcd⟩ := F.ex
  refine fn_of lk hcd sc (fun vs H Q E h => ?_) fun A outer s H vs Q E hr h => ?_
  · obtain ⟨G, α, S, args, _, h1, h2, _⟩ := h
    rw [h1.len, h2]
  · obtain ⟨G, α, S, args, hd, oa, hl, w'⟩ := h
    refine ⟨_, (hb cdv A outer s H E hr).ps, startE N.length args, G, α, S, hd, start_on oa, ?_⟩
    have w2 := exitR_ok hd w'
    cases q : fb (startE N.length args) S with
    | nx e2 S2 =>
      rw [q] at w2
      exact fun σ2 H2 G2 α2 f2 hd2 oe2 => w2 H2 G2 α2 f2 hd2 _ (or_non Z G2 α2)
    | rt S2 r =>
      rw [q] at w2
      show Wk Z (.ok S2 r) G α H (pRt Z Q) E0
      cases r <;> exact w2
    | ex e2 S2 x =>
      rw [q] at w2
      exact fun σ2 cls d H2 G2 α2 f2 hd2 oe2 ox => w2 cls d H2 G2 α2 f2 hd2 ox
    | bk e2 S2 => rw [q] at w2; exact w2.elim
    | ct e2 S2 => rw [q] at w2; exact w2.elim
    | no => rw [q] at w2; exact w2.elim
/-! ### calls -/
def fCallD (m : Nat) (D : FD) (fa : FA) : FE := fun env S => (fa env S).bind fun S1 l => if l.length = m then D l S1 else .no
/-- an argument that the callee changes: a new thing becomes a cell -/
def fConsC (fa : FE) (fr : FA) : FA := fun env S => match fa env S with
  | .ok S1 (.val v) => (fr env S1).bind fun S2 l => .ok S2 (v :: l)
  | .ok S1 (.new c) => (fr env (S1 ++ [c])).bind fun S2 l => .ok S2 (.r S1.length :: l)
  | .ex S1 x => .ex S1 x
  | .no => .no
section
variable {Z : Zt} {X : Cx} {W : WX} {k m : Nat} {f : Addr} {fd : FuncData} {ps : List Str} {D : FD} {x : Str} {p pos : Pos} {e : Expr} {es : List Expr} {fa : FA} {fe : FE}
theorem pafc_cons {fr : FA} (ha : PF Z (WE W) X e fe) (hr : PAF Z (WE W) X es fr) (he : starEach (e :: es) X.env = (false, eval e X.env) :: starEach es X.env := by rfl) : PAF Z (WE W) X (e :: es) (fConsC fe fr) := by
  obtain ⟨tb, h3, h4⟩ := hr.ex
  refine ⟨_, pa_cons ha.pe h3 he, fun env σ G α S H Q hd oe w => ?_⟩
  refine ⟨env, G, α, S, hd, oe, ?_⟩
  unfold fConsC at w
  cases q : fe env S with
  | no => rw [q] at w; exact w.elim
  | ex S1 x => rw [q] at w; exact w
  | ok S1 b =>
    rw [q] at w
    cases b with
    | val v =>
      intro H2 G2 α2 f2 hd2 y oy
      refine h4.bind hd2 (oe.up f2.g f2.a) (Wk.later w f2) fun S3 l vs H3 G3 α3 f3 hd3 oe3 ol w3 => w3.here hd3 _ ⟨_, _, rfl, oy.up f3.g f3.a, ol⟩
    | new c =>
      intro H2 G2 α2 f2 hd2 q n
      have hd3 := hd2.push n.g n.a n.c
      have f3 := f2.push n.h
      have hq : OnR Z G2 (α2 ++ [q]) (.r S1.length) (.ref q) := ⟨q, rfl, by rw [← hd2.len, List.getElem?_append_right (Nat.le_refl _), Nat.sub_self]; rfl⟩
      exact h4.bind hd3 (oe.up f3.g f3.a) (Wk.later w f3) fun S4 l vs H4 G4 α4 f4 hd4 oe4 ol w4 => w4.here hd4 _ ⟨_, _, rfl, hq.up f4.g f4.a, ol⟩
theorem sp_of {vs : List V} {l : List Vr} {G H : Hp} {α : List Addr} {S : Sto} {Q : VK} {E : XK} (hd : Hd Z G α S H) (ol : OnA Z G α l vs) (w : Wk Z (if l.length = m then D l S else .no) G α H (pRt Z Q) E) : spD Z m D vs H Q E := by
  by_cases h : l.length = m
  · rw [if_pos h] at w
    exact ⟨G, α, S, l, hd, ol, h, w⟩
  · rw [if_neg h] at w
    exact w.elim
theorem pf_call (F : FnOk X.prog X.w X.K X.mg X.base (L2.CX X.prog X.w) k f fd ps (spD Z m D)) (hr : Room k X.A) (tk : Takes X W) (hg : Gl X x) (hm : X.mg x = some (.ref f)) (hk : PySem.W.keepIn X.K (.ref f) = true) (hb : Binds X.K fd ps [])
    (ha : PAF Z (WE W) X (e :: es) fa) (hdb : (x == ("__debug__" : Str)) = false := by decide) (he : starEach (e :: es) X.env = (false, eval e X.env) :: starEach es X.env := by rfl) (hpl : (backTo pos (starEach es X.env)).any (·.1) = false := by rfl) :
    PF Z (WE W) X (.Call (.Name x p) (e :: es) [] pos) (fCallD m D fa) := by
  obtain ⟨ta, h1, h2⟩ := ha.ex
  refine ⟨_, pe_callSD (E := WE W) F hr hg hm hk hb .nil (passAt tk) h1 hdb he hpl, fun env σ G α S H Q hd oe w => h2.bind hd oe w fun S2 l vs H2 G2 α2 f2 hd2 oe2 ol w2 => ?_⟩
  rw [List.append_nil]
  exact sp_of hd2 ol w2
theorem pf_call0 (F : FnOk X.prog X.w X.K X.mg X.base (L2.CX X.prog X.w) k f fd ps (spD Z 0 D)) (hr : Room k X.A) (tk : Takes X W) (hg : Gl X x) (hm : X.mg x = some (.ref f)) (hk : PySem.W.keepIn X.K (.ref f) = true) (hb : Binds X.K fd ps [])
    (hdb : (x == ("__debug__" : Str)) = false := by decide) : PF Z (WE W) X (.Call (.Name x p) [] [] pos) (fCallD 0 D fNil) := by
  refine ⟨fun σ H Q => spD Z 0 D [] H Q (WE W σ), ⟨fun pins s σ H Q I h => ?_⟩, fun env σ G α S H Q hd oe w => sp_of (l := []) hd rfl w⟩
  refine wpAny_Call_Name_kw (ld_glob I hg hm ?_ hdb)
  exact PySem.W.callWith_K0 I.kIn hk (run_fnSD (us := []) (vs := []) (dvs := []) (E := WE W) F hr hb .nil (passAt tk σ) I .nil h)
end
end DN

/-! DnL: objects: fields, methods, making. -/
namespace DN
open PySem PySem.Spec PyProof.Rows L2 Evl
/-! ### fields -/
def fldOf (l : List Dv) : List Str → Str → Option Dv
  | g :: fs, f => match l with
    | d :: r => if f == g then some d else fldOf r fs f
    | [] => none
  | [], _ => none
def gFld (cs : List String) (f : Str) : Dv → Option Rt
  | .obj c l => if cs.contains c then (match fldOf l (flds c) f with
    | some d => vD d
    | none => none) else none
  | _ => none
def AllC (P : String → Prop) : List String → Prop
  | [] => True
  | c :: r => P c ∧ AllC P r
theorem AllC.mem {P : String → Prop} : ∀ {cs : List String} {c : String}, AllC P cs → cs.contains c = true → P c
  | [], c, _, h => by simp at h
  | a :: r, c, h, e => by
    rw [List.contains_cons, Bool.or_eq_true] at e
    rcases e with e | e
    · rw [beq_iff_eq.mp e]; exact h.1
    · exact AllC.mem h.2 e
/-- the class c has the field f of its instances -/
structure Fd (Z : Zt) (f : Str) (c : String) : Prop where
  cl : Cls Z.K (Z.cm c)
  na : NoAttr Z.K (Z.cm c) f
section
variable {Z : Zt} {X : Cx} {G H G2 H2 : Hp} {α α2 : List Addr} {S : Sto} {Q : VK} {E : XK}
theorem fld_on {f : Str} : ∀ {fs : List Str} {l : List Dv} {xs : List V} {d : Dv}, OnL Z G l xs → fldOf l fs f = some d → ∃ v, (fs.zip xs).lookup f = some v ∧ On Z G d v
  | [], l, xs, d, h, e => by unfold fldOf at e; cases e
  | g :: fs, l, xs, d, h, e => by
    cases l with
    | nil => unfold fldOf at e; cases e
    | cons a r =>
      obtain ⟨y, ys, rfl, h2, h3⟩ := OnL.cons.mp h
      have e' : (if f == g then some a else fldOf r fs f) = some d := e
      rw [List.zip_cons_cons]
      cases q : f == g with
      | true =>
        rw [q] at e'
        cases e'
        exact ⟨y, by simp only [List.lookup, q], h2⟩
      | false =>
        rw [q] at e'
        obtain ⟨v, h4, h5⟩ := fld_on (fs := fs) h3 e'
        exact ⟨v, by simp only [List.lookup, q]; exact h4, h5⟩
variable {Ew : L2.St → XK} {W : WX} {o e : Expr} {es : List Expr} {fo fe : FE} {fa : FA} {pos apos : Pos} {f : Str}
theorem pf_fld (cs : List String) (hK : X.K = Z.K) (hcs : AllC (Fd Z f) cs) (ho : PF Z Ew X o fo) (hb : attributeBase o f X.env (eval o X.env) = eval o X.env := by rfl) : PF Z Ew X (.Attribute o f pos) (fUn (gFld cs f) fo) := by
  obtain ⟨to, h1, h2⟩ := ho.ex
  refine ⟨_, OP.pe_fldK Z.K h1 hb hK, fun env σ G α S H Q hd oe w => h2.bind hd oe w fun S2 a x H2 G2 α2 f2 hd2 oe2 ox w2 => ?_⟩
  obtain ⟨G3, α3, S3, u, hd3, hu, w3⟩ := g1_ok hd2 ox w2
  cases u with
  | obj c l =>
    obtain ⟨a, dx, xs, rfl, k1, k2, k3⟩ := hu
    have w3 : Wk Z (R.of S3 (if cs.contains c then (match fldOf l (flds c) f with | some d => vD d | none => none) else none)) G3 α3 H2 (pRt Z Q) E0 := w3
    cases q : cs.contains c with
    | false => rw [q] at w3; exact w3.elim
    | true =>
      rw [q] at w3
      have w3 : Wk Z (R.of S3 (match fldOf l (flds c) f with | some d => vD d | none => none)) G3 α3 H2 (pRt Z Q) E0 := w3
      have fd := hcs.mem q
      cases q2 : fldOf l (flds c) f with
      | none => rw [q2] at w3; exact w3.elim
      | some d =>
        rw [q2] at w3
        obtain ⟨v, e1, o1⟩ := fld_on k3 q2
        exact ⟨a, Z.cm c, dx, _, v, rfl, k1, fd.cl, fd.na, e1, wD w3 hd3 o1⟩
  | _ => exact w3.elim
/-! ### a field is set -/
def idxS (f : Str) : List Str → Option Nat
  | [] => none
  | g :: r => if f == g then some 0 else (idxS f r).map (· + 1)
def putFd (c : String) (f : Str) (l : List Dv) (v : Dv) : Option (List Dv) := match idxS f (flds c) with
  | some i => if i < l.length then some (l.set i v) else if i = l.length then some (l ++ [v]) else none
  | none => none
def setFd (cs : List String) (f : Str) (env : Env) (S : Sto) (o v : Vr) : RS := match o, v with
  | .r n, .d v => match S[n]? with
    | some (.ob c l) => if cs.contains c then (match putFd c f l v with
      | some l2 => .nx env (S.set n (.ob c l2))
      | none => .no) else .no
    | _ => .no
  | _, _ => .no
def kFld (cs : List String) (f : Str) (fo fv : FE) : FS := fun env S => sV env (fv env S) fun S1 v => sV env (fo env S1) fun S2 o => setFd cs f env S2 o v
theorem putF_zip {f : Str} {y : V} : ∀ {fs : List Str} {xs : List V} {i : Nat}, fs.Nodup → idxS f fs = some i → xs.length ≤ fs.length → i ≤ xs.length →
    putF f y (fs.zip xs) = fs.zip (if i < xs.length then xs.set i y else xs ++ [y])
  | [], xs, i, nd, e, hl, hi => by cases e
  | g :: fs, xs, i, nd, e, hl, hi => by
    have e' : (if f == g then some 0 else (idxS f fs).map (· + 1)) = some i := e
    cases q : f == g with
    | true =>
      rw [q] at e'
      cases e'
      have eg := beq_iff_eq.mp q
      cases xs with
      | nil => rw [List.zip_nil_right, if_neg (by simp), List.nil_append, List.zip_cons_cons, List.zip_nil_right, eg]; rfl
      | cons x xs =>
        rw [if_pos (by simp), List.set_cons_zero, List.zip_cons_cons, List.zip_cons_cons]
        show (if g = f then (g, y) :: fs.zip xs else _) = _
        rw [if_pos eg.symm]
    | false =>
      rw [q] at e'
      cases q2 : idxS f fs with
      | none => rw [q2] at e'; cases e'
      | some j =>
        rw [q2] at e'
        cases e'
        have ng : ¬ g = f := fun h => by rw [h, beq_self_eq_true] at q; cases q
        cases xs with
        | nil => simp at hi
        | cons x xs =>
          rw [List.zip_cons_cons]
          show (if g = f then (g, y) :: fs.zip xs else (g, x) :: putF f y (fs.zip xs)) = _
          rw [if_neg ng, putF_zip (List.nodup_cons.mp nd).2 q2 (by simpa using hl) (by simpa using hi)]
          by_cases c : j < xs.length
          · rw [if_pos c, if_pos (by simpa using c), List.set_cons_succ, List.zip_cons_cons]
          · rw [if_neg c, if_neg (by simpa using c), List.cons_append, List.zip_cons_cons]
theorem flds_nd (c : String) : (flds c).Nodup := by
  unfold flds
  split
  · decide
  split
  · decide
  split
  · decide
  split
  · decide
  split
  · decide
  split
  · decide
  split
  · decide
  · decide
theorem flds_len (c : String) : (flds c).length ≤ 6 := by
  unfold flds
  split
  · decide
  split
  · decide
  split
  · decide
  split
  · decide
  split
  · decide
  split
  · decide
  split
  · decide
  · decide
theorem idx_lt {f : Str} : ∀ {fs : List Str} {i : Nat}, idxS f fs = some i → i < fs.length
  | [], i, e => by cases e
  | g :: fs, i, e => by
    have e' : (if f == g then some 0 else (idxS f fs).map (· + 1)) = some i := e
    cases q : f == g with
    | true => rw [q] at e'; cases e'; simp
    | false =>
      rw [q] at e'
      cases q2 : idxS f fs with
      | none => rw [q2] at e'; cases e'
      | some j => rw [q2] at e'; cases e'; have := idx_lt q2; simpa using this
theorem psf_fld (cs : List String) {p' : Pos} (hK : X.K = Z.K) (hcs : AllC (Fd Z f) cs) (ho : PF Z (WE W) X o fo) (he : PF Z (WE W) X e fe) (hs : swapsWith e (some (.Attribute o f p')) pos.line X.env = pure false := by rfl) :
    PSF Z W X (.Assign [.Attribute o f p'] e pos) (kFld cs f fo fe) := by
  refine .of (ps_fld ho.pe he.pe hs) fun env σ G α S H D hd oe w => se_tF.bindS hd oe w fun S2 dv v H2 G2 α2 _ f2 hd2 oe2 ov w2 => ?_
  refine se_tF.bindS hd2 oe2 w2 fun S3 d3 o3 H3 G3 α3 _ f3 hd3 oe3 ov3 w3 => ?_
  cases d3 with
  | d _ => exact w3.elim
  | r n =>
    cases dv with
    | r _ => exact w3.elim
    | d dv =>
      have w3 : WkS Z (match S3[n]? with | some (.ob c l) => (if cs.contains c then (match putFd c f l dv with | some l2 => RS.nx env (S3.set n (.ob c l2)) | none => .no) else .no) | _ => .no) G3 α3 H3 D W := w3
      cases q : S3[n]? with
      | none => rw [q] at w3; exact w3.elim
      | some cl =>
        rw [q] at w3
        cases cl with
        | ob c l =>
          have w3 : WkS Z (if cs.contains c then (match putFd c f l dv with | some l2 => RS.nx env (S3.set n (.ob c l2)) | none => .no) else .no) G3 α3 H3 D W := w3
          cases q2 : cs.contains c with
          | false => rw [q2] at w3; exact w3.elim
          | true =>
            rw [q2] at w3
            have w3 : WkS Z (match putFd c f l dv with | some l2 => RS.nx env (S3.set n (.ob c l2)) | none => .no) G3 α3 H3 D W := w3
            have fd := hcs.mem q2
            cases q3 : putFd c f l dv with
            | none => rw [q3] at w3; exact w3.elim
            | some l2 =>
              rw [q3] at w3
              have w3 : WkS Z (RS.nx env (S3.set n (.ob c l2))) G3 α3 H3 D W := w3
              obtain ⟨a, rfl, ha⟩ := ov3
              obtain ⟨dx, xs, e1, e2, e3⟩ := (hd3.at_ n a _ ha q).2
              have ovv : On Z G3 dv v := On.up f3.g (show On Z G2 dv v from ov)
              unfold putFd at q3
              cases q4 : idxS f (flds c) with
              | none => rw [q4] at q3; cases q3
              | some i =>
                rw [q4] at q3
                have q3 : (if i < l.length then some (l.set i dv) else if i = l.length then some (l ++ [dv]) else none) = some l2 := q3
                have hxl : xs.length ≤ (flds c).length := by rw [e3.len]; exact e2
                have fin : ∀ ys, putF f v ((flds c).zip xs) = (flds c).zip ys → OnL Z G3 l2 ys → l2.length ≤ (flds c).length →
                    ∃ a1 C dx1 fs, V.ref a = .ref a1 ∧ H3 a1 = some (.ins C dx1 fs) ∧ Cls X.K C ∧ NoAttr X.K C f ∧ fs.length < 1000 ∧ D.nx σ (upd H3 a1 (.ins C dx1 (putF f v fs))) := fun ys h1 h2 h3 => by
                  obtain ⟨hd5, f5⟩ := hd3.put (c2 := .ob c l2) (o := .ins (Z.cm c) dx ((flds c).zip ys)) ha q (fun c => nomatch c) ⟨dx, ys, rfl, h3, h2⟩
                  refine ⟨a, Z.cm c, dx, _, rfl, e1, hK ▸ fd.cl, hK ▸ fd.na, ?_, ?_⟩
                  · have := flds_len c
                    rw [List.length_zip]
                    omega
                  · rw [h1]
                    exact w3 _ _ _ _ f5 hd5 (oe3.up f5.g f5.a)
                by_cases hi : i < l.length
                · rw [if_pos hi] at q3
                  cases q3
                  refine fin (xs.set i v) ?_ (e3.set ovv) (by rw [List.length_set]; exact e2)
                  rw [putF_zip (flds_nd c) q4 hxl (by rw [e3.len]; omega), if_pos (by rw [e3.len]; exact hi)]
                · rw [if_neg hi] at q3
                  by_cases hi2 : i = l.length
                  · rw [if_pos hi2] at q3
                    cases q3
                    refine fin (xs ++ [v]) ?_ (e3.app (OnL.cons' ovv OnL.nil')) (by have := idx_lt q4; rw [List.length_append, List.length_singleton]; omega)
                    rw [putF_zip (flds_nd c) q4 hxl (by rw [e3.len]; omega), if_neg (by rw [e3.len]; exact hi)]
                  · rw [if_neg hi2] at q3
                    cases q3
        | _ => exact w3.elim
end
end DN

/-! DnM: methods, properties, making, classmethods. -/
namespace DN
open PySem PySem.Spec PyProof.Rows L2 Evl
theorem passE {X : Cx} : Passes (L2.CX X.prog X.w) X E0 := fun _ _ _ _ _ _ _ h => by
  obtain ⟨_, _, _, _, _, _, _, _, _, _, _, _, h⟩ := h
  exact h.elim
theorem passN {X : Cx} : Passes (L2.CX X.prog X.w) X.nox E0 := fun _ _ _ _ _ _ _ h => by
  obtain ⟨_, _, _, _, _, _, _, _, _, _, _, _, h⟩ := h
  exact h.elim
/-- for each class: how many arguments, what the def computes -/
abbrev MT := List (String × Nat × FD)
def MT.at (t : MT) (c : String) : Option (Nat × FD) := match t with
  | [] => none
  | (b, p) :: r => if b == c then some p else MT.at r c
def AllM (P : String → Nat → FD → Prop) : MT → Prop
  | [] => True
  | (c, n, D) :: r => P c n D ∧ AllM P r
theorem AllM.mem {P : String → Nat → FD → Prop} : ∀ {t : MT} {c : String} {n : Nat} {D : FD}, AllM P t → t.at c = some (n, D) → P c n D
  | [], c, n, D, _, h => by cases h
  | (b, p, q) :: r, c, n, D, h, e => by
    have e' : (if b == c then some (p, q) else MT.at r c) = some (n, D) := e
    cases g : b == c with
    | true =>
      rw [g] at e'
      cases e'
      rw [← beq_iff_eq.mp g]
      exact h.1
    | false =>
      rw [g] at e'
      exact AllM.mem h.2 e'
def clsV (S : Sto) : Vr → Option String
  | .d (.obj c _) => some c
  | .r n => match S[n]? with
    | some (.ob c _) => some c
    | _ => none
  | _ => none
section
variable {Z : Zt} {X : Cx} {G H G2 H2 : Hp} {α α2 : List Addr} {S : Sto} {Q : VK} {E : XK}
theorem clsV_on {o : Vr} {x : V} {c : String} (hd : Hd Z G α S H) (ox : OnR Z G α o x) (e : clsV S o = some c) : ∃ a dx xs, x = .ref a ∧ H a = some (.ins (Z.cm c) dx ((flds c).zip xs)) := by
  cases o with
  | d d =>
    cases d with
    | obj b l =>
      cases e
      have h := On.h hd.ex (show On Z G (.obj c l) x from ox)
      obtain ⟨a, dx, xs, h1, h2, _⟩ := h
      exact ⟨a, dx, xs, h1, h2⟩
    | _ => cases e
  | r n =>
    obtain ⟨a, rfl, ha⟩ := ox
    obtain ⟨cl, h1, h2, h3⟩ := hd.cell2 ha
    unfold clsV at e
    simp only [h1] at e
    cases cl with
    | ob b l =>
      cases e
      obtain ⟨dx, xs, h4, _⟩ := h3
      exact ⟨a, dx, xs, rfl, h4⟩
    | _ => cases e
theorem zip_no {f : Str} : ∀ {fs : List Str} {xs : List V}, fs.contains f = false → (fs.zip xs).lookup f = none
  | [], _, _ => rfl
  | n :: r, [], _ => rfl
  | n :: r, x :: t, h => by
    show List.lookup f ((n, x) :: (r.zip t)) = none
    rw [List.contains_cons, Bool.or_eq_false_iff] at h
    simp only [List.lookup, h.1]
    exact zip_no h.2
/-! ### methods -/
structure MtOk (X : Cx) (m : Str) (C : Addr) (sp : Sp) : Prop where
  ex : ∃ k f fd ps, Room k X.A ∧ Cls X.K C ∧ Meth X.K C m f ∧ FnOk X.prog X.w X.K X.mg X.base (L2.CX X.prog X.w) k f fd ps sp ∧ Binds X.K fd ps []
def tMethX (X : Cx) (W : WX) (m : Str) (ta : TE) (t : TA) : TE := fun σ H Q => ta σ H fun x H1 => ∃ a dx fs C sp, x = .ref a ∧ H1 a = some (.ins C dx fs) ∧ MtOk X m C sp ∧ fs.lookup m = none ∧ t σ H1 fun vs H2 => sp (.ref a :: vs) H2 Q (WE W σ)
variable {W : WX} {o e : Expr} {es : List Expr} {m x : Str} {p pos apos : Pos} {ta : TE} {t : TA} {fo : FE} {fa : FA}
theorem pe_methX {pl : Sem Bool} (he : PE X o ta) (tk : Takes X W) (ha : PA X (e :: es) t)
    (hst : starEach (e :: es) X.env = (false, eval e X.env) :: starEach es X.env := by rfl) (hpl : (backTo pos (starEach es X.env)).any (·.1) = false := by rfl)
    (ht : eval (.Call (.Attribute o m apos) (e :: es) [] pos) X.env = (do
      let ov ← eval o X.env
      standAt apos.atName
      let (f, first) ← holding [ov] (getMethod ov m pl)
      callWith pos f first (backTo pos (starEach (e :: es) X.env)) (backToKw pos (keywordEach [] X.env))) := by rfl) :
    PE X (.Call (.Attribute o m apos) (e :: es) [] pos) (tMethX X W m ta t) := by
  refine ⟨fun pins s σ H Q I h => ?_⟩
  refine PySem.W.methodCall_KW (pl := pl) (thn (he.run pins s σ H _ I h) fun u s1 ⟨x, H1, I1, rx, a, dx, fs, C, sp, ex, ea, mt, l, q⟩ => ?_) ht
  subst ex
  obtain rfl : u = Value.ref a := rx
  obtain ⟨k, f, fd, ps, hr, c, hm, F, hb⟩ := mt.ex
  refine getmeth_ok I1 ea c hm l ?_
  refine PySem.W.callWith_K (first := [.ref a]) (h₀ := X.base) I.ok.mod.kin hm.kp (thn (ha.run pos pins s1 σ H1 _ I1 q) fun us s2 ⟨vs, H2, I2, r, q2⟩ => ⟨I2.kIn, ?_⟩) hst hpl
  exact run_fnSD (us := .ref a :: us) (vs := .ref a :: vs) (dvs := []) (E := WE W) F hr hb .nil (passAt tk σ) I2 (.cons rfl r) (by rw [List.append_nil]; exact q2)
theorem pe_methX0 {pl : Sem Bool} (he : PE X o ta) (tk : Takes X W)
    (ht : eval (.Call (.Attribute o m apos) [] [] pos) X.env = (do
      let ov ← eval o X.env
      standAt apos.atName
      let (f, first) ← holding [ov] (getMethod ov m pl)
      callWith pos f first (backTo pos (starEach [] X.env)) (backToKw pos (keywordEach [] X.env))) := by rfl) :
    PE X (.Call (.Attribute o m apos) [] [] pos) (tMethX X W m ta tNil) := by
  refine ⟨fun pins s σ H Q I h => ?_⟩
  refine PySem.W.methodCall_KW (pl := pl) (thn (he.run pins s σ H _ I h) fun u s1 ⟨x, H1, I1, rx, a, dx, fs, C, sp, ex, ea, mt, l, q⟩ => ?_) ht
  subst ex
  obtain rfl : u = Value.ref a := rx
  obtain ⟨k, f, fd, ps, hr, c, hm, F, hb⟩ := mt.ex
  refine getmeth_ok I1 ea c hm l ?_
  exact PySem.W.callWith_K0 (first := [.ref a]) I1.kIn hm.kp (run_fnSD (us := [.ref a]) (vs := [.ref a]) (dvs := []) (E := WE W) F hr hb .nil (passAt tk σ) I1 (.cons rfl .nil) (by rw [List.append_nil]; exact q))
def fMethD (t : MT) (fo : FE) (fa : FA) : FE := fun env S => (fo env S).bindV fun S1 o => match clsV S1 o with
  | some c => (match t.at c with
    | some (n, D) => (fa env S1).bind fun S2 l => if (o :: l).length = n then D (o :: l) S2 else .no
    | none => .no)
  | none => .no
/-- the class c has the method -/
structure MtD (X : Cx) (Z : Zt) (m : Str) (c : String) (n : Nat) (D : FD) : Prop where
  ok : MtOk X m (Z.cm c) (spD Z n D)
  nf : (flds c).contains m = false
theorem se_methD {T : MT} (hT : AllM (MtD X Z m) T) (ho : SE Z (WE W) ta fo) (ha : SA Z (WE W) t fa) : SE Z (WE W) (tMethX X W m ta t) (fMethD T fo fa) := fun env σ G α S H Q hd oe w => by
  refine ho.bind hd oe w fun S2 a x H2 G2 α2 f2 hd2 oe2 ox w2 => ?_
  cases q : clsV S2 a with
  | none => simp only [q] at w2; exact w2.elim
  | some c =>
    simp only [q] at w2
    cases q2 : T.at c with
    | none => simp only [q2] at w2; exact w2.elim
    | some nD =>
      obtain ⟨n, D⟩ := nD
      simp only [q2] at w2
      obtain ⟨b, dx, xs, rfl, hb⟩ := clsV_on hd2 ox q
      have mt := hT.mem q2
      refine ⟨b, dx, _, _, _, rfl, hb, mt.ok, zip_no mt.nf, ha.bind hd2 oe2 w2 fun S3 l vs H3 G3 α3 f3 hd3 oe3 ol w3 => ?_⟩
      exact sp_of hd3 (l := a :: l) ⟨_, _, rfl, ox.up f3.g f3.a, ol⟩ w3
theorem pf_methD {pl : Sem Bool} {T : MT} (tk : Takes X W) (hT : AllM (MtD X Z m) T) (ho : PF Z (WE W) X o fo) (ha : PAF Z (WE W) X (e :: es) fa)
    (hst : starEach (e :: es) X.env = (false, eval e X.env) :: starEach es X.env := by rfl) (hpl : (backTo pos (starEach es X.env)).any (·.1) = false := by rfl)
    (ht : eval (.Call (.Attribute o m apos) (e :: es) [] pos) X.env = (do
      let ov ← eval o X.env
      standAt apos.atName
      let (f, first) ← holding [ov] (getMethod ov m pl)
      callWith pos f first (backTo pos (starEach (e :: es) X.env)) (backToKw pos (keywordEach [] X.env))) := by rfl) :
    PF Z (WE W) X (.Call (.Attribute o m apos) (e :: es) [] pos) (fMethD T fo fa) := by
  obtain ⟨to, h1, h2⟩ := ho.ex
  obtain ⟨ta, h3, h4⟩ := ha.ex
  exact ⟨_, pe_methX (pl := pl) h1 tk h3 hst hpl ht, se_methD hT h2 h4⟩
theorem pf_methD0 {pl : Sem Bool} {T : MT} (tk : Takes X W) (hT : AllM (MtD X Z m) T) (ho : PF Z (WE W) X o fo)
    (ht : eval (.Call (.Attribute o m apos) [] [] pos) X.env = (do
      let ov ← eval o X.env
      standAt apos.atName
      let (f, first) ← holding [ov] (getMethod ov m pl)
      callWith pos f first (backTo pos (starEach [] X.env)) (backToKw pos (keywordEach [] X.env))) := by rfl) :
    PF Z (WE W) X (.Call (.Attribute o m apos) [] [] pos) (fMethD T fo fNil) := by
  obtain ⟨to, h1, h2⟩ := ho.ex
  exact ⟨_, pe_methX0 (pl := pl) h1 tk ht, se_methD hT h2 sa_nil⟩
/-! ### what is asked by the language: an exception is not looked at -/
def okR : R Rt → R Rt
  | .ex _ _ => .no
  | r => r
theorem okR_ok {r : R Rt} {E' : XK} (w : Wk Z (okR r) G α H (pRt Z Q) E) : Wk Z r G α H (pRt Z Q) E' := by
  cases r with
  | no => exact w.elim
  | ex S x => exact w.elim
  | ok S b => exact w
/-! ### properties -/
structure PrOk (X : Cx) (f : Str) (C : Addr) (sp : Sp) : Prop where
  ex : ∃ k p g fd ps, Room (k + 1) X.A ∧ Cls X.K C ∧ PropOf X.K C f p g ∧ FnOk X.prog X.w X.K X.mg X.base (L2.CX X.prog X.w) k g fd ps sp ∧ Binds X.K fd ps []
structure PrD (X : Cx) (Z : Zt) (f : Str) (c : String) (n : Nat) (D : FD) : Prop where
  ok : PrOk X f (Z.cm c) (spD Z n D)
def tPropX (X : Cx) (f : Str) (ta : TE) : TE := fun σ H Q => ta σ H fun x H1 => ∃ a dx fs C sp, x = .ref a ∧ H1 a = some (.ins C dx fs) ∧ PrOk X f C sp ∧ sp [.ref a] H1 Q E0
theorem pe_propX {f : Str} (he : PE X o ta) (hab : attributeBase o f X.env (eval o X.env) = eval o X.env := by rfl) : PE X (.Attribute o f pos) (tPropX X f ta) := by
  refine ⟨fun pins s σ H Q I h => ?_⟩
  refine attr_of hab (thn (he.run pins s σ H _ I h) fun u s1 ⟨x, H1, I1, rx, a, dx, fs, C, sp, ex, ea, pr, q⟩ => ?_)
  subst ex
  obtain rfl : u = Value.ref a := rx
  obtain ⟨k, p, g, fd, ps, hr, c, hp, F, hb⟩ := pr.ex
  exact getprop_ok (dvs := []) I1 ea c hp F hr hb .nil passN q
def fAsk1 (t : MT) (S : Sto) (o : Vr) : R Rt := match clsV S o with
  | some c => (match t.at c with
    | some (n, D) => if [o].length = n then okR (D [o] S) else .no
    | none => .no)
  | none => .no
def fPropD (t : MT) (fo : FE) : FE := fun env S => (fo env S).bindV fun S1 o => fAsk1 t S1 o
theorem okR_if {c : Prop} [Decidable c] {r : R Rt} {E' : XK} (w : Wk Z (if c then okR r else .no) G α H (pRt Z Q) E) : Wk Z (if c then r else .no) G α H (pRt Z Q) E' := by
  by_cases h : c
  · rw [if_pos h] at w ⊢; exact okR_ok w
  · rw [if_neg h] at w; exact w.elim
theorem ask1 {T : MT} {P : String → Nat → FD → Prop} {a : Vr} {x : V} (hT : AllM P T) (hd2 : Hd Z G α S H) (ox : OnR Z G α a x) (w2 : Wk Z (fAsk1 T S a) G α H (pRt Z Q) E) :
    ∃ c n D b dx xs, x = .ref b ∧ H b = some (.ins (Z.cm c) dx ((flds c).zip xs)) ∧ P c n D ∧ spD Z n D [x] H Q E0 := by
  unfold fAsk1 at w2
  cases q : clsV S a with
  | none => simp only [q] at w2; exact w2.elim
  | some c =>
    simp only [q] at w2
    cases q2 : T.at c with
    | none => simp only [q2] at w2; exact w2.elim
    | some nD =>
      obtain ⟨n, D⟩ := nD
      simp only [q2] at w2
      obtain ⟨b, dx, xs, rfl, hb⟩ := clsV_on hd2 ox q
      exact ⟨c, n, D, b, dx, xs, rfl, hb, hT.mem q2, sp_of hd2 (l := [a]) ⟨_, _, rfl, ox, rfl⟩ (okR_if w2)⟩
theorem pf_prop {Ew : L2.St → XK} {f : Str} {T : MT} (hT : AllM (PrD X Z f) T) (ho : PF Z Ew X o fo) (hab : attributeBase o f X.env (eval o X.env) = eval o X.env := by rfl) : PF Z Ew X (.Attribute o f pos) (fPropD T fo) := by
  obtain ⟨to, h1, h2⟩ := ho.ex
  refine ⟨_, pe_propX h1 hab, fun env σ G α S H Q hd oe w => h2.bind hd oe w fun S2 a x H2 G2 α2 f2 hd2 oe2 ox w2 => ?_⟩
  obtain ⟨c, n, D, b, dx, xs, e1, e2, pr, sp⟩ := ask1 hT hd2 ox w2
  subst e1
  exact ⟨b, dx, _, _, _, rfl, e2, pr.ok, sp⟩
/-! ### making -/
def makeR (k : Nat) (r : R Rt) : R Rt := match r with
  | .ok S (.val (.d .non)) => (match S[k]? with
    | some (.ob c l) => .ok (S.take k) (.new (.ob c l))
    | _ => .no)
  | .ok _ _ => .no
  | .ex S x => cutX k S x
  | .no => .no
def fMakeD (c : String) (dl : List Dv) (n : Nat) (D : FD) (fa : FA) : FE := fun env S => (fa env S).bind fun S1 l =>
  if (Vr.r S1.length :: (l ++ dl.map .d)).length = n then makeR S1.length (D (.r S1.length :: (l ++ dl.map .d)) (S1 ++ [.ob c []])) else .no
structure MkOk (X : Cx) (Z : Zt) (c : String) (dl : List Dv) (n : Nat) (D : FD) : Prop where
  ex : ∃ k f fd ps ds dvs, Room (k + 1) X.A ∧ Mk X.K (Z.cm c) f ∧ FnOk X.prog X.w X.K X.mg X.base (L2.CX X.prog X.w) k f fd ps (spD Z n D) ∧ Binds X.K fd ps ds ∧ Vals dvs ds ∧ ∀ G, OnL Z G dl dvs
theorem run_makeW {k : Nat} {C f : Addr} {fd : FuncData} {ps : List Str} {sp : Sp} {dvs : List V} {ds : List Value} {CX : CXT} {pins : List (Addr × Obj)} {σ : L2.St} {H : Hp} {s : Shared} {Q : VK} {us : List Value} {vs : List V} (M : Mk X.K C f) (F : FnOk X.prog X.w X.K X.mg X.base CX k f fd ps sp) (hr : Room (k + 1) X.A) (hb : Binds X.K fd ps ds) (hd : Vals dvs ds)
    (hx : PassesAt CX X σ E) (I : Inv X pins σ H s) (r : Vals vs us)
    (h : ∀ x dx, H x = none → H dx = none → dx ≠ x → sp (.ref x :: (vs ++ dvs)) (upd (upd H dx (.own x)) x (.ins C dx [])) (fun v H2 => v = .non ∧ Q (.ref x) H2) E) :
    wpAny (model X.prog X.w) X.A (call (.ref C) us) (EP X pins σ Q) X.xe s := by
  have hq := h (s.heap.objs.size + 1) s.heap.objs.size (I.hok.fresh (Nat.le_succ _)) (I.hok.fresh (Nat.le_refl _)) (Nat.ne_of_lt (Nat.lt_succ_self _))
  have I2 := Inv.made (C := C) I
  have r2 : Vals (V.ref (s.heap.objs.size + 1) :: (vs ++ dvs)) (Value.ref (s.heap.objs.size + 1) :: (us ++ ds)) := .cons rfl (r.append hd)
  have hl : (Value.ref (s.heap.objs.size + 1) :: us ++ ds).length = ps.length := by
    have e := r2.length
    rw [F.len _ _ _ _ hq] at e
    exact e.symm
  refine wpAny_call (make_map (f := f) I.kIn M.makes M.init (beq_iff_eq.mp M.fn) (codeAny_mono (F.run _ X.stack _ _ ⟨Value.ref (s.heap.objs.size + 1) :: us, []⟩ (Value.ref (s.heap.objs.size + 1) :: (us ++ ds)) _ _ E (hr.make C us [])
    (I2.env0.make C us []) (hb _ (Value.ref (s.heap.objs.size + 1) :: us) I2.kIn hl) r2 hq) fun r s' hq' => ?_))
  cases r with
  | error e => exact hx pins _ _ e s' I2 hq'
  | ok fl =>
    cases fl with
    | ret u =>
      obtain ⟨v, H', I3, rv, ev, q3⟩ := I2.after hq'
      subst ev
      exact ⟨rv, ⟨V.ref (s.heap.objs.size + 1), H', I3, rfl, q3⟩⟩
    | next => exact False.elim hq'
    | brk => exact False.elim hq'
    | cont => exact False.elim hq'
def tMakeW (C : Addr) (sp : Sp) (dvs : List V) (W : WX) (t : TA) : TE := fun σ H Q => t σ H fun vs H1 => ∀ x dx, H1 x = none → H1 dx = none → dx ≠ x → sp (.ref x :: (vs ++ dvs)) (upd (upd H1 dx (.own x)) x (.ins C dx [])) (fun v H2 => v = .non ∧ Q (.ref x) H2) (WE W σ)
theorem OnA.app : ∀ {l m : List Vr} {xs ys : List V}, OnA Z G α l xs → OnA Z G α m ys → OnA Z G α (l ++ m) (xs ++ ys)
  | [], _, _, _, h, g => by rw [show _ = [] from h]; exact g
  | d :: l, m, xs, ys, h, g => by
    obtain ⟨y, zs, rfl, h2, h3⟩ := h
    exact ⟨y, zs ++ ys, rfl, h2, OnA.app h3 g⟩
theorem OnL.toA : ∀ {l : List Dv} {xs : List V}, OnL Z G l xs → OnA Z G α (l.map .d) xs
  | [], _, h => OnL.nil.mp h
  | d :: l, xs, h => by
    obtain ⟨y, ys, rfl, h2, h3⟩ := OnL.cons.mp h
    exact ⟨y, ys, rfl, h2, OnL.toA h3⟩
/-- the new instance is a cell -/
theorem make_ok {c : String} {n : Nat} {D : FD} {l : List Vr} {vs : List V} (hd : Hd Z G α S H) (ol : OnA Z G α l vs) (w : Wk Z (if (Vr.r S.length :: l).length = n then makeR S.length (D (.r S.length :: l) (S ++ [.ob c []])) else .no) G α H (pRt Z Q) E) :
    ∀ x dx, H x = none → H dx = none → dx ≠ x → spD Z n D (.ref x :: vs) (upd (upd H dx (.own x)) x (.ins (Z.cm c) dx [])) (fun v H2 => v = .non ∧ Q (.ref x) H2) E := by
  intro x dx hx hdx hne
  by_cases hl : (Vr.r S.length :: l).length = n
  · rw [if_pos hl] at w
    obtain ⟨hd1, f1⟩ := hd.know (o := .own x) hdx
    have hx1 : upd H dx (.own x) x = none := by rw [upd_ne hne.symm]; exact hx
    have hd2 := hd1.grow (Ex.new (o := .ins (Z.cm c) dx []) hx1)
    have f2 := f1.trans (Fr.grow hd1 (Ex.new (o := .ins (Z.cm c) dx []) hx1))
    have hG : upd G dx (.own x) x = none := fresh_back hd1.ex hx1
    have nm : x ∉ α := fun hm => hd.live hm hx
    have hd3 := hd2.push (c := .ob c []) hG nm ⟨dx, [], by rw [upd_same, List.zip_nil_right], Nat.zero_le _, OnL.nil'⟩
    have f3 := f2.push hx
    refine ⟨_, _, _, .r S.length :: l, hd3, ⟨_, _, rfl, ⟨x, rfl, by rw [← hd.len, List.getElem?_append_right (Nat.le_refl _), Nat.sub_self]; rfl⟩, ol.up f3.g f3.a⟩, hl, ?_⟩
    cases q : D (.r S.length :: l) (S ++ [.ob c []]) with
    | no => rw [q] at w; exact w.elim
    | ex S2 x =>
      rw [q] at w
      exact Xp.later (cutX_ok (by rw [hd.len]; exact w)) f3
    | ok S2 b =>
      rw [q] at w
      cases b with
      | new _ => exact w.elim
      | val v =>
        cases v with
        | r _ => exact w.elim
        | d v =>
          cases v with
          | non =>
            intro H2 G2 α2 f4 hd4 y oy
            have f5 := f3.trans f4
            refine ⟨by have : On Z G2 .non y := oy; unfold On at this; exact this, ?_⟩
            cases q2 : S2[S.length]? with
            | none => simp only [makeR, q2] at w; exact w.elim
            | some cl =>
              cases cl with
              | ob c' l' =>
                simp only [makeR, q2] at w
                rw [← hd.len] at w q2
                have ha : α2[α.length]? = some x := f4.a.get (by rw [List.getElem?_append_right (Nat.le_refl _), Nat.sub_self]; rfl)
                exact w H2 G2 α f5.cut (take_pre f5 hd4) x (own_cell hd f5 hd4 (Nat.lt_irrefl _) ha q2 (fun e => nomatch e))
              | _ => simp only [makeR, q2] at w; exact w.elim
          | _ => exact w.elim
  · rw [if_neg hl] at w
    exact w.elim
theorem pf_make {c : String} {dl : List Dv} {n : Nat} {D : FD} (M : MkOk X Z c dl n D) (tk : Takes X W) (hg : Gl X x) (hm : X.mg x = some (.ref (Z.cm c))) (ha : PAF Z (WE W) X (e :: es) fa)
    (hdb : (x == ("__debug__" : Str)) = false := by decide) (he : starEach (e :: es) X.env = (false, eval e X.env) :: starEach es X.env := by rfl) (hpl : (backTo pos (starEach es X.env)).any (·.1) = false := by rfl) :
    PF Z (WE W) X (.Call (.Name x p) (e :: es) [] pos) (fMakeD c dl n D fa) := by
  obtain ⟨k, f, fd, ps, ds, dvs, hr, M, F, hb, hdv, hdl⟩ := M.ex
  obtain ⟨ta, h1, h2⟩ := ha.ex
  refine ⟨tMakeW (Z.cm c) (spD Z n D) dvs W ta, ⟨fun pins s σ H Q I h => ?_⟩, fun env σ G α S H Q hd oe w => h2.bind hd oe w fun S2 l vs H2 G2 α2 f2 hd2 oe2 ol w2 => ?_⟩
  · refine wpAny_Call_Name_kw (ld_glob I hg hm ?_ hdb)
    refine PySem.W.callWith_K (h₀ := X.base) I.ok.mod.kin M.kp (thn (h1.run pos pins s σ H _ I h) fun us s1 ⟨vs, H1, I1, r, q⟩ => ⟨I1.kIn, ?_⟩) he hpl
    exact run_makeW M F hr hb hdv (passAt tk σ) I1 r q
  · exact make_ok hd2 (ol.app (hdl G2).toA) w2
/-- cls(..), the class held by a name -/
def fMakeL (i : Nat) (c : String) (n : Nat) (D : FD) (fa : FA) : FE := fun env S => match env[i]? with
  | some (.v (.d (.cls b))) => if b == c then fMakeD c [] n D fa env S else .no
  | _ => .no
theorem pf_makeL {i : Nat} {c : String} {n : Nat} {D : FD} (M : MkOk X Z c [] n D) (tk : Takes X W) (hN : X.N[i]? = some x) (hv : Vis X.env.scope x) (ha : PAF Z (WE W) X (e :: es) fa)
    (hdb : (x == ("__debug__" : Str)) = false := by decide) (hcd : (x == ("__classdict__" : Str)) = false := by decide) (he : starEach (e :: es) X.env = (false, eval e X.env) :: starEach es X.env := by rfl) (hpl : (backTo pos (starEach es X.env)).any (·.1) = false := by rfl) :
    PF Z (WE W) X (.Call (.Name x p) (e :: es) [] pos) (fMakeL i c n D fa) := by
  obtain ⟨k, f, fd, ps, ds, dvs, hr, M, F, hb, hdv, hdl⟩ := M.ex
  obtain ⟨ta, h1, h2⟩ := ha.ex
  refine ⟨fun σ H Q => σ[i]? = some (some (.ref (Z.cm c))) ∧ tMakeW (Z.cm c) (spD Z n D) dvs W ta σ H Q, ⟨fun pins s σ H Q I h => ?_⟩, fun env σ G α S H Q hd oe w => ?_⟩
  · obtain ⟨hs, ht⟩ := h
    refine wpAny_Call_Name_kw (thn ((pe_var (pos := p) hN hv hdb hcd).run pins s σ H (fun v H1 => v = .ref (Z.cm c) ∧ H1 = H) I ⟨.ref (Z.cm c), hs, rfl, rfl⟩) fun u s1 ⟨v, H1, I1, r1, q1⟩ => ?_)
    obtain ⟨rfl, rfl⟩ := q1
    cases r1
    refine PySem.W.callWith_K (h₀ := X.base) I.ok.mod.kin M.kp (thn (h1.run pos pins s1 σ _ _ I1 ht) fun us s2 ⟨vs, H2, I2, r, q⟩ => ⟨I2.kIn, ?_⟩) he hpl
    exact run_makeW M F hr hb hdv (passAt tk σ) I2 r q
  · unfold fMakeL at w
    cases q : env[i]? with
    | none => rw [q] at w; exact w.elim
    | some s =>
      rw [q] at w
      cases s with
      | v d =>
        cases d with
        | d d =>
          cases d with
          | cls b =>
            cases q2 : b == c with
            | false => simp only [q2] at w; exact w.elim
            | true =>
              simp only [q2] at w
              have w : Wk Z (fMakeD c [] n D fa env S) G α H (pRt Z Q) (WE W σ) := w
              obtain ⟨v, h3, h4⟩ := oe.at_ i _ q
              have h4 : On Z G (.cls b) v := h4
              unfold On at h4
              rw [h4, beq_iff_eq.mp q2] at h3
              exact ⟨h3, h2.bind hd oe w fun S2 l vs H2 G2 α2 f2 hd2 oe2 ol w2 => make_ok hd2 (ol.app (hdl G2).toA) w2⟩
          | _ => exact w.elim
        | r _ => exact w.elim
      | _ => exact w.elim
/-! ### classmethods -/
def fCMeth (c : String) (n : Nat) (D : FD) (fo : FE) (fa : FA) : FE := fun env S => (fo env S).bindV fun S1 o => match o with
  | .d (.cls b) => if b == c then (fa env S1).bind fun S2 l => if (Vr.d (.cls c) :: l).length = n then D (.d (.cls c) :: l) S2 else .no else .no
  | _ => .no
theorem run_cmW {C g q : Addr} {k : Nat} {CX : CXT} {sp : Sp} {pins : List (Addr × Obj)} {σ : L2.St} {H : Hp} {s : Shared} {us : List Value} {vs : List V} (F : FnR X.prog X.w X.K X.mg X.base CX k g sp) (hr : Room k X.A) (hx : PassesAt CX X σ E) (I : Inv X ((q, PySem.W.methodObj (.ref g) (.ref C)) :: pins) σ H s)
    (r : Vals vs us) (h : sp (.ref C :: vs) H Q E) : wpAny (model X.prog X.w) X.A (call (.ref q) us) (EP X pins σ Q) X.xe s := by
  have z : wpAny (model X.prog X.w) X.A (call (.ref q) us) (EP X ((q, PySem.W.methodObj (.ref g) (.ref C)) :: pins) σ Q) X.xe s := by
    refine wpAny_call (PySem.W.method_call (ClX.pin_at I) (codeAny_mono (F X.A X.stack s H (.ref C :: us) (.ref C :: vs) Q E hr I.env0 (.cons rfl r) h) fun r s' hq => ?_))
    cases r with
    | error e => exact hx _ H s e s' I hq
    | ok fl =>
      cases fl with
      | ret u => exact I.after hq
      | next => exact False.elim hq
      | brk => exact False.elim hq
      | cont => exact False.elim hq
  exact thn z fun _ _ y => ClX.unpinE y
theorem pf_cmeth {pl : Sem Bool} {mc : Value} {g pa : Addr} {k : Nat} {fd : FuncData} {ps : List Str} {c : String} {n : Nat} {D : FD} (r : ClX.CRead X.K (Z.cm c) mc) (cm : ClX.CMet X.K (Z.cm c) mc m pa g) (F : FnOk X.prog X.w X.K X.mg X.base (L2.CX X.prog X.w) k g fd ps (spD Z n D)) (hb : Binds X.K fd ps []) (hr : Room k X.A) (tk : Takes X W)
    (ho : PF Z (WE W) X o fo) (ha : PAF Z (WE W) X (e :: es) fa)
    (hst : starEach (e :: es) X.env = (false, eval e X.env) :: starEach es X.env := by rfl) (hpl : (backTo pos (starEach es X.env)).any (·.1) = false := by rfl)
    (ht : eval (.Call (.Attribute o m apos) (e :: es) [] pos) X.env = (do
      let ov ← eval o X.env
      standAt apos.atName
      let (f, first) ← holding [ov] (getMethod ov m pl)
      callWith pos f first (backTo pos (starEach (e :: es) X.env)) (backToKw pos (keywordEach [] X.env))) := by rfl) :
    PF Z (WE W) X (.Call (.Attribute o m apos) (e :: es) [] pos) (fCMeth c n D fo fa) := by
  obtain ⟨to, h1, h2⟩ := ho.ex
  obtain ⟨ta, h3, h4⟩ := ha.ex
  refine ⟨fun σ H Q => to σ H fun x H1 => x = .ref (Z.cm c) ∧ ta σ H1 fun vs H2 => spD Z n D (.ref (Z.cm c) :: vs) H2 Q (WE W σ), ⟨fun pins s σ H Q I h => ?_⟩, fun env σ G α S H Q hd oe w => ?_⟩
  · refine PySem.W.methodCall_KW (pl := pl) (thn (h1.run pins s σ H _ I h) fun u s1 ⟨x, H1, I1, rx, ex, q⟩ => ?_) ht
    subst ex
    obtain rfl : u = Value.ref (Z.cm c) := rx
    refine ClX.getmethcm_ok I1 r cm fun s2 I2 => ?_
    refine ClX.callwith_cm I2 (ClX.base_none I1 (Nat.le_refl _)) cm.fi (thn (h3.run pos _ s2 σ H1 _ I2 q) fun us s3 ⟨vs, H2, I3, rv, q2⟩ => ⟨⟨ClX.pin_at I3, I3.kIn⟩, ?_⟩) hst hpl
    exact run_cmW (OP.rawR F hb) hr (passAt tk σ) I3 rv q2
  · refine h2.bind hd oe w fun S2 a x H2 G2 α2 f2 hd2 oe2 ox w2 => ?_
    cases a with
    | r _ => exact w2.elim
    | d d =>
      cases d with
      | cls b =>
        cases q2 : b == c with
        | false => simp only [q2] at w2; exact w2.elim
        | true =>
          simp only [q2] at w2
          have hx : On Z G2 (.cls b) x := ox
          unfold On at hx
          rw [beq_iff_eq.mp q2] at hx
          refine ⟨hx, h4.bind hd2 oe2 w2 fun S3 l vs H3 G3 α3 f3 hd3 oe3 ol w3 => ?_⟩
          exact sp_of hd3 (l := .d (.cls c) :: l) ⟨_, _, rfl, on_cls (Z := Z) (G := G3), ol⟩ w3
      | _ => exact w2.elim
end
end DN

/-! DnN: isinstance; == != len str [] by own methods; what is not looked at; dict displays of constants. -/
namespace DN
open PySem PySem.Spec PyProof.Rows L2 Evl
/-! ### what is never reached -/
def fNo : FE := fun _ _ => .no
def kNo : FS := fun _ _ => .no
section
variable {Z : Zt} {X : Cx} {W : WX} {Ew : L2.St → XK}
theorem pf_no {e : Expr} : PF Z Ew X e fNo := ⟨fun _ _ _ => False, ⟨fun _ _ _ _ _ _ h => h.elim⟩, fun env σ G α S H Q hd oe w => w.elim⟩
theorem psf_no {st : Stmt} : PSF Z W X st kNo := ⟨⟨fun _ _ _ _ _ _ h => by
  obtain ⟨_, _, _, _, _, _, w⟩ := h
  exact w.elim⟩⟩
end
/-! ### types -/
inductive Tk where
  | b (n : String) | o (c : String)
def TYS : List String := ["bool", "int", "str", "list", "tuple", "dict"]
def tkD : Dv → Option Tk
  | .non => some (.b "NoneType")
  | .bl _ => some (.b "bool")
  | .int _ => some (.b "int")
  | .str _ => some (.b "str")
  | .lst _ => some (.b "list")
  | .tup _ => some (.b "tuple")
  | .ktp _ => some (.b "tuple")
  | .dic _ _ _ => some (.b "dict")
  | .obj c _ => some (.o c)
  | _ => none
def tkV (Z : Zt) : Tk → Value
  | .b n => .type n
  | .o c => .ref (Z.cm c)
structure ClOk (Z : Zt) (c : String) : Prop where
  cl : Cls Z.K (Z.cm c)
  it : OP.InsT Z.K (Z.cm c)
  kc : PySem.W.kitOne Z.K (.type "int") (.ref (Z.cm c)) = some false
  kb : AllC (fun t => PySem.W.kitOne Z.K (.ref (Z.cm c)) (.type t) = some false) TYS
structure CsOk (Z : Zt) (cs : List String) : Prop where
  all : AllC (ClOk Z) cs
  two : AllC (fun c => AllC (fun d => c = d ∨ PySem.W.kitOne Z.K (.ref (Z.cm c)) (.ref (Z.cm d)) = some false) cs) cs
def BTS : List String := ["NoneType", "bool", "int", "str", "list", "tuple", "dict"]
/-- is a thing of type k one of the class d? -/
def isa1 (cs : List String) (k : Tk) (d : Dv) : Option Bool := match k, d with
  | .b n, .ty m => if BTS.contains n && TYS.contains m then some (n == m || (n == "bool" && m == "int")) else none
  | .b n, .cls c => if BTS.contains n && cs.contains c then some false else none
  | .o c, .ty m => if cs.contains c && TYS.contains m then some false else none
  | .o c, .cls e => if cs.contains c && cs.contains e then some (c == e) else none
  | _, _ => none
def okT (cs : List String) : Tk → Bool
  | .b n => BTS.contains n
  | .o c => cs.contains c
section
variable {Z : Zt} {X : Cx} {G H G2 H2 : Hp} {α α2 : List Addr} {S : Sto} {Q : VK} {E : XK} {cs : List String}
theorem beq_tr (n : String) (C : Addr) : (Value.type n == Value.ref C) = false := rfl
theorem beq_rt (n : String) (C : Addr) : (Value.ref C == Value.type n) = false := rfl
theorem kit_c {C : Addr} (h : PySem.W.kitOne Z.K (.type "int") (.ref C) = some false) : ((PySem.W.clsIn Z.K C).isSome && PySem.W.typeIn Z.K (.ref C) == some (.type "type")) = true := by
  unfold PySem.W.kitOne at h
  rw [beq_tr] at h
  simp only [Bool.false_eq_true, if_false] at h
  unfold PySem.W.kitCls at h
  simp only at h
  split at h
  · assumption
  · cases h
theorem kit_bo {C : Addr} {n : String} (h : PySem.W.kitOne Z.K (.type "int") (.ref C) = some false) (hn : BTS.contains n = true) : PySem.W.kitOne Z.K (.type n) (.ref C) = some false := by
  have h2 := kit_c h
  unfold PySem.W.kitOne
  rw [beq_tr]
  simp only [Bool.false_eq_true, if_false]
  unfold PySem.W.kitCls
  simp only [h2, if_true]
  simp only [BTS, List.contains_cons, List.contains_nil, Bool.or_false, Bool.or_eq_true, beq_iff_eq] at hn
  rcases hn with rfl | rfl | rfl | rfl | rfl | rfl | rfl <;> rfl
theorem sub_bo {C : Addr} {n : String} (hn : BTS.contains n = true) : PySem.W.subIn Z.K (.type n) (.ref C) = some false := by
  simp only [BTS, List.contains_cons, List.contains_nil, Bool.or_false, Bool.or_eq_true, beq_iff_eq] at hn
  rcases hn with rfl | rfl | rfl | rfl | rfl | rfl | rfl <;> rfl
theorem kit_bb {n m : String} (hn : BTS.contains n = true) (hm : TYS.contains m = true) : PySem.W.kitOne Z.K (.type n) (.type m) = some (n == m || (n == "bool" && m == "int")) := by
  simp only [BTS, List.contains_cons, List.contains_nil, Bool.or_false, Bool.or_eq_true, beq_iff_eq] at hn
  simp only [TYS, List.contains_cons, List.contains_nil, Bool.or_false, Bool.or_eq_true, beq_iff_eq] at hm
  rcases hn with rfl | rfl | rfl | rfl | rfl | rfl | rfl <;> rcases hm with rfl | rfl | rfl | rfl | rfl | rfl <;> rfl
theorem isa1_ok (C : CsOk Z cs) {k : Tk} {d : Dv} {b : Bool} (h : isa1 cs k d = some b) : ∃ x u, (∀ G, On Z G d x) ∧ ClsV x u ∧ PySem.W.kitOne Z.K (tkV Z k) u = some b := by
  cases k with
  | b n =>
    cases d with
    | ty m =>
      have h : (if BTS.contains n && TYS.contains m then some (n == m || (n == "bool" && m == "int")) else none) = some b := h
      split at h
      · rename_i q
        obtain ⟨q1, q2⟩ := and2 q
        cases h
        exact ⟨.ty m, .type m, fun G => on_ty, .ty m, kit_bb q1 q2⟩
      · cases h
    | cls c =>
      have h : (if BTS.contains n && cs.contains c then some false else none) = some b := h
      split at h
      · rename_i q
        obtain ⟨q1, q2⟩ := and2 q
        cases h
        exact ⟨.ref (Z.cm c), .ref (Z.cm c), fun G => on_cls, .own _, kit_bo (C.all.mem q2).kc q1⟩
      · cases h
    | _ => cases h
  | o c =>
    cases d with
    | ty m =>
      have h : (if cs.contains c && TYS.contains m then some false else none) = some b := h
      split at h
      · rename_i q
        obtain ⟨q1, q2⟩ := and2 q
        cases h
        exact ⟨.ty m, .type m, fun G => on_ty, .ty m, (C.all.mem q1).kb.mem q2⟩
      · cases h
    | cls e =>
      have h : (if cs.contains c && cs.contains e then some (c == e) else none) = some b := h
      split at h
      · rename_i q
        obtain ⟨q1, q2⟩ := and2 q
        cases h
        refine ⟨.ref (Z.cm e), .ref (Z.cm e), fun G => on_cls, .own _, ?_⟩
        cases q3 : c == e with
        | true =>
          rw [beq_iff_eq.mp q3]
          show PySem.W.kitOne Z.K (.ref (Z.cm e)) (.ref (Z.cm e)) = some true
          unfold PySem.W.kitOne
          rw [if_pos (by simp)]
        | false =>
          rcases (C.two.mem q1).mem q2 with rfl | h
          · simp at q3
          · exact h
      · cases h
    | _ => cases h
theorem tk_on (C : CsOk Z cs) {d : Dv} {y : V} {k : Tk} (eG : Ex G H) (h : OnH Z G H d y) (e : tkD d = some k) (hk : okT cs k = true) : TyX Z.K H y (tkV Z k) := by
  cases d with
  | non => cases e; cases h; exact .base .non
  | bl b => cases e; cases h; exact .base (.bl b)
  | int b => cases e; cases h; exact .base (.int b)
  | str b => cases e; cases h; exact .base (.str b)
  | lst l => cases e; obtain ⟨a, xs, rfl, h2, _⟩ := h; exact .base (.lst h2)
  | tup l => cases e; obtain ⟨a, xs, rfl, h2, _⟩ := h; exact .base (.tup (eG _ _ h2))
  | ktp l =>
    cases e
    obtain ⟨a, xs, rfl, h1, _⟩ := h
    rcases h1 with (h1 | ⟨o, h1⟩) | ⟨o, its, n, h1, h2, _⟩
    · cases h1
    · cases h1
    · exact .kTuple h1 h2
  | obj c l =>
    cases e
    obtain ⟨a, dx, xs, rfl, h2, _⟩ := h
    have cc := C.all.mem hk
    exact .base (.ins h2 cc.cl cc.it.ha cc.it.hn cc.it.htk cc.it.hm)
  | dic t ks vs =>
    cases e
    obtain ⟨a, ws, rfl, h2, _⟩ := h
    cases t with
    | false => obtain ⟨kk, _, h3⟩ := h2; exact .base (.dK h3)
    | true => obtain ⟨kk, _, h3⟩ := h2; exact .base (.dT h3)
  | _ => cases e
/-- all classes of the tuple are asked -/
def isaA (cs : List String) (k : Tk) : List Dv → Option Bool
  | [] => some false
  | d :: l => match isa1 cs k d, isaA cs k l with
    | some a, some b => some (a || b)
    | _, _ => none
theorem isaA_ok (C : CsOk Z cs) {k : Tk} : ∀ {l : List Dv} {b : Bool} {xs : List V}, isaA cs k l = some b → OnL Z G l xs → ∃ us, Paired ClsV xs us ∧ PySem.W.kitAny Z.K (tkV Z k) us = some b
  | [], b, xs, h, o => by
    cases h
    rw [OnL.nil.mp o]
    exact ⟨[], .nil, rfl⟩
  | d :: l, b, xs, h, o => by
    obtain ⟨y, ys, rfl, h2, h3⟩ := OnL.cons.mp o
    have h : (match isa1 cs k d, isaA cs k l with | some a, some b => some (a || b) | _, _ => none) = some b := h
    cases q : isa1 cs k d with
    | none => rw [q] at h; cases h
    | some c =>
      cases q2 : isaA cs k l with
      | none => rw [q, q2] at h; cases h
      | some c2 =>
        rw [q, q2] at h
        cases h
        obtain ⟨x, u, e1, e2, e3⟩ := isa1_ok C q
        have ey : y = x := by
          cases d with
          | ty m => have a := e1 G; unfold On at a h2; rw [a, h2]
          | cls m => have a := e1 G; unfold On at a h2; rw [a, h2]
          | _ => cases k <;> cases q
        subst ey
        obtain ⟨us, f1, f2⟩ := isaA_ok C (l := l) q2 h3
        exact ⟨u :: us, .cons e2 f1, kitAny_cons e3 (fun h => by rw [h]; exact f2) (fun h => by rw [h]; rfl)⟩
end
def gIsi (cs : List String) (x c : Dv) : Option Rt := match tkD x with
  | some k => if okT cs k then (match c with
    | .tup l => (match isaA cs k l with
      | some b => vB b
      | none => none)
    | c => (match isa1 cs k c with
      | some b => vB b
      | none => none)) else none
  | none => none
def arg2 (f : Dv → Dv → Option Rt) : List Dv → Option Rt
  | [x, y] => f x y
  | _ => none
section
variable {Z : Zt} {X : Cx} {G H G2 H2 : Hp} {α α2 : List Addr} {S : Sto} {Q : VK} {E : XK} {cs : List String}
theorem arg2_ok {P : Pst Rt} {f : Dv → Dv → Option Rt} {l : List Dv} {xs : List V} (h : OnHA Z G H l xs) (w : Wk Z (R.of S (arg2 f l)) G α H P E) : ∃ x x2 y y2, xs = [y, y2] ∧ OnH Z G H x y ∧ OnH Z G H x2 y2 ∧ Wk Z (R.of S (f x x2)) G α H P E := by
  cases l with
  | nil => exact w.elim
  | cons a r =>
    cases r with
    | nil => exact w.elim
    | cons b r =>
      cases r with
      | nil =>
        obtain ⟨y, z, e, o, o2⟩ := h.two
        exact ⟨a, b, y, z, e, o, o2, w⟩
      | cons c r => exact w.elim
theorem cd_isi (C : CsOk Z cs) (hK : X.K = Z.K) : CallR X (.builtin "isinstance") (rA Z (arg2 (gIsi cs))) := by
  intro pins s σ H xs us Q I r h
  obtain ⟨G, α, S, l, hd, ol, w⟩ := h
  obtain ⟨x, c, y, z, rfl, ox, oc, w⟩ := arg2_ok ol w
  unfold gIsi at w
  cases q : tkD x with
  | none => rw [q] at w; exact w.elim
  | some k =>
    rw [q] at w
    simp only at w
    by_cases q2 : okT cs k = true
    · rw [if_pos q2] at w
      have ty := tk_on C hd.ex ox q q2
      rw [← hK] at ty
      by_cases ht : ∃ l, c = .tup l
      · obtain ⟨l, rfl⟩ := ht
        simp only at w
        cases q3 : isaA cs k l with
        | none => rw [q3] at w; exact w.elim
        | some b =>
          rw [q3] at w
          obtain ⟨tp, cs', rfl, h1, h2⟩ := oc
          obtain ⟨us', f1, f2⟩ := isaA_ok C q3 h2
          exact call_isiT pins s σ H _ us Q I r ⟨y, tp, cs', _, us', b, rfl, hd.ex _ _ h1, f1, ty, hK ▸ f2, wB w hd⟩
      · have w' : Wk Z (R.of S (match isa1 cs k c with | some b => vB b | none => none)) G α H (pRt Z Q) E0 := by
          cases c with
          | tup l => exact absurd ⟨l, rfl⟩ ht
          | _ => exact w
        cases q3 : isa1 cs k c with
        | none => rw [q3] at w'; exact w'.elim
        | some b =>
          rw [q3] at w'
          obtain ⟨x', u, e1, e2, e3⟩ := isa1_ok C q3
          have ez : z = x' := by
            cases c with
            | ty m => have a := e1 G; unfold On at a; have oc : z = .ty m := oc; rw [a, oc]
            | cls m => have a := e1 G; unfold On at a; have oc : z = .ref (Z.cm m) := oc; rw [a, oc]
            | _ => cases k <;> cases q3
          subst ez
          exact OP.call_isZ pins s σ H _ us Q I r ⟨y, z, _, u, b, rfl, e2, .x ty, hK ▸ e3, wB w' hd⟩
    · rw [if_neg q2] at w
      exact w.elim
/-! ### what own methods answer -/
def onlyV (p : Dv → Option Dv) (r : R Rt) : R Rt := match r with
  | .ok S (.val (.d d)) => (match p d with
    | some e => .ok S (.val (.d e))
    | none => .no)
  | _ => .no
theorem only_ok {p : Dv → Option Dv} {r : R Rt} {Q' : VK} {E' : XK} (w : Wk Z (onlyV p r) G α H (pRt Z Q) E) (k : ∀ d d' v H' G', p d = some d' → On Z G' d v → (∀ v', On Z G' d' v' → Q v' H') → Q' v H') : Wk Z r G α H (pRt Z Q') E' := by
  cases r with
  | no => exact w.elim
  | ex S x => exact w.elim
  | ok S b =>
    cases b with
    | new c => exact w.elim
    | val v =>
      cases v with
      | r n => exact w.elim
      | d d =>
        cases e : p d with
        | none => simp only [onlyV, e] at w; exact w.elim
        | some d' =>
          simp only [onlyV, e] at w
          exact fun H2 G2 α2 f hd v ov => k d d' v H2 G2 e ov (w H2 G2 α2 f hd)
def pInt : Dv → Option Dv
  | .int i => if 0 ≤ i ∧ i < 2 ^ 63 then some (.int i) else none
  | _ => none
def pStr : Dv → Option Dv
  | .str i => some (.str i)
  | _ => none
def pBl (neg : Bool) : Dv → Option Dv
  | .bl b => some (.bl (if neg then !b else b))
  | _ => none
structure OwOk (X : Cx) (m : Str) (C : Addr) (sp : Sp) : Prop where
  ex : ∃ k f fd ps, Room (k + 2) X.A ∧ OP.OwnM X.K C m f ∧ FnOk X.prog X.w X.K X.mg X.base (L2.CX X.prog X.w) k f fd ps sp ∧ Binds X.K fd ps []
structure OwD (X : Cx) (Z : Zt) (m : Str) (c : String) (n : Nat) (D : FD) : Prop where
  ok : OwOk X m (Z.cm c) (spD Z n D)
/-- the own method of o, at these arguments -/
def askT (t : MT) (c : String) (l : List Vr) (S : Sto) : R Rt := match t.at c with
  | some (n, D) => if l.length = n then D l S else .no
  | none => .no
theorem ask_ok {T : MT} {P : String → Nat → FD → Prop} {c : String} {l : List Vr} {vs : List V} (hT : AllM P T) (hd : Hd Z G α S H) (ol : OnA Z G α l vs) (w : Wk Z (askT T c l S) G α H (pRt Z Q) E) : ∃ n D, P c n D ∧ spD Z n D vs H Q E := by
  unfold askT at w
  cases q2 : T.at c with
  | none => simp only [q2] at w; exact w.elim
  | some nD =>
    obtain ⟨n, D⟩ := nD
    simp only [q2] at w
    exact ⟨n, D, hT.mem q2, sp_of hd ol w⟩
/-- len -/
def lenR (T : MT) (S : Sto) (l : List Vr) : R Rt := match l with
  | [o] => (match clsV S o with
    | some c => onlyV pInt (askT T c [o] S)
    | none => gA S [o] gLen)
  | _ => .no
def fLenD (T : MT) (fa : FA) : FE := fun env S => (fa env S).bind fun S1 l => lenR T S1 l
def rLenX (Z : Zt) (T : MT) : List V → Hp → VK → Prop := fun xs H Q => ∃ G α S l, Hd Z G α S H ∧ OnA Z G α l xs ∧ Wk Z (lenR T S l) G α H (pRt Z Q) E0
theorem arg1A {l : List Vr} {xs : List V} {o : Vr} (h : OnA Z G α [o] xs) : ∃ x, xs = [x] ∧ OnR Z G α o x := by
  obtain ⟨y, ys, rfl, h1, h2⟩ := h
  cases (show ys = [] from h2)
  exact ⟨y, rfl, h1⟩
theorem lenR_any {T : MT} {l : List Vr} {E' : XK} (w : Wk Z (lenR T S l) G α H (pRt Z Q) E) : Wk Z (lenR T S l) G α H (pRt Z Q) E' := by
  unfold lenR at w ⊢
  split at w
  · split at w
    · unfold onlyV at w ⊢
      split at w
      · split at w
        · exact w
        · exact w.elim
      · exact w.elim
    · unfold gA at w ⊢
      split at w
      · exact w.any
      · exact w.elim
  · exact w.elim
theorem cd_lenO {T : MT} (hT : AllM (OwD X Z "__len__") T) (hK : X.K = Z.K) : CallR X (.builtin "len") (rLenX Z T) := by
  intro pins s σ H xs us Q I r h
  obtain ⟨G, α, S, l, hd, ol, w⟩ := h
  unfold lenR at w
  split at w
  · rename_i o
    obtain ⟨x, rfl, ox⟩ := arg1A (l := []) ol
    cases q : clsV S o with
    | none =>
      simp only [q] at w
      exact cd_len hK pins s σ H _ us Q I r (gA_ok hd ol w)
    | some c =>
      simp only [q] at w
      obtain ⟨b, dx, ys, rfl, hb⟩ := clsV_on hd ox q
      have w2 := only_ok (E' := E0) (Q' := fun v H' => ∃ i : Int, v = .int i ∧ 0 ≤ i ∧ i < 2 ^ 63 ∧ Q (.int i) H') w fun d d' v H' G' e ov k => by
        cases d with
        | int i =>
          have e : (if 0 ≤ i ∧ i < 2 ^ 63 then some (Dv.int i) else none) = some d' := e
          split at e
          · rename_i c
            cases e
            have ov : On Z G' (.int i) v := ov
            unfold On at ov
            exact ⟨i, ov, c.1, c.2, k _ on_int⟩
          · cases e
        | _ => cases e
      obtain ⟨n, D, P, sp⟩ := ask_ok hT hd ol w2
      obtain ⟨k, f, fd, ps, hr, O, F, hbb⟩ := P.ok.ex
      exact OP.call_lenO O F (hr.mono (by omega)) hbb passE pins s σ H _ us Q I r ⟨b, dx, _, rfl, hb, sp⟩
  · exact w.elim
variable {Ew : L2.St → XK} {x : Str} {p pos : Pos} {e : Expr} {es : List Expr} {fa : FA}
theorem pf_lenO {T : MT} (hT : AllM (OwD X Z "__len__") T) (hK : X.K = Z.K) (hg : Gl X "len") (hm : X.mg "len" = none) (ha : PAF Z Ew X (e :: es) fa)
    (he : starEach (e :: es) X.env = (false, eval e X.env) :: starEach es X.env := by rfl) (hpl : (backTo pos (starEach es X.env)).any (·.1) = false := by rfl) : PF Z Ew X (.Call (.Name "len" p) (e :: es) [] pos) (fLenD T fa) := by
  obtain ⟨ta, h1, h2⟩ := ha.ex
  exact ⟨_, pe_callB (cd_lenO hT hK) hg hm (by decide +kernel) h1 (by decide) (by decide) he hpl, fun env σ G α S H Q hd oe w => h2.bind hd oe w fun S2 l vs H2 G2 α2 f2 hd2 oe2 ol w2 => ⟨G2, α2, S2, l, hd2, ol, lenR_any w2⟩⟩
/-- str -/
def strR (T : MT) (S : Sto) (l : List Vr) : R Rt := match l with
  | [o] => (match clsV S o with
    | some c => onlyV pStr (askT T c [o] S)
    | none => gA S [o] gStr)
  | _ => .no
def fStrD (T : MT) (fa : FA) : FE := fun env S => (fa env S).bind fun S1 l => strR T S1 l
def rStrX (Z : Zt) (T : MT) : List V → Hp → VK → Prop := fun xs H Q => ∃ G α S l, Hd Z G α S H ∧ OnA Z G α l xs ∧ Wk Z (strR T S l) G α H (pRt Z Q) E0
theorem strR_any {T : MT} {l : List Vr} {E' : XK} (w : Wk Z (strR T S l) G α H (pRt Z Q) E) : Wk Z (strR T S l) G α H (pRt Z Q) E' := by
  unfold strR at w ⊢
  split at w
  · split at w
    · unfold onlyV at w ⊢
      split at w
      · split at w
        · exact w
        · exact w.elim
      · exact w.elim
    · unfold gA at w ⊢
      split at w
      · exact w.any
      · exact w.elim
  · exact w.elim
theorem cd_strO {T : MT} (hT : AllM (OwD X Z "__str__") T) : CallR X (.type "str") (rStrX Z T) := by
  intro pins s σ H xs us Q I r h
  obtain ⟨G, α, S, l, hd, ol, w⟩ := h
  unfold strR at w
  split at w
  · rename_i o
    obtain ⟨x, rfl, ox⟩ := arg1A (l := []) ol
    cases q : clsV S o with
    | none =>
      simp only [q] at w
      exact cd_str pins s σ H _ us Q I r (gA_ok hd ol w)
    | some c =>
      simp only [q] at w
      obtain ⟨b, dx, ys, rfl, hb⟩ := clsV_on hd ox q
      have w2 := only_ok (E' := E0) (Q' := fun v H' => ∃ z : Str, v = .str z ∧ Q (.str z) H') w fun d d' v H' G' e ov k => by
        cases d with
        | str i =>
          cases e
          have ov : On Z G' (.str i) v := ov
          unfold On at ov
          exact ⟨i, ov, k _ on_str⟩
        | _ => cases e
      obtain ⟨n, D, P, sp⟩ := ask_ok hT hd ol w2
      obtain ⟨k, f, fd, ps, hr, O, F, hbb⟩ := P.ok.ex
      exact OP.call_strO O F hr hbb passE pins s σ H _ us Q I r ⟨b, dx, _, rfl, hb, sp⟩
  · exact w.elim
theorem pf_strO {T : MT} (hT : AllM (OwD X Z "__str__") T) (hg : Gl X "str") (hm : X.mg "str" = none) (ha : PAF Z Ew X (e :: es) fa)
    (he : starEach (e :: es) X.env = (false, eval e X.env) :: starEach es X.env := by rfl) (hpl : (backTo pos (starEach es X.env)).any (·.1) = false := by rfl) : PF Z Ew X (.Call (.Name "str" p) (e :: es) [] pos) (fStrD T fa) := by
  obtain ⟨ta, h1, h2⟩ := ha.ex
  exact ⟨_, pe_callTy (cd_strO hT) hg hm (by decide +kernel) h1 (by decide) (by decide) he hpl, fun env σ G α S H Q hd oe w => h2.bind hd oe w fun S2 l vs H2 G2 α2 f2 hd2 oe2 ol w2 => ⟨G2, α2, S2, l, hd2, ol, strR_any w2⟩⟩
/-! ### == and != -/
structure EqOk (X : Cx) (C : Addr) (sp : Sp) : Prop where
  ex : ∃ k f fd ps, Room (k + 1) X.A ∧ OP.OwnE X.K C f ∧ FnOk X.prog X.w X.K X.mg X.base (L2.CX X.prog X.w) k f fd ps sp ∧ Binds X.K fd ps []
structure EqD (X : Cx) (Z : Zt) (c : String) (n : Nat) (D : FD) : Prop where
  ok : EqOk X (Z.cm c) (spD Z n D)
def eqR (cs : List String) (T : MT) (neg : Bool) (S : Sto) (a b : Vr) : R Rt := match clsV S a with
  | some c => (match snap S b with
    | some y => (match tkD y with
      | some k => if okT cs k && cs.contains c then (match k, neg with
        | .b _, true => .no
        | .o e, true => if e == c then onlyV (pBl true) (askT T c [a, b] S) else .no
        | _, false => onlyV (pBl false) (askT T c [a, b] S)) else .no
      | none => .no)
    | none => .no)
  | none => g2 S a b (if neg then gNe else gEq)
def fEqD (cs : List String) (T : MT) (neg : Bool) (fa fb : FE) : FE := fun env S => (fa env S).bindV fun S1 a => (fb env S1).bindV fun S2 b => eqR cs T neg S2 a b
def rEqX (Z : Zt) (cs : List String) (T : MT) (neg : Bool) : R2 := fun x y H Q => ∃ G α S a b, Hd Z G α S H ∧ OnR Z G α a x ∧ OnR Z G α b y ∧ Wk Z (eqR cs T neg S a b) G α H (pRt Z Q) E0
theorem onlyV_any {p : Dv → Option Dv} {r : R Rt} {E' : XK} (w : Wk Z (onlyV p r) G α H (pRt Z Q) E) : Wk Z (onlyV p r) G α H (pRt Z Q) E' := by
  unfold onlyV at w ⊢
  split at w
  · split at w
    · exact w
    · exact w.elim
  · exact w.elim
theorem wk_noex {r : R Rt} {P : Pst Rt} {E' : XK} (h : ∀ S x, r ≠ .ex S x) (w : Wk Z r G α H P E) : Wk Z r G α H P E' := by
  cases r with
  | no => exact w
  | ok S b => exact w
  | ex S x => exact absurd rfl (h S x)
theorem onlyV_ne {p : Dv → Option Dv} {r : R Rt} : ∀ S x, onlyV p r ≠ .ex S x := fun S x h => by
  unfold onlyV at h
  split at h
  · split at h <;> cases h
  · cases h
theorem g2_ne {a b : Vr} {g : Dv → Dv → Option Rt} : ∀ S' x, g2 S a b g ≠ .ex S' x := fun S' x h => by
  unfold g2 at h
  split at h
  · unfold R.of at h
    split at h <;> cases h
  · cases h
theorem eqR_any {T : MT} {neg : Bool} {a b : Vr} {E' : XK} (w : Wk Z (eqR cs T neg S a b) G α H (pRt Z Q) E) : Wk Z (eqR cs T neg S a b) G α H (pRt Z Q) E' := by
  refine wk_noex (fun S' x h => ?_) w
  unfold eqR at h
  split at h
  · split at h
    · split at h
      · split at h
        · split at h
          · cases h
          · split at h
            · exact onlyV_ne _ _ h
            · cases h
          · exact onlyV_ne _ _ h
        · cases h
      · cases h
    · cases h
  · exact g2_ne _ _ h
theorem eq_own {T : MT} {neg : Bool} {c : String} {a b : Vr} {x y : V} (hT : AllM (EqD X Z) T) (hd : Hd Z G α S H) (ox : OnR Z G α a x) (oy : OnR Z G α b y) (w : Wk Z (onlyV (pBl neg) (askT T c [a, b] S)) G α H (pRt Z Q) E) :
    ∃ n D, EqD X Z c n D ∧ spD Z n D [x, y] H (fun v H' => ∃ t, v = .bl t ∧ Q (.bl (if neg then !t else t)) H') E0 := by
  have w2 := only_ok (E' := E0) (Q' := fun v H' => ∃ t, v = .bl t ∧ Q (.bl (if neg then !t else t)) H') w fun d d' v H' G' e ov k => by
    cases d with
    | bl i =>
      cases e
      have ov : On Z G' (.bl i) v := ov
      unfold On at ov
      exact ⟨i, ov, k _ on_bl⟩
    | _ => cases e
  exact ask_ok hT hd (l := [a, b]) ⟨_, _, rfl, ox, _, _, rfl, oy, rfl⟩ w2
theorem not_first {c : String} {k : Tk} (C : CsOk Z cs) (h1 : okT cs k = true) (h2 : cs.contains c = true) : PySem.W.notFirst Z.K (Z.cm c) (tkV Z k) = true := by
  unfold PySem.W.notFirst
  cases k with
  | b n =>
    rw [show tkV Z (.b n) = .type n from rfl, sub_bo h1]
    simp
  | o e =>
    rcases (C.two.mem h1).mem h2 with rfl | h
    · simp [tkV]
    · rw [show tkV Z (.o e) = .ref (Z.cm e) from rfl]
      unfold PySem.W.kitOne at h
      split at h
      · cases h
      · unfold PySem.W.kitCls at h
        simp only [kit_c (C.all.mem h2).kc, if_true] at h
        rw [h]
        simp
theorem od_eqO {T : MT} (C : CsOk Z cs) (hT : AllM (EqD X Z) T) (hu : X.A.units + 64 < cLine) (hK : X.K = Z.K) : OpR X (compareOp .Eq) (rEqX Z cs T false) := by
  intro pins s σ H x y v u Q I rx ry h
  obtain ⟨G, α, S, a, b, hd, ox, oy, w⟩ := h
  unfold eqR at w
  cases q : clsV S a with
  | none =>
    simp only [q] at w
    exact od_eq hu hK pins s σ H _ _ v u Q I rx ry (g2_ok hd ox oy w)
  | some c =>
    simp only [q] at w
    obtain ⟨a', dx, ys, rfl, hb⟩ := clsV_on hd ox q
    cases q2 : snap S b with
    | none => simp only [q2] at w; exact w.elim
    | some d =>
      simp only [q2] at w
      cases q3 : tkD d with
      | none => simp only [q3] at w; exact w.elim
      | some k =>
        simp only [q3] at w
        by_cases q4 : (okT cs k && cs.contains c) = true
        · rw [if_pos q4] at w
          obtain ⟨q5, q6⟩ := and2 q4
          have w2 : Wk Z (onlyV (pBl false) (askT T c [a, b] S)) G α H (pRt Z Q) E0 := by cases k <;> exact w
          obtain ⟨n, D, P, sp⟩ := eq_own hT hd ox oy w2
          obtain ⟨k', f, fd, ps, hr, O, F, hbb⟩ := P.ok.ex
          exact OP.op_ownEqXK (K := X.K) O F (hr.mono (by omega)) hbb passE rfl pins s σ H _ _ v u Q I rx ry ⟨a', dx, _, _, rfl, hb, hK ▸ tk_on C hd.ex (snap_on hd oy q2) q3 q5, hK ▸ not_first C q5 q6, sp⟩
        · rw [if_neg q4] at w
          exact w.elim
theorem od_neO {T : MT} (C : CsOk Z cs) (hT : AllM (EqD X Z) T) (hu : X.A.units + 64 < cLine) (hK : X.K = Z.K) : OpR X (compareOp .NotEq) (rEqX Z cs T true) := by
  intro pins s σ H x y v u Q I rx ry h
  obtain ⟨G, α, S, a, b, hd, ox, oy, w⟩ := h
  unfold eqR at w
  cases q : clsV S a with
  | none =>
    simp only [q] at w
    exact od_ne hu hK pins s σ H _ _ v u Q I rx ry (g2_ok hd ox oy w)
  | some c =>
    simp only [q] at w
    obtain ⟨a', dx, ys, rfl, hb⟩ := clsV_on hd ox q
    cases q2 : snap S b with
    | none => simp only [q2] at w; exact w.elim
    | some d =>
      simp only [q2] at w
      cases q3 : tkD d with
      | none => simp only [q3] at w; exact w.elim
      | some k =>
        simp only [q3] at w
        by_cases q4 : (okT cs k && cs.contains c) = true
        · rw [if_pos q4] at w
          obtain ⟨q5, q6⟩ := and2 q4
          cases k with
          | b n => exact w.elim
          | o e =>
            simp only at w
            by_cases q7 : (e == c) = true
            · rw [if_pos q7] at w
              obtain ⟨n, D, P, sp⟩ := eq_own hT hd ox oy w
              obtain ⟨k', f, fd, ps, hr, O, F, hbb⟩ := P.ok.ex
              have ec := beq_iff_eq.mp q7
              have hy := snap_on hd oy q2
              cases d with
              | obj e' l =>
                cases q3
                obtain ⟨b2, dy, ys2, rfl, hb2, _⟩ := hy
                exact OP.op_ownNe O F hr hbb passE pins s σ H _ _ v u Q I rx ry ⟨a', dx, _, b2, dy, _, rfl, rfl, hb, by rw [ec] at hb2; exact hb2, sp⟩
              | _ => cases q3
            · rw [if_neg q7] at w
              exact w.elim
        · rw [if_neg q4] at w
          exact w.elim
variable {a b : Expr} {fx fy : FE}
theorem pf_eqO {T : MT} (C : CsOk Z cs) (hT : AllM (EqD X Z) T) (hu : X.A.units + 64 < cLine) (hK : X.K = Z.K) (ha : PF Z Ew X a fx) (hb : PF Z Ew X b fy) (hm : lastMarks [.Eq] [b] = false := by with_unfolding_all rfl) :
    PF Z Ew X (.Compare a [.Eq] [b] pos) (fEqD cs T false fx fy) := by
  obtain ⟨ta, h1, h2⟩ := ha.ex
  obtain ⟨tb, h3, h4⟩ := hb.ex
  exact ⟨_, pe_cmpR (od_eqO C hT hu hK) h1 h3 hm, fun env σ G α S H Q hd oe w => h2.bind hd oe w fun S2 a x H2 G2 α2 f2 hd2 oe2 ox w2 => h4.bind hd2 oe2 w2 fun S3 b y H3 G3 α3 f3 hd3 oe3 oy w3 => ⟨G3, α3, S3, a, b, hd3, ox.up f3.g f3.a, oy, eqR_any w3⟩⟩
theorem pf_neO {T : MT} (C : CsOk Z cs) (hT : AllM (EqD X Z) T) (hu : X.A.units + 64 < cLine) (hK : X.K = Z.K) (ha : PF Z Ew X a fx) (hb : PF Z Ew X b fy) (hm : lastMarks [.NotEq] [b] = false := by with_unfolding_all rfl) :
    PF Z Ew X (.Compare a [.NotEq] [b] pos) (fEqD cs T true fx fy) := by
  obtain ⟨ta, h1, h2⟩ := ha.ex
  obtain ⟨tb, h3, h4⟩ := hb.ex
  exact ⟨_, pe_cmpR (od_neO C hT hu hK) h1 h3 hm, fun env σ G α S H Q hd oe w => h2.bind hd oe w fun S2 a x H2 G2 α2 f2 hd2 oe2 ox w2 => h4.bind hd2 oe2 w2 fun S3 b y H3 G3 α3 f3 hd3 oe3 oy w3 => ⟨G3, α3, S3, a, b, hd3, ox.up f3.g f3.a, oy, eqR_any w3⟩⟩
/-! ### o[i] -/
def ixR (T : MT) (S : Sto) (a b : Vr) : R Rt := match clsV S a with
  | some c => okR (askT T c [a, b] S)
  | none => g2 S a b gIx
def fIxD (T : MT) (fa fb : FE) : FE := fun env S => (fa env S).bindV fun S1 a => (fb env S1).bindV fun S2 b => ixR T S2 a b
theorem pf_ixO {T : MT} (hT : AllM (OwD X Z "__getitem__") T) (hu : X.A.units + 1 < cLine) (hK : X.K = Z.K) (ha : PF Z Ew X a fx) (hb : PF Z Ew X b fy) (hs : PlainIx b := by exact fun _ _ => rfl) (hs2 : ∀ o i, subscripted b true o i = runValue (.builtin "lifetime.subscript" ⟨[o, i], []⟩) := by intro _ _; with_unfolding_all rfl) : PF Z Ew X (.Subscript a b pos) (fIxD T fx fy) := by
  obtain ⟨ta, h1, h2⟩ := ha.ex
  obtain ⟨tb, h3, h4⟩ := hb.ex
  refine ⟨tOp (fun x y H Q => rD Z gIx x y H Q ∨ ∃ c n D a dx fs, OwD X Z "__getitem__" c n D ∧ x = .ref a ∧ H a = some (.ins (Z.cm c) dx fs) ∧ spD Z n D [x, y] H Q E0) ta tb, ⟨fun pins s σ H Q I h => ?_⟩, fun env σ G α S H Q hd oe w => h2.bind hd oe w fun S2 a x H2 G2 α2 f2 hd2 oe2 ox w2 => h4.bind hd2 oe2 w2 fun S3 b y H3 G3 α3 f3 hd3 oe3 oy w3 => ?_⟩
  · refine Subscript_ (binT h1 h3 I h fun v u s2 x y H2 I2 rx ry q => ?_)
    rcases q with q | ⟨c, n, D, a', dx, fs, O, rfl, hi, q⟩
    · exact ix_d hu hK _ _ pins s2 σ H2 x y v u Q I2 rx ry q (hs _ _)
    · cases rx
      obtain ⟨k, f, fd, ps, hr, O, F, hbb⟩ := O.ok.ex
      obtain ⟨mA, J, _⟩ := ins_get I2.hok hi
      obtain ⟨od, J, _⟩ := J.look
      obtain ⟨m, hF⟩ := I2.fr
      exact PySem.W.sub_K hF I2.ok.mod.kin J O.at_ O.fi O.fn (OP.run_in1 (vs := [.ref a', y]) F (hr.mono (by omega)) hbb passE I2 (.cons rfl (.cons ry .nil)) q) (hs2 _ _)
  · have ox := ox.up f3.g f3.a
    unfold ixR at w3
    cases q : clsV S3 a with
    | none =>
      simp only [q] at w3
      exact .inl (g2_ok hd3 ox oy w3)
    | some c =>
      simp only [q] at w3
      obtain ⟨a', dx, ys, rfl, hb⟩ := clsV_on hd3 ox q
      obtain ⟨n, D, P, sp⟩ := ask_ok hT hd3 (l := [a, b]) ⟨_, _, rfl, ox, _, _, rfl, oy, rfl⟩ (okR_ok (E' := E0) w3)
      exact .inr ⟨c, n, D, a', dx, _, P, rfl, hb, sp⟩
end
end DN

/-! DnO: tests by own ==, list(range(..)), dict displays of constants. -/
namespace DN
open PySem PySem.Spec PyProof.Rows L2 Evl
section
variable {Z : Zt} {X : Cx} {G H G2 H2 : Hp} {α α2 : List Addr} {S : Sto} {Q : VK} {E : XK} {cs : List String} {Ew : L2.St → XK} {pos p p2 : Pos} {a b : Expr} {fx fy : FE}
theorem ptf_eqO {T : MT} (C : CsOk Z cs) (hT : AllM (EqD X Z) T) (hu : X.A.units + 64 < cLine) (hK : X.K = Z.K) (ha : PF Z Ew X a fx) (hb : PF Z Ew X b fy) (hm : behindInMarks .Eq b = false := by with_unfolding_all rfl) :
    PTF Z Ew X (.Compare a [.Eq] [b] pos) (kVal (fEqD cs T false fx fy)) := by
  obtain ⟨ta, h1, h2⟩ := ha.ex
  obtain ⟨tb, h3, h4⟩ := hb.ex
  exact ⟨_, pt_cmpR (od_eqO C hT hu hK) h1 h3 hm, st_val fun env σ G α S H Q hd oe w => h2.bind hd oe w fun S2 a x H2 G2 α2 f2 hd2 oe2 ox w2 => h4.bind hd2 oe2 w2 fun S3 b y H3 G3 α3 f3 hd3 oe3 oy w3 => ⟨G3, α3, S3, a, b, hd3, ox.up f3.g f3.a, oy, eqR_any w3⟩⟩
theorem ptf_neO {T : MT} (C : CsOk Z cs) (hT : AllM (EqD X Z) T) (hu : X.A.units + 64 < cLine) (hK : X.K = Z.K) (ha : PF Z Ew X a fx) (hb : PF Z Ew X b fy) (hm : behindInMarks .NotEq b = false := by with_unfolding_all rfl) :
    PTF Z Ew X (.Compare a [.NotEq] [b] pos) (kVal (fEqD cs T true fx fy)) := by
  obtain ⟨ta, h1, h2⟩ := ha.ex
  obtain ⟨tb, h3, h4⟩ := hb.ex
  exact ⟨_, pt_cmpR (od_neO C hT hu hK) h1 h3 hm, st_val fun env σ G α S H Q hd oe w => h2.bind hd oe w fun S2 a x H2 G2 α2 f2 hd2 oe2 ox w2 => h4.bind hd2 oe2 w2 fun S3 b y H3 G3 α3 f3 hd3 oe3 oy w3 => ⟨G3, α3, S3, a, b, hd3, ox.up f3.g f3.a, oy, eqR_any w3⟩⟩
/-! ### list(range(..)) -/
def rgD (a b : Int) : List Dv := (List.range (b - a).toNat).map fun i => Dv.int (a + (i : Nat))
def gRg (a b : Dv) : Option Rt := match a, b with
  | .int a, .int b => if -1000000 ≤ a ∧ a ≤ 1000000 ∧ -1000000 ≤ b ∧ b ≤ 1000000 then some (.new (.lst (rgD a b))) else none
  | _, _ => none
theorem rg_on (a b : Int) : OnL Z G (rgD a b) (rgV a b) := by
  unfold rgD rgV
  generalize (List.range (b - a).toNat) = l
  induction l with
  | nil => exact OnL.nil'
  | cons i l ih => exact OnL.cons' on_int ih
theorem rg_ok {a b : Vr} {x y : V} (hd : Hd Z G α S H) (ox : OnR Z G α a x) (oy : OnR Z G α b y) (w : Wk Z (g2 S a b gRg) G α H (pRt Z Q) E) : ∃ i j, x = .int i ∧ y = .int j ∧ RgOk i j ∧ ∀ q, H q = none → Q (.ref q) (upd H q (.lst (rgV i j))) := by
  unfold g2 at w
  cases e1 : snap S a with
  | none => rw [e1] at w; exact w.elim
  | some u =>
    cases e2 : snap S b with
    | none => rw [e1, e2] at w; exact w.elim
    | some v =>
      rw [e1, e2] at w
      have o1 := snap_on hd ox e1
      have o2 := snap_on hd oy e2
      cases u with
      | int i =>
        cases v with
        | int j =>
          have w : Wk Z (R.of S (if -1000000 ≤ i ∧ i ≤ 1000000 ∧ -1000000 ≤ j ∧ j ≤ 1000000 then some (.new (.lst (rgD i j))) else none)) G α H (pRt Z Q) E := w
          split at w
          · rename_i c
            refine ⟨i, j, o1, o2, ⟨by omega, by omega, by omega, by omega, by omega⟩, fun q hq => ?_⟩
            have e := Ex.new (o := HO.lst (rgV i j)) hq
            exact w _ G α (Fr.grow hd e) (hd.grow e) q ⟨hq, fresh_back hd.ex hq, fun hm => hd.live hm hq, ⟨_, upd_same, rg_on i j⟩⟩
          · exact w.elim
        | _ => exact w.elim
      | _ => cases v <;> exact w.elim
def fRg1 (fa : FE) : FE := fOp gRg (fC (.int 0)) fa
def fRg2 (fa fb : FE) : FE := fOp gRg fa fb
theorem pf_listRg1 (hc : X.calm = true) (hg : Gl X "list") (hm : X.mg "list" = none) (hg2 : Gl X "range") (hm2 : X.mg "range" = none) (ha : PF Z Ew X a fx) (na : starEach [a] X.env = (false, eval a X.env) :: starEach [] X.env := by rfl)
    (nb : starEach [.Call (.Name "range" p2) [a] [] pos] X.env = (false, eval (.Call (.Name "range" p2) [a] [] pos) X.env) :: starEach [] X.env := by rfl) {pos2 : Pos} : PF Z Ew X (.Call (.Name "list" p) [.Call (.Name "range" p2) [a] [] pos] [] pos2) (fRg1 fx) := by
  obtain ⟨ta, h1, h2⟩ := ha.ex
  refine ⟨_, pe_listRg hc hg hm (prg_1 hg2 hm2 h1 na) nb, fun env σ G α S H Q hd oe w => ?_⟩
  refine h2.bind hd oe (show Wk Z ((fx env S).bindV fun S1 b => g2 S1 (.d (.int 0)) b gRg) G α H (pRt Z Q) (Ew σ) from w) fun S2 a x H2 G2 α2 f2 hd2 oe2 ox w2 => ?_
  obtain ⟨i, j, e1, e2, ok, k⟩ := rg_ok hd2 (or_int Z G2 α2 0) ox w2
  cases e1
  exact ⟨j, e2, ok, k⟩
theorem pf_listRg2 (hc : X.calm = true) (hg : Gl X "list") (hm : X.mg "list" = none) (hg2 : Gl X "range") (hm2 : X.mg "range" = none) (ha : PF Z Ew X a fx) (hb : PF Z Ew X b fy) (na : starEach [a, b] X.env = (false, eval a X.env) :: starEach [b] X.env := by rfl)
    (nb : starEach [b] X.env = (false, eval b X.env) :: starEach [] X.env := by rfl) (hp : (backTo pos (starEach [b] X.env)).any (·.1) = false := by rfl)
    (nc : starEach [.Call (.Name "range" p2) [a, b] [] pos] X.env = (false, eval (.Call (.Name "range" p2) [a, b] [] pos) X.env) :: starEach [] X.env := by rfl) {pos2 : Pos} : PF Z Ew X (.Call (.Name "list" p) [.Call (.Name "range" p2) [a, b] [] pos] [] pos2) (fRg2 fx fy) := by
  obtain ⟨ta, h1, h2⟩ := ha.ex
  obtain ⟨tb, h3, h4⟩ := hb.ex
  refine ⟨_, pe_listRg hc hg hm (prg_2 hg2 hm2 h1 h3 na nb hp) nc, fun env σ G α S H Q hd oe w => ?_⟩
  refine h2.bind hd oe w fun S2 a x H2 G2 α2 f2 hd2 oe2 ox w2 => h4.bind hd2 oe2 w2 fun S3 b y H3 G3 α3 f3 hd3 oe3 oy w3 => ?_
  obtain ⟨i, j, e1, e2, ok, k⟩ := rg_ok hd3 (ox.up f3.g f3.a) oy w3
  exact ⟨i, j, e1, e2, ok, k⟩
/-! ### {k: v, ..} of constants -/
def fDisp (ks vs : List Dv) : FE := fun _ S => .ok S (.new (.dc false ks vs))
theorem pairs_c {σ : L2.St} {R' : List (V × V) → Hp → Prop} : ∀ (l : List (V × V)), R' l H → tPairs (l.map fun x => (tC x.1, tC x.2)) σ H R'
  | [], h => h
  | x :: l, h => pairs_c (R' := fun ps H' => R' ((x.1, x.2) :: ps) H') l h
theorem pf_disp {keys : List (Option Expr)} {values : List Expr} (kvs : List (Key × V)) (ks vs : List Dv) (h : PPs X pos keys values ((kvs.map fun kv => (kV kv.1, kv.2)).map fun x => (tC x.1, tC x.2))) (hk : ks.map key? = (kvs.map Prod.fst).map some) (hv : ∀ G, OnL Z G vs (kvs.map Prod.snd)) (hmg : mergeK [] kvs = kvs) (hl : kvs.length ≤ 15)
    (hall : keys.all (·.isSome) = true := by rfl) (hl2 : keys.length = values.length := by rfl) (h0 : keys ≠ [] := by exact fun z => by cases z) (h15 : keys.length ≤ 15 := by decide) : PF Z Ew X (.Dict keys values pos) (fDisp ks vs) := by
  refine ⟨_, pe_disp h hall hl2 h0 h15, fun env σ G α S H Q hd oe w p hp => pairs_c _ ⟨upd_same, kvs, rfl, hl, ?_⟩⟩
  rw [hmg]
  have e2 : Ex H (upd (upd H p (.dK [])) p (.dK kvs)) := fun a o ha => by
    have hn : a ≠ p := fun c => by subst c; rw [hp] at ha; cases ha
    rw [upd_ne hn, upd_ne hn]
    exact ha
  have hz : (kvs.map Prod.fst).zip (kvs.map Prod.snd) = kvs := by
    have : ∀ l : List (Key × V), (l.map Prod.fst).zip (l.map Prod.snd) = l := fun l => by
      induction l with
      | nil => rfl
      | cons x l ih => rw [List.map_cons, List.map_cons, List.zip_cons_cons, ih]
    exact this kvs
  have hlen : ks.length = (kvs.map Prod.snd).length := by
    have := congrArg List.length hk
    simpa using this
  exact w _ G α (Fr.grow hd e2) (hd.grow e2) p ⟨hp, fresh_back hd.ex hp, fun hm => hd.live hm hp, ⟨kvs.map Prod.snd, ⟨kvs.map Prod.fst, hk, by rw [upd_same, hz]⟩, hlen, hv G⟩⟩
end
end DN

/-! DnP: glue for printed derivations; the end of a law. -/
namespace DN
open PySem PySem.Spec PyProof.Rows L2 Evl
theorem AllM.nil {P : String → Nat → FD → Prop} : AllM P [] := trivial
theorem AllM.cons {P : String → Nat → FD → Prop} {c : String} {n : Nat} {D : FD} {r : MT} (h : P c n D) (t : AllM P r) : AllM P ((c, n, D) :: r) := ⟨h, t⟩
theorem AllC.nil {P : String → Prop} : AllC P [] := trivial
theorem AllC.cons {P : String → Prop} {c : String} {r : List String} (h : P c) (t : AllC P r) : AllC P (c :: r) := ⟨h, t⟩
theorem _root_.L2.Room.u1 {k : Nat} {A : Around} (r : Room k A) : A.units + 1 < cLine := by have := r.un; omega
theorem _root_.L2.Room.u64 {k : Nat} {A : Around} (r : Room k A) : A.units + 64 < cLine := by have := r.un; omega
theorem _root_.L2.Room.u65 {k : Nat} {A : Around} (r : Room k A) : A.units + 65 < cLine := by have := r.un; omega
theorem tk0 {X : Cx} : Takes X (fun _ _ _ _ => False) := fun u s' x => by
  obtain ⟨_, _, _, _, _, _, _, _, _, _, _, _, _, _, _, _, h⟩ := x
  exact h.elim
theorem tkd {P : Program} {w : World} {K : PySem.W.Frag} {mg : Str → Option Value} {base : Heap} {N : List Str} {qual : Str} {scope : Scope} {f : Addr} {cd : Value} {A : Around} {outer : List PySem.Env} {s : Shared} {H : Hp} {E : XK} :
    Takes (cxOf (L2.CX P w) P w K mg base N qual scope f cd A outer s H E) (WD E) := takes_of rfl rfl rfl rfl
theorem pod {P : Program} {w : World} {K : PySem.W.Frag} {mg : Str → Option Value} {base : Heap} {N : List Str} {qual : Str} {scope : Scope} {f : Addr} {cd : Value} {A : Around} {outer : List PySem.Env} {s : Shared} {H : Hp} {E : XK} :
    PassesOwn (model P w) (cxOf (L2.CX P w) P w K mg base N qual scope f cd A outer s H E).A (cxOf (L2.CX P w) P w K mg base N qual scope f cd A outer s H E).env (cxOf (L2.CX P w) P w K mg base N qual scope f cd A outer s H E).xe := passes_of (X := cxOf (L2.CX P w) P w K mg base N qual scope f cd A outer s H E) rfl
def spLaw (K : PySem.W.Frag) : Sp := fun vs H Q _ => ∃ (a : Addr) (ns : List Int), vs = [.ref a] ∧ SqL K H a (ns.map V.int) ∧ ns.length ≤ 63 ∧ ∀ H', Q (.bl true) H'
theorem law_sp {Z : Zt} {D : FD} (h : ∀ ns : List Int, ns.length ≤ 63 → ∃ S, D [.d (.scr ns)] [] = .ok S (.val (.d (.bl true)))) (vs : List V) (H : Hp) (Q : VK) (E : XK) (q : spLaw Z.K vs H Q E) : spD Z 1 D vs H Q E := by
  obtain ⟨a, ns, rfl, hS, hl, k⟩ := q
  obtain ⟨S, e⟩ := h ns hl
  refine ⟨H, [], [], [.d (.scr ns)], ⟨Ex.refl H, rfl, List.nodup_nil, fun n a c h1 h2 => by simp at h1⟩, ⟨_, _, rfl, ?_, rfl⟩, rfl, ?_⟩
  · show On Z H (.scr ns) (.ref a)
    unfold On
    exact ⟨a, rfl, hS⟩
  · rw [e]
    intro H2 G2 α2 f hd v ov
    have ov : On Z G2 (.bl true) v := ov
    unfold On at ov
    rw [ov]
    exact k H2
theorem cx_no {P : Program} {w : World} {o : List PySem.Env} {H : Hp} {s : Shared} {e : Value} {s' : Shared} (h : L2.CX P w o H s (fun _ _ _ => False) e s') : False := by
  obtain ⟨_, _, _, _, _, _, _, _, _, _, _, _, h⟩ := h
  exact h
end DN

/-! DnQ: plain facts: how denotations are computed. -/
namespace DN
open PySem
theorem got_val {S : Sto} {v : Vr} : Got (.ok S (.val v)) S v := .val S v
theorem got_lst {S : Sto} {l : List Dv} : Got (.ok S (.new (.lst l))) S (.d (.lst l)) := .new S _ _ rfl
theorem got_ob {S : Sto} {c : String} {l : List Dv} : Got (.ok S (.new (.ob c l))) S (.d (.obj c l)) := .new S _ _ rfl
theorem noex_ok {β : Type} {S : Sto} {b : β} : (R.ok S b).noex = .ok S b := rfl
/-- a comprehension that changes nothing -/
theorem lc_pure {t : Its} {tg : FG} {ft : FT} {fe : FE} {env : Env} {S : Sto} (p : Dv → Bool) (g : Dv → Dv) (hk : lockOk t S = true) : ∀ {l acc : List Dv},
    (∀ d ∈ l, ∃ env', tg d env = some env' ∧ ft env' S = .ok S (p d) ∧ (p d = true → Got (fe env' S) S (.d (g d)))) → acc.length + l.length ≤ 100000 → lcGo t tg ft fe env l S acc = .ok S (acc ++ (l.filter p).map g)
  | [], acc, h, hl => by simp [lcGo, hk]
  | d :: l, acc, h, hl => by
    obtain ⟨env', h1, h2, h3⟩ := h d List.mem_cons_self
    have ih := fun acc => lc_pure p g hk (l := l) (acc := acc) fun x hx => h x (List.mem_cons_of_mem _ hx)
    have hl' : acc.length + l.length + 1 ≤ 100000 := by simpa [Nat.add_assoc] using hl
    simp only [lcGo, hk, if_true, h1, h2, noex_ok, R.bind]
    cases q : p d with
    | false =>
      simp only [Bool.false_eq_true, if_false]
      rw [ih acc (by omega), List.filter_cons, q]
      rfl
    | true =>
      have g3 := h3 q
      simp only [if_true]
      have e : (fe env' S).noex.bindV (fun S2 v => onD v fun y => if acc.length < 100000 then lcGo t tg ft fe env l S2 (acc ++ [y]) else .no) = lcGo t tg ft fe env l S (acc ++ [g d]) := by
        generalize fe env' S = r at g3
        cases g3 with
        | val =>
          simp only [noex_ok, R.bindV, onD]
          rw [if_pos (by omega)]
        | new S c d' hc => rw [noex_ok, bindV_new hc]; simp only [onD]; rw [if_pos (by omega)]
      rw [e, ih (acc ++ [g d]) (by simp; omega), List.filter_cons, q]
      simp
theorem fLc_pure {fi : FI} {tg : FG} {ft : FT} {fe : FE} {vs : List Nat} {env : Env} {S : Sto} {t : Its} (p : Dv → Bool) (g : Dv → Dv) (hi : fi env S = .ok S t) (hk : lockOk t S = true) (hl : t.1.length ≤ 100000)
    (h : ∀ d ∈ t.1, ∃ env', tg d (wipeE env vs) = some env' ∧ ft env' S = .ok S (p d) ∧ (p d = true → Got (fe env' S) S (.d (g d)))) : fLc fi tg ft fe vs env S = .ok S (.new (.lst ((t.1.filter p).map g))) := by
  unfold fLc
  rw [hi]
  simp only [R.bind]
  rw [lc_pure p g hk h (by simpa using hl)]
  rfl
theorem def_val {n : Nat} {body : FS} {args : List Vr} {S S' : Sto} {d : Dv} (h : outS (body (startE n args) S) = .ok S' (.val (.d d))) (h2 : S'.take S.length = S) : defD n body args S = .ok S (.val (.d d)) := by
  unfold defD
  rw [h]
  show R.ok _ _ = _
  rw [h2]
theorem def_pure {n : Nat} {body : FS} {args : List Vr} {S : Sto} {d : Dv} (h : outS (body (startE n args) S) = .ok S (.val (.d d))) : defD n body args S = .ok S (.val (.d d)) := def_val h (by simp)
theorem def_new {n : Nat} {body : FS} {args : List Vr} {S : Sto} {c : Cell} (h : outS (body (startE n args) S) = .ok S (.new c)) : defD n body args S = .ok S (.new c) := by
  unfold defD
  rw [h]
  show R.ok _ _ = _
  rw [List.take_length]
end DN

/-! DnR: running a denotation by simp: unfolding rules that look at the first part first. -/
namespace DN
open PySem
structure Fx {α : Sort _} (a : α) : Type where
def bindW {γ : Type} (r : R Rt) (f : Sto → Vr → R γ) (_ : Fx f) : R γ := r.bindV f
def bindX {β γ : Type} (r : R β) (f : Sto → β → R γ) (_ : Fx f) : R γ := r.bind f
def sVW (env : Env) (r : R Rt) (f : Sto → Vr → RS) (_ : Fx f) : RS := sV env r f
def sBW {β : Type} (env : Env) (r : R β) (f : Sto → β → RS) (_ : Fx f) : RS := sB env r f
def onBW {β : Type} (S : Sto) (a : Vr) (f : Bool → R β) (_ : Fx f) : R β := onB S a f
section
variable {β γ : Type} {S S1 : Sto} {env : Env}
theorem bindV_val {v : Vr} {f : Sto → Vr → R γ} {u : Fx f} : bindW (.ok S (.val v)) f u = f S v := rfl
theorem bindV_lst {l : List Dv} {f : Sto → Vr → R γ} {u : Fx f} : bindW (.ok S (.new (.lst l))) f u = f S (.d (.lst l)) := rfl
theorem bindV_ob {c : String} {l : List Dv} {f : Sto → Vr → R γ} {u : Fx f} : bindW (.ok S (.new (.ob c l))) f u = f S (.d (.obj c l)) := rfl
theorem bindV_dc {t : Bool} {k l : List Dv} {f : Sto → Vr → R γ} {u : Fx f} : bindW (.ok S (.new (.dc t k l))) f u = f S (.d (.dic t k l)) := rfl
theorem bindV_no {f : Sto → Vr → R γ} {u : Fx f} : bindW .no f u = .no := rfl
theorem bindV_ex {x : Xn} {f : Sto → Vr → R γ} {u : Fx f} : bindW (.ex S x) f u = .ex S x := rfl
theorem bind_ok {b : β} {f : Sto → β → R γ} {u : Fx f} : bindX (.ok S b) f u = f S b := rfl
theorem bind_no {f : Sto → β → R γ} {u : Fx f} : bindX .no f u = .no := rfl
theorem bind_ex {x : Xn} {f : Sto → β → R γ} {u : Fx f} : bindX (.ex S x) f u = .ex S x := rfl
theorem sV_val {v : Vr} {f : Sto → Vr → RS} {u : Fx f} : sVW env (.ok S (.val v)) f u = f S v := rfl
theorem sV_lst {l : List Dv} {f : Sto → Vr → RS} {u : Fx f} : sVW env (.ok S (.new (.lst l))) f u = f S (.d (.lst l)) := rfl
theorem sV_ob {c : String} {l : List Dv} {f : Sto → Vr → RS} {u : Fx f} : sVW env (.ok S (.new (.ob c l))) f u = f S (.d (.obj c l)) := rfl
theorem sV_dc {t : Bool} {k l : List Dv} {f : Sto → Vr → RS} {u : Fx f} : sVW env (.ok S (.new (.dc t k l))) f u = f S (.d (.dic t k l)) := rfl
theorem sV_ex {x : Xn} {f : Sto → Vr → RS} {u : Fx f} : sVW env (.ex S x) f u = .ex env S x := rfl
theorem sB_ok {b : β} {f : Sto → β → RS} {u : Fx f} : sBW env (.ok S b) f u = f S b := rfl
theorem sB_ex {x : Xn} {f : Sto → β → RS} {u : Fx f} : sBW env (.ex S x) f u = .ex env S x := rfl
/-- one statement, then the rest -/
def seqR (r : RS) (b : FS) : RS := match r with
  | .nx e2 S2 => b e2 S2
  | r => r
theorem kSeq_ {a b : FS} : kSeq a b env S = seqR (a env S) b := rfl
theorem seqR_nx {b : FS} : seqR (.nx env S) b = b env S := rfl
theorem seqR_rt {r : Rt} {b : FS} : seqR (.rt S r) b = .rt S r := rfl
theorem seqR_ex {x : Xn} {b : FS} : seqR (.ex env S x) b = .ex env S x := rfl
theorem seqR_no {b : FS} : seqR .no b = .no := rfl
def retR (env : Env) (r : R Rt) : RS := match r with
  | .ok S2 r => .rt S2 r
  | .ex S2 x => .ex env S2 x
  | .no => .no
theorem kRet_ {fe : FE} : kRet fe env S = retR env (fe env S) := rfl
theorem retR_ok {r : Rt} : retR env (.ok S r) = .rt S r := rfl
theorem retR_ex {x : Xn} : retR env (.ex S x) = .ex env S x := rfl
theorem kRetN_ : kRetN env S = .rt S (.val (.d .non)) := rfl
theorem kNext_ : kNext env S = .nx env S := rfl
theorem kIf_ {ft : FT} {a b : FS} : kIf ft a b env S = (sBW env (ft env S) (fun S1 t => if t then a env S1 else b env S1) ⟨⟩) := rfl
theorem kExpr_ {fe : FE} : kExpr fe env S = (sBW env (fe env S) (fun S1 _ => .nx env S1) ⟨⟩) := rfl
theorem kSet_ {i : Nat} {fe : FE} : kSet i fe env S = (sVW env (fe env S) (fun S1 v => .nx (env.set i (.v v)) S1) ⟨⟩) := rfl
def setC (i : Nat) (env : Env) (r : R Rt) : RS := match r with
  | .ok S1 (.val v) => .nx (env.set i (.v v)) S1
  | .ok S1 (.new c) => .nx (env.set i (.v (.r S1.length))) (S1 ++ [c])
  | .ex S1 x => .ex env S1 x
  | .no => .no
theorem kSetC_ {i : Nat} {fe : FE} : kSetC i fe env S = setC i env (fe env S) := rfl
theorem setC_val {i : Nat} {v : Vr} : setC i env (.ok S (.val v)) = .nx (env.set i (.v v)) S := rfl
theorem setC_new {i : Nat} {c : Cell} : setC i env (.ok S (.new c)) = .nx (env.set i (.v (.r S.length))) (S ++ [c]) := rfl
def asgR (f : FG) (env : Env) (S1 : Sto) (v : Vr) : RS := match v with
  | .d d => match f d env with
    | some env' => .nx env' S1
    | none => .no
  | .r _ => .no
theorem kAsg_ {f : FG} {fe : FE} : kAsg f fe env S = (sVW env (fe env S) (fun S1 v => asgR f env S1 v) ⟨⟩) := rfl
def asgO (o : Option Env) (S : Sto) : RS := match o with
  | some env' => .nx env' S
  | none => .no
theorem asgR_d {f : FG} {d : Dv} : asgR f env S (.d d) = asgO (f d env) S := rfl
theorem asgO_ {env' : Env} : asgO (some env') S = .nx env' S := rfl
theorem tgN_ {i : Nat} {d : Dv} : tgN i d env = some (env.set i (.v (.d d))) := rfl
theorem tgNil_ : tgNil [] env = some env := rfl
def tgO (o : Option Env) (fs : FGs) (l : List Dv) : Option Env := match o with
  | some e => fs l e
  | none => none
theorem tgCons_ {f : FG} {fs : FGs} {d : Dv} {l : List Dv} : tgCons f fs (d :: l) env = tgO (f d env) fs l := by
  cases h : f d env <;> simp [tgCons, tgO, h]
theorem tgO_ {fs : FGs} {l : List Dv} : tgO (some env) fs l = fs l env := rfl
theorem tgT_ {fs : FGs} {l : List Dv} : tgT fs (.tup l) env = fs l env := rfl
def parR (i j : Nat) (env : Env) (S1 : Sto) (l : List Vr) : RS := match l with
  | [v, w] => .nx ((env.set i (.v v)).set j (.v w)) S1
  | _ => .no
theorem kPar_ {i j : Nat} {fa : FA} : kPar i j fa env S = (sBW env (fa env S) (fun S1 l => parR i j env S1 l) ⟨⟩) := rfl
theorem parR_ {i j : Nat} {v w : Vr} : parR i j env S [v, w] = .nx ((env.set i (.v v)).set j (.v w)) S := rfl
theorem kFor_ {fi : FI} {tg : FG} {b : FS} : kFor fi tg b env S = (sBW env (fi env S) (fun S1 t => forGo t tg b t.1 env S1) ⟨⟩) := rfl
theorem kSub_ {fo fi fv : FE} : kSub fo fi fv env S = (sVW env (fv env S) (fun S1 v => (sVW env (fo env S1) (fun S2 o => (sVW env (fi env S2) (fun S3 i => setIx env S3 o i v) ⟨⟩)) ⟨⟩)) ⟨⟩) := rfl
theorem kFld_ {cs : List String} {f : Str} {fo fv : FE} : kFld cs f fo fv env S = (sVW env (fv env S) (fun S1 v => (sVW env (fo env S1) (fun S2 o => setFd cs f env S2 o v) ⟨⟩)) ⟨⟩) := rfl
def loopR (r : RS) (k : Env → Sto → RS) (_ : Fx k) : RS := match r with
  | .nx e S => k e S
  | .ct e S => k e S
  | .bk e S => .nx e S
  | r => r
theorem loopR_nx {k : Env → Sto → RS} {u : Fx k} : loopR (.nx env S) k u = k env S := rfl
theorem loopR_ct {k : Env → Sto → RS} {u : Fx k} : loopR (.ct env S) k u = k env S := rfl
theorem loopR_bk {k : Env → Sto → RS} {u : Fx k} : loopR (.bk env S) k u = .nx env S := rfl
theorem loopR_rt {k : Env → Sto → RS} {r : Rt} {u : Fx k} : loopR (.rt S r) k u = .rt S r := rfl
def forO (o : Option Env) (S : Sto) (body : FS) (k : Env → Sto → RS) (u : Fx k) : RS := match o with
  | some e => loopR (body e S) k u
  | none => .no
theorem forO_ {body : FS} {k : Env → Sto → RS} {u : Fx k} : forO (some env) S body k u = loopR (body env S) k u := rfl
theorem forGo_c {l t : List Dv} {d : Dv} {tg : FG} {body : FS} : forGo (t, none) tg body (d :: l) env S = forO (tg d env) S body (fun e2 S2 => forGo (t, none) tg body l e2 S2) ⟨⟩ := by
  have hk : lockOk (t, none) S = true := rfl
  simp only [forGo, hk, if_true]
  cases tg d env with
  | none => rfl
  | some e => simp only [forO]; cases body e S <;> rfl
theorem forGo_n {t : List Dv} {tg : FG} {body : FS} : forGo (t, none) tg body [] env S = .nx env S := rfl
theorem iVal_ {fa : FE} : iVal fa env S = (bindW (fa env S) (fun S1 a => itOf S1 a) ⟨⟩) := rfl
theorem itOf_lst {l : List Dv} : itOf S (.d (.lst l)) = .ok S (l, none) := rfl
theorem itOf_tup {l : List Dv} : itOf S (.d (.tup l)) = .ok S (l, none) := rfl
/-! expressions -/
def varR (o : Option Sl) (S : Sto) : R Rt := match o with
  | some (.v d) => .ok S (.val d)
  | _ => .no
theorem fVar_ {i : Nat} : fVar i env S = varR env[i]? S := rfl
theorem varR_ {d : Vr} : varR (some (.v d)) S = .ok S (.val d) := rfl
theorem fC_ {d : Dv} : fC d env S = .ok S (.val (.d d)) := rfl
theorem fOp_ {g : Dv → Dv → Option Rt} {fa fb : FE} : fOp g fa fb env S = (bindW (fa env S) (fun S1 a => (bindW (fb env S1) (fun S2 b => g2 S2 a b g) ⟨⟩)) ⟨⟩) := rfl
def g2o (S : Sto) (x y : Option Dv) (g : Dv → Dv → Option Rt) : R Rt := match x, y with
  | some x, some y => R.of S (g x y)
  | _, _ => .no
theorem g2_ {a b : Vr} {g : Dv → Dv → Option Rt} : g2 S a b g = g2o S (snap S a) (snap S b) g := rfl
theorem g2o_ {x y : Dv} {g : Dv → Dv → Option Rt} : g2o S (some x) (some y) g = R.of S (g x y) := rfl
theorem fUn_ {g : Dv → Option Rt} {fa : FE} : fUn g fa env S = (bindW (fa env S) (fun S1 a => g1 S1 a g) ⟨⟩) := rfl
def g1o (S : Sto) (x : Option Dv) (g : Dv → Option Rt) : R Rt := match x with
  | some x => R.of S (g x)
  | _ => .no
theorem g1_ {a : Vr} {g : Dv → Option Rt} : g1 S a g = g1o S (snap S a) g := by unfold g1 g1o; cases snap S a <;> rfl
theorem g1o_ {x : Dv} {g : Dv → Option Rt} : g1o S (some x) g = R.of S (g x) := rfl
theorem of_some {b : β} : R.of S (some b) = .ok S b := rfl
theorem snap_d {d : Dv} : snap S (.d d) = some d := rfl
def snapC : Option Cell → Option Dv
  | some (.lst l) => some (.lst l)
  | some (.ob c l) => some (.obj c l)
  | some (.dc t ks vs) => some (.dic t ks vs)
  | _ => none
theorem snap_r {n : Nat} : snap S (.r n) = snapC S[n]? := by
  cases q : S[n]? with
  | none => simp [snap, q, snapC]
  | some c => cases c <;> simp [snap, q, snapC]
theorem snapC_lst {l : List Dv} : snapC (some (.lst l)) = some (.lst l) := rfl
theorem snapC_ob {c : String} {l : List Dv} : snapC (some (.ob c l)) = some (.obj c l) := rfl
theorem fNil_ : fNil env S = .ok S [] := rfl
theorem fCons_ {fa : FE} {fr : FA} : fCons fa fr env S = (bindW (fa env S) (fun S1 a => (bindX (fr env S1) (fun S2 l => .ok S2 (a :: l)) ⟨⟩)) ⟨⟩) := rfl
theorem fTup_ {fa : FA} : fTup fa env S = (bindX (fa env S) (fun S1 l => R.of S1 (gTupD l)) ⟨⟩) := rfl
theorem fLst_ {fa : FA} : fLst fa env S = (bindX (fa env S) (fun S1 l => R.of S1 (gLstD l)) ⟨⟩) := rfl
theorem allD_n : allD [] = some [] := rfl
def allC (x : Dv) : Option (List Dv) → Option (List Dv)
  | some r => some (x :: r)
  | none => none
theorem allD_c {x : Dv} {l : List Vr} : allD (.d x :: l) = allC x (allD l) := rfl
theorem allC_ {x : Dv} {l : List Dv} : allC x (some l) = some (x :: l) := rfl
def tupO : Option (List Dv) → Option Rt
  | some r => if r.length ≤ 100000 then some (.val (.d (.tup r))) else none
  | none => none
def lstO : Option (List Dv) → Option Rt
  | some r => if r.length ≤ 100000 then some (.new (.lst r)) else none
  | none => none
theorem gTupD_ {l : List Vr} : gTupD l = tupO (allD l) := rfl
theorem gLstD_ {l : List Vr} : gLstD l = lstO (allD l) := rfl
theorem tupO_ {r : List Dv} : tupO (some r) = if r.length ≤ 100000 then some (.val (.d (.tup r))) else none := rfl
theorem lstO_ {r : List Dv} : lstO (some r) = if r.length ≤ 100000 then some (.new (.lst r)) else none := rfl
theorem tupO_0 : tupO (some []) = some (.val (.d (.tup []))) := by simp only [tupO, lstO]; exact if_pos (show (0 : Nat) ≤ 100000 by decide)
theorem lstO_0 : lstO (some []) = some (.new (.lst [])) := by simp only [tupO, lstO]; exact if_pos (show (0 : Nat) ≤ 100000 by decide)
theorem tupO_1 {a : Dv} : tupO (some [a]) = some (.val (.d (.tup [a]))) := by simp only [tupO, lstO]; exact if_pos (show (1 : Nat) ≤ 100000 by decide)
theorem lstO_1 {a : Dv} : lstO (some [a]) = some (.new (.lst [a])) := by simp only [tupO, lstO]; exact if_pos (show (1 : Nat) ≤ 100000 by decide)
theorem tupO_2 {a b : Dv} : tupO (some [a, b]) = some (.val (.d (.tup [a, b]))) := by simp only [tupO, lstO]; exact if_pos (show (2 : Nat) ≤ 100000 by decide)
theorem lstO_2 {a b : Dv} : lstO (some [a, b]) = some (.new (.lst [a, b])) := by simp only [tupO, lstO]; exact if_pos (show (2 : Nat) ≤ 100000 by decide)
theorem tupO_3 {a b c : Dv} : tupO (some [a, b, c]) = some (.val (.d (.tup [a, b, c]))) := by simp only [tupO, lstO]; exact if_pos (show (3 : Nat) ≤ 100000 by decide)
theorem lstO_3 {a b c : Dv} : lstO (some [a, b, c]) = some (.new (.lst [a, b, c])) := by simp only [tupO, lstO]; exact if_pos (show (3 : Nat) ≤ 100000 by decide)
theorem tupO_4 {a b c d : Dv} : tupO (some [a, b, c, d]) = some (.val (.d (.tup [a, b, c, d]))) := by simp only [tupO, lstO]; exact if_pos (show (4 : Nat) ≤ 100000 by decide)
theorem lstO_4 {a b c d : Dv} : lstO (some [a, b, c, d]) = some (.new (.lst [a, b, c, d])) := by simp only [tupO, lstO]; exact if_pos (show (4 : Nat) ≤ 100000 by decide)
theorem tupO_5 {a b c d e : Dv} : tupO (some [a, b, c, d, e]) = some (.val (.d (.tup [a, b, c, d, e]))) := by simp only [tupO, lstO]; exact if_pos (show (5 : Nat) ≤ 100000 by decide)
theorem lstO_5 {a b c d e : Dv} : lstO (some [a, b, c, d, e]) = some (.new (.lst [a, b, c, d, e])) := by simp only [tupO, lstO]; exact if_pos (show (5 : Nat) ≤ 100000 by decide)
theorem tupO_6 {a b c d e f : Dv} : tupO (some [a, b, c, d, e, f]) = some (.val (.d (.tup [a, b, c, d, e, f]))) := by simp only [tupO, lstO]; exact if_pos (show (6 : Nat) ≤ 100000 by decide)
theorem lstO_6 {a b c d e f : Dv} : lstO (some [a, b, c, d, e, f]) = some (.new (.lst [a, b, c, d, e, f])) := by simp only [tupO, lstO]; exact if_pos (show (6 : Nat) ≤ 100000 by decide)
theorem tupO_7 {a b c d e f g : Dv} : tupO (some [a, b, c, d, e, f, g]) = some (.val (.d (.tup [a, b, c, d, e, f, g]))) := by simp only [tupO, lstO]; exact if_pos (show (7 : Nat) ≤ 100000 by decide)
theorem lstO_7 {a b c d e f g : Dv} : lstO (some [a, b, c, d, e, f, g]) = some (.new (.lst [a, b, c, d, e, f, g])) := by simp only [tupO, lstO]; exact if_pos (show (7 : Nat) ≤ 100000 by decide)
theorem fAnd_ {fa fb : FE} : fAnd fa fb env S = (bindW (fa env S) (fun S1 a => (onBW S1 a (fun b => if b then fb env S1 else .ok S1 (.val (.d (.bl false)))) ⟨⟩)) ⟨⟩) := rfl
theorem fOr_ {fa fb : FE} : fOr fa fb env S = (bindW (fa env S) (fun S1 a => (onBW S1 a (fun b => if b then .ok S1 (.val (.d (.bl true))) else fb env S1) ⟨⟩)) ⟨⟩) := rfl
theorem fNot_ {fa : FE} : fNot fa env S = (bindW (fa env S) (fun S1 a => (onBW S1 a (fun b => .ok S1 (.val (.d (.bl (!b))))) ⟨⟩)) ⟨⟩) := rfl
theorem fIf_ {ft : FT} {fa fb : FE} : fIf ft fa fb env S = (bindX (ft env S) (fun S1 b => if b then fa env S1 else fb env S1) ⟨⟩) := rfl
theorem onB_ {b : Bool} {f : Bool → R β} {u : Fx f} : onBW S (.d (.bl b)) f u = f b := rfl
theorem kVal_ {fa : FE} : kVal fa env S = (bindW (fa env S) (fun S1 a => (onBW S1 a (fun b => .ok S1 b) ⟨⟩)) ⟨⟩) := rfl
theorem kAnd_ {ta tb : FT} : kAnd ta tb env S = (bindX (ta env S) (fun S1 b => if b then tb env S1 else .ok S1 false) ⟨⟩) := rfl
theorem kOr_ {ta tb : FT} : kOr ta tb env S = (bindX (ta env S) (fun S1 b => if b then .ok S1 true else tb env S1) ⟨⟩) := rfl
theorem kNot_ {ta : FT} : kNot ta env S = (bindX (ta env S) (fun S1 b => .ok S1 (!b)) ⟨⟩) := rfl
theorem kYes_ : kYes env S = .ok S true := rfl
theorem fCall_ {g : List Dv → Option Rt} {fa : FA} : fCall g fa env S = (bindX (fa env S) (fun S1 l => gA S1 l g) ⟨⟩) := rfl
def gAo (S : Sto) (x : Option (List Dv)) (g : List Dv → Option Rt) : R Rt := match x with
  | some x => R.of S (g x)
  | _ => .no
theorem gA_ {l : List Vr} {g : List Dv → Option Rt} : gA S l g = gAo S (snaps S l) g := by unfold gA gAo; cases snaps S l <;> rfl
theorem gAo_ {l : List Dv} {g : List Dv → Option Rt} : gAo S (some l) g = R.of S (g l) := rfl
def snapsC : Option Dv → Option (List Dv) → Option (List Dv)
  | some d, some m => some (d :: m)
  | _, _ => none
theorem snaps_n : snaps S [] = some [] := rfl
theorem snaps_c {r : Vr} {l : List Vr} : snaps S (r :: l) = snapsC (snap S r) (snaps S l) := by
  unfold snapsC
  show (match snap S r, snaps S l with | some d, some m => some (d :: m) | _, _ => none) = _
  cases snap S r <;> cases snaps S l <;> rfl
theorem snapsC_ {d : Dv} {l : List Dv} : snapsC (some d) (some l) = some (d :: l) := rfl
theorem arg1_ {f : Dv → Option Rt} {x : Dv} : arg1 f [x] = f x := rfl
theorem arg12_1 {f : Dv → Option Rt} {g : Dv → Dv → Option Rt} {x : Dv} : arg12 f g [x] = f x := rfl
theorem arg12_2 {f : Dv → Option Rt} {g : Dv → Dv → Option Rt} {x y : Dv} : arg12 f g [x, y] = g x y := rfl
theorem arg2_ {f : Dv → Dv → Option Rt} {x y : Dv} : arg2 f [x, y] = f x y := rfl
theorem onlyIf_t {r : Option Rt} : onlyIf true r = r := rfl
theorem fCallD_ {m : Nat} {D : FD} {fa : FA} : fCallD m D fa env S = (bindX (fa env S) (fun S1 l => if l.length = m then D l S1 else .no) ⟨⟩) := rfl
theorem fMeth_ {T : String} {g : Dv → List Dv → Option Rt} {fo : FE} {fa : FA} : fMeth T g fo fa env S = (bindW (fo env S) (fun S1 a => onT T S1 a ((bindX (fa env S1) (fun S2 l => gM S2 a l g) ⟨⟩))) ⟨⟩) := rfl
def onTo (T : String) (x : Option Dv) (r : R β) : R β := match x with
  | some d => if isT T d then r else .no
  | none => .no
theorem onT_ {T : String} {a : Vr} {r : R β} : onT T S a r = onTo T (snap S a) r := rfl
theorem onTo_ {T : String} {d : Dv} {r : R β} : onTo T (some d) r = if isT T d then r else .no := rfl
def gMo (S : Sto) (x : Option Dv) (l : Option (List Dv)) (g : Dv → List Dv → Option Rt) : R Rt := match x, l with
  | some d, some ds => R.of S (g d ds)
  | _, _ => .no
theorem gM_ {a : Vr} {l : List Vr} {g : Dv → List Dv → Option Rt} : gM S a l g = gMo S (snap S a) (snaps S l) g := rfl
theorem gMo_ {d : Dv} {l : List Dv} {g : Dv → List Dv → Option Rt} : gMo S (some d) (some l) g = R.of S (g d l) := rfl
/-! own classes -/
def clsC : Option Cell → Option String
  | some (.ob c _) => some c
  | _ => none
theorem clsV_r {n : Nat} : clsV S (.r n) = clsC S[n]? := by
  cases q : S[n]? with
  | none => simp [clsV, q, clsC]
  | some c => cases c <;> simp [clsV, q, clsC]
theorem clsC_lst {l : List Dv} : clsC (some (.lst l)) = none := rfl
theorem clsC_ob {c : String} {l : List Dv} : clsC (some (.ob c l)) = some c := rfl
theorem clsV_obj {c : String} {l : List Dv} : clsV S (.d (.obj c l)) = some c := rfl
theorem clsV_int {i : Int} : clsV S (.d (.int i)) = none := rfl
theorem clsV_bl {i : Bool} : clsV S (.d (.bl i)) = none := rfl
theorem clsV_str {i : Str} : clsV S (.d (.str i)) = none := rfl
theorem clsV_non : clsV S (.d .non) = none := rfl
theorem clsV_lst {l : List Dv} : clsV S (.d (.lst l)) = none := rfl
theorem clsV_tup {l : List Dv} : clsV S (.d (.tup l)) = none := rfl
theorem clsV_scr {l : List Int} : clsV S (.d (.scr l)) = none := rfl
theorem fLenD_ {T : MT} {fa : FA} : fLenD T fa env S = (bindX (fa env S) (fun S1 l => lenR T S1 l) ⟨⟩) := rfl
def lenC (k : Option String) (T : MT) (S : Sto) (o : Vr) : R Rt := match k with
  | some c => onlyV pInt (askT T c [o] S)
  | none => gA S [o] gLen
theorem lenR_ {T : MT} {o : Vr} : lenR T S [o] = lenC (clsV S o) T S o := rfl
theorem lenC_n {T : MT} {o : Vr} : lenC none T S o = gA S [o] gLen := rfl
theorem lenC_s {T : MT} {o : Vr} {c : String} : lenC (some c) T S o = onlyV pInt (askT T c [o] S) := rfl
theorem fIxD_ {T : MT} {fa fb : FE} : fIxD T fa fb env S = (bindW (fa env S) (fun S1 a => (bindW (fb env S1) (fun S2 b => ixR T S2 a b) ⟨⟩)) ⟨⟩) := rfl
def ixC (k : Option String) (T : MT) (S : Sto) (a b : Vr) : R Rt := match k with
  | some c => okR (askT T c [a, b] S)
  | none => g2 S a b gIx
theorem ixR_ {T : MT} {a b : Vr} : ixR T S a b = ixC (clsV S a) T S a b := rfl
theorem ixC_n {T : MT} {a b : Vr} : ixC none T S a b = g2 S a b gIx := rfl
theorem ixC_s {T : MT} {a b : Vr} {c : String} : ixC (some c) T S a b = okR (askT T c [a, b] S) := rfl
theorem okR_ok' {b : Rt} : okR (.ok S b) = .ok S b := rfl
theorem fEqD_ {cs : List String} {T : MT} {neg : Bool} {fa fb : FE} : fEqD cs T neg fa fb env S = (bindW (fa env S) (fun S1 a => (bindW (fb env S1) (fun S2 b => eqR cs T neg S2 a b) ⟨⟩)) ⟨⟩) := rfl
theorem eqR_n {cs : List String} {T : MT} {neg : Bool} {a b : Vr} (h : clsV S a = none) : eqR cs T neg S a b = g2 S a b (if neg then gNe else gEq) := by unfold eqR; rw [h]
theorem fPropD_ {t : MT} {fo : FE} : fPropD t fo env S = (bindW (fo env S) (fun S1 o => fAsk1 t S1 o) ⟨⟩) := rfl
theorem fMakeD_ {c : String} {dl : List Dv} {n : Nat} {D : FD} {fa : FA} : fMakeD c dl n D fa env S = (bindX (fa env S) (fun S1 l =>
  if (Vr.r S1.length :: (l ++ dl.map .d)).length = n then makeR S1.length (D (.r S1.length :: (l ++ dl.map .d)) (S1 ++ [.ob c []])) else .no) ⟨⟩) := rfl
/-! isinstance -/
theorem isi_int_int {cs : List String} {i : Int} : gIsi cs (.int i) (.ty "int") = vB true := rfl
theorem isi_int_bool {cs : List String} {i : Int} : gIsi cs (.int i) (.ty "bool") = vB false := rfl
theorem isi_int_str {cs : List String} {i : Int} : gIsi cs (.int i) (.ty "str") = vB false := rfl
theorem isi_str_str {cs : List String} {i : Str} : gIsi cs (.str i) (.ty "str") = vB true := rfl
theorem isi_str_int {cs : List String} {i : Str} : gIsi cs (.str i) (.ty "int") = vB false := rfl
theorem isi_lst_lst {cs : List String} {i : List Dv} : gIsi cs (.lst i) (.ty "list") = vB true := rfl
theorem isi_lst_str {cs : List String} {i : List Dv} : gIsi cs (.lst i) (.ty "str") = vB false := rfl
theorem isi_tup_str {cs : List String} {i : List Dv} : gIsi cs (.tup i) (.ty "str") = vB false := rfl
theorem isi_tup_tup {cs : List String} {i : List Dv} : gIsi cs (.tup i) (.ty "tuple") = vB true := rfl
theorem isi_lst_lt {cs : List String} {i : List Dv} : gIsi cs (.lst i) (.tup [.ty "list", .ty "tuple"]) = vB true := rfl
theorem isi_tup_lt {cs : List String} {i : List Dv} : gIsi cs (.tup i) (.tup [.ty "list", .ty "tuple"]) = vB true := rfl
theorem isi_str_lt {cs : List String} {i : Str} : gIsi cs (.str i) (.tup [.ty "list", .ty "tuple"]) = vB false := rfl
/-! small values -/
theorem vB_ {b : Bool} : vB b = some (.val (.d (.bl b))) := rfl
theorem vI_ {b : Int} : vI b = some (.val (.d (.int b))) := rfl
theorem vS_ {b : Str} : vS b = some (.val (.d (.str b))) := rfl
theorem vT_ {b : List Dv} : vT b = some (.val (.d (.tup b))) := rfl
theorem nL_ {b : List Dv} : nL b = some (.new (.lst b)) := rfl
theorem vD_ {b : Dv} : vD b = some (.val (.d b)) := rfl
theorem startE_ {n : Nat} {args : List Vr} : startE n args = args.map .v ++ List.replicate (n - args.length) .u := rfl
theorem outS_nx : outS (.nx env S) = .ok S (.val (.d .non)) := rfl
theorem outS_rt {r : Rt} : outS (.rt S r) = .ok S r := rfl
theorem outS_ex {x : Xn} : outS (.ex env S x) = .ex S x := rfl
/-! more -/
def methP (p : Option (Nat × FD)) (o : Vr) (r : R (List Vr)) : R Rt := match p with
  | some (n, D) => r.bind fun S2 l => if (o :: l).length = n then D (o :: l) S2 else .no
  | none => .no
def methR (k : Option String) (t : MT) (o : Vr) (r : R (List Vr)) : R Rt := match k with
  | some c => methP (t.at c) o r
  | none => .no
theorem fMethD_ {t : MT} {fo : FE} {fa : FA} : fMethD t fo fa env S = (bindW (fo env S) (fun S1 o => methR (clsV S1 o) t o (fa env S1)) ⟨⟩) := by
  unfold fMethD methR methP
  congr 1
theorem methR_ {c : String} {t : MT} {o : Vr} {r : R (List Vr)} : methR (some c) t o r = methP (t.at c) o r := rfl
theorem methP_ {n : Nat} {D : FD} {o : Vr} {r : R (List Vr)} : methP (some (n, D)) o r = (bindX r (fun S2 l => if (o :: l).length = n then D (o :: l) S2 else .no) ⟨⟩) := rfl
def askP (p : Option (Nat × FD)) (l : List Vr) (S : Sto) : R Rt := match p with
  | some (n, D) => if l.length = n then D l S else .no
  | none => .no
theorem askT_ {t : MT} {c : String} {l : List Vr} : askT t c l S = askP (t.at c) l S := rfl
theorem askP_ {n : Nat} {D : FD} {l : List Vr} : askP (some (n, D)) l S = if l.length = n then D l S else .no := rfl
def ask1P (p : Option (Nat × FD)) (o : Vr) (S : Sto) : R Rt := match p with
  | some (n, D) => if [o].length = n then okR (D [o] S) else .no
  | none => .no
def ask1R (k : Option String) (t : MT) (o : Vr) (S : Sto) : R Rt := match k with
  | some c => ask1P (t.at c) o S
  | none => .no
theorem fAsk1_ {t : MT} {o : Vr} : fAsk1 t S o = ask1R (clsV S o) t o S := rfl
theorem ask1R_ {c : String} {t : MT} {o : Vr} : ask1R (some c) t o S = ask1P (t.at c) o S := rfl
theorem ask1P_ {n : Nat} {D : FD} {o : Vr} : ask1P (some (n, D)) o S = if [o].length = n then okR (D [o] S) else .no := rfl
theorem at_cons {b c : String} {p : Nat × FD} {r : MT} : MT.at ((b, p) :: r) c = if b == c then some p else MT.at r c := rfl
theorem eqR_int {cs : List String} {T : MT} {neg : Bool} {i : Int} {b : Vr} : eqR cs T neg S (.d (.int i)) b = g2 S (.d (.int i)) b (if neg then gNe else gEq) := rfl
theorem eqR_bl {cs : List String} {T : MT} {neg : Bool} {i : Bool} {b : Vr} : eqR cs T neg S (.d (.bl i)) b = g2 S (.d (.bl i)) b (if neg then gNe else gEq) := rfl
theorem eqR_str {cs : List String} {T : MT} {neg : Bool} {i : Str} {b : Vr} : eqR cs T neg S (.d (.str i)) b = g2 S (.d (.str i)) b (if neg then gNe else gEq) := rfl
theorem eqR_lst {cs : List String} {T : MT} {neg : Bool} {i : List Dv} {b : Vr} : eqR cs T neg S (.d (.lst i)) b = g2 S (.d (.lst i)) b (if neg then gNe else gEq) := rfl
theorem eqR_tup {cs : List String} {T : MT} {neg : Bool} {i : List Dv} {b : Vr} : eqR cs T neg S (.d (.tup i)) b = g2 S (.d (.tup i)) b (if neg then gNe else gEq) := rfl
theorem eqR_non {cs : List String} {T : MT} {neg : Bool} {b : Vr} : eqR cs T neg S (.d .non) b = g2 S (.d .non) b (if neg then gNe else gEq) := rfl
theorem eqR_oo {cs : List String} {T : MT} {neg : Bool} {c : String} {l m : List Dv} (h : cs.contains c = true) : eqR cs T neg S (.d (.obj c l)) (.d (.obj c m)) = onlyV (pBl neg) (askT T c [.d (.obj c l), .d (.obj c m)] S) := by
  unfold eqR
  simp only [clsV_obj, snap_d, tkD, okT, h, Bool.and_self, if_true]
  cases neg <;> simp
theorem eqR_ol {cs : List String} {T : MT} {c : String} {l m : List Dv} (h : cs.contains c = true) : eqR cs T false S (.d (.obj c l)) (.d (.lst m)) = onlyV (pBl false) (askT T c [.d (.obj c l), .d (.lst m)] S) := by
  unfold eqR
  simp only [clsV_obj, snap_d, tkD, okT, h]
  rfl
theorem eqR_ot {cs : List String} {T : MT} {c : String} {l m : List Dv} (h : cs.contains c = true) : eqR cs T false S (.d (.obj c l)) (.d (.tup m)) = onlyV (pBl false) (askT T c [.d (.obj c l), .d (.tup m)] S) := by
  unfold eqR
  simp only [clsV_obj, snap_d, tkD, okT, h]
  rfl
theorem eqR_os {cs : List String} {T : MT} {c : String} {l : List Dv} {m : Str} (h : cs.contains c = true) : eqR cs T false S (.d (.obj c l)) (.d (.str m)) = onlyV (pBl false) (askT T c [.d (.obj c l), .d (.str m)] S) := by
  unfold eqR
  simp only [clsV_obj, snap_d, tkD, okT, h]
  rfl
theorem onlyV_bl {neg b : Bool} : onlyV (pBl neg) (.ok S (.val (.d (.bl b)))) = .ok S (.val (.d (.bl (if neg then !b else b)))) := rfl
theorem onlyV_str {s : Str} : onlyV pStr (.ok S (.val (.d (.str s)))) = .ok S (.val (.d (.str s))) := rfl
theorem pInt_ {i : Int} (h : 0 ≤ i) (h2 : i < 1000000) : pInt (.int i) = some (.int i) := by
  simp only [pInt]
  rw [if_pos (by omega)]
theorem onlyV_int {i : Int} (h : 0 ≤ i) (h2 : i < 1000000) : onlyV pInt (.ok S (.val (.d (.int i)))) = .ok S (.val (.d (.int i))) := by
  show (match pInt (.int i) with | some e => R.ok S (Rt.val (Vr.d e)) | none => R.no) = _
  rw [pInt_ h h2]
theorem fStrD_ {T : MT} {fa : FA} : fStrD T fa env S = (bindX (fa env S) (fun S1 l => strR T S1 l) ⟨⟩) := rfl
def strC (k : Option String) (T : MT) (S : Sto) (o : Vr) : R Rt := match k with
  | some c => onlyV pStr (askT T c [o] S)
  | none => gA S [o] gStr
theorem strR_ {T : MT} {o : Vr} : strR T S [o] = strC (clsV S o) T S o := rfl
theorem strC_n {T : MT} {o : Vr} : strC none T S o = gA S [o] gStr := rfl
theorem strC_s {T : MT} {o : Vr} {c : String} : strC (some c) T S o = onlyV pStr (askT T c [o] S) := rfl
theorem fChain_ {g g' : Dv → Dv → Option Rt} {fa fb fc : FE} : fChain g g' fa fb fc env S = (bindW (fa env S) (fun S1 a => (bindW (fb env S1) (fun S2 b => (bindW (g2 S2 a b g) (fun S3 k => (onBW S3 k (fun t =>
  if t then (bindW (fc env S3) (fun S4 c => g2 S4 b c g') ⟨⟩) else .ok S3 (.val (.d (.bl false)))) ⟨⟩)) ⟨⟩)) ⟨⟩)) ⟨⟩) := rfl
theorem fSl_ {fa : FE} {lo hi : FO} : fSl fa lo hi env S = (bindW (fa env S) (fun S1 a => (bindX (lo env S1) (fun S2 l => (bindX (hi env S2) (fun S3 h => g1 S3 a (gSl l h)) ⟨⟩)) ⟨⟩)) ⟨⟩) := rfl
theorem fNoPart_ : fNoPart env S = .ok S none := rfl
def partR (S : Sto) (a : Vr) : R (Option Int) := match a with
  | .d (.int i) => .ok S (some i)
  | _ => .no
theorem fPart_ {fa : FE} : fPart fa env S = (bindW (fa env S) (fun S1 a => partR S1 a) ⟨⟩) := rfl
theorem partR_ {i : Int} : partR S (.d (.int i)) = .ok S (some i) := rfl
theorem fDisp_ {ks vs : List Dv} : fDisp ks vs env S = .ok S (.new (.dc false ks vs)) := rfl
theorem gSl_lst {l : List Dv} {lo hi : Option Int} : gSl lo hi (.lst l) = nL (cutL l lo hi) := rfl
theorem gSl_tup {l : List Dv} {lo hi : Option Int} : gSl lo hi (.tup l) = vT (cutL l lo hi) := rfl
theorem gSl_str {s : Str} {lo hi : Option Int} (h : s.length ≤ 100000) : gSl lo hi (.str s) = vS (L2.cutS s lo hi) := by
  show (if s.length ≤ 100000 then vS (L2.cutS s lo hi) else none) = _
  rw [if_pos h]
theorem fMut_ {g : List Dv → List Dv → Option (List Dv × Dv)} {fo : FE} {fa : FA} : fMut g fo fa env S = (bindW (fo env S) (fun S1 a => onT "list" S1 a ((bindX (fa env S1) (fun S2 l => gMu S2 a l g) ⟨⟩))) ⟨⟩) := rfl
def muC (n : Nat) (o : Option Cell) (S : Sto) (ds : Option (List Dv)) (g : List Dv → List Dv → Option (List Dv × Dv)) : R Rt := match ds, o with
  | some ds, some (.lst l0) => muP n S (g l0 ds)
  | _, _ => .no
where muP (n : Nat) (S : Sto) (p : Option (List Dv × Dv)) : R Rt := match p with
  | some (l1, res) => .ok (S.set n (.lst l1)) (.val (.d res))
  | none => .no
theorem gMu_ {n : Nat} {l : List Vr} {g : List Dv → List Dv → Option (List Dv × Dv)} : gMu S (.r n) l g = muC n S[n]? S (allD l) g := by
  unfold gMu muC muC.muP
  cases q : allD l with
  | none => rfl
  | some ds =>
    cases q2 : S[n]? with
    | none => simp only [q2]
    | some c => cases c <;> simp only [q2] <;> rfl
theorem muC_ {n : Nat} {ds l0 : List Dv} {g : List Dv → List Dv → Option (List Dv × Dv)} : muC n (some (.lst l0)) S (some ds) g = muC.muP n S (g l0 ds) := rfl
theorem muP_ {n : Nat} {l1 : List Dv} {res : Dv} : muC.muP n S (some (l1, res)) = .ok (S.set n (.lst l1)) (.val (.d res)) := rfl
theorem isT_str {s : Str} : isT "str" (.str s) = true := rfl
theorem isT_lst {s : List Dv} : isT "list" (.lst s) = true := rfl
theorem gClear_ {l : List Dv} : gClear l [] = some ([], .non) := rfl
def cmR (c : String) (n : Nat) (D : FD) (o : Vr) (r : R (List Vr)) : R Rt := match o with
  | .d (.cls b) => if b == c then r.bind fun S2 l => if (Vr.d (.cls c) :: l).length = n then D (.d (.cls c) :: l) S2 else .no else .no
  | _ => .no
theorem fCMeth_ {c : String} {n : Nat} {D : FD} {fo : FE} {fa : FA} : fCMeth c n D fo fa env S = (bindW (fo env S) (fun S1 o => cmR c n D o (fa env S1)) ⟨⟩) := by
  unfold fCMeth cmR
  congr 1
theorem cmR_ {c : String} {n : Nat} {D : FD} {r : R (List Vr)} : cmR c n D (.d (.cls c)) r = (bindX r (fun S2 l => if (Vr.d (.cls c) :: l).length = n then D (.d (.cls c) :: l) S2 else .no) ⟨⟩) := by
  unfold cmR bindX
  simp
theorem makeR_ok {c : String} {l : List Dv} : makeR (List.length S) (.ok (S ++ [.ob c l]) (.val (.d .non))) = .ok S (.new (.ob c l)) := by
  unfold makeR
  simp
def mkLR (c : String) (o : Option Sl) (r : R Rt) : R Rt := match o with
  | some (.v (.d (.cls b))) => if b == c then r else .no
  | _ => .no
theorem fMakeL_ {i n : Nat} {c : String} {D : FD} {fa : FA} : fMakeL i c n D fa env S = mkLR c env[i]? (fMakeD c [] n D fa env S) := by
  unfold fMakeL mkLR
  rfl
theorem mkLR_ {c : String} {r : R Rt} : mkLR c (some (.v (.d (.cls c)))) r = r := by
  unfold mkLR
  simp
end
end DN

/-! DnS: plain facts: comprehensions that draw, words of signs, equality of data. -/
namespace DN
open PySem L2
/-- a comprehension that changes cells -/
theorem lc_st {t : Its} {tg : FG} {ft : FT} {fe : FE} {env : Env} (I : Nat → Sto → Prop) (P : Dv → Prop) (ht : t.2 = none) : ∀ {l acc : List Dv} {i : Nat} {S : Sto}, I i S →
    (∀ d ∈ l, ∀ j S, I j S → ∃ env' S' y, tg d env = some env' ∧ ft env' S = .ok S true ∧ Got (fe env' S) S' (.d y) ∧ I (j + 1) S' ∧ P y) → acc.length + l.length ≤ 100000 →
    ∃ S' ys, lcGo t tg ft fe env l S acc = .ok S' (acc ++ ys) ∧ I (i + l.length) S' ∧ ys.length = l.length ∧ ∀ y ∈ ys, P y
  | [], acc, i, S, hI, h, hl => ⟨S, [], by
      have : lockOk t S = true := by unfold lockOk; rw [ht]
      simp [lcGo, this], hI, rfl, fun _ h => nomatch h⟩
  | d :: l, acc, i, S, hI, h, hl => by
    have hk : lockOk t S = true := by unfold lockOk; rw [ht]
    obtain ⟨env', S1, y, h1, h2, h3, h4, h5⟩ := h d List.mem_cons_self i S hI
    have hl' : acc.length + l.length + 1 ≤ 100000 := by simpa [Nat.add_assoc] using hl
    obtain ⟨S2, ys, e1, e2, e3, e4⟩ := lc_st I P ht (l := l) (acc := acc ++ [y]) (i := i + 1) (S := S1) h4 (fun x hx => h x (List.mem_cons_of_mem _ hx)) (by simp; omega)
    refine ⟨S2, y :: ys, ?_, by rw [List.length_cons, show i + (l.length + 1) = i + 1 + l.length by omega]; exact e2, by rw [List.length_cons, List.length_cons, e3], fun z hz => ?_⟩
    · simp only [lcGo, hk, if_true, h1, h2, noex_ok, R.bind]
      have e : (fe env' S).noex.bindV (fun S2 v => onD v fun y => if acc.length < 100000 then lcGo t tg ft fe env l S2 (acc ++ [y]) else .no) = lcGo t tg ft fe env l S1 (acc ++ [y]) := by
        generalize fe env' S = r at h3
        cases h3 with
        | val =>
          simp only [noex_ok, R.bindV, onD]
          rw [if_pos (by omega)]
        | new S c d' hc => rw [noex_ok, bindV_new hc]; simp only [onD]; rw [if_pos (by omega)]
      rw [e, e1]
      simp
    · rcases List.mem_cons.mp hz with rfl | hz
      · exact h5
      · exact e4 z hz
theorem fLc_st {fi : FI} {tg : FG} {ft : FT} {fe : FE} {vs : List Nat} {env : Env} {S : Sto} {t : Its} (I : Nat → Sto → Prop) (P : Dv → Prop) (hi : fi env S = .ok S t) (ht : t.2 = none) (hI : I 0 S) (hl : t.1.length ≤ 100000)
    (h : ∀ d ∈ t.1, ∀ j S, I j S → ∃ env' S' y, tg d (wipeE env vs) = some env' ∧ ft env' S = .ok S true ∧ Got (fe env' S) S' (.d y) ∧ I (j + 1) S' ∧ P y) :
    ∃ S' ys, fLc fi tg ft fe vs env S = .ok S' (.new (.lst ys)) ∧ I t.1.length S' ∧ ys.length = t.1.length ∧ ∀ y ∈ ys, P y := by
  obtain ⟨S', ys, e1, e2, e3, e4⟩ := lc_st I P ht (l := t.1) (acc := []) (i := 0) hI h (by simpa using hl)
  refine ⟨S', ys, ?_, by simpa using e2, e3, e4⟩
  unfold fLc
  rw [hi]
  simp only [R.bind]
  rw [e1]
  rfl
/-- a comprehension that changes nothing, all items kept -/
theorem fLc_map {fi : FI} {i : Nat} {fe : FE} {vs : List Nat} {env : Env} {S : Sto} {t : Its} (g : Dv → Dv) (hi : fi env S = .ok S t) (hk : lockOk t S = true) (hl : t.1.length ≤ 100000)
    (h : ∀ d ∈ t.1, Got (fe ((wipeE env vs).set i (.v (.d d))) S) S (.d (g d))) : fLc fi (tgN i) kYes fe vs env S = .ok S (.new (.lst (t.1.map g))) := by
  have := fLc_pure (fi := fi) (tg := tgN i) (ft := kYes) (fe := fe) (vs := vs) (env := env) (p := fun _ => true) g hi hk hl fun d hd => ⟨_, rfl, rfl, fun _ => h d hd⟩
  rw [this, List.filter_eq_self.mpr fun _ _ => rfl]
/-! ### lists of texts -/
theorem strs_map : ∀ (ws : List Str), strs? (ws.map .str) = some ws
  | [] => rfl
  | w :: ws => by simp only [List.map, strs?, strs_map ws]
theorem ints_map : ∀ (ws : List Int), ints? (ws.map .int) = some ws
  | [] => rfl
  | w :: ws => by simp only [List.map, ints?, ints_map ws]
theorem bools_map : ∀ (ws : List Bool), bools? (ws.map .bl) = some ws
  | [] => rfl
  | w :: ws => by simp only [List.map, bools?, bools_map ws]
theorem of_strs {ys : List Dv} {P : Str → Prop} (h : ∀ y ∈ ys, ∃ s, y = .str s ∧ P s) : ∃ ss : List Str, ys = ss.map .str ∧ ∀ s ∈ ss, P s := by
  induction ys with
  | nil => exact ⟨[], rfl, fun _ h => nomatch h⟩
  | cons y ys ih =>
    obtain ⟨ss, rfl, h2⟩ := ih fun z hz => h z (List.mem_cons_of_mem _ hz)
    obtain ⟨s, rfl, h3⟩ := h y List.mem_cons_self
    exact ⟨s :: ss, rfl, fun z hz => by
      rcases List.mem_cons.mp hz with rfl | hz
      · exact h3
      · exact h2 z hz⟩
theorem of_signs {ys : List Dv} {P : Nat → Prop} (h : ∀ y ∈ ys, ∃ c, y = .str ⟨#[c]⟩ ∧ P c) : ∃ cs : List Nat, ys = (cs.map fun c => (⟨#[c]⟩ : Str)).map .str ∧ ∀ s ∈ cs, P s := by
  induction ys with
  | nil => exact ⟨[], rfl, fun _ h => nomatch h⟩
  | cons y ys ih =>
    obtain ⟨ss, rfl, h2⟩ := ih fun z hz => h z (List.mem_cons_of_mem _ hz)
    obtain ⟨s, rfl, h3⟩ := h y List.mem_cons_self
    exact ⟨s :: ss, rfl, fun z hz => by
      rcases List.mem_cons.mp hz with rfl | hz
      · exact h3
      · exact h2 z hz⟩
/-! ### equality -/
theorem okN_str {n : Nat} {s : Str} : okN n (.str s) = PyData.strOk s := by cases n <;> rfl
theorem okN_int {n : Nat} {s : Int} : okN n (.int s) = true := by cases n <;> rfl
theorem okN_lst {n : Nat} {l : List Dv} : okN (n + 1) (.lst l) = okNs n l := rfl
theorem okN_tup {n : Nat} {l : List Dv} : okN (n + 1) (.tup l) = okNs n l := rfl
theorem okNs_all {n : Nat} : ∀ {l : List Dv}, (∀ d ∈ l, okN n d = true) → okNs n l = true
  | [], _ => by cases n <;> rfl
  | d :: l, h => by
    have h1 := h d List.mem_cons_self
    have h2 := okNs_all (n := n) (l := l) fun x hx => h x (List.mem_cons_of_mem _ hx)
    show (okN n d && okNs n l) = true
    rw [h1, h2]; rfl
mutual
theorem eqD_refl : ∀ {n : Nat} {d : Dv}, okN n d = true → eqD d d = true
  | _, .non, _ => rfl
  | _, .bl _, _ => by simp [eqD]
  | _, .int _, _ => by simp [eqD]
  | _, .str _, _ => by simp [eqD]
  | n + 1, .lst l, h => by simp only [eqD]; exact eqDs_refl (n := n) h
  | n + 1, .tup l, h => by simp only [eqD]; exact eqDs_refl (n := n) h
  | 0, .lst l, h => by simp [okN] at h
  | 0, .tup l, h => by simp [okN] at h
  | n, .ty _, h => by cases n <;> simp [okN] at h
  | n, .cls _, h => by cases n <;> simp [okN] at h
  | n, .obj _ _, h => by cases n <;> simp [okN] at h
  | n, .dic _ _ _, h => by cases n <;> simp [okN] at h
  | n, .scr _, h => by cases n <;> simp [okN] at h
  | n, .ktp _, h => by cases n <;> simp [okN] at h
theorem eqDs_refl : ∀ {n : Nat} {l : List Dv}, okNs n l = true → eqDs l l = true
  | _, [], _ => rfl
  | n, d :: l, h => by
    have h' : okN n d = true ∧ okNs n l = true := by simpa [okNs] using h
    simp only [eqDs]
    rw [eqD_refl h'.1, eqDs_refl h'.2]; rfl
end
theorem eqDs_strs : ∀ {a b : List Str}, eqDs (a.map .str) (b.map .str) = decide (a = b)
  | [], [] => rfl
  | [], _ :: _ => by simp [eqDs]
  | _ :: _, [] => by simp [eqDs]
  | x :: a, y :: b => by
    simp only [List.map, eqDs, eqD, eqDs_strs (a := a) (b := b)]
    by_cases h : x = y <;> by_cases h2 : a = b <;> simp [h, h2]
theorem gEq_refl {d : Dv} (h : okN 60 d = true) : gEq d d = vB true := by
  unfold gEq
  rw [h, eqD_refl h]; rfl
theorem gNe_refl {d : Dv} (h : okN 60 d = true) : gNe d d = vB false := by
  unfold gNe
  rw [h, eqD_refl h]; rfl
theorem gEq_int {i j : Int} : gEq (.int i) (.int j) = vB (decide (i = j)) := by
  show onlyIf (okN 60 (.int i) && okN 60 (.int j)) (vB (i == j)) = _
  rw [okN_int, okN_int]
  by_cases h : i = j
  · simp [onlyIf, h]
  · simp [onlyIf, h, beq_false_of_ne h]
theorem gNe_int {i j : Int} : gNe (.int i) (.int j) = vB (!decide (i = j)) := by
  show onlyIf (okN 60 (.int i) && okN 60 (.int j)) (vB (!(i == j))) = _
  rw [okN_int, okN_int]
  by_cases h : i = j
  · simp [onlyIf, h]
  · simp [onlyIf, h, beq_false_of_ne h]
theorem gEq_str {i j : Str} (hi : PyData.strOk i = true) (hj : PyData.strOk j = true) : gEq (.str i) (.str j) = vB (decide (i = j)) := by
  show onlyIf (okN 60 (.str i) && okN 60 (.str j)) (vB (i == j)) = _
  rw [okN_str, okN_str, hi, hj]
  by_cases h : i = j
  · simp [onlyIf, h]
  · simp [onlyIf, h, beq_false_of_ne h]
theorem gNe_str {i j : Str} (hi : PyData.strOk i = true) (hj : PyData.strOk j = true) : gNe (.str i) (.str j) = vB (!decide (i = j)) := by
  show onlyIf (okN 60 (.str i) && okN 60 (.str j)) (vB (!(i == j))) = _
  rw [okN_str, okN_str, hi, hj]
  by_cases h : i = j
  · simp [onlyIf, h]
  · simp [onlyIf, h, beq_false_of_ne h]
/-! ### items -/
theorem atI_nat {β : Type} {l : List β} {i : Nat} {x : β} (h : l[i]? = some x) : atI l (i : Int) = some x := by
  have hl := (List.getElem?_eq_some_iff.mp h).1
  have : ixN l.length (i : Int) = some i := by
    unfold ixN
    rw [if_pos (by omega), if_pos (by omega)]
    simp
  unfold atI
  rw [this]
  exact h
theorem gIx_lst {l : List Dv} {i : Nat} {x : Dv} (h : l[i]? = some x) : gIx (.lst l) (.int i) = vD x := by
  show (match atI l (i : Int) with | some d => vD d | none => none) = _
  rw [atI_nat h]
theorem gIx_tup {l : List Dv} {i : Nat} {x : Dv} (h : l[i]? = some x) : gIx (.tup l) (.int i) = vD x := by
  show (match atI l (i : Int) with | some d => vD d | none => none) = _
  rw [atI_nat h]
theorem gIx_scr {l : List Int} {i : Nat} {x : Int} (h : l[i]? = some x) : gIx (.scr l) (.int i) = vI x := by
  show (match atI l (i : Int) with | some d => vI d | none => none) = _
  rw [atI_nat h]
theorem gIx_str {s : Str} {i : Nat} {c : Nat} (hl : s.length ≤ 100000) (h : s.cps.toList[i]? = some c) : gIx (.str s) (.int i) = vS ⟨#[c]⟩ := by
  show (if s.length ≤ 100000 then (match atI s.cps.toList (i : Int) with | some c => vS ⟨#[c]⟩ | none => none) else none) = _
  rw [if_pos hl, atI_nat h]
/-! ### lengths -/
theorem gLen_lst {l : List Dv} : gLen [.lst l] = vI l.length := rfl
theorem gLen_tup {l : List Dv} : gLen [.tup l] = vI l.length := rfl
theorem gLen_scr {l : List Int} : gLen [.scr l] = vI l.length := rfl
theorem gLen_str {s : Str} (h : s.length ≤ 100000) : gLen [.str s] = vI s.length := by
  show (if s.length ≤ 100000 then vI s.length else none) = _
  rw [if_pos h]
theorem gTuple_lst {l : List Dv} : gTuple [.lst l] = vT l := rfl
theorem gTuple_tup {l : List Dv} : gTuple [.tup l] = vT l := rfl
theorem gList_lst {l : List Dv} : gList [.lst l] = nL l := rfl
theorem gList_tup {l : List Dv} : gList [.tup l] = nL l := rfl
theorem gLe_ {i j : Int} : gLe (.int i) (.int j) = vB (decide (i ≤ j)) := rfl
theorem gLt_ {i j : Int} : gLt (.int i) (.int j) = vB (decide (i < j)) := rfl
theorem gGt_ {i j : Int} : gGt (.int i) (.int j) = vB (decide (i > j)) := rfl
theorem gGe_ {i j : Int} : gGe (.int i) (.int j) = vB (decide (i ≥ j)) := rfl
theorem gAdd_ {i j : Int} : gAdd (.int i) (.int j) = vI (i + j) := rfl
theorem gSub_ {i j : Int} : gSub (.int i) (.int j) = vI (i - j) := rfl
theorem gInt_ {i : Int} : gInt [.int i] = vI i := rfl
theorem gInt_b {b : Bool} : gInt [.bl b] = vI (if b then 1 else 0) := rfl
theorem gMax2_ {i j : Int} : gMax [.int i, .int j] = gMax2 (.int i) (.int j) := rfl
theorem gMin2_ {i j : Int} : gMin [.int i, .int j] = gMin2 (.int i) (.int j) := rfl
theorem gAll_true {β : Type} (l : List β) : gAll [.lst (l.map fun _ => Dv.bl true)] = vB true := by
  have e : (l.map fun _ => Dv.bl true) = (l.map fun _ => true).map .bl := by simp
  show gAll1 (.lst _) = _
  rw [e]
  simp only [gAll1, bools_map]
  congr 1
  simp
/-! ### ranges -/
theorem iRange1_ {fa : FA} {env : Env} {S : Sto} {n : Nat} (h : fa env S = .ok S [.d (.int n)]) (hn : n ≤ 1000000) : iRange1 fa env S = .ok S ((List.range n).map fun i : Nat => Dv.int i, none) := by
  unfold iRange1
  rw [h]
  show rng1 S (some (n : Int)) = _
  unfold rng1
  have : smallR (n : Int) = true := by unfold smallR; rw [decide_eq_true (by omega), decide_eq_true (by omega)]; rfl
  simp only [this, if_true]
  unfold rangeD
  congr 2
  simp
end DN

/-! DnT: plain facts for the pure part: boxes in a cell, comprehensions over lists, ranges, texts. -/
namespace DN
open PySem L2
abbrev box (a b c : Int) : Cell := .lst [.int a, .int b, .int c]
theorem ix_0 {x : Dv} {l : List Dv} : gIx (.lst (x :: l)) (.int 0) = vD x := gIx_lst (i := 0) rfl
theorem ix_1 {x y : Dv} {l : List Dv} : gIx (.lst (x :: y :: l)) (.int 1) = vD y := gIx_lst (i := 1) rfl
theorem ix_2 {x y z : Dv} {l : List Dv} : gIx (.lst (x :: y :: z :: l)) (.int 2) = vD z := gIx_lst (i := 2) rfl
theorem gMod_ {i j : Int} (h : 0 < j) : gMod (.int i) (.int j) = vI (i.fmod j) := by
  show onlyIf (decide (j ≠ 0)) _ = _
  rw [decide_eq_true (by omega)]; rfl
theorem gDiv_ {i j : Int} (h : 0 < j) (h2 : j < 1073741824) : gDiv (.int i) (.int j) = vI (i.fdiv j) := by
  show onlyIf (decide (j ≠ 0) && decide (j.natAbs < 1073741824)) _ = _
  rw [decide_eq_true (by omega), decide_eq_true (by omega)]; rfl
theorem gMul_ {i j : Int} (h : -(2 ^ 64) < i) (h2 : i < 2 ^ 64) : gMul (.int i) (.int j) = vI (i * j) := by
  show onlyIf (small64 i || small64 j) _ = _
  have : small64 i = true := by unfold small64; rw [decide_eq_true h, decide_eq_true h2]; rfl
  rw [this]; rfl
theorem gPow_ {i : Int} {j : Nat} (h : i.natAbs < 2 ^ 64) (h2 : j ≤ 1000000) : gPow (.int i) (.int j) = vI (i ^ j) := by
  show onlyIf (decide (0 ≤ (j : Int)) && decide ((j : Int) ≤ 1000000) && decide (i.natAbs < 2 ^ 64)) _ = _
  rw [decide_eq_true (by omega), decide_eq_true (by omega), decide_eq_true h]; rfl
theorem exit_d {k : Nat} {S : Sto} {d : Dv} : exitR k (.ok S (.val (.d d))) = .ok (S.take k) (.val (.d d)) := rfl
theorem exit_n {k : Nat} {S : Sto} {c : Cell} : exitR k (.ok S (.new c)) = .ok (S.take k) (.new c) := rfl
theorem set_ix {T : Sto} {n k : Nat} {l : List Dv} {v : Dv} {env : Env} (h : T[n]? = some (.lst l)) (hk : k < l.length) : setIx env T (.r n) (.d (.int k)) (.d v) = .nx env (T.set n (.lst (l.set k v))) := by
  have e : ixN l.length (k : Int) = some k := by
    unfold ixN
    rw [if_pos (by omega), if_pos (by omega)]
    simp
  show (match T[n]? with | some c => (match putC c (.int k) v with | some c2 => RS.nx env (T.set n c2) | none => .no) | none => .no) = _
  rw [h]
  show (match (match ixN l.length (k : Int) with | some j => some (Cell.lst (l.set j v)) | none => none) with | some c2 => RS.nx env (T.set n c2) | none => .no) = _
  rw [e]
theorem set_ix0 {T : Sto} {n : Nat} {x v : Dv} {l : List Dv} {env : Env} (h : T[n]? = some (.lst (x :: l))) : setIx env T (.r n) (.d (.int 0)) (.d v) = .nx env (T.set n (.lst (v :: l))) := set_ix (k := 0) h (by simp)
theorem set_ix1 {T : Sto} {n : Nat} {x y v : Dv} {l : List Dv} {env : Env} (h : T[n]? = some (.lst (x :: y :: l))) : setIx env T (.r n) (.d (.int 1)) (.d v) = .nx env (T.set n (.lst (x :: v :: l))) := set_ix (k := 1) h (by simp)
theorem set_ix2 {T : Sto} {n : Nat} {x y z v : Dv} {l : List Dv} {env : Env} (h : T[n]? = some (.lst (x :: y :: z :: l))) : setIx env T (.r n) (.d (.int 2)) (.d v) = .nx env (T.set n (.lst (x :: y :: v :: l))) := set_ix (k := 2) h (by simp)
theorem take_set {T : Sto} {n : Nat} {c : Cell} : (T.set n c).take T.length = T.set n c := List.take_of_length_le (by simp)
theorem take_len {T : Sto} : T.take T.length = T := List.take_length
theorem def_set {m n : Nat} {body : FS} {args : List Vr} {T : Sto} {k k' : Cell} {d : Dv} (h : outS (body (startE m args) (T.set n k)) = .ok (T.set n k') (.val (.d d))) : defD m body args (T.set n k) = .ok (T.set n k') (.val (.d d)) := by
  unfold defD
  rw [h, exit_d, List.length_set, take_set]
theorem def_setN {m n : Nat} {body : FS} {args : List Vr} {T : Sto} {k k' c : Cell} (h : outS (body (startE m args) (T.set n k)) = .ok (T.set n k') (.new c)) : defD m body args (T.set n k) = .ok (T.set n k') (.new c) := by
  unfold defD
  rw [h, exit_n, List.length_set, take_set]
theorem get_set {T : Sto} {n : Nat} {c d : Cell} (h : T[n]? = some d) : (T.set n c)[n]? = some c := List.getElem?_set_self (List.getElem?_eq_some_iff.mp h).1
/-- the box at cell n, after at most m turns of the small numbers -/
def BxC (B : Int) (m : Nat) (k : Cell) : Prop := ∃ a b c : Int, k = box a b c ∧ 0 ≤ b ∧ b < B ∧ 0 ≤ c ∧ c ≤ m
theorem BxC.le {B : Int} {n m : Nat} {k : Cell} (h : BxC B n k) (l : n ≤ m) : BxC B m k := by
  obtain ⟨a, b, c, rfl, h1, h2, h3, h4⟩ := h
  exact ⟨a, b, c, rfl, h1, h2, h3, by omega⟩
/-! ### comprehensions -/
section
variable {fa : FE} {fl : FA} {ft : FT} {fe : FE} {vs : List Nat} {env : Env} {S : Sto} {i n : Nat}
theorem fLc_it {d : Dv} {l : List Dv} (g : Dv → Dv) (h1 : fa env S = .ok S (.val (.d d))) (h2 : iterD d = some l) (hl : l.length ≤ 100000)
    (h : ∀ x ∈ l, Got (fe ((wipeE env vs).set i (.v (.d x))) S) S (.d (g x))) : fLc (iVal fa) (tgN i) kYes fe vs env S = .ok S (.new (.lst (l.map g))) := by
  refine fLc_map (t := (l, none)) g ?_ rfl hl h
  unfold iVal
  rw [h1]
  show itOf S (.d d) = _
  simp only [itOf, h2]
/-- over a list of texts -/
theorem fLc_strs {d : Dv} {ws : List Str} (g : Str → Dv) (h1 : fa env S = .ok S (.val (.d d))) (h2 : iterD d = some (ws.map .str)) (hl : ws.length ≤ 100000)
    (h : ∀ x ∈ ws, Got (fe ((wipeE env vs).set i (.v (.d (.str x)))) S) S (.d (g x))) : fLc (iVal fa) (tgN i) kYes fe vs env S = .ok S (.new (.lst (ws.map g))) := by
  have := fLc_it (fa := fa) (fe := fe) (vs := vs) (env := env) (S := S) (i := i) (fun d => match d with | .str s => g s | _ => .non) h1 h2 (by simpa using hl) (fun x hx => by
    obtain ⟨s, hs, rfl⟩ := List.mem_map.mp hx
    exact h s hs)
  rw [this, List.map_map]
  rfl
theorem range_1 (h : fl env S = .ok S [.d (.int n)]) (hn : n ≤ 100000) : iRange1 fl env S = .ok S ((List.range n).map fun i : Nat => Dv.int i, none) := iRange1_ h (by omega)
theorem range_2 {a b : Nat} (h : fl env S = .ok S [.d (.int a), .d (.int b)]) (ha : a ≤ 100000) (hb : b ≤ 100000) : iRange2 fl env S = .ok S ((List.range (b - a)).map fun i : Nat => Dv.int ((a + i : Nat) : Int), none) := by
  unfold iRange2
  rw [h]
  show rng2 S (some ((a : Int), (b : Int))) = _
  have h1 : smallR (a : Int) = true := by unfold smallR; rw [decide_eq_true (by omega), decide_eq_true (by omega)]; rfl
  have h2 : smallR (b : Int) = true := by unfold smallR; rw [decide_eq_true (by omega), decide_eq_true (by omega)]; rfl
  show (if smallR (a : Int) && smallR (b : Int) then R.ok S (rangeD (a : Int) (b : Int), none) else .no) = _
  rw [h1, h2]
  show R.ok S (rangeD (a : Int) (b : Int), none) = _
  unfold rangeD
  rw [show ((b : Int) - (a : Int)).toNat = b - a by omega]
  congr 2
theorem fLc_rg (g : Nat → Dv) (h1 : fl env S = .ok S [.d (.int n)]) (hn : n ≤ 100000)
    (h : ∀ k, k < n → Got (fe ((wipeE env vs).set i (.v (.d (.int k)))) S) S (.d (g k))) : fLc (iRange1 fl) (tgN i) kYes fe vs env S = .ok S (.new (.lst ((List.range n).map g))) := by
  have := fLc_map (fi := iRange1 fl) (fe := fe) (vs := vs) (env := env) (S := S) (i := i) (fun d => match d with | .int s => g s.toNat | _ => .non) (range_1 h1 hn) rfl (by simpa using hn) (fun x hx => by
    obtain ⟨s, hs, rfl⟩ := List.mem_map.mp hx
    exact h s (List.mem_range.mp hs))
  rw [this, List.map_map]
  rfl
theorem fLc_rgF (p : Nat → Bool) (g : Nat → Dv) (h1 : fl env S = .ok S [.d (.int n)]) (hn : n ≤ 100000)
    (h0 : ∀ k, k < n → ft ((wipeE env vs).set i (.v (.d (.int k)))) S = .ok S (p k))
    (h : ∀ k, k < n → p k = true → Got (fe ((wipeE env vs).set i (.v (.d (.int k)))) S) S (.d (g k))) : fLc (iRange1 fl) (tgN i) ft fe vs env S = .ok S (.new (.lst (((List.range n).filter p).map g))) := by
  have := fLc_pure (fi := iRange1 fl) (tg := tgN i) (ft := ft) (fe := fe) (vs := vs) (env := env) (S := S) (fun d => match d with | .int s => p s.toNat | _ => false) (fun d => match d with | .int s => g s.toNat | _ => .non) (range_1 h1 hn) rfl (by simpa using hn) (fun x hx => by
    obtain ⟨s, hs, rfl⟩ := List.mem_map.mp hx
    exact ⟨_, rfl, h0 s (List.mem_range.mp hs), h s (List.mem_range.mp hs)⟩)
  rw [this, List.filter_map, List.map_map]
  rfl
theorem fLc_rg2 {a b : Nat} (g : Nat → Dv) (h1 : fl env S = .ok S [.d (.int a), .d (.int b)]) (ha : a ≤ 100000) (hb : b ≤ 100000)
    (h : ∀ k, a ≤ k → k < b → Got (fe ((wipeE env vs).set i (.v (.d (.int k)))) S) S (.d (g k))) : fLc (iRange2 fl) (tgN i) kYes fe vs env S = .ok S (.new (.lst ((List.range (b - a)).map fun j => g (a + j)))) := by
  have := fLc_map (fi := iRange2 fl) (fe := fe) (vs := vs) (env := env) (S := S) (i := i) (fun d => match d with | .int s => g s.toNat | _ => .non) (range_2 h1 ha hb) rfl (by simp; omega) (fun x hx => by
    obtain ⟨s, hs, rfl⟩ := List.mem_map.mp hx
    have := List.mem_range.mp hs
    exact h (a + s) (by omega) (by omega))
  rw [this, List.map_map]
  rfl
end
/-! ### comprehensions that change cells, with places -/
theorem lc_ix {t : Its} {tg : FG} {ft : FT} {fe : FE} {env : Env} (I : Nat → Sto → Prop) (P : Nat → Dv → Prop) (ht : t.2 = none) : ∀ {l acc : List Dv} {i : Nat} {S : Sto}, I i S →
    (∀ k d S, l[k]? = some d → I (i + k) S → ∃ env' S' y, tg d env = some env' ∧ ft env' S = .ok S true ∧ Got (fe env' S) S' (.d y) ∧ I (i + k + 1) S' ∧ P (i + k) y) → acc.length + l.length ≤ 100000 →
    ∃ S' ys, lcGo t tg ft fe env l S acc = .ok S' (acc ++ ys) ∧ I (i + l.length) S' ∧ ys.length = l.length ∧ ∀ k y, ys[k]? = some y → P (i + k) y
  | [], acc, i, S, hI, h, hl => ⟨S, [], by
      have : lockOk t S = true := by unfold lockOk; rw [ht]
      simp [lcGo, this], hI, rfl, fun k y h => by simp at h⟩
  | d :: l, acc, i, S, hI, h, hl => by
    have hk : lockOk t S = true := by unfold lockOk; rw [ht]
    obtain ⟨env', S1, y, h1, h2, h3, h4, h5⟩ := h 0 d S rfl hI
    have hl' : acc.length + l.length + 1 ≤ 100000 := by simpa [Nat.add_assoc] using hl
    obtain ⟨S2, ys, e1, e2, e3, e4⟩ := lc_ix I P ht (l := l) (acc := acc ++ [y]) (i := i + 1) (S := S1) h4 (fun k x S hx hi => by
      have := h (k + 1) x S (by simpa using hx) (by rw [show i + (k + 1) = i + 1 + k by omega]; exact hi)
      rw [show i + (k + 1) + 1 = i + 1 + k + 1 by omega, show i + (k + 1) = i + 1 + k by omega] at this
      exact this) (by simp; omega)
    refine ⟨S2, y :: ys, ?_, by rw [List.length_cons, show i + (l.length + 1) = i + 1 + l.length by omega]; exact e2, by rw [List.length_cons, List.length_cons, e3], fun k z hz => ?_⟩
    · simp only [lcGo, hk, if_true, h1, h2, noex_ok, R.bind]
      have e : (fe env' S).noex.bindV (fun S2 v => onD v fun y => if acc.length < 100000 then lcGo t tg ft fe env l S2 (acc ++ [y]) else .no) = lcGo t tg ft fe env l S1 (acc ++ [y]) := by
        generalize fe env' S = r at h3
        cases h3 with
        | val =>
          simp only [noex_ok, R.bindV, onD]
          rw [if_pos (by omega)]
        | new S c d' hc => rw [noex_ok, bindV_new hc]; simp only [onD]; rw [if_pos (by omega)]
      rw [e, e1]
      simp
    · cases k with
      | zero => simp at hz; subst hz; exact h5
      | succ k =>
        have := e4 k z (by simpa using hz)
        rw [show i + (k + 1) = i + 1 + k by omega]
        exact this
/-- a comprehension over a range that draws -/
theorem fLc_draw {fl : FA} {fe : FE} {vs : List Nat} {env : Env} {S : Sto} {i n : Nat} (I : Nat → Sto → Prop) (P : Nat → Dv → Prop) (h1 : fl env S = .ok S [.d (.int n)]) (hn : n ≤ 100000) (hI : I 0 S)
    (h : ∀ k S, k < n → I k S → ∃ S' y, Got (fe ((wipeE env vs).set i (.v (.d (.int k)))) S) S' (.d y) ∧ I (k + 1) S' ∧ P k y) :
    ∃ S' ys, fLc (iRange1 fl) (tgN i) kYes fe vs env S = .ok S' (.new (.lst ys)) ∧ I n S' ∧ ys.length = n ∧ ∀ k y, ys[k]? = some y → P k y := by
  obtain ⟨S', ys, e1, e2, e3, e4⟩ := lc_ix (t := ((List.range n).map fun i : Nat => Dv.int i, none)) (tg := tgN i) (ft := kYes) (fe := fe) (env := wipeE env vs) I P rfl (l := (List.range n).map fun i : Nat => Dv.int i) (acc := []) (i := 0) hI (fun k d T hd hi => by
    rw [List.getElem?_map] at hd
    cases q : (List.range n)[k]? with
    | none => rw [q] at hd; cases hd
    | some x =>
      rw [q] at hd
      have hx := List.getElem?_eq_some_iff.mp q
      have : x = k := by rw [← hx.2]; simp
      subst this
      cases hd
      have hxn : x < n := by simpa using hx.1
      rw [Nat.zero_add] at hi ⊢
      obtain ⟨S', y, h2, h3, h4⟩ := h x T hxn hi
      exact ⟨_, S', y, rfl, rfl, h2, h3, h4⟩) (by simpa using hn)
  refine ⟨S', ys, ?_, by simpa using e2, by simpa using e3, fun k y hy => by simpa using e4 k y hy⟩
  unfold fLc
  rw [range_1 h1 hn]
  simp only [R.bind]
  rw [e1]
  rfl
theorem all_of_ix {ys : List Dv} {P : Dv → Prop} (h : ∀ (k : Nat) y, ys[k]? = some y → P y) : ∀ y ∈ ys, P y := fun y hy => by
  obtain ⟨k, hk, rfl⟩ := List.mem_iff_getElem.mp hy
  exact h k _ (List.getElem?_eq_getElem hk)
/-! ### loops -/
/-- a loop over items that do not change, by an invariant; it runs to its end -/
theorem for_inv {t : Its} {tg : FG} {body : FS} (ht : t.2 = none) : ∀ {l : List Dv} {env : Env} {S : Sto} (I : Nat → Env → Sto → Prop) (j : Nat), I j env S →
    (∀ k d env S, l[k]? = some d → I (j + k) env S → ∃ env1 env' S', tg d env = some env1 ∧ body env1 S = .nx env' S' ∧ I (j + k + 1) env' S') → ∃ env' S', forGo t tg body l env S = .nx env' S' ∧ I (j + l.length) env' S'
  | [], env, S, I, j, hI, _ => ⟨env, S, by
      have : lockOk t S = true := by unfold lockOk; rw [ht]
      simp [forGo, this], hI⟩
  | d :: l, env, S, I, j, hI, h => by
    have hk : lockOk t S = true := by unfold lockOk; rw [ht]
    obtain ⟨env1, env', S', h1, h2, h3⟩ := h 0 d env S rfl hI
    obtain ⟨e2, S2, h4, h5⟩ := for_inv ht (l := l) I (j + 1) h3 (fun k d' e S hd hi => by
      have := h (k + 1) d' e S (by simpa using hd) (by rw [show j + (k + 1) = j + 1 + k by omega]; exact hi)
      rw [show j + (k + 1) + 1 = j + 1 + k + 1 by omega] at this
      exact this)
    refine ⟨e2, S2, ?_, by rw [List.length_cons, show j + (l.length + 1) = j + 1 + l.length by omega]; exact h5⟩
    simp only [forGo, hk, if_true, h1, h2, h4]
/-- over a range -/
theorem for_rg {fl : FA} {body : FS} {env : Env} {S : Sto} {i n : Nat} (I : Nat → Env → Sto → Prop) (h1 : fl env S = .ok S [.d (.int n)]) (hn : n ≤ 100000) (h0 : I 0 env S)
    (h : ∀ k env S, k < n → I k env S → ∃ env' S', body (env.set i (.v (.d (.int k)))) S = .nx env' S' ∧ I (k + 1) env' S') : ∃ env' S', kFor (iRange1 fl) (tgN i) body env S = .nx env' S' ∧ I n env' S' := by
  obtain ⟨e, S', h2, h3⟩ := for_inv (t := ((List.range n).map fun i : Nat => Dv.int i, none)) (tg := tgN i) (body := body) rfl (l := (List.range n).map fun i : Nat => Dv.int i) (env := env) (S := S) I 0 h0 (fun k d e T hd hi => by
    rw [List.getElem?_map] at hd
    cases q : (List.range n)[k]? with
    | none => rw [q] at hd; cases hd
    | some x =>
      rw [q] at hd
      have hx := List.getElem?_eq_some_iff.mp q
      have : x = k := by rw [← hx.2]; simp
      subst this
      cases hd
      have hxn : x < n := by simpa using hx.1
      rw [Nat.zero_add] at hi ⊢
      obtain ⟨e', T', h4, h5⟩ := h x e T hxn hi
      exact ⟨_, e', T', rfl, h4, h5⟩)
  refine ⟨e, S', ?_, by simpa using h3⟩
  unfold kFor
  rw [range_1 h1 hn]
  exact h2
/-- a loop, then the rest -/
theorem for_then {fl : FA} {body rest : FS} {env : Env} {S : Sto} {i n : Nat} (F : RS → Prop) (I : Nat → Env → Sto → Prop) (h1 : fl env S = .ok S [.d (.int n)]) (hn : n ≤ 100000) (h0 : I 0 env S)
    (h : ∀ k env S, k < n → I k env S → ∃ env' S', body (env.set i (.v (.d (.int k)))) S = .nx env' S' ∧ I (k + 1) env' S') (hr : ∀ env' S', I n env' S' → F (rest env' S')) : F (seqR (kFor (iRange1 fl) (tgN i) body env S) rest) := by
  obtain ⟨e, S', h2, h3⟩ := for_rg I h1 hn h0 h
  rw [h2]
  exact hr e S' h3
theorem for_last {fl : FA} {body : FS} {env : Env} {S : Sto} {i n : Nat} (F : RS → Prop) (I : Nat → Env → Sto → Prop) (h1 : fl env S = .ok S [.d (.int n)]) (hn : n ≤ 100000) (h0 : I 0 env S)
    (h : ∀ k env S, k < n → I k env S → ∃ env' S', body (env.set i (.v (.d (.int k)))) S = .nx env' S' ∧ I (k + 1) env' S') (hr : ∀ env' S', I n env' S' → F (.nx env' S')) : F (kFor (iRange1 fl) (tgN i) body env S) := by
  obtain ⟨e, S', h2, h3⟩ := for_rg I h1 hn h0 h
  rw [h2]
  exact hr e S' h3
theorem get_last {S : Sto} {c : Cell} : (S ++ [c])[List.length S]? = some c := by simp
theorem set_last {S : Sto} {c d : Cell} : (S ++ [c]).set (List.length S) d = S ++ [d] := by
  rw [List.set_append_right _ _ (Nat.le_refl _), Nat.sub_self]
  rfl
theorem set_mid {S : Sto} {b c d : Cell} : ((S ++ [c]) ++ [b]).set (List.length S) d = (S ++ [d]) ++ [b] := by
  rw [List.set_append_left _ _ (by simp), set_last]
theorem castS {k : Nat} : (k : Int) + 1 = ((k + 1 : Nat) : Int) := rfl
/-! ### sequences in a cell or as a value -/
/-- a is a list or a tuple of the items ds, in the state S -/
structure Sq (S : Sto) (a : Vr) (ds : List Dv) : Prop where
  it : ∃ t, itOf S a = .ok S t ∧ t.1 = ds ∧ lockOk t S = true
  sn : ∃ d, snap S a = some d ∧ (∀ cs, gIsi cs d (.tup [.ty "list", .ty "tuple"]) = vB true) ∧ gLen [d] = vI ds.length ∧ gTuple [d] = vT ds ∧ gList [d] = nL ds ∧ ∀ i : Nat, ∀ x, ds[i]? = some x → gIx d (.int i) = vD x
  cl : clsV S a = none
theorem Sq.lst {S : Sto} {ds : List Dv} : Sq S (.d (.lst ds)) ds := ⟨⟨(ds, none), rfl, rfl, rfl⟩, ⟨.lst ds, rfl, fun _ => rfl, rfl, rfl, rfl, fun i x h => gIx_lst h⟩, rfl⟩
theorem Sq.tup {S : Sto} {ds : List Dv} : Sq S (.d (.tup ds)) ds := ⟨⟨(ds, none), rfl, rfl, rfl⟩, ⟨.tup ds, rfl, fun _ => rfl, rfl, rfl, rfl, fun i x h => gIx_tup h⟩, rfl⟩
theorem Sq.cell {S : Sto} {n : Nat} {ds : List Dv} (h : S[n]? = some (.lst ds)) : Sq S (.r n) ds := by
  refine ⟨⟨(ds, some n), ?_, rfl, ?_⟩, ⟨.lst ds, ?_, fun _ => rfl, rfl, rfl, rfl, fun i x h => gIx_lst h⟩, ?_⟩
  · simp [itOf, h]
  · simp [lockOk, h, beqDs_refl]
  · simp [snap, h]
  · simp [clsV, h]
theorem fLc_sq {fa : FE} {fe : FE} {vs : List Nat} {env : Env} {S : Sto} {i : Nat} {a : Vr} {ds : List Dv} (g : Dv → Dv) (h1 : fa env S = .ok S (.val a)) (h2 : Sq S a ds) (hl : ds.length ≤ 100000)
    (h : ∀ x ∈ ds, Got (fe ((wipeE env vs).set i (.v (.d x))) S) S (.d (g x))) : fLc (iVal fa) (tgN i) kYes fe vs env S = .ok S (.new (.lst (ds.map g))) := by
  obtain ⟨t, h3, rfl, h4⟩ := h2.it
  refine fLc_map (t := t) g ?_ h4 hl h
  unfold iVal
  rw [h1]
  exact h3
/-! ### slices -/
theorem cutL_to {β : Type} {l : List β} {k : Nat} (h : k ≤ l.length) : cutL l none (some (k : Int)) = l.take k := by
  unfold cutL
  rw [HT.sIx_nat, HT.sIx_none, Nat.min_eq_left h]
  simp
theorem cutL_from {β : Type} {l : List β} {k : Nat} (h : k ≤ l.length) : cutL l (some (k : Int)) none = l.drop k := by
  unfold cutL
  rw [HT.sIx_nat, HT.sIx_none, Nat.min_eq_left h]
  rw [List.take_of_length_le (by simp)]
theorem cutL_last {β : Type} {l : List β} : cutL l none (some (-1)) = l.dropLast := by
  have e : HT.sIx l.length l.length (some (-1)) = l.length - 1 := by
    show (if (-1 : Int) < 0 then ((-1 : Int) + (l.length : Int)).toNat else min (-1 : Int).toNat l.length) = _
    rw [if_pos (by omega)]
    omega
  unfold cutL
  rw [e, HT.sIx_none, List.dropLast_eq_take]
  simp
theorem tl_cps (s : Str) : (⟨s.cps.toList.toArray⟩ : Str) = s := by cases s; simp
theorem cutS_to {s : Str} {k : Nat} (h : k ≤ s.length) : cutS s none (some (k : Int)) = ⟨(s.cps.toList.take k).toArray⟩ := by
  unfold cutS
  rw [HT.sIx_nat, HT.sIx_none, Nat.min_eq_left h]
  simp
theorem cutS_from {s : Str} {k : Nat} (h : k ≤ s.length) : cutS s (some (k : Int)) none = ⟨(s.cps.toList.drop k).toArray⟩ := by
  unfold cutS
  rw [HT.sIx_nat, HT.sIx_none, Nat.min_eq_left h]
  rw [List.take_of_length_le (by simp [Str.length])]
theorem app_tl (a b : Str) : (a ++ b).cps.toList = a.cps.toList ++ b.cps.toList := by
  show (a.cps ++ b.cps).toList = _
  simp
theorem str_ext {a b : Str} (h : a.cps.toList = b.cps.toList) : a = b := by
  cases a; cases b
  congr
  exact Array.toList_inj.mp h
theorem str_len (a : Str) : a.length = a.cps.toList.length := rfl
theorem gAdd_str {a b : Str} (h : a.length + b.length ≤ 100000) : gAdd (.str a) (.str b) = vS (a ++ b) := by
  show onlyIf (decide (a.length + b.length ≤ 100000)) _ = _
  rw [decide_eq_true h]; rfl
theorem gAdd_lst {a b : List Dv} (h : a.length + b.length ≤ 100000) : gAdd (.lst a) (.lst b) = nL (a ++ b) := by
  show onlyIf (decide (a.length + b.length ≤ 100000)) _ = _
  rw [decide_eq_true h]; rfl
/-! ### truth of all -/
theorem gAll_map {β : Type} {l : List β} {f : β → Dv} (h : ∀ x ∈ l, f x = .bl true) : gAll [.lst (l.map f)] = vB true := by
  rw [show l.map f = l.map fun _ => Dv.bl true from List.map_congr_left h]
  exact gAll_true l
end DN

namespace Q12
open DN
abbrev B_Addresses_len : FS :=
  (kRet (fCall gLen (fCons (fUn (gFld ["Addresses"] "kept") (fVar 0)) fNil)))
def D_Addresses_len : FD := defD 1 B_Addresses_len
abbrev B_is_word : FS :=
  (kRet (fAnd (fCall (arg2 (gIsi ["Addresses"])) (fCons (fVar 0) (fCons (fC (.ty "str")) fNil))) (fAnd (fOp gLe (fLenD [("Addresses", 1, D_Addresses_len)] (fCons (fVar 0) fNil)) (fC (.int 60))) (fCall gAll (fCons (fLc (iVal (fVar 0)) (tgN 1) kYes (fOp gIn (fVar 1) (fC (.str "01*"))) [1]) fNil)))))
def D_is_word : FD := defD 2 B_is_word
abbrev B_is_integer : FS :=
  (kRet (fAnd (fCall (arg2 (gIsi ["Addresses"])) (fCons (fVar 0) (fCons (fC (.ty "int")) fNil))) (fNot (fCall (arg2 (gIsi ["Addresses"])) (fCons (fVar 0) (fCons (fC (.ty "bool")) fNil))))))
def D_is_integer : FD := defD 1 B_is_integer
abbrev B_Addresses_check_house : FS :=
  (kIf (kOr (kNot (kVal (fCallD 1 D_is_integer (fCons (fVar 1) fNil)))) (kNot (kVal (fChain gLe gLt (fC (.int 0)) (fVar 1) (fCall gLen (fCons (fUn (gFld ["Addresses"] "kept") (fVar 0)) fNil)))))) kNo kNext)
def D_Addresses_check_house : FD := defD 2 B_Addresses_check_house
abbrev B_Addresses_getitem : FS :=
  (kSeq (kExpr (fMethD [("Addresses", 2, D_Addresses_check_house)] (fVar 0) (fCons (fVar 1) fNil)))
    (kRet (fOp gIx (fUn (gFld ["Addresses"] "kept") (fVar 0)) (fVar 1))))
def D_Addresses_getitem : FD := defD 2 B_Addresses_getitem
abbrev B_are_words : FS :=
  (kSeq (kIf (kOr (kNot (kVal (fCall (arg2 (gIsi ["Addresses"])) (fCons (fVar 0) (fCons (fTup (fCons (fC (.ty "list")) (fCons (fC (.ty "tuple")) fNil))) fNil))))) (kNot (kVal (fChain gLe gLe (fC (.int 1)) (fLenD [("Addresses", 1, D_Addresses_len)] (fCons (fVar 0) fNil)) (fC (.int 40)))))) (kRet (fC (.bl false))) kNext)
    (kRet (fAnd (fCall gAll (fCons (fLc (iVal (fVar 0)) (tgN 1) kYes (fCallD 1 D_is_word (fCons (fVar 1) fNil)) [1]) fNil)) (fCall gAll (fCons (fLc (iVal (fVar 0)) (tgN 1) kYes (fOp gEq (fLenD [("Addresses", 1, D_Addresses_len)] (fCons (fVar 1) fNil)) (fLenD [("Addresses", 1, D_Addresses_len)] (fCons (fIxD [("Addresses", 2, D_Addresses_getitem)] (fVar 0) (fC (.int 0))) fNil))) [1]) fNil)))))
def D_are_words : FD := defD 2 B_are_words
abbrev B_Addresses_init : FS :=
  (kSeq (kIf (kNot (kVal (fCallD 1 D_are_words (fCons (fVar 1) fNil)))) kNo kNext)
    (kFld ["Addresses"] "kept" (fVar 0) (fCall gTuple (fCons (fVar 1) fNil))))
def D_Addresses_init : FD := defD 2 B_Addresses_init
abbrev B_law_box : FS :=
  (kRet (fLst (fCons (fCall gMax (fCons (fC (.int 0)) (fCons (fOp gSub (fVar 0) (fOp gPow (fC (.int 10)) (fC (.int 18)))) fNil))) (fCons (fOp gMod (fCall gInt (fCons (fVar 0) fNil)) (fC (.int 2147483629))) (fCons (fC (.int 0)) fNil)))))
def D_law_box : FD := defD 1 B_law_box
abbrev B_law_take : FS :=
  (kSeq (kIf (kVal (fOp gGt (fIxD [("Addresses", 2, D_Addresses_getitem)] (fVar 0) (fC (.int 0))) (fC (.int 0)))) (kSeq (kSet 2 (fOp gMod (fCall gInt (fCons (fIxD [("Addresses", 2, D_Addresses_getitem)] (fVar 0) (fC (.int 0))) fNil)) (fVar 1)))
    (kSeq (kSub (fVar 0) (fC (.int 0)) (fOp gDiv (fIxD [("Addresses", 2, D_Addresses_getitem)] (fVar 0) (fC (.int 0))) (fVar 1)))
    (kRet (fVar 2)))) kNext)
    (kSeq (kSub (fVar 0) (fC (.int 2)) (fOp gAdd (fIxD [("Addresses", 2, D_Addresses_getitem)] (fVar 0) (fC (.int 2))) (fC (.int 1))))
    (kSeq (kSet 3 (fOp gMod (fOp gPow (fCall gInt (fCons (fOp gAdd (fOp gAdd (fIxD [("Addresses", 2, D_Addresses_getitem)] (fVar 0) (fC (.int 1))) (fOp gMul (fC (.int 7727)) (fIxD [("Addresses", 2, D_Addresses_getitem)] (fVar 0) (fC (.int 2))))) (fC (.int 173))) fNil)) (fC (.int 5))) (fC (.int 2147483647))))
    (kSeq (kSet 3 (fOp gMod (fOp gPow (fCall gInt (fCons (fOp gAdd (fVar 3) (fOp gMul (fC (.int 86243)) (fIxD [("Addresses", 2, D_Addresses_getitem)] (fVar 0) (fC (.int 2))))) fNil)) (fC (.int 3))) (fC (.int 2147483587))))
    (kRet (fOp gMod (fCall gInt (fCons (fOp gDiv (fVar 3) (fC (.int 32))) fNil)) (fVar 1)))))))
def D_law_take : FD := defD 4 B_law_take
abbrev B_Addresses_eq : FS :=
  (kRet (fAnd (fCall (arg2 (gIsi ["Addresses"])) (fCons (fVar 1) (fCons (fC (.cls "Addresses")) fNil))) (fOp gEq (fUn (gFld ["Addresses"] "kept") (fVar 0)) (fUn (gFld ["Addresses"] "kept") (fVar 1)))))
def D_Addresses_eq : FD := defD 2 B_Addresses_eq
abbrev B_law_signs : FS :=
  (kSeq (kSet 2 (fCallD 2 D_law_take (fCons (fVar 0) (fCons (fC (.int 3)) fNil))))
    (kRet (fMeth "str" gJoin (fC (.str "")) (fCons (fLc (iRange1 (fCons (fVar 1) fNil)) (tgN 3) kYes (fOp gIx (fC (.str "01**01001*")) (fCallD 2 D_law_take (fCons (fVar 0) (fCons (fOp gIx (fLst (fCons (fC (.int 4)) (fCons (fC (.int 2)) (fCons (fC (.int 10)) fNil)))) (fVar 2)) fNil)))) [3]) fNil))))
def D_law_signs : FD := defD 4 B_law_signs
abbrev B_law_words : FS :=
  (kSeq (kAsg (tgT (tgCons (tgN 1) (tgCons (tgN 2) tgNil))) (fTup (fCons (fCallD 2 D_law_take (fCons (fVar 0) (fCons (fC (.int 13)) fNil))) (fCons (fOp gAdd (fC (.int 1)) (fCallD 2 D_law_take (fCons (fVar 0) (fCons (fOp gIx (fLst (fCons (fC (.int 10)) (fCons (fC (.int 40)) fNil))) (fCall gInt (fCons (fEqD ["Addresses"] [("Addresses", 2, D_Addresses_eq)] false (fCallD 2 D_law_take (fCons (fVar 0) (fCons (fC (.int 8)) fNil))) (fC (.int 0))) fNil))) fNil)))) fNil))))
    (kSeq (kIf (kVal (fEqD ["Addresses"] [("Addresses", 2, D_Addresses_eq)] false (fCallD 2 D_law_take (fCons (fVar 0) (fCons (fC (.int 12)) fNil))) (fC (.int 0)))) (kSet 1 (fOp gAdd (fC (.int 48)) (fCallD 2 D_law_take (fCons (fVar 0) (fCons (fC (.int 12)) fNil))))) kNext)
    (kRet (fLc (iRange1 (fCons (fVar 2) fNil)) (tgN 3) kYes (fCallD 2 D_law_signs (fCons (fVar 0) (fCons (fVar 1) fNil))) [3]))))
def D_law_words : FD := defD 4 B_law_words
abbrev B_law_other_words : FS :=
  (kSeq (kSet 2 (fCallD 2 D_law_take (fCons (fVar 0) (fCons (fLenD [("Addresses", 1, D_Addresses_len)] (fCons (fVar 1) fNil)) fNil))))
    (kSeq (kPar 3 4 (fCons (fIxD [("Addresses", 2, D_Addresses_getitem)] (fVar 1) (fVar 2)) (fCons (fCallD 2 D_law_take (fCons (fVar 0) (fCons (fC (.int 3)) fNil))) fNil)))
    (kSeq (kIf (kAnd (kVal (fEqD ["Addresses"] [("Addresses", 2, D_Addresses_eq)] false (fVar 4) (fC (.int 0)))) (kVal (fEqD ["Addresses"] [("Addresses", 2, D_Addresses_eq)] true (fVar 3) (fC (.str ""))))) (kSeq (kSet 5 (fCallD 2 D_law_take (fCons (fVar 0) (fCons (fLenD [("Addresses", 1, D_Addresses_len)] (fCons (fVar 3) fNil)) fNil))))
    (kSeq (kSet 6 (fOp gIx (fDisp [.str "0", .str "1", .str "*"] [.str "1", .str "*", .str "0"]) (fIxD [("Addresses", 2, D_Addresses_getitem)] (fVar 3) (fVar 5))))
    (kSeq (kSet 7 (fOp gAdd (fOp gAdd (fSl (fVar 3) fNoPart (fPart (fVar 5))) (fVar 6)) (fSl (fVar 3) (fPart (fOp gAdd (fVar 5) (fC (.int 1)))) fNoPart)))
    (kRet (fOp gAdd (fOp gAdd (fSl (fVar 1) fNoPart (fPart (fVar 2))) (fLst (fCons (fVar 7) fNil))) (fSl (fVar 1) (fPart (fOp gAdd (fVar 2) (fC (.int 1)))) fNoPart)))))) kNext)
    (kSeq (kIf (kAnd (kVal (fEqD ["Addresses"] [("Addresses", 2, D_Addresses_eq)] false (fVar 4) (fC (.int 1)))) (kVal (fOp gGt (fLenD [("Addresses", 1, D_Addresses_len)] (fCons (fVar 1) fNil)) (fC (.int 1))))) (kRet (fSl (fVar 1) fNoPart (fPart (fUn gNeg (fC (.int 1)))))) kNext)
    (kRet (fLc (iVal (fVar 1)) (tgN 8) kYes (fOp gAdd (fVar 8) (fC (.str "1"))) [8]))))))
def D_law_other_words : FD := defD 9 B_law_other_words
abbrev B_law_cell_at : FS :=
  (kSeq (kIf (kVal (fOp gLt (fVar 1) (fLenD [("Addresses", 1, D_Addresses_len)] (fCons (fVar 0) fNil)))) (kRet (fIxD [("Addresses", 2, D_Addresses_getitem)] (fVar 0) (fVar 1))) kNext)
    (kRet (fOp gAdd (fOp gMul (fC (.int 15485863)) (fVar 1)) (fC (.int 7919)))))
def D_law_cell_at : FD := defD 2 B_law_cell_at
abbrev B_Addresses_str : FS :=
  (kRet (fMeth "str" gJoin (fC (.str " ")) (fCons (fUn (gFld ["Addresses"] "kept") (fVar 0)) fNil)))
def D_Addresses_str : FD := defD 1 B_Addresses_str
abbrev B_Addresses_read : FS :=
  (kSeq (kIf (kOr (kNot (kVal (fCall (arg2 (gIsi ["Addresses"])) (fCons (fVar 1) (fCons (fC (.ty "str")) fNil))))) (kNot (kVal (fCallD 1 D_are_words (fCons (fMeth "str" gSplit (fVar 1) (fCons (fC (.str " ")) fNil)) fNil))))) kNo kNext)
    (kRet (fMakeL 0 "Addresses" 2 D_Addresses_init (fCons (fMeth "str" gSplit (fVar 1) (fCons (fC (.str " ")) fNil)) fNil))))
def D_Addresses_read : FD := defD 2 B_Addresses_read
abbrev B_law_apart : FS :=
  (kRet (fCall gLen (fCons (fLc (iRange1 (fCons (fLenD [("Addresses", 1, D_Addresses_len)] (fCons (fVar 0) fNil)) fNil)) (tgN 2) (kVal (fOp gIn (fLst (fCons (fIxD [("Addresses", 2, D_Addresses_getitem)] (fVar 0) (fVar 2)) (fCons (fIxD [("Addresses", 2, D_Addresses_getitem)] (fVar 1) (fVar 2)) fNil))) (fLst (fCons (fLst (fCons (fC (.str "0")) (fCons (fC (.str "1")) fNil))) (fCons (fLst (fCons (fC (.str "1")) (fCons (fC (.str "0")) fNil))) fNil))))) (fVar 2) [2]) fNil)))
def D_law_apart : FD := defD 3 B_law_apart
abbrev B_Addresses_words : FS :=
  (kRet (fUn (gFld ["Addresses"] "kept") (fVar 0)))
def D_Addresses_words : FD := defD 1 B_Addresses_words
abbrev B_Addresses_length : FS :=
  (kRet (fCall gLen (fCons (fOp gIx (fUn (gFld ["Addresses"] "kept") (fVar 0)) (fC (.int 0))) fNil)))
def D_Addresses_length : FD := defD 1 B_Addresses_length
abbrev B_check_word : FS :=
  (kIf (kNot (kVal (fCallD 1 D_is_word (fCons (fVar 0) fNil)))) kNo kNext)
def D_check_word : FD := defD 1 B_check_word
abbrev B_differing : FS :=
  (kSeq (kExpr (fCallD 1 D_check_word (fCons (fVar 0) fNil)))
    (kSeq (kExpr (fCallD 1 D_check_word (fCons (fVar 1) fNil)))
    (kSeq (kIf (kVal (fOp gNe (fLenD [("Addresses", 1, D_Addresses_len)] (fCons (fVar 0) fNil)) (fLenD [("Addresses", 1, D_Addresses_len)] (fCons (fVar 1) fNil)))) kNo kNext)
    (kRet (fLc (iEz (fCons (fVar 0) (fCons (fVar 1) fNil))) (tgT (tgCons (tgN 2) (tgCons (tgN 3) tgNil))) (kVal (fOp gIn (fVar 3) (fTup (fCons (fTup (fCons (fC (.str "0")) (fCons (fC (.str "1")) fNil))) (fCons (fTup (fCons (fC (.str "1")) (fCons (fC (.str "0")) fNil))) fNil))))) (fVar 2) [2, 3])))))
def D_differing : FD := defD 4 B_differing
abbrev B_apart : FS :=
  (kRet (fLenD [("Addresses", 1, D_Addresses_len)] (fCons (fCallD 2 D_differing (fCons (fVar 0) (fCons (fVar 1) fNil))) fNil)))
def D_apart : FD := defD 2 B_apart
abbrev B_Addresses_table : FS :=
  (kRet (fLc (iVal (fUn (gFld ["Addresses"] "kept") (fVar 0))) (tgN 2) kYes (fCall gTuple (fCons (fLc (iVal (fUn (gFld ["Addresses"] "kept") (fVar 0))) (tgN 1) kYes (fCallD 2 D_apart (fCons (fVar 2) (fCons (fVar 1) fNil))) [1]) fNil)) [2]))
def D_Addresses_table : FD := defD 3 B_Addresses_table
abbrev B_Addresses_apart : FS :=
  (kSeq (kExpr (fMethD [("Addresses", 2, D_Addresses_check_house)] (fVar 0) (fCons (fVar 1) fNil)))
    (kSeq (kExpr (fMethD [("Addresses", 2, D_Addresses_check_house)] (fVar 0) (fCons (fVar 2) fNil)))
    (kRet (fCallD 2 D_apart (fCons (fOp gIx (fUn (gFld ["Addresses"] "kept") (fVar 0)) (fVar 1)) (fCons (fOp gIx (fUn (gFld ["Addresses"] "kept") (fVar 0)) (fVar 2)) fNil))))))
def D_Addresses_apart : FD := defD 3 B_Addresses_apart
abbrev B_law_right : FS :=
  (kSeq (kSet 2 (fLc (iVal (fVar 0)) (tgN 4) kYes (fCall gTuple (fCons (fLc (iVal (fVar 0)) (tgN 3) kYes (fCallD 2 D_law_apart (fCons (fVar 4) (fCons (fVar 3) fNil))) [3]) fNil)) [4]))
    (kSeq (kIf (kOr (kVal (fOp gNe (fPropD [("Addresses", 1, D_Addresses_words)] (fVar 1)) (fCall gTuple (fCons (fVar 0) fNil)))) (kVal (fOp gNe (fPropD [("Addresses", 1, D_Addresses_length)] (fVar 1)) (fLenD [("Addresses", 1, D_Addresses_len)] (fCons (fIxD [("Addresses", 2, D_Addresses_getitem)] (fVar 0) (fC (.int 0))) fNil))))) (kRet (fC (.bl false))) kNext)
    (kSeq (kSetC 5 (fMethD [("Addresses", 1, D_Addresses_table)] (fVar 1) fNil))
    (kSeq (kIf (kOr (kNot (kVal (fCall (arg2 (gIsi ["Addresses"])) (fCons (fVar 5) (fCons (fC (.ty "list")) fNil))))) (kOr (kVal (fEqD ["Addresses"] [("Addresses", 2, D_Addresses_eq)] true (fVar 5) (fVar 2))) (kVal (fOp gNe (fLc (iRange1 (fCons (fLenD [("Addresses", 1, D_Addresses_len)] (fCons (fVar 0) fNil)) fNil)) (tgN 6) kYes (fIxD [("Addresses", 2, D_Addresses_getitem)] (fVar 1) (fVar 6)) [6]) (fVar 0))))) (kRet (fC (.bl false))) kNext)
    (kSeq (kExpr (fMut gClear (fVar 5) fNil))
    (kSeq (kFor (iRange1 (fCons (fLenD [("Addresses", 1, D_Addresses_len)] (fCons (fVar 0) fNil)) fNil)) (tgN 6)
      (kSeq (kSet 7 (fCall gMax (fCons (fC (.int 0)) (fCons (fOp gSub (fLenD [("Addresses", 1, D_Addresses_len)] (fCons (fVar 0) fNil)) (fC (.int 12))) fNil))))
    (kIf (kVal (fOp gNe (fLc (iRange2 (fCons (fVar 7) (fCons (fLenD [("Addresses", 1, D_Addresses_len)] (fCons (fVar 0) fNil)) fNil))) (tgN 8) kYes (fMethD [("Addresses", 3, D_Addresses_apart)] (fVar 1) (fCons (fVar 6) (fCons (fVar 8) fNil))) [8]) (fCall gList (fCons (fSl (fIxD [("Addresses", 2, D_Addresses_getitem)] (fVar 2) (fVar 6)) (fPart (fVar 7)) fNoPart) fNil)))) (kRet (fC (.bl false))) kNext)))
    (kRet (fAnd (fEqD ["Addresses"] [("Addresses", 2, D_Addresses_eq)] false (fMethD [("Addresses", 1, D_Addresses_table)] (fVar 1) fNil) (fVar 2)) (fOp gEq (fStrD [("Addresses", 1, D_Addresses_str)] (fCons (fVar 1) fNil)) (fMeth "str" gJoin (fC (.str " ")) (fCons (fVar 0) fNil)))))))))))
def D_law_right : FD := defD 9 B_law_right
abbrev B_law : FS :=
  (kSeq (kFor (iRange1 (fCons (fCall gMax (fCons (fC (.int 2)) (fCons (fCall gMin (fCons (fC (.int 6)) (fCons (fLenD [("Addresses", 1, D_Addresses_len)] (fCons (fVar 0) fNil)) fNil))) fNil))) fNil)) (tgN 1)
      (kSeq (kSetC 2 (fCallD 1 D_law_box (fCons (fCallD 2 D_law_cell_at (fCons (fVar 0) (fCons (fVar 1) fNil))) fNil)))
    (kSeq (kSet 3 (fCallD 1 D_law_words (fCons (fVar 2) fNil)))
    (kSeq (kSetC 4 (fCall gList (fCons (fVar 3) fNil)))
    (kSeq (kPar 5 6 (fCons (fMakeD "Addresses" [] 2 D_Addresses_init (fCons (fVar 4) fNil)) (fCons (fMakeD "Addresses" [] 2 D_Addresses_init (fCons (fCall gTuple (fCons (fVar 3) fNil)) fNil)) fNil)))
    (kSeq (kSub (fVar 4) (fC (.int 0)) (fC (.str "11111111111111")))
    (kSeq (kSet 7 (fCallD 2 D_law_other_words (fCons (fVar 2) (fCons (fVar 3) fNil))))
    (kSeq (kSet 8 (fMakeD "Addresses" [] 2 D_Addresses_init (fCons (fVar 7) fNil)))
    (kSeq (kFor (iRange1 (fCons (fC (.int 2)) fNil)) (tgN 9)
      (kSeq (kIf (kOr (kNot (kVal (fCallD 2 D_law_right (fCons (fVar 3) (fCons (fVar 5) fNil))))) (kNot (kVal (fCallD 2 D_law_right (fCons (fVar 7) (fCons (fVar 8) fNil)))))) (kRet (fC (.bl false))) kNext)
    (kSeq (kIf (kOr (kVal (fEqD ["Addresses"] [("Addresses", 2, D_Addresses_eq)] true (fVar 5) (fVar 6))) (kOr (kVal (fEqD ["Addresses"] [("Addresses", 2, D_Addresses_eq)] false (fVar 5) (fVar 8))) (kVal (fEqD ["Addresses"] [("Addresses", 2, D_Addresses_eq)] false (fVar 8) (fVar 5))))) (kRet (fC (.bl false))) kNext)
    (kIf (kOr (kVal (fEqD ["Addresses"] [("Addresses", 2, D_Addresses_eq)] false (fVar 5) (fVar 3))) (kOr (kVal (fEqD ["Addresses"] [("Addresses", 2, D_Addresses_eq)] false (fVar 5) (fStrD [("Addresses", 1, D_Addresses_str)] (fCons (fVar 5) fNil)))) (kVal (fEqD ["Addresses"] [("Addresses", 2, D_Addresses_eq)] false (fVar 5) (fCall gTuple (fCons (fVar 3) fNil)))))) (kRet (fC (.bl false))) kNext))))
    (kFor (iVal (fLst (fCons (fTup (fCons (fMeth "str" gJoin (fC (.str " ")) (fCons (fVar 3) fNil)) (fCons (fVar 5) fNil))) (fCons (fTup (fCons (fMeth "str" gJoin (fC (.str " ")) (fCons (fVar 7) fNil)) (fCons (fVar 8) fNil))) fNil)))) (tgT (tgCons (tgN 10) (tgCons (tgN 11) tgNil)))
      (kIf (kVal (fEqD ["Addresses"] [("Addresses", 2, D_Addresses_eq)] true (fCMeth "Addresses" 2 D_Addresses_read (fC (.cls "Addresses")) (fCons (fVar 10) fNil)) (fVar 11))) (kRet (fC (.bl false))) kNext)))))))))))
    (kRet (fC (.bl true))))
def D_law : FD := defD 12 B_law
end Q12

namespace Q12
open PySem PySem.Spec PyProof.Rows L2 OP Evl
def topS (i : Nat) : Stmt := PySem.Challenge.pw_openposts_k12_addresses_told.main.body.getD i (.Pass ⟨0, 0, 0, 0⟩)
abbrev PP : Program := PySem.Challenge.pw_openposts_k12_addresses_told
abbrev s_Addresses_len : Stmt := inClass (topS 20) 4
abbrev N_Addresses_len : List Str := ["self"]
theorem sc_Addresses_len : FnScope N_Addresses_len ["self"] (defScope s_Addresses_len) := ⟨rfl, rfl, rfl, by decide +kernel, rfl, by decide +kernel, by decide +kernel⟩
abbrev s_is_word : Stmt := topS 12
abbrev N_is_word : List Str := ["value", "sign"]
theorem sc_is_word : FnScope N_is_word ["value"] (defScope s_is_word) := ⟨rfl, rfl, rfl, by decide +kernel, rfl, by decide +kernel, by decide +kernel⟩
abbrev s_is_integer : Stmt := topS 11
abbrev N_is_integer : List Str := ["value"]
theorem sc_is_integer : FnScope N_is_integer ["value"] (defScope s_is_integer) := ⟨rfl, rfl, rfl, by decide +kernel, rfl, by decide +kernel, by decide +kernel⟩
abbrev s_Addresses_check_house : Stmt := inClass (topS 20) 10
abbrev N_Addresses_check_house : List Str := ["self", "house"]
theorem sc_Addresses_check_house : FnScope N_Addresses_check_house ["self", "house"] (defScope s_Addresses_check_house) := ⟨rfl, rfl, rfl, by decide +kernel, rfl, by decide +kernel, by decide +kernel⟩
abbrev s_Addresses_getitem : Stmt := inClass (topS 20) 6
abbrev N_Addresses_getitem : List Str := ["self", "house"]
theorem sc_Addresses_getitem : FnScope N_Addresses_getitem ["self", "house"] (defScope s_Addresses_getitem) := ⟨rfl, rfl, rfl, by decide +kernel, rfl, by decide +kernel, by decide +kernel⟩
abbrev s_are_words : Stmt := topS 19
abbrev N_are_words : List Str := ["value", "word"]
theorem sc_are_words : FnScope N_are_words ["value"] (defScope s_are_words) := ⟨rfl, rfl, rfl, by decide +kernel, rfl, by decide +kernel, by decide +kernel⟩
abbrev s_Addresses_init : Stmt := inClass (topS 20) 0
abbrev N_Addresses_init : List Str := ["self", "words"]
theorem sc_Addresses_init : FnScope N_Addresses_init ["self", "words"] (defScope s_Addresses_init) := ⟨rfl, rfl, rfl, by decide +kernel, rfl, by decide +kernel, by decide +kernel⟩
abbrev s_law_box : Stmt := topS 23
abbrev N_law_box : List Str := ["_law_cell"]
theorem sc_law_box : FnScope N_law_box ["_law_cell"] (defScope s_law_box) := ⟨rfl, rfl, rfl, by decide +kernel, rfl, by decide +kernel, by decide +kernel⟩
abbrev s_law_take : Stmt := topS 24
abbrev N_law_take : List Str := ["_law_box_here", "_law_many", "_law_digit", "_law_mixed_here"]
theorem sc_law_take : FnScope N_law_take ["_law_box_here", "_law_many"] (defScope s_law_take) := ⟨rfl, rfl, rfl, by decide +kernel, rfl, by decide +kernel, by decide +kernel⟩
abbrev s_Addresses_eq : Stmt := inClass (topS 20) 7
abbrev N_Addresses_eq : List Str := ["self", "other"]
theorem sc_Addresses_eq : FnScope N_Addresses_eq ["self", "other"] (defScope s_Addresses_eq) := ⟨rfl, rfl, rfl, by decide +kernel, rfl, by decide +kernel, by decide +kernel⟩
abbrev s_law_signs : Stmt := topS 26
abbrev N_law_signs : List Str := ["_law_box_here", "_law_size", "_law_plan", "_law_k"]
theorem sc_law_signs : FnScope N_law_signs ["_law_box_here", "_law_size"] (defScope s_law_signs) := ⟨rfl, rfl, rfl, by decide +kernel, rfl, by decide +kernel, by decide +kernel⟩
abbrev s_law_words : Stmt := topS 28
abbrev N_law_words : List Str := ["_law_box_here", "_law_size", "_law_count", "_law_k"]
theorem sc_law_words : FnScope N_law_words ["_law_box_here"] (defScope s_law_words) := ⟨rfl, rfl, rfl, by decide +kernel, rfl, by decide +kernel, by decide +kernel⟩
abbrev s_law_other_words : Stmt := topS 30
abbrev N_law_other_words : List Str := ["_law_box_here", "_law_words_here", "_law_at", "_law_word", "_law_way", "_law_spot", "_law_sign", "_law_fresh", "_law_own"]
theorem sc_law_other_words : FnScope N_law_other_words ["_law_box_here", "_law_words_here"] (defScope s_law_other_words) := ⟨rfl, rfl, rfl, by decide +kernel, rfl, by decide +kernel, by decide +kernel⟩
abbrev s_law_cell_at : Stmt := topS 22
abbrev N_law_cell_at : List Str := ["_law_script", "_law_k"]
theorem sc_law_cell_at : FnScope N_law_cell_at ["_law_script", "_law_k"] (defScope s_law_cell_at) := ⟨rfl, rfl, rfl, by decide +kernel, rfl, by decide +kernel, by decide +kernel⟩
abbrev s_Addresses_str : Stmt := inClass (topS 20) 8
abbrev N_Addresses_str : List Str := ["self"]
theorem sc_Addresses_str : FnScope N_Addresses_str ["self"] (defScope s_Addresses_str) := ⟨rfl, rfl, rfl, by decide +kernel, rfl, by decide +kernel, by decide +kernel⟩
abbrev s_Addresses_read : Stmt := inClass (topS 20) 1
abbrev N_Addresses_read : List Str := ["cls", "text"]
theorem sc_Addresses_read : FnScope N_Addresses_read ["cls", "text"] (defScope s_Addresses_read) := ⟨rfl, rfl, rfl, by decide +kernel, rfl, by decide +kernel, by decide +kernel⟩
abbrev s_law_apart : Stmt := topS 27
abbrev N_law_apart : List Str := ["_law_one", "_law_other", "_law_k"]
theorem sc_law_apart : FnScope N_law_apart ["_law_one", "_law_other"] (defScope s_law_apart) := ⟨rfl, rfl, rfl, by decide +kernel, rfl, by decide +kernel, by decide +kernel⟩
abbrev s_Addresses_words : Stmt := inClass (topS 20) 2
abbrev N_Addresses_words : List Str := ["self"]
theorem sc_Addresses_words : FnScope N_Addresses_words ["self"] (defScope s_Addresses_words) := ⟨rfl, rfl, rfl, by decide +kernel, rfl, by decide +kernel, by decide +kernel⟩
abbrev s_Addresses_length : Stmt := inClass (topS 20) 3
abbrev N_Addresses_length : List Str := ["self"]
theorem sc_Addresses_length : FnScope N_Addresses_length ["self"] (defScope s_Addresses_length) := ⟨rfl, rfl, rfl, by decide +kernel, rfl, by decide +kernel, by decide +kernel⟩
abbrev s_check_word : Stmt := topS 13
abbrev N_check_word : List Str := ["value"]
theorem sc_check_word : FnScope N_check_word ["value"] (defScope s_check_word) := ⟨rfl, rfl, rfl, by decide +kernel, rfl, by decide +kernel, by decide +kernel⟩
abbrev s_differing : Stmt := topS 14
abbrev N_differing : List Str := ["one", "other", "place", "signs"]
theorem sc_differing : FnScope N_differing ["one", "other"] (defScope s_differing) := ⟨rfl, rfl, rfl, by decide +kernel, rfl, by decide +kernel, by decide +kernel⟩
abbrev s_apart : Stmt := topS 15
abbrev N_apart : List Str := ["one", "other"]
theorem sc_apart : FnScope N_apart ["one", "other"] (defScope s_apart) := ⟨rfl, rfl, rfl, by decide +kernel, rfl, by decide +kernel, by decide +kernel⟩
abbrev s_Addresses_table : Stmt := inClass (topS 20) 13
abbrev N_Addresses_table : List Str := ["self", "other", "word"]
theorem sc_Addresses_table : FnScope N_Addresses_table ["self"] (defScope s_Addresses_table) := ⟨rfl, rfl, rfl, by decide +kernel, rfl, by decide +kernel, by decide +kernel⟩
abbrev s_Addresses_apart : Stmt := inClass (topS 20) 12
abbrev N_Addresses_apart : List Str := ["self", "one", "other"]
theorem sc_Addresses_apart : FnScope N_Addresses_apart ["self", "one", "other"] (defScope s_Addresses_apart) := ⟨rfl, rfl, rfl, by decide +kernel, rfl, by decide +kernel, by decide +kernel⟩
abbrev s_law_right : Stmt := topS 29
abbrev N_law_right : List Str := ["_law_words_here", "_law_book", "_law_rows", "_law_other", "_law_one", "_law_told", "_law_k", "_law_low", "_law_j"]
theorem sc_law_right : FnScope N_law_right ["_law_words_here", "_law_book"] (defScope s_law_right) := ⟨rfl, rfl, rfl, by decide +kernel, rfl, by decide +kernel, by decide +kernel⟩
abbrev s_law : Stmt := topS 31
abbrev N_law : List Str := ["_law_script", "_law_k", "_law_box_here", "_law_words_here", "_law_given", "_law_book", "_law_twin", "_law_more", "_law_other", "_law_turn", "_law_text", "_law_due"]
theorem sc_law : FnScope N_law ["_law_script"] (defScope s_law) := ⟨rfl, rfl, rfl, by decide +kernel, rfl, by decide +kernel, by decide +kernel⟩
structure TX (K : PySem.W.Frag) (mg : Str → Option Value) : Type where
  C_Addresses : Addr
  gC_Addresses : mg "Addresses" = some (.ref C_Addresses)
  cl_Addresses : Cls K C_Addresses
  it_Addresses : InsT K C_Addresses
  kk_Addresses : PySem.W.kitOne K (.ref C_Addresses) (.ref C_Addresses) = some true
  na_Addresses_kept : NoAttr K C_Addresses "kept"
  f_Addresses_len : Addr
  d_Addresses_len : FuncData
  F_Addresses_len : Fun K "__len__" "Addresses.__len__" s_Addresses_len f_Addresses_len d_Addresses_len
  b_Addresses_len : Binds K d_Addresses_len ["self"] []
  o_Addresses_len : OwnM K C_Addresses "__len__" f_Addresses_len
  f_is_word : Addr
  d_is_word : FuncData
  F_is_word : Fun K "is_word" "is_word" s_is_word f_is_word d_is_word
  b_is_word : Binds K d_is_word ["value"] []
  g_is_word : mg "is_word" = some (.ref f_is_word)
  f_is_integer : Addr
  d_is_integer : FuncData
  F_is_integer : Fun K "is_integer" "is_integer" s_is_integer f_is_integer d_is_integer
  b_is_integer : Binds K d_is_integer ["value"] []
  g_is_integer : mg "is_integer" = some (.ref f_is_integer)
  f_Addresses_check_house : Addr
  d_Addresses_check_house : FuncData
  F_Addresses_check_house : Fun K "check_house" "Addresses.check_house" s_Addresses_check_house f_Addresses_check_house d_Addresses_check_house
  b_Addresses_check_house : Binds K d_Addresses_check_house ["self", "house"] []
  m_Addresses_check_house : Meth K C_Addresses "check_house" f_Addresses_check_house
  f_Addresses_getitem : Addr
  d_Addresses_getitem : FuncData
  F_Addresses_getitem : Fun K "__getitem__" "Addresses.__getitem__" s_Addresses_getitem f_Addresses_getitem d_Addresses_getitem
  b_Addresses_getitem : Binds K d_Addresses_getitem ["self", "house"] []
  o_Addresses_getitem : OwnM K C_Addresses "__getitem__" f_Addresses_getitem
  f_are_words : Addr
  d_are_words : FuncData
  F_are_words : Fun K "are_words" "are_words" s_are_words f_are_words d_are_words
  b_are_words : Binds K d_are_words ["value"] []
  g_are_words : mg "are_words" = some (.ref f_are_words)
  f_Addresses_init : Addr
  d_Addresses_init : FuncData
  F_Addresses_init : Fun K "__init__" "Addresses.__init__" s_Addresses_init f_Addresses_init d_Addresses_init
  b_Addresses_init : Binds K d_Addresses_init ["self", "words"] []
  mk_Addresses : Mk K C_Addresses f_Addresses_init
  f_law_box : Addr
  d_law_box : FuncData
  F_law_box : Fun K "_law_box" "_law_box" s_law_box f_law_box d_law_box
  b_law_box : Binds K d_law_box ["_law_cell"] []
  g_law_box : mg "_law_box" = some (.ref f_law_box)
  f_law_take : Addr
  d_law_take : FuncData
  F_law_take : Fun K "_law_take" "_law_take" s_law_take f_law_take d_law_take
  b_law_take : Binds K d_law_take ["_law_box_here", "_law_many"] []
  g_law_take : mg "_law_take" = some (.ref f_law_take)
  f_Addresses_eq : Addr
  d_Addresses_eq : FuncData
  F_Addresses_eq : Fun K "__eq__" "Addresses.__eq__" s_Addresses_eq f_Addresses_eq d_Addresses_eq
  b_Addresses_eq : Binds K d_Addresses_eq ["self", "other"] []
  oe_Addresses : OwnE K C_Addresses f_Addresses_eq
  f_law_signs : Addr
  d_law_signs : FuncData
  F_law_signs : Fun K "_law_signs" "_law_signs" s_law_signs f_law_signs d_law_signs
  b_law_signs : Binds K d_law_signs ["_law_box_here", "_law_size"] []
  g_law_signs : mg "_law_signs" = some (.ref f_law_signs)
  f_law_words : Addr
  d_law_words : FuncData
  F_law_words : Fun K "_law_words" "_law_words" s_law_words f_law_words d_law_words
  b_law_words : Binds K d_law_words ["_law_box_here"] []
  g_law_words : mg "_law_words" = some (.ref f_law_words)
  f_law_other_words : Addr
  d_law_other_words : FuncData
  F_law_other_words : Fun K "_law_other_words" "_law_other_words" s_law_other_words f_law_other_words d_law_other_words
  b_law_other_words : Binds K d_law_other_words ["_law_box_here", "_law_words_here"] []
  g_law_other_words : mg "_law_other_words" = some (.ref f_law_other_words)
  f_law_cell_at : Addr
  d_law_cell_at : FuncData
  F_law_cell_at : Fun K "_law_cell_at" "_law_cell_at" s_law_cell_at f_law_cell_at d_law_cell_at
  b_law_cell_at : Binds K d_law_cell_at ["_law_script", "_law_k"] []
  g_law_cell_at : mg "_law_cell_at" = some (.ref f_law_cell_at)
  f_Addresses_str : Addr
  d_Addresses_str : FuncData
  F_Addresses_str : Fun K "__str__" "Addresses.__str__" s_Addresses_str f_Addresses_str d_Addresses_str
  b_Addresses_str : Binds K d_Addresses_str ["self"] []
  o_Addresses_str : OwnM K C_Addresses "__str__" f_Addresses_str
  f_Addresses_read : Addr
  d_Addresses_read : FuncData
  F_Addresses_read : Fun K "read" "Addresses.read" s_Addresses_read f_Addresses_read d_Addresses_read
  b_Addresses_read : Binds K d_Addresses_read ["cls", "text"] []
  q_Addresses_read : Addr
  r_Addresses_read : ClX.CRead K C_Addresses (.type "type")
  m_Addresses_read : ClX.CMet K C_Addresses (.type "type") "read" q_Addresses_read f_Addresses_read
  f_law_apart : Addr
  d_law_apart : FuncData
  F_law_apart : Fun K "_law_apart" "_law_apart" s_law_apart f_law_apart d_law_apart
  b_law_apart : Binds K d_law_apart ["_law_one", "_law_other"] []
  g_law_apart : mg "_law_apart" = some (.ref f_law_apart)
  f_Addresses_words : Addr
  d_Addresses_words : FuncData
  F_Addresses_words : Fun K "words" "Addresses.words" s_Addresses_words f_Addresses_words d_Addresses_words
  b_Addresses_words : Binds K d_Addresses_words ["self"] []
  q_Addresses_words : Addr
  p_Addresses_words : PropOf K C_Addresses "words" q_Addresses_words f_Addresses_words
  f_Addresses_length : Addr
  d_Addresses_length : FuncData
  F_Addresses_length : Fun K "length" "Addresses.length" s_Addresses_length f_Addresses_length d_Addresses_length
  b_Addresses_length : Binds K d_Addresses_length ["self"] []
  q_Addresses_length : Addr
  p_Addresses_length : PropOf K C_Addresses "length" q_Addresses_length f_Addresses_length
  f_check_word : Addr
  d_check_word : FuncData
  F_check_word : Fun K "check_word" "check_word" s_check_word f_check_word d_check_word
  b_check_word : Binds K d_check_word ["value"] []
  g_check_word : mg "check_word" = some (.ref f_check_word)
  f_differing : Addr
  d_differing : FuncData
  F_differing : Fun K "differing" "differing" s_differing f_differing d_differing
  b_differing : Binds K d_differing ["one", "other"] []
  g_differing : mg "differing" = some (.ref f_differing)
  f_apart : Addr
  d_apart : FuncData
  F_apart : Fun K "apart" "apart" s_apart f_apart d_apart
  b_apart : Binds K d_apart ["one", "other"] []
  g_apart : mg "apart" = some (.ref f_apart)
  f_Addresses_table : Addr
  d_Addresses_table : FuncData
  F_Addresses_table : Fun K "table" "Addresses.table" s_Addresses_table f_Addresses_table d_Addresses_table
  b_Addresses_table : Binds K d_Addresses_table ["self"] []
  m_Addresses_table : Meth K C_Addresses "table" f_Addresses_table
  f_Addresses_apart : Addr
  d_Addresses_apart : FuncData
  F_Addresses_apart : Fun K "apart" "Addresses.apart" s_Addresses_apart f_Addresses_apart d_Addresses_apart
  b_Addresses_apart : Binds K d_Addresses_apart ["self", "one", "other"] []
  m_Addresses_apart : Meth K C_Addresses "apart" f_Addresses_apart
  f_law_right : Addr
  d_law_right : FuncData
  F_law_right : Fun K "_law_right" "_law_right" s_law_right f_law_right d_law_right
  b_law_right : Binds K d_law_right ["_law_words_here", "_law_book"] []
  g_law_right : mg "_law_right" = some (.ref f_law_right)
  f_law : Addr
  d_law : FuncData
  F_law : Fun K "law" "law" s_law f_law d_law
  b_law : Binds K d_law ["_law_script"] []
  g_law : mg "law" = some (.ref f_law)
  g_apart_words : mg "apart_words" = some (.ref f_apart)
  z_len : mg "len" = none
  z_isinstance : mg "isinstance" = none
  z_str : mg "str" = none
  z_all : mg "all" = none
  z_int : mg "int" = none
  z_bool : mg "bool" = none
  z_list : mg "list" = none
  z_tuple : mg "tuple" = none
  z_max : mg "max" = none
  z_range : mg "range" = none
  z_enumerate : mg "enumerate" = none
  z_zip : mg "zip" = none
  z_min : mg "min" = none
  t_MOST_SIGNS : Tok
  c_MOST_SIGNS : mg "MOST_SIGNS" = some (.int 60 t_MOST_SIGNS)
  t_SIGNS : Tok
  c_SIGNS : mg "SIGNS" = some (.str "01*" t_SIGNS)
  t_MOST_HOUSES : Tok
  c_MOST_HOUSES : mg "MOST_HOUSES" = some (.int 40 t_MOST_HOUSES)
  kc_Addresses : PySem.W.kitOne K (.type "int") (.ref C_Addresses) = some false
  kb_Addresses_bool : PySem.W.kitOne K (.ref C_Addresses) (.type "bool") = some false
  kb_Addresses_int : PySem.W.kitOne K (.ref C_Addresses) (.type "int") = some false
  kb_Addresses_str : PySem.W.kitOne K (.ref C_Addresses) (.type "str") = some false
  kb_Addresses_list : PySem.W.kitOne K (.ref C_Addresses) (.type "list") = some false
  kb_Addresses_tuple : PySem.W.kitOne K (.ref C_Addresses) (.type "tuple") = some false
  kb_Addresses_dict : PySem.W.kitOne K (.ref C_Addresses) (.type "dict") = some false
open DN
def zt {K : PySem.W.Frag} {mg : Str → Option Value} (T : TX K mg) : Zt := ⟨K, fun c => if c = "Addresses" then T.C_Addresses else 0⟩
section
variable {K : PySem.W.Frag} {mg : Str → Option Value}
theorem cm_Addresses (T : TX K mg) : (zt T).cm "Addresses" = T.C_Addresses := by simp [zt]
theorem gZ_Addresses (T : TX K mg) : mg "Addresses" = some (.ref ((zt T).cm "Addresses")) := by rw [cm_Addresses]; exact T.gC_Addresses
theorem clZ_Addresses (T : TX K mg) : Cls K ((zt T).cm "Addresses") := by rw [cm_Addresses]; exact T.cl_Addresses
theorem fd_Addresses_kept (T : TX K mg) : Fd (zt T) "kept" "Addresses" := ⟨clZ_Addresses T, by rw [cm_Addresses]; exact T.na_Addresses_kept⟩
theorem oZ_Addresses_len (T : TX K mg) : OP.OwnM K ((zt T).cm "Addresses") "__len__" T.f_Addresses_len := by rw [cm_Addresses]; exact T.o_Addresses_len
theorem mZ_Addresses_check_house (T : TX K mg) : Meth K ((zt T).cm "Addresses") "check_house" T.f_Addresses_check_house := by rw [cm_Addresses]; exact T.m_Addresses_check_house
theorem oZ_Addresses_getitem (T : TX K mg) : OP.OwnM K ((zt T).cm "Addresses") "__getitem__" T.f_Addresses_getitem := by rw [cm_Addresses]; exact T.o_Addresses_getitem
theorem mkZ_Addresses (T : TX K mg) : Mk K ((zt T).cm "Addresses") T.f_Addresses_init := by rw [cm_Addresses]; exact T.mk_Addresses
theorem oeZ_Addresses (T : TX K mg) : OP.OwnE K ((zt T).cm "Addresses") T.f_Addresses_eq := by rw [cm_Addresses]; exact T.oe_Addresses
theorem oZ_Addresses_str (T : TX K mg) : OP.OwnM K ((zt T).cm "Addresses") "__str__" T.f_Addresses_str := by rw [cm_Addresses]; exact T.o_Addresses_str
theorem rZ_Addresses_read (T : TX K mg) : ClX.CRead K ((zt T).cm "Addresses") (.type "type") := by rw [cm_Addresses]; exact T.r_Addresses_read
theorem mZ_Addresses_read (T : TX K mg) : ClX.CMet K ((zt T).cm "Addresses") (.type "type") "read" T.q_Addresses_read T.f_Addresses_read := by rw [cm_Addresses]; exact T.m_Addresses_read
theorem pZ_Addresses_words (T : TX K mg) : PropOf K ((zt T).cm "Addresses") "words" T.q_Addresses_words T.f_Addresses_words := by rw [cm_Addresses]; exact T.p_Addresses_words
theorem pZ_Addresses_length (T : TX K mg) : PropOf K ((zt T).cm "Addresses") "length" T.q_Addresses_length T.f_Addresses_length := by rw [cm_Addresses]; exact T.p_Addresses_length
theorem mZ_Addresses_table (T : TX K mg) : Meth K ((zt T).cm "Addresses") "table" T.f_Addresses_table := by rw [cm_Addresses]; exact T.m_Addresses_table
theorem mZ_Addresses_apart (T : TX K mg) : Meth K ((zt T).cm "Addresses") "apart" T.f_Addresses_apart := by rw [cm_Addresses]; exact T.m_Addresses_apart
theorem csok (T : TX K mg) : CsOk (zt T) ["Addresses"] := ⟨(AllC.cons ⟨clZ_Addresses T, by rw [cm_Addresses]; exact T.it_Addresses, by rw [cm_Addresses]; exact T.kc_Addresses, (AllC.cons (by rw [cm_Addresses]; exact T.kb_Addresses_bool) (AllC.cons (by rw [cm_Addresses]; exact T.kb_Addresses_int) (AllC.cons (by rw [cm_Addresses]; exact T.kb_Addresses_str) (AllC.cons (by rw [cm_Addresses]; exact T.kb_Addresses_list) (AllC.cons (by rw [cm_Addresses]; exact T.kb_Addresses_tuple) (AllC.cons (by rw [cm_Addresses]; exact T.kb_Addresses_dict) AllC.nil))))))⟩ AllC.nil), (AllC.cons (AllC.cons (.inl rfl) AllC.nil) AllC.nil)⟩
end
section
variable {w : World} {K : PySem.W.Frag} {mg : Str → Option Value} {base : Heap}
theorem G_Addresses_len (T : TX K mg) : FnOk PP w K mg base (L2.CX PP w) 1 T.f_Addresses_len T.d_Addresses_len ["self"] (spD (zt T) 1 D_Addresses_len) :=
  fn_d (Z := zt T) (K := K) (N := N_Addresses_len) (fb := B_Addresses_len) (DN.Fun.d T.F_Addresses_len) sc_Addresses_len fun cdv A outer s H E hr =>
    (psf_one (psf_ret (pf_callB (cd_len rfl) (by rfl) T.z_len (by decide +kernel) (paf_cons (pf_fld ["Addresses"] rfl (AllC.cons (fd_Addresses_kept T) AllC.nil) (pf_var 0)) paf_nil))))
theorem G_is_word (T : TX K mg) : FnOk PP w K mg base (L2.CX PP w) 4 T.f_is_word T.d_is_word ["value"] (spD (zt T) 1 D_is_word) :=
  fn_d (Z := zt T) (K := K) (N := N_is_word) (fb := B_is_word) (DN.Fun.d T.F_is_word) sc_is_word fun cdv A outer s H E hr =>
    (psf_one (psf_ret (pf_and (pf_callB (cd_isi (csok T) rfl) (by rfl) T.z_isinstance (by decide +kernel) (paf_cons (pf_var 0) (paf_cons (pf_bltn (v := .ty "str") (u := .type "str") (by rfl) T.z_str (by decide +kernel) rfl (fun _ => on_ty)) paf_nil))) (pf_and (pf_cmp od_le (pf_lenO (AllM.cons ⟨⟨⟨_, _, _, _, hr.mono (by decide), oZ_Addresses_len T, G_Addresses_len T, T.b_Addresses_len⟩⟩⟩ AllM.nil) rfl (by rfl) T.z_len (paf_cons (pf_var 0) paf_nil)) (pf_glob (v := .int 60) rfl T.c_MOST_SIGNS ⟨_, rfl⟩ (fun _ => on_int)) (nomark _)) (pf_one (pf_callB (cd_all rfl) (by rfl) T.z_all (by decide +kernel) (paf_cons (pf_lc (own := [("sign", 1)]) rfl sc_is_word.nd (pif_val rfl (pf_var 0)) (blkOk_by (N := N_is_word) (sc := defScope s_is_word) (by decide +kernel)) (fun _ _ _ _ _ => (pgf_name 1 sc_is_word.nd rfl (.inl rfl))) (fun _ _ _ _ _ => ptsf_nil) (fun _ _ _ _ _ => (pf_cmp (od_in hr.u65 rfl) (pf_var 1) (pf_glob (v := .str "01*") rfl T.c_SIGNS ⟨_, rfl⟩ (fun _ => on_str)) (by rfl)))) paf_nil)))))))
theorem G_is_integer (T : TX K mg) : FnOk PP w K mg base (L2.CX PP w) 1 T.f_is_integer T.d_is_integer ["value"] (spD (zt T) 1 D_is_integer) :=
  fn_d (Z := zt T) (K := K) (N := N_is_integer) (fb := B_is_integer) (DN.Fun.d T.F_is_integer) sc_is_integer fun cdv A outer s H E hr =>
    (psf_one (psf_ret (pf_and (pf_callB (cd_isi (csok T) rfl) (by rfl) T.z_isinstance (by decide +kernel) (paf_cons (pf_var 0) (paf_cons (pf_bltn (v := .ty "int") (u := .type "int") (by rfl) T.z_int (by decide +kernel) rfl (fun _ => on_ty)) paf_nil))) (pf_one (pf_not (pf_callB (cd_isi (csok T) rfl) (by rfl) T.z_isinstance (by decide +kernel) (paf_cons (pf_var 0) (paf_cons (pf_bltn (v := .ty "bool") (u := .type "bool") (by rfl) T.z_bool (by decide +kernel) rfl (fun _ => on_ty)) paf_nil))))))))
theorem G_Addresses_check_house (T : TX K mg) : FnOk PP w K mg base (L2.CX PP w) 2 T.f_Addresses_check_house T.d_Addresses_check_house ["self", "house"] (spD (zt T) 2 D_Addresses_check_house) :=
  fn_d (Z := zt T) (K := K) (N := N_Addresses_check_house) (fb := B_Addresses_check_house) (DN.Fun.d T.F_Addresses_check_house) sc_Addresses_check_house fun cdv A outer s H E hr =>
    (psf_one (psf_if (ptf_w (pwf_or (ptf_not (ptf_val (pf_call (G_is_integer T) (hr.mono (by decide)) tkd (by rfl) T.g_is_integer T.F_is_integer.kp T.b_is_integer (paf_cons (pf_var 1) paf_nil)))) (pwf_one (ptf_not (ptf_chain od_le od_lt pf_int (pf_var 1) (pf_callB (cd_len rfl) (by rfl) T.z_len (by decide +kernel) (paf_cons (pf_fld ["Addresses"] rfl (AllC.cons (fd_Addresses_kept T) AllC.nil) (pf_var 0)) paf_nil))))))) (psf_one psf_no) psf_nil))
theorem G_Addresses_getitem (T : TX K mg) : FnOk PP w K mg base (L2.CX PP w) 3 T.f_Addresses_getitem T.d_Addresses_getitem ["self", "house"] (spD (zt T) 2 D_Addresses_getitem) :=
  fn_d (Z := zt T) (K := K) (N := N_Addresses_getitem) (fb := B_Addresses_getitem) (DN.Fun.d T.F_Addresses_getitem) sc_Addresses_getitem fun cdv A outer s H E hr =>
    (psf_cons (psf_expr (pf_methD tkd (AllM.cons ⟨⟨⟨_, _, _, _, hr.mono (by decide), clZ_Addresses T, mZ_Addresses_check_house T, G_Addresses_check_house T, T.b_Addresses_check_house⟩⟩, by decide⟩ AllM.nil) (pf_var 0) (paf_cons (pf_var 1) paf_nil)))
    (psf_one (psf_ret (pf_ix (ix_d hr.u1 rfl) (pf_fld ["Addresses"] rfl (AllC.cons (fd_Addresses_kept T) AllC.nil) (pf_var 0)) (pf_var 1)))))
theorem G_are_words (T : TX K mg) : FnOk PP w K mg base (L2.CX PP w) 6 T.f_are_words T.d_are_words ["value"] (spD (zt T) 1 D_are_words) :=
  fn_d (Z := zt T) (K := K) (N := N_are_words) (fb := B_are_words) (DN.Fun.d T.F_are_words) sc_are_words fun cdv A outer s H E hr =>
    (psf_cons (psf_if (ptf_w (pwf_or (ptf_not (ptf_val (pf_callB (cd_isi (csok T) rfl) (by rfl) T.z_isinstance (by decide +kernel) (paf_cons (pf_var 0) (paf_cons (pf_tup (paf_cons (pf_bltn (v := .ty "list") (u := .type "list") (by rfl) T.z_list (by decide +kernel) rfl (fun _ => on_ty)) (paf_cons (pf_bltn (v := .ty "tuple") (u := .type "tuple") (by rfl) T.z_tuple (by decide +kernel) rfl (fun _ => on_ty)) paf_nil))) paf_nil))))) (pwf_one (ptf_not (ptf_chain od_le od_le pf_int (pf_lenO (AllM.cons ⟨⟨⟨_, _, _, _, hr.mono (by decide), oZ_Addresses_len T, G_Addresses_len T, T.b_Addresses_len⟩⟩⟩ AllM.nil) rfl (by rfl) T.z_len (paf_cons (pf_var 0) paf_nil)) (pf_glob (v := .int 40) rfl T.c_MOST_HOUSES ⟨_, rfl⟩ (fun _ => on_int))))))) (psf_one (psf_ret pf_bl)) psf_nil)
    (psf_one (psf_ret (pf_and (pf_callB (cd_all rfl) (by rfl) T.z_all (by decide +kernel) (paf_cons (pf_lc (own := [("word", 1)]) rfl sc_are_words.nd (pif_val rfl (pf_var 0)) (blkOk_by (N := N_are_words) (sc := defScope s_are_words) (by decide +kernel)) (fun _ _ _ _ _ => (pgf_name 1 sc_are_words.nd rfl (.inl rfl))) (fun _ _ _ _ _ => ptsf_nil) (fun _ _ _ _ _ => (pf_call (G_is_word T) (hr.mono (by decide)) tk0 (by rfl) T.g_is_word T.F_is_word.kp T.b_is_word (paf_cons (pf_var 1) paf_nil)))) paf_nil)) (pf_one (pf_callB (cd_all rfl) (by rfl) T.z_all (by decide +kernel) (paf_cons (pf_lc (own := [("word", 1)]) rfl sc_are_words.nd (pif_val rfl (pf_var 0)) (blkOk_by (N := N_are_words) (sc := defScope s_are_words) (by decide +kernel)) (fun _ _ _ _ _ => (pgf_name 1 sc_are_words.nd rfl (.inl rfl))) (fun _ _ _ _ _ => ptsf_nil) (fun _ _ _ _ _ => (pf_cmp (od_eq hr.u64 rfl) (pf_lenO (AllM.cons ⟨⟨⟨_, _, _, _, hr.mono (by decide), oZ_Addresses_len T, G_Addresses_len T, T.b_Addresses_len⟩⟩⟩ AllM.nil) rfl (by rfl) T.z_len (paf_cons (pf_var 1) paf_nil)) (pf_lenO (AllM.cons ⟨⟨⟨_, _, _, _, hr.mono (by decide), oZ_Addresses_len T, G_Addresses_len T, T.b_Addresses_len⟩⟩⟩ AllM.nil) rfl (by rfl) T.z_len (paf_cons (pf_ixO (AllM.cons ⟨⟨⟨_, _, _, _, hr.mono (by decide), oZ_Addresses_getitem T, G_Addresses_getitem T, T.b_Addresses_getitem⟩⟩⟩ AllM.nil) hr.u1 rfl (pf_var 0) pf_int) paf_nil)) (nomark _)))) paf_nil)))))))
theorem G_Addresses_init (T : TX K mg) : FnOk PP w K mg base (L2.CX PP w) 7 T.f_Addresses_init T.d_Addresses_init ["self", "words"] (spD (zt T) 2 D_Addresses_init) :=
  fn_d (Z := zt T) (K := K) (N := N_Addresses_init) (fb := B_Addresses_init) (DN.Fun.d T.F_Addresses_init) sc_Addresses_init fun cdv A outer s H E hr =>
    (psf_cons (psf_if (ptf_not (ptf_val (pf_call (G_are_words T) (hr.mono (by decide)) tkd (by rfl) T.g_are_words T.F_are_words.kp T.b_are_words (paf_cons (pf_var 1) paf_nil)))) (psf_one psf_no) psf_nil)
    (psf_one (psf_fld ["Addresses"] rfl (AllC.cons (fd_Addresses_kept T) AllC.nil) (pf_var 0) (pf_callT cd_tuple (by rfl) T.z_tuple (by decide +kernel) (paf_cons (pf_var 1) paf_nil)))))
theorem G_law_box (T : TX K mg) : FnOk PP w K mg base (L2.CX PP w) 1 T.f_law_box T.d_law_box ["_law_cell"] (spD (zt T) 1 D_law_box) :=
  fn_d (Z := zt T) (K := K) (N := N_law_box) (fb := B_law_box) (DN.Fun.d T.F_law_box) sc_law_box fun cdv A outer s H E hr =>
    (psf_one (psf_ret (pf_lst (paf_cons (pf_callB (cd_max rfl rfl) (by rfl) T.z_max (by decide +kernel) (paf_cons pf_int (paf_cons (pf_op od_sub (pf_var 0) (pf_op od_pow pf_int pf_int)) paf_nil))) (paf_cons (pf_op od_mod (pf_callT cd_int (by rfl) T.z_int (by decide +kernel) (paf_cons (pf_var 0) paf_nil)) pf_int) (paf_cons pf_int paf_nil))))))
theorem G_law_take (T : TX K mg) : FnOk PP w K mg base (L2.CX PP w) 6 T.f_law_take T.d_law_take ["_law_box_here", "_law_many"] (spD (zt T) 2 D_law_take) :=
  fn_d (Z := zt T) (K := K) (N := N_law_take) (fb := B_law_take) (DN.Fun.d T.F_law_take) sc_law_take fun cdv A outer s H E hr =>
    (psf_cons (psf_if (ptf_cmp od_gt (pf_ixO (AllM.cons ⟨⟨⟨_, _, _, _, hr.mono (by decide), oZ_Addresses_getitem T, G_Addresses_getitem T, T.b_Addresses_getitem⟩⟩⟩ AllM.nil) hr.u1 rfl (pf_var 0) pf_int) pf_int (nomark _)) (psf_cons (psf_set 2 sc_law_take.nd rfl (.inl rfl) (pf_op od_mod (pf_callT cd_int (by rfl) T.z_int (by decide +kernel) (paf_cons (pf_ixO (AllM.cons ⟨⟨⟨_, _, _, _, hr.mono (by decide), oZ_Addresses_getitem T, G_Addresses_getitem T, T.b_Addresses_getitem⟩⟩⟩ AllM.nil) hr.u1 rfl (pf_var 0) pf_int) paf_nil)) (pf_var 1)))
    (psf_cons (psf_sub (pf_var 0) pf_int (pf_op od_div (pf_ixO (AllM.cons ⟨⟨⟨_, _, _, _, hr.mono (by decide), oZ_Addresses_getitem T, G_Addresses_getitem T, T.b_Addresses_getitem⟩⟩⟩ AllM.nil) hr.u1 rfl (pf_var 0) pf_int) (pf_var 1)))
    (psf_one (psf_ret (pf_var 2))))) psf_nil)
    (psf_cons (psf_sub (pf_var 0) pf_int (pf_op (od_add rfl) (pf_ixO (AllM.cons ⟨⟨⟨_, _, _, _, hr.mono (by decide), oZ_Addresses_getitem T, G_Addresses_getitem T, T.b_Addresses_getitem⟩⟩⟩ AllM.nil) hr.u1 rfl (pf_var 0) pf_int) pf_int))
    (psf_cons (psf_set 3 sc_law_take.nd rfl (.inl rfl) (pf_op od_mod (pf_op od_pow (pf_callT cd_int (by rfl) T.z_int (by decide +kernel) (paf_cons (pf_op (od_add rfl) (pf_op (od_add rfl) (pf_ixO (AllM.cons ⟨⟨⟨_, _, _, _, hr.mono (by decide), oZ_Addresses_getitem T, G_Addresses_getitem T, T.b_Addresses_getitem⟩⟩⟩ AllM.nil) hr.u1 rfl (pf_var 0) pf_int) (pf_op od_mul pf_int (pf_ixO (AllM.cons ⟨⟨⟨_, _, _, _, hr.mono (by decide), oZ_Addresses_getitem T, G_Addresses_getitem T, T.b_Addresses_getitem⟩⟩⟩ AllM.nil) hr.u1 rfl (pf_var 0) pf_int))) pf_int) paf_nil)) pf_int) pf_int))
    (psf_cons (psf_set 3 sc_law_take.nd rfl (.inl rfl) (pf_op od_mod (pf_op od_pow (pf_callT cd_int (by rfl) T.z_int (by decide +kernel) (paf_cons (pf_op (od_add rfl) (pf_var 3) (pf_op od_mul pf_int (pf_ixO (AllM.cons ⟨⟨⟨_, _, _, _, hr.mono (by decide), oZ_Addresses_getitem T, G_Addresses_getitem T, T.b_Addresses_getitem⟩⟩⟩ AllM.nil) hr.u1 rfl (pf_var 0) pf_int))) paf_nil)) pf_int) pf_int))
    (psf_one (psf_ret (pf_op od_mod (pf_callT cd_int (by rfl) T.z_int (by decide +kernel) (paf_cons (pf_op od_div (pf_var 3) pf_int) paf_nil)) (pf_var 1))))))))
theorem G_Addresses_eq (T : TX K mg) : FnOk PP w K mg base (L2.CX PP w) 1 T.f_Addresses_eq T.d_Addresses_eq ["self", "other"] (spD (zt T) 2 D_Addresses_eq) :=
  fn_d (Z := zt T) (K := K) (N := N_Addresses_eq) (fb := B_Addresses_eq) (DN.Fun.d T.F_Addresses_eq) sc_Addresses_eq fun cdv A outer s H E hr =>
    (psf_one (psf_ret (pf_and (pf_callB (cd_isi (csok T) rfl) (by rfl) T.z_isinstance (by decide +kernel) (paf_cons (pf_var 1) (paf_cons (pf_glob (v := .ref _) rfl (gZ_Addresses T) rfl (fun _ => on_cls)) paf_nil))) (pf_one (pf_cmp (od_eq hr.u64 rfl) (pf_fld ["Addresses"] rfl (AllC.cons (fd_Addresses_kept T) AllC.nil) (pf_var 0)) (pf_fld ["Addresses"] rfl (AllC.cons (fd_Addresses_kept T) AllC.nil) (pf_var 1)) (nomark _))))))
theorem G_law_signs (T : TX K mg) : FnOk PP w K mg base (L2.CX PP w) 7 T.f_law_signs T.d_law_signs ["_law_box_here", "_law_size"] (spD (zt T) 2 D_law_signs) :=
  fn_d (Z := zt T) (K := K) (N := N_law_signs) (fb := B_law_signs) (DN.Fun.d T.F_law_signs) sc_law_signs fun cdv A outer s H E hr =>
    (psf_cons (psf_set 2 sc_law_signs.nd rfl (.inr rfl) (pf_call (G_law_take T) (hr.mono (by decide)) tkd (by rfl) T.g_law_take T.F_law_take.kp T.b_law_take (paf_cons (pf_var 0) (paf_cons pf_int paf_nil))))
    (psf_one (psf_ret (pf_meth md_join PySem.F.plainAttrs_str PySem.F.slot_str_join PySem.F.type_str_join rfl pf_str (paf_cons (pf_lc (own := [("_law_k", 3)]) rfl sc_law_signs.nd (pif_range1 (by rfl) T.z_range (paf_cons (pf_var 1) paf_nil)) (blkOk_by (N := N_law_signs) (sc := defScope s_law_signs) (by decide +kernel)) (fun _ _ _ _ _ => (pgf_name 3 sc_law_signs.nd rfl (.inl rfl))) (fun _ _ _ _ _ => ptsf_nil) (fun _ _ _ _ _ => (pf_ix (ix_d hr.u1 rfl) pf_str (pf_call (G_law_take T) (hr.mono (by decide)) tk0 (by rfl) T.g_law_take T.F_law_take.kp T.b_law_take (paf_cons (pf_var 0) (paf_cons (pf_ix (ix_d hr.u1 rfl) (pf_lst (paf_cons pf_int (paf_cons pf_int (paf_cons pf_int paf_nil)))) (pf_var 2)) paf_nil)))))) paf_nil)))))
theorem G_law_words (T : TX K mg) : FnOk PP w K mg base (L2.CX PP w) 8 T.f_law_words T.d_law_words ["_law_box_here"] (spD (zt T) 1 D_law_words) :=
  fn_d (Z := zt T) (K := K) (N := N_law_words) (fb := B_law_words) (DN.Fun.d T.F_law_words) sc_law_words fun cdv A outer s H E hr =>
    (psf_cons (psf_asg (pf_tup (paf_cons (pf_call (G_law_take T) (hr.mono (by decide)) tkd (by rfl) T.g_law_take T.F_law_take.kp T.b_law_take (paf_cons (pf_var 0) (paf_cons pf_int paf_nil))) (paf_cons (pf_op (od_add rfl) pf_int (pf_call (G_law_take T) (hr.mono (by decide)) tkd (by rfl) T.g_law_take T.F_law_take.kp T.b_law_take (paf_cons (pf_var 0) (paf_cons (pf_ix (ix_d hr.u1 rfl) (pf_lst (paf_cons pf_int (paf_cons pf_int paf_nil))) (pf_callT cd_int (by rfl) T.z_int (by decide +kernel) (paf_cons (pf_eqO (csok T) (AllM.cons ⟨⟨⟨_, _, _, _, hr.mono (by decide), oeZ_Addresses T, G_Addresses_eq T, T.b_Addresses_eq⟩⟩⟩ AllM.nil) hr.u64 rfl (pf_call (G_law_take T) (hr.mono (by decide)) tkd (by rfl) T.g_law_take T.F_law_take.kp T.b_law_take (paf_cons (pf_var 0) (paf_cons pf_int paf_nil))) pf_int (nomark _)) paf_nil))) paf_nil)))) paf_nil))) (pgf_tup rfl rfl (pgfs_cons (pgf_name 1 sc_law_words.nd rfl (.inr rfl)) (pgfs_cons (pgf_name 2 sc_law_words.nd rfl (.inl rfl)) pgfs_nil))))
    (psf_cons (psf_if (ptf_eqO (csok T) (AllM.cons ⟨⟨⟨_, _, _, _, hr.mono (by decide), oeZ_Addresses T, G_Addresses_eq T, T.b_Addresses_eq⟩⟩⟩ AllM.nil) hr.u64 rfl (pf_call (G_law_take T) (hr.mono (by decide)) tkd (by rfl) T.g_law_take T.F_law_take.kp T.b_law_take (paf_cons (pf_var 0) (paf_cons pf_int paf_nil))) pf_int (nomark _)) (psf_one (psf_set 1 sc_law_words.nd rfl (.inr rfl) (pf_op (od_add rfl) pf_int (pf_call (G_law_take T) (hr.mono (by decide)) tkd (by rfl) T.g_law_take T.F_law_take.kp T.b_law_take (paf_cons (pf_var 0) (paf_cons pf_int paf_nil)))))) psf_nil)
    (psf_one (psf_ret (pf_lc (own := [("_law_k", 3)]) rfl sc_law_words.nd (pif_range1 (by rfl) T.z_range (paf_cons (pf_var 2) paf_nil)) (blkOk_by (N := N_law_words) (sc := defScope s_law_words) (by decide +kernel)) (fun _ _ _ _ _ => (pgf_name 3 sc_law_words.nd rfl (.inl rfl))) (fun _ _ _ _ _ => ptsf_nil) (fun _ _ _ _ _ => (pf_call (G_law_signs T) (hr.mono (by decide)) tk0 (by rfl) T.g_law_signs T.F_law_signs.kp T.b_law_signs (paf_cons (pf_var 0) (paf_cons (pf_var 1) paf_nil)))))))))
theorem G_law_other_words (T : TX K mg) : FnOk PP w K mg base (L2.CX PP w) 7 T.f_law_other_words T.d_law_other_words ["_law_box_here", "_law_words_here"] (spD (zt T) 2 D_law_other_words) :=
  fn_d (Z := zt T) (K := K) (N := N_law_other_words) (fb := B_law_other_words) (DN.Fun.d T.F_law_other_words) sc_law_other_words fun cdv A outer s H E hr =>
    (psf_cons (psf_set 2 sc_law_other_words.nd rfl (.inl rfl) (pf_call (G_law_take T) (hr.mono (by decide)) tkd (by rfl) T.g_law_take T.F_law_take.kp T.b_law_take (paf_cons (pf_var 0) (paf_cons (pf_lenO (AllM.cons ⟨⟨⟨_, _, _, _, hr.mono (by decide), oZ_Addresses_len T, G_Addresses_len T, T.b_Addresses_len⟩⟩⟩ AllM.nil) rfl (by rfl) T.z_len (paf_cons (pf_var 1) paf_nil)) paf_nil))))
    (psf_cons (psf_par 3 4 (by rfl) sc_law_other_words.nd rfl rfl (by decide) rfl rfl (paf_cons (pf_ixO (AllM.cons ⟨⟨⟨_, _, _, _, hr.mono (by decide), oZ_Addresses_getitem T, G_Addresses_getitem T, T.b_Addresses_getitem⟩⟩⟩ AllM.nil) hr.u1 rfl (pf_var 1) (pf_var 2)) (paf_cons (pf_call (G_law_take T) (hr.mono (by decide)) tkd (by rfl) T.g_law_take T.F_law_take.kp T.b_law_take (paf_cons (pf_var 0) (paf_cons pf_int paf_nil))) paf_nil)) (by rfl))
    (psf_cons (psf_if (ptf_w (pwf_and (ptf_eqO (csok T) (AllM.cons ⟨⟨⟨_, _, _, _, hr.mono (by decide), oeZ_Addresses T, G_Addresses_eq T, T.b_Addresses_eq⟩⟩⟩ AllM.nil) hr.u64 rfl (pf_var 4) pf_int (nomark _)) (pwf_one (ptf_neO (csok T) (AllM.cons ⟨⟨⟨_, _, _, _, hr.mono (by decide), oeZ_Addresses T, G_Addresses_eq T, T.b_Addresses_eq⟩⟩⟩ AllM.nil) hr.u64 rfl (pf_var 3) pf_str (nomark _))))) (psf_cons (psf_set 5 sc_law_other_words.nd rfl (.inl rfl) (pf_call (G_law_take T) (hr.mono (by decide)) tkd (by rfl) T.g_law_take T.F_law_take.kp T.b_law_take (paf_cons (pf_var 0) (paf_cons (pf_lenO (AllM.cons ⟨⟨⟨_, _, _, _, hr.mono (by decide), oZ_Addresses_len T, G_Addresses_len T, T.b_Addresses_len⟩⟩⟩ AllM.nil) rfl (by rfl) T.z_len (paf_cons (pf_var 3) paf_nil)) paf_nil))))
    (psf_cons (psf_set 6 sc_law_other_words.nd rfl (.inl rfl) (pf_ix (ix_d hr.u1 rfl) (pf_disp [(.inr "0", .str "1"), (.inr "1", .str "*"), (.inr "*", .str "0")] [.str "0", .str "1", .str "*"] [.str "1", .str "*", .str "0"] (pps_cons pe_str pe_str (pps_cons pe_str pe_str (pps_cons pe_str pe_str pps_nil))) rfl (fun _ => (OnL.cons' on_str (OnL.cons' on_str (OnL.cons' on_str OnL.nil')))) rfl (by decide)) (pf_ixO (AllM.cons ⟨⟨⟨_, _, _, _, hr.mono (by decide), oZ_Addresses_getitem T, G_Addresses_getitem T, T.b_Addresses_getitem⟩⟩⟩ AllM.nil) hr.u1 rfl (pf_var 3) (pf_var 5))))
    (psf_cons (psf_set 7 sc_law_other_words.nd rfl (.inl rfl) (pf_op (od_add rfl) (pf_op (od_add rfl) (pf_slice rfl (pf_var 3) pof_none (pof_some (pf_var 5))) (pf_var 6)) (pf_slice rfl (pf_var 3) (pof_some (pf_op (od_add rfl) (pf_var 5) pf_int)) pof_none)))
    (psf_one (psf_ret (pf_op (od_add rfl) (pf_op (od_add rfl) (pf_slice rfl (pf_var 1) pof_none (pof_some (pf_var 2))) (pf_lst (paf_cons (pf_var 7) paf_nil))) (pf_slice rfl (pf_var 1) (pof_some (pf_op (od_add rfl) (pf_var 2) pf_int)) pof_none))))))) psf_nil)
    (psf_cons (psf_if (ptf_w (pwf_and (ptf_eqO (csok T) (AllM.cons ⟨⟨⟨_, _, _, _, hr.mono (by decide), oeZ_Addresses T, G_Addresses_eq T, T.b_Addresses_eq⟩⟩⟩ AllM.nil) hr.u64 rfl (pf_var 4) pf_int (nomark _)) (pwf_one (ptf_cmp od_gt (pf_lenO (AllM.cons ⟨⟨⟨_, _, _, _, hr.mono (by decide), oZ_Addresses_len T, G_Addresses_len T, T.b_Addresses_len⟩⟩⟩ AllM.nil) rfl (by rfl) T.z_len (paf_cons (pf_var 1) paf_nil)) pf_int (nomark _))))) (psf_one (psf_ret (pf_slice rfl (pf_var 1) pof_none (pof_some (pf_un ud_neg pf_int))))) psf_nil)
    (psf_one (psf_ret (pf_lc (own := [("_law_own", 8)]) rfl sc_law_other_words.nd (pif_val rfl (pf_var 1)) (blkOk_by (N := N_law_other_words) (sc := defScope s_law_other_words) (by decide +kernel)) (fun _ _ _ _ _ => (pgf_name 8 sc_law_other_words.nd rfl (.inl rfl))) (fun _ _ _ _ _ => ptsf_nil) (fun _ _ _ _ _ => (pf_op (od_add rfl) (pf_var 8) pf_str)))))))))
theorem G_law_cell_at (T : TX K mg) : FnOk PP w K mg base (L2.CX PP w) 6 T.f_law_cell_at T.d_law_cell_at ["_law_script", "_law_k"] (spD (zt T) 2 D_law_cell_at) :=
  fn_d (Z := zt T) (K := K) (N := N_law_cell_at) (fb := B_law_cell_at) (DN.Fun.d T.F_law_cell_at) sc_law_cell_at fun cdv A outer s H E hr =>
    (psf_cons (psf_if (ptf_cmp od_lt (pf_var 1) (pf_lenO (AllM.cons ⟨⟨⟨_, _, _, _, hr.mono (by decide), oZ_Addresses_len T, G_Addresses_len T, T.b_Addresses_len⟩⟩⟩ AllM.nil) rfl (by rfl) T.z_len (paf_cons (pf_var 0) paf_nil)) (nomark _)) (psf_one (psf_ret (pf_ixO (AllM.cons ⟨⟨⟨_, _, _, _, hr.mono (by decide), oZ_Addresses_getitem T, G_Addresses_getitem T, T.b_Addresses_getitem⟩⟩⟩ AllM.nil) hr.u1 rfl (pf_var 0) (pf_var 1)))) psf_nil)
    (psf_one (psf_ret (pf_op (od_add rfl) (pf_op od_mul pf_int (pf_var 1)) pf_int))))
theorem G_Addresses_str (T : TX K mg) : FnOk PP w K mg base (L2.CX PP w) 1 T.f_Addresses_str T.d_Addresses_str ["self"] (spD (zt T) 1 D_Addresses_str) :=
  fn_d (Z := zt T) (K := K) (N := N_Addresses_str) (fb := B_Addresses_str) (DN.Fun.d T.F_Addresses_str) sc_Addresses_str fun cdv A outer s H E hr =>
    (psf_one (psf_ret (pf_meth md_join PySem.F.plainAttrs_str PySem.F.slot_str_join PySem.F.type_str_join rfl pf_str (paf_cons (pf_fld ["Addresses"] rfl (AllC.cons (fd_Addresses_kept T) AllC.nil) (pf_var 0)) paf_nil))))
theorem G_Addresses_read (T : TX K mg) : FnOk PP w K mg base (L2.CX PP w) 9 T.f_Addresses_read T.d_Addresses_read ["cls", "text"] (spD (zt T) 2 D_Addresses_read) :=
  fn_d (Z := zt T) (K := K) (N := N_Addresses_read) (fb := B_Addresses_read) (DN.Fun.d T.F_Addresses_read) sc_Addresses_read fun cdv A outer s H E hr =>
    (psf_cons (psf_if (ptf_w (pwf_or (ptf_not (ptf_val (pf_callB (cd_isi (csok T) rfl) (by rfl) T.z_isinstance (by decide +kernel) (paf_cons (pf_var 1) (paf_cons (pf_bltn (v := .ty "str") (u := .type "str") (by rfl) T.z_str (by decide +kernel) rfl (fun _ => on_ty)) paf_nil))))) (pwf_one (ptf_not (ptf_val (pf_call (G_are_words T) (hr.mono (by decide)) tkd (by rfl) T.g_are_words T.F_are_words.kp T.b_are_words (paf_cons (pf_meth md_split PySem.F.plainAttrs_str PySem.F.slot_str_split PySem.F.type_str_split rfl (pf_var 1) (paf_cons pf_str paf_nil)) paf_nil))))))) (psf_one psf_no) psf_nil)
    (psf_one (psf_ret (pf_makeL (i := 0) ⟨⟨_, _, _, _, _, _, hr.mono (by decide), mkZ_Addresses T, G_Addresses_init T, T.b_Addresses_init, .nil, fun _ => OnL.nil'⟩⟩ tkd rfl (by first | exact .inl rfl | exact .inr (.inl rfl)) (paf_cons (pf_meth md_split PySem.F.plainAttrs_str PySem.F.slot_str_split PySem.F.type_str_split rfl (pf_var 1) (paf_cons pf_str paf_nil)) paf_nil)))))
theorem G_law_apart (T : TX K mg) : FnOk PP w K mg base (L2.CX PP w) 6 T.f_law_apart T.d_law_apart ["_law_one", "_law_other"] (spD (zt T) 2 D_law_apart) :=
  fn_d (Z := zt T) (K := K) (N := N_law_apart) (fb := B_law_apart) (DN.Fun.d T.F_law_apart) sc_law_apart fun cdv A outer s H E hr =>
    (psf_one (psf_ret (pf_callB (cd_len rfl) (by rfl) T.z_len (by decide +kernel) (paf_cons (pf_lc (own := [("_law_k", 2)]) rfl sc_law_apart.nd (pif_range1 (by rfl) T.z_range (paf_cons (pf_lenO (AllM.cons ⟨⟨⟨_, _, _, _, hr.mono (by decide), oZ_Addresses_len T, G_Addresses_len T, T.b_Addresses_len⟩⟩⟩ AllM.nil) rfl (by rfl) T.z_len (paf_cons (pf_var 0) paf_nil)) paf_nil)) (blkOk_by (N := N_law_apart) (sc := defScope s_law_apart) (by decide +kernel)) (fun _ _ _ _ _ => (pgf_name 2 sc_law_apart.nd rfl (.inl rfl))) (fun _ _ _ _ _ => (ptsf_one (ptf_cmp (od_in hr.u65 rfl) (pf_lst (paf_cons (pf_ixO (AllM.cons ⟨⟨⟨_, _, _, _, hr.mono (by decide), oZ_Addresses_getitem T, G_Addresses_getitem T, T.b_Addresses_getitem⟩⟩⟩ AllM.nil) hr.u1 rfl (pf_var 0) (pf_var 2)) (paf_cons (pf_ixO (AllM.cons ⟨⟨⟨_, _, _, _, hr.mono (by decide), oZ_Addresses_getitem T, G_Addresses_getitem T, T.b_Addresses_getitem⟩⟩⟩ AllM.nil) hr.u1 rfl (pf_var 1) (pf_var 2)) paf_nil))) (pf_lst (paf_cons (pf_lst (paf_cons pf_str (paf_cons pf_str paf_nil))) (paf_cons (pf_lst (paf_cons pf_str (paf_cons pf_str paf_nil))) paf_nil))) (by rfl)))) (fun _ _ _ _ _ => (pf_var 2))) paf_nil))))
theorem G_Addresses_words (T : TX K mg) : FnOk PP w K mg base (L2.CX PP w) 1 T.f_Addresses_words T.d_Addresses_words ["self"] (spD (zt T) 1 D_Addresses_words) :=
  fn_d (Z := zt T) (K := K) (N := N_Addresses_words) (fb := B_Addresses_words) (DN.Fun.d T.F_Addresses_words) sc_Addresses_words fun cdv A outer s H E hr =>
    (psf_one (psf_ret (pf_fld ["Addresses"] rfl (AllC.cons (fd_Addresses_kept T) AllC.nil) (pf_var 0))))
theorem G_Addresses_length (T : TX K mg) : FnOk PP w K mg base (L2.CX PP w) 1 T.f_Addresses_length T.d_Addresses_length ["self"] (spD (zt T) 1 D_Addresses_length) :=
  fn_d (Z := zt T) (K := K) (N := N_Addresses_length) (fb := B_Addresses_length) (DN.Fun.d T.F_Addresses_length) sc_Addresses_length fun cdv A outer s H E hr =>
    (psf_one (psf_ret (pf_callB (cd_len rfl) (by rfl) T.z_len (by decide +kernel) (paf_cons (pf_ix (ix_d hr.u1 rfl) (pf_fld ["Addresses"] rfl (AllC.cons (fd_Addresses_kept T) AllC.nil) (pf_var 0)) pf_int) paf_nil))))
theorem G_check_word (T : TX K mg) : FnOk PP w K mg base (L2.CX PP w) 5 T.f_check_word T.d_check_word ["value"] (spD (zt T) 1 D_check_word) :=
  fn_d (Z := zt T) (K := K) (N := N_check_word) (fb := B_check_word) (DN.Fun.d T.F_check_word) sc_check_word fun cdv A outer s H E hr =>
    (psf_one (psf_if (ptf_not (ptf_val (pf_call (G_is_word T) (hr.mono (by decide)) tkd (by rfl) T.g_is_word T.F_is_word.kp T.b_is_word (paf_cons (pf_var 0) paf_nil)))) (psf_one psf_no) psf_nil))
theorem G_differing (T : TX K mg) : FnOk PP w K mg base (L2.CX PP w) 6 T.f_differing T.d_differing ["one", "other"] (spD (zt T) 2 D_differing) :=
  fn_d (Z := zt T) (K := K) (N := N_differing) (fb := B_differing) (DN.Fun.d T.F_differing) sc_differing fun cdv A outer s H E hr =>
    (psf_cons (psf_expr (pf_call (G_check_word T) (hr.mono (by decide)) tkd (by rfl) T.g_check_word T.F_check_word.kp T.b_check_word (paf_cons (pf_var 0) paf_nil)))
    (psf_cons (psf_expr (pf_call (G_check_word T) (hr.mono (by decide)) tkd (by rfl) T.g_check_word T.F_check_word.kp T.b_check_word (paf_cons (pf_var 1) paf_nil)))
    (psf_cons (psf_if (ptf_cmp (od_ne hr.u64 rfl) (pf_lenO (AllM.cons ⟨⟨⟨_, _, _, _, hr.mono (by decide), oZ_Addresses_len T, G_Addresses_len T, T.b_Addresses_len⟩⟩⟩ AllM.nil) rfl (by rfl) T.z_len (paf_cons (pf_var 0) paf_nil)) (pf_lenO (AllM.cons ⟨⟨⟨_, _, _, _, hr.mono (by decide), oZ_Addresses_len T, G_Addresses_len T, T.b_Addresses_len⟩⟩⟩ AllM.nil) rfl (by rfl) T.z_len (paf_cons (pf_var 1) paf_nil)) (nomark _)) (psf_one psf_no) psf_nil)
    (psf_one (psf_ret (pf_lc (own := [("place", 2), ("signs", 3)]) rfl sc_differing.nd (pif_ez (by rfl) T.z_enumerate (by rfl) T.z_zip (paf_cons (pf_var 0) (paf_cons (pf_var 1) paf_nil))) (blkOk_by (N := N_differing) (sc := defScope s_differing) (by decide +kernel)) (fun _ _ _ _ _ => (pgf_tup rfl rfl (pgfs_cons (pgf_name 2 sc_differing.nd rfl (.inl rfl)) (pgfs_cons (pgf_name 3 sc_differing.nd rfl (.inl rfl)) pgfs_nil)))) (fun _ _ _ _ _ => (ptsf_one (ptf_cmp (od_in hr.u65 rfl) (pf_var 3) (pf_tup (paf_cons (pf_tup (paf_cons pf_str (paf_cons pf_str paf_nil))) (paf_cons (pf_tup (paf_cons pf_str (paf_cons pf_str paf_nil))) paf_nil))) (by rfl)))) (fun _ _ _ _ _ => (pf_var 2))))))))
theorem G_apart (T : TX K mg) : FnOk PP w K mg base (L2.CX PP w) 7 T.f_apart T.d_apart ["one", "other"] (spD (zt T) 2 D_apart) :=
  fn_d (Z := zt T) (K := K) (N := N_apart) (fb := B_apart) (DN.Fun.d T.F_apart) sc_apart fun cdv A outer s H E hr =>
    (psf_one (psf_ret (pf_lenO (AllM.cons ⟨⟨⟨_, _, _, _, hr.mono (by decide), oZ_Addresses_len T, G_Addresses_len T, T.b_Addresses_len⟩⟩⟩ AllM.nil) rfl (by rfl) T.z_len (paf_cons (pf_call (G_differing T) (hr.mono (by decide)) tkd (by rfl) T.g_differing T.F_differing.kp T.b_differing (paf_cons (pf_var 0) (paf_cons (pf_var 1) paf_nil))) paf_nil))))
theorem G_Addresses_table (T : TX K mg) : FnOk PP w K mg base (L2.CX PP w) 8 T.f_Addresses_table T.d_Addresses_table ["self"] (spD (zt T) 1 D_Addresses_table) :=
  fn_d (Z := zt T) (K := K) (N := N_Addresses_table) (fb := B_Addresses_table) (DN.Fun.d T.F_Addresses_table) sc_Addresses_table fun cdv A outer s H E hr =>
    (psf_one (psf_ret (pf_lc (own := [("word", 2)]) rfl sc_Addresses_table.nd (pif_val rfl (pf_fld ["Addresses"] rfl (AllC.cons (fd_Addresses_kept T) AllC.nil) (pf_var 0))) (blkOk_by (N := N_Addresses_table) (sc := defScope s_Addresses_table) (by decide +kernel)) (fun _ _ _ _ _ => (pgf_name 2 sc_Addresses_table.nd rfl (.inr rfl))) (fun _ _ _ _ _ => ptsf_nil) (fun _ _ _ _ _ => (pf_callT cd_tuple (by rfl) T.z_tuple (by decide +kernel) (paf_cons (pf_lc (own := [("other", 1)]) rfl sc_Addresses_table.nd (pif_val rfl (pf_fld ["Addresses"] rfl (AllC.cons (fd_Addresses_kept T) AllC.nil) (pf_var 0))) (blkOk_by (by rfl)) (fun _ _ _ _ _ => (pgf_name 1 sc_Addresses_table.nd rfl (.inl rfl))) (fun _ _ _ _ _ => ptsf_nil) (fun _ _ _ _ _ => (pf_call (G_apart T) (hr.mono (by decide)) tk0 (by rfl) T.g_apart_words T.F_apart.kp T.b_apart (paf_cons (pf_var 2) (paf_cons (pf_var 1) paf_nil))))) paf_nil))))))
theorem G_Addresses_apart (T : TX K mg) : FnOk PP w K mg base (L2.CX PP w) 8 T.f_Addresses_apart T.d_Addresses_apart ["self", "one", "other"] (spD (zt T) 3 D_Addresses_apart) :=
  fn_d (Z := zt T) (K := K) (N := N_Addresses_apart) (fb := B_Addresses_apart) (DN.Fun.d T.F_Addresses_apart) sc_Addresses_apart fun cdv A outer s H E hr =>
    (psf_cons (psf_expr (pf_methD tkd (AllM.cons ⟨⟨⟨_, _, _, _, hr.mono (by decide), clZ_Addresses T, mZ_Addresses_check_house T, G_Addresses_check_house T, T.b_Addresses_check_house⟩⟩, by decide⟩ AllM.nil) (pf_var 0) (paf_cons (pf_var 1) paf_nil)))
    (psf_cons (psf_expr (pf_methD tkd (AllM.cons ⟨⟨⟨_, _, _, _, hr.mono (by decide), clZ_Addresses T, mZ_Addresses_check_house T, G_Addresses_check_house T, T.b_Addresses_check_house⟩⟩, by decide⟩ AllM.nil) (pf_var 0) (paf_cons (pf_var 2) paf_nil)))
    (psf_one (psf_ret (pf_call (G_apart T) (hr.mono (by decide)) tkd (by rfl) T.g_apart_words T.F_apart.kp T.b_apart (paf_cons (pf_ix (ix_d hr.u1 rfl) (pf_fld ["Addresses"] rfl (AllC.cons (fd_Addresses_kept T) AllC.nil) (pf_var 0)) (pf_var 1)) (paf_cons (pf_ix (ix_d hr.u1 rfl) (pf_fld ["Addresses"] rfl (AllC.cons (fd_Addresses_kept T) AllC.nil) (pf_var 0)) (pf_var 2)) paf_nil)))))))
theorem G_law_right (T : TX K mg) : FnOk PP w K mg base (L2.CX PP w) 9 T.f_law_right T.d_law_right ["_law_words_here", "_law_book"] (spD (zt T) 2 D_law_right) :=
  fn_d (Z := zt T) (K := K) (N := N_law_right) (fb := B_law_right) (DN.Fun.d T.F_law_right) sc_law_right fun cdv A outer s H E hr =>
    (psf_cons (psf_setLc 2 (own := [("_law_one", 4)]) rfl sc_law_right.nd rfl rfl (sw_true rfl rfl rfl (by decide +kernel)) (pif_val rfl (pf_var 0)) (blkOk_by (N := N_law_right) (sc := defScope s_law_right) (by decide +kernel)) (fun _ _ _ _ _ => (pgf_name 4 sc_law_right.nd rfl (.inr rfl))) (fun _ _ _ _ _ => ptsf_nil) (fun _ _ _ _ _ => (pf_callT cd_tuple (by rfl) T.z_tuple (by decide +kernel) (paf_cons (pf_lc (own := [("_law_other", 3)]) rfl sc_law_right.nd (pif_val rfl (pf_var 0)) (blkOk_by (by rfl)) (fun _ _ _ _ _ => (pgf_name 3 sc_law_right.nd rfl (.inl rfl))) (fun _ _ _ _ _ => ptsf_nil) (fun _ _ _ _ _ => (pf_call (G_law_apart T) (hr.mono (by decide)) tk0 (by rfl) T.g_law_apart T.F_law_apart.kp T.b_law_apart (paf_cons (pf_var 4) (paf_cons (pf_var 3) paf_nil))))) paf_nil))))
    (psf_cons (psf_if (ptf_w (pwf_or (ptf_cmp (od_ne hr.u64 rfl) (pf_prop (T := [("Addresses", 1, D_Addresses_words)]) (AllM.cons ⟨⟨⟨_, _, _, _, _, hr.mono (by decide), clZ_Addresses T, pZ_Addresses_words T, G_Addresses_words T, T.b_Addresses_words⟩⟩⟩ AllM.nil) (pf_var 1)) (pf_callT cd_tuple (by rfl) T.z_tuple (by decide +kernel) (paf_cons (pf_var 0) paf_nil)) (nomark _)) (pwf_one (ptf_cmp (od_ne hr.u64 rfl) (pf_prop (T := [("Addresses", 1, D_Addresses_length)]) (AllM.cons ⟨⟨⟨_, _, _, _, _, hr.mono (by decide), clZ_Addresses T, pZ_Addresses_length T, G_Addresses_length T, T.b_Addresses_length⟩⟩⟩ AllM.nil) (pf_var 1)) (pf_lenO (AllM.cons ⟨⟨⟨_, _, _, _, hr.mono (by decide), oZ_Addresses_len T, G_Addresses_len T, T.b_Addresses_len⟩⟩⟩ AllM.nil) rfl (by rfl) T.z_len (paf_cons (pf_ixO (AllM.cons ⟨⟨⟨_, _, _, _, hr.mono (by decide), oZ_Addresses_getitem T, G_Addresses_getitem T, T.b_Addresses_getitem⟩⟩⟩ AllM.nil) hr.u1 rfl (pf_var 0) pf_int) paf_nil)) (nomark _))))) (psf_one (psf_ret pf_bl)) psf_nil)
    (psf_cons (psf_setC 5 sc_law_right.nd rfl (.inl rfl) (pf_methD0 tkd (AllM.cons ⟨⟨⟨_, _, _, _, hr.mono (by decide), clZ_Addresses T, mZ_Addresses_table T, G_Addresses_table T, T.b_Addresses_table⟩⟩, by decide⟩ AllM.nil) (pf_var 1)))
    (psf_cons (psf_if (ptf_w (pwf_or (ptf_not (ptf_val (pf_callB (cd_isi (csok T) rfl) (by rfl) T.z_isinstance (by decide +kernel) (paf_cons (pf_var 5) (paf_cons (pf_bltn (v := .ty "list") (u := .type "list") (by rfl) T.z_list (by decide +kernel) rfl (fun _ => on_ty)) paf_nil))))) (pwf_or (ptf_neO (csok T) (AllM.cons ⟨⟨⟨_, _, _, _, hr.mono (by decide), oeZ_Addresses T, G_Addresses_eq T, T.b_Addresses_eq⟩⟩⟩ AllM.nil) hr.u64 rfl (pf_var 5) (pf_var 2) (nomark _)) (pwf_one (ptf_cmp (od_ne hr.u64 rfl) (pf_lc (own := [("_law_k", 6)]) rfl sc_law_right.nd (pif_range1 (by rfl) T.z_range (paf_cons (pf_lenO (AllM.cons ⟨⟨⟨_, _, _, _, hr.mono (by decide), oZ_Addresses_len T, G_Addresses_len T, T.b_Addresses_len⟩⟩⟩ AllM.nil) rfl (by rfl) T.z_len (paf_cons (pf_var 0) paf_nil)) paf_nil)) (blkOk_by (N := N_law_right) (sc := defScope s_law_right) (by decide +kernel)) (fun _ _ _ _ _ => (pgf_name 6 sc_law_right.nd rfl (.inl rfl))) (fun _ _ _ _ _ => ptsf_nil) (fun _ _ _ _ _ => (pf_ixO (AllM.cons ⟨⟨⟨_, _, _, _, hr.mono (by decide), oZ_Addresses_getitem T, G_Addresses_getitem T, T.b_Addresses_getitem⟩⟩⟩ AllM.nil) hr.u1 rfl (pf_var 1) (pf_var 6)))) (pf_var 0) (nomark _)))))) (psf_one (psf_ret pf_bl)) psf_nil)
    (psf_cons (psf_expr (pf_mut0 md_clear PySem.F.slot_list_clear PySem.F.type_list_clear rfl (pf_var 5)))
    (psf_cons (psf_for pod rfl (pif_range1 (by rfl) T.z_range (paf_cons (pf_lenO (AllM.cons ⟨⟨⟨_, _, _, _, hr.mono (by decide), oZ_Addresses_len T, G_Addresses_len T, T.b_Addresses_len⟩⟩⟩ AllM.nil) rfl (by rfl) T.z_len (paf_cons (pf_var 0) paf_nil)) paf_nil)) (pgf_name 6 sc_law_right.nd rfl (.inr rfl))
      (psf_cons (psf_set 7 sc_law_right.nd rfl (.inl rfl) (pf_callB (cd_max rfl rfl) (by rfl) T.z_max (by decide +kernel) (paf_cons pf_int (paf_cons (pf_op od_sub (pf_lenO (AllM.cons ⟨⟨⟨_, _, _, _, hr.mono (by decide), oZ_Addresses_len T, G_Addresses_len T, T.b_Addresses_len⟩⟩⟩ AllM.nil) rfl (by rfl) T.z_len (paf_cons (pf_var 0) paf_nil)) pf_int) paf_nil))))
    (psf_one (psf_if (ptf_cmp (od_ne hr.u64 rfl) (pf_lc (own := [("_law_j", 8)]) rfl sc_law_right.nd (pif_range2 (by rfl) T.z_range (paf_cons (pf_var 7) (paf_cons (pf_lenO (AllM.cons ⟨⟨⟨_, _, _, _, hr.mono (by decide), oZ_Addresses_len T, G_Addresses_len T, T.b_Addresses_len⟩⟩⟩ AllM.nil) rfl (by rfl) T.z_len (paf_cons (pf_var 0) paf_nil)) paf_nil))) (blkOk_by (N := N_law_right) (sc := defScope s_law_right) (by decide +kernel)) (fun _ _ _ _ _ => (pgf_name 8 sc_law_right.nd rfl (.inl rfl))) (fun _ _ _ _ _ => ptsf_nil) (fun _ _ _ _ _ => (pf_methD tk0 (AllM.cons ⟨⟨⟨_, _, _, _, hr.mono (by decide), clZ_Addresses T, mZ_Addresses_apart T, G_Addresses_apart T, T.b_Addresses_apart⟩⟩, by decide⟩ AllM.nil) (pf_var 1) (paf_cons (pf_var 6) (paf_cons (pf_var 8) paf_nil))))) (pf_callT (cd_list rfl rfl) (by rfl) T.z_list (by decide +kernel) (paf_cons (pf_slice rfl (pf_ixO (AllM.cons ⟨⟨⟨_, _, _, _, hr.mono (by decide), oZ_Addresses_getitem T, G_Addresses_getitem T, T.b_Addresses_getitem⟩⟩⟩ AllM.nil) hr.u1 rfl (pf_var 2) (pf_var 6)) (pof_some (pf_var 7)) pof_none) paf_nil)) (nomark _)) (psf_one (psf_ret pf_bl)) psf_nil))))
    (psf_one (psf_ret (pf_and (pf_eqO (csok T) (AllM.cons ⟨⟨⟨_, _, _, _, hr.mono (by decide), oeZ_Addresses T, G_Addresses_eq T, T.b_Addresses_eq⟩⟩⟩ AllM.nil) hr.u64 rfl (pf_methD0 tkd (AllM.cons ⟨⟨⟨_, _, _, _, hr.mono (by decide), clZ_Addresses T, mZ_Addresses_table T, G_Addresses_table T, T.b_Addresses_table⟩⟩, by decide⟩ AllM.nil) (pf_var 1)) (pf_var 2) (nomark _)) (pf_one (pf_cmp (od_eq hr.u64 rfl) (pf_strO (AllM.cons ⟨⟨⟨_, _, _, _, hr.mono (by decide), oZ_Addresses_str T, G_Addresses_str T, T.b_Addresses_str⟩⟩⟩ AllM.nil) (by rfl) T.z_str (paf_cons (pf_var 1) paf_nil)) (pf_meth md_join PySem.F.plainAttrs_str PySem.F.slot_str_join PySem.F.type_str_join rfl pf_str (paf_cons (pf_var 0) paf_nil)) (nomark _))))))))))))
theorem G_law_end (T : TX K mg) {f : Addr} {fd : FuncData} (F : Fun K "law" "law" s_law f fd) : FnOk PP w K mg base (L2.CX PP w) 10 f fd ["_law_script"] (spD (zt T) 1 D_law) :=
  fn_d (Z := zt T) (K := K) (N := N_law) (fb := B_law) (DN.Fun.d F) sc_law fun cdv A outer s H E hr =>
    (psf_cons (psf_for pod rfl (pif_range1 (by rfl) T.z_range (paf_cons (pf_callB (cd_max rfl rfl) (by rfl) T.z_max (by decide +kernel) (paf_cons pf_int (paf_cons (pf_callB (cd_min rfl rfl) (by rfl) T.z_min (by decide +kernel) (paf_cons pf_int (paf_cons (pf_lenO (AllM.cons ⟨⟨⟨_, _, _, _, hr.mono (by decide), oZ_Addresses_len T, G_Addresses_len T, T.b_Addresses_len⟩⟩⟩ AllM.nil) rfl (by rfl) T.z_len (paf_cons (pf_var 0) paf_nil)) paf_nil))) paf_nil))) paf_nil)) (pgf_name 1 sc_law.nd rfl (.inl rfl))
      (psf_cons (psf_setC 2 sc_law.nd rfl (.inl rfl) (pf_call (G_law_box T) (hr.mono (by decide)) tkd (by rfl) T.g_law_box T.F_law_box.kp T.b_law_box (paf_cons (pf_call (G_law_cell_at T) (hr.mono (by decide)) tkd (by rfl) T.g_law_cell_at T.F_law_cell_at.kp T.b_law_cell_at (paf_cons (pf_var 0) (paf_cons (pf_var 1) paf_nil))) paf_nil)))
    (psf_cons (psf_set 3 sc_law.nd rfl (.inl rfl) (pf_call (G_law_words T) (hr.mono (by decide)) tkd (by rfl) T.g_law_words T.F_law_words.kp T.b_law_words (paf_cons (pf_var 2) paf_nil)))
    (psf_cons (psf_setC 4 sc_law.nd rfl (.inl rfl) (pf_callT (cd_list rfl rfl) (by rfl) T.z_list (by decide +kernel) (paf_cons (pf_var 3) paf_nil)))
    (psf_cons (psf_par 5 6 (by rfl) sc_law.nd rfl rfl (by decide) rfl rfl (paf_cons (pf_make ⟨⟨_, _, _, _, _, _, hr.mono (by decide), mkZ_Addresses T, G_Addresses_init T, T.b_Addresses_init, .nil, fun _ => OnL.nil'⟩⟩ tkd (by rfl) (gZ_Addresses T) (paf_cons (pf_var 4) paf_nil)) (paf_cons (pf_make ⟨⟨_, _, _, _, _, _, hr.mono (by decide), mkZ_Addresses T, G_Addresses_init T, T.b_Addresses_init, .nil, fun _ => OnL.nil'⟩⟩ tkd (by rfl) (gZ_Addresses T) (paf_cons (pf_callT cd_tuple (by rfl) T.z_tuple (by decide +kernel) (paf_cons (pf_var 3) paf_nil)) paf_nil)) paf_nil)) (by rfl))
    (psf_cons (psf_sub (pf_var 4) pf_int pf_str)
    (psf_cons (psf_set 7 sc_law.nd rfl (.inl rfl) (pf_call (G_law_other_words T) (hr.mono (by decide)) tkd (by rfl) T.g_law_other_words T.F_law_other_words.kp T.b_law_other_words (paf_cons (pf_var 2) (paf_cons (pf_var 3) paf_nil))))
    (psf_cons (psf_set 8 sc_law.nd rfl (.inl rfl) (pf_make ⟨⟨_, _, _, _, _, _, hr.mono (by decide), mkZ_Addresses T, G_Addresses_init T, T.b_Addresses_init, .nil, fun _ => OnL.nil'⟩⟩ tkd (by rfl) (gZ_Addresses T) (paf_cons (pf_var 7) paf_nil)))
    (psf_cons (psf_for pod rfl (pif_range1 (by rfl) T.z_range (paf_cons pf_int paf_nil)) (pgf_name 9 sc_law.nd rfl (.inl rfl))
      (psf_cons (psf_if (ptf_w (pwf_or (ptf_not (ptf_val (pf_call (G_law_right T) (hr.mono (by decide)) tkd (by rfl) T.g_law_right T.F_law_right.kp T.b_law_right (paf_cons (pf_var 3) (paf_cons (pf_var 5) paf_nil))))) (pwf_one (ptf_not (ptf_val (pf_call (G_law_right T) (hr.mono (by decide)) tkd (by rfl) T.g_law_right T.F_law_right.kp T.b_law_right (paf_cons (pf_var 7) (paf_cons (pf_var 8) paf_nil)))))))) (psf_one (psf_ret pf_bl)) psf_nil)
    (psf_cons (psf_if (ptf_w (pwf_or (ptf_neO (csok T) (AllM.cons ⟨⟨⟨_, _, _, _, hr.mono (by decide), oeZ_Addresses T, G_Addresses_eq T, T.b_Addresses_eq⟩⟩⟩ AllM.nil) hr.u64 rfl (pf_var 5) (pf_var 6) (nomark _)) (pwf_or (ptf_eqO (csok T) (AllM.cons ⟨⟨⟨_, _, _, _, hr.mono (by decide), oeZ_Addresses T, G_Addresses_eq T, T.b_Addresses_eq⟩⟩⟩ AllM.nil) hr.u64 rfl (pf_var 5) (pf_var 8) (nomark _)) (pwf_one (ptf_eqO (csok T) (AllM.cons ⟨⟨⟨_, _, _, _, hr.mono (by decide), oeZ_Addresses T, G_Addresses_eq T, T.b_Addresses_eq⟩⟩⟩ AllM.nil) hr.u64 rfl (pf_var 8) (pf_var 5) (nomark _)))))) (psf_one (psf_ret pf_bl)) psf_nil)
    (psf_one (psf_if (ptf_w (pwf_or (ptf_eqO (csok T) (AllM.cons ⟨⟨⟨_, _, _, _, hr.mono (by decide), oeZ_Addresses T, G_Addresses_eq T, T.b_Addresses_eq⟩⟩⟩ AllM.nil) hr.u64 rfl (pf_var 5) (pf_var 3) (nomark _)) (pwf_or (ptf_eqO (csok T) (AllM.cons ⟨⟨⟨_, _, _, _, hr.mono (by decide), oeZ_Addresses T, G_Addresses_eq T, T.b_Addresses_eq⟩⟩⟩ AllM.nil) hr.u64 rfl (pf_var 5) (pf_strO (AllM.cons ⟨⟨⟨_, _, _, _, hr.mono (by decide), oZ_Addresses_str T, G_Addresses_str T, T.b_Addresses_str⟩⟩⟩ AllM.nil) (by rfl) T.z_str (paf_cons (pf_var 5) paf_nil)) (nomark _)) (pwf_one (ptf_eqO (csok T) (AllM.cons ⟨⟨⟨_, _, _, _, hr.mono (by decide), oeZ_Addresses T, G_Addresses_eq T, T.b_Addresses_eq⟩⟩⟩ AllM.nil) hr.u64 rfl (pf_var 5) (pf_callT cd_tuple (by rfl) T.z_tuple (by decide +kernel) (paf_cons (pf_var 3) paf_nil)) (nomark _)))))) (psf_one (psf_ret pf_bl)) psf_nil)))))
    (psf_one (psf_for pod rfl (pif_val rfl (pf_lst (paf_cons (pf_tup (paf_cons (pf_meth md_join PySem.F.plainAttrs_str PySem.F.slot_str_join PySem.F.type_str_join rfl pf_str (paf_cons (pf_var 3) paf_nil)) (paf_cons (pf_var 5) paf_nil))) (paf_cons (pf_tup (paf_cons (pf_meth md_join PySem.F.plainAttrs_str PySem.F.slot_str_join PySem.F.type_str_join rfl pf_str (paf_cons (pf_var 7) paf_nil)) (paf_cons (pf_var 8) paf_nil))) paf_nil)))) (pgf_tup rfl rfl (pgfs_cons (pgf_name 10 sc_law.nd rfl (.inl rfl)) (pgfs_cons (pgf_name 11 sc_law.nd rfl (.inl rfl)) pgfs_nil)))
      (psf_one (psf_if (ptf_neO (csok T) (AllM.cons ⟨⟨⟨_, _, _, _, hr.mono (by decide), oeZ_Addresses T, G_Addresses_eq T, T.b_Addresses_eq⟩⟩⟩ AllM.nil) hr.u64 rfl (pf_cmeth (rZ_Addresses_read T) (mZ_Addresses_read T) (G_Addresses_read T) T.b_Addresses_read (hr.mono (by decide)) tkd (pf_glob (v := .ref _) rfl (gZ_Addresses T) rfl (fun _ => on_cls)) (paf_cons (pf_var 10) paf_nil)) (pf_var 11) (nomark _)) (psf_one (psf_ret pf_bl)) psf_nil)))))))))))))
    (psf_one (psf_ret pf_bl)))
end
end Q12

namespace Q12
open DN PySem
theorem take_pos {n : Nat} {a b c m : Int} {T : Sto} (h : T[n]? = some (box a b c)) (ha : 0 < a) (hm : 0 < m) (hm2 : m < 1073741824) : D_law_take [.r n, .d (.int m)] T = .ok (T.set n (box (a.fdiv m) b c)) (.val (.d (.int (a.fmod m)))) := by
  unfold D_law_take defD
  simp (config := { dsimp := false }) only [↓reduceIte, DN.bindV_val, DN.bindV_lst, DN.bindV_ob, DN.bindV_dc, DN.bindV_no, DN.bindV_ex, DN.bind_ok, DN.bind_no, DN.bind_ex, DN.sV_val, DN.sV_lst, DN.sV_ob, DN.sV_dc, DN.sV_ex, DN.sB_ok, DN.sB_ex, DN.kSeq_, DN.seqR_nx, DN.seqR_rt, DN.seqR_ex, DN.seqR_no, DN.kRet_, DN.retR_ok, DN.retR_ex, DN.kRetN_, DN.kNext_, DN.loopR_nx, DN.loopR_ct, DN.loopR_bk, DN.loopR_rt, DN.forGo_c, DN.forO_, DN.forGo_n, DN.iVal_, DN.itOf_lst, DN.itOf_tup, DN.kIf_, DN.kExpr_, DN.kSet_, DN.kSetC_, DN.setC_val, DN.setC_new, DN.kAsg_, DN.asgR_d, DN.asgO_, DN.tgN_, DN.tgNil_, DN.tgCons_, DN.tgO_, DN.tgT_, DN.kPar_, DN.parR_, DN.kSub_, DN.kFld_, DN.fVar_, DN.varR_, DN.fC_, DN.fOp_, DN.g2_, DN.g2o_, DN.fUn_, DN.g1_, DN.g1o_, DN.of_some, DN.snap_d, DN.snap_r, DN.snapC_lst, DN.snapC_ob, DN.fNil_, DN.fCons_, DN.fTup_, DN.fLst_, DN.allD_n, DN.allD_c, DN.allC_, DN.gTupD_, DN.gLstD_, DN.tupO_0, DN.lstO_0, DN.tupO_1, DN.lstO_1, DN.tupO_2, DN.lstO_2, DN.tupO_3, DN.lstO_3, DN.tupO_4, DN.lstO_4, DN.tupO_5, DN.lstO_5, DN.tupO_6, DN.lstO_6, DN.tupO_7, DN.lstO_7, DN.fAnd_, DN.fOr_, DN.fNot_, DN.fIf_, DN.onB_, DN.kVal_, DN.kAnd_, DN.kOr_, DN.kNot_, DN.kYes_, DN.fCall_, DN.gA_, DN.gAo_, DN.snaps_n, DN.snaps_c, DN.snapsC_, DN.arg1_, DN.arg12_1, DN.arg12_2, DN.arg2_, DN.onlyIf_t, DN.fCallD_, DN.fMeth_, DN.onT_, DN.onTo_, DN.gM_, DN.gMo_, DN.clsV_r, DN.clsC_lst, DN.clsC_ob, DN.clsV_obj, DN.clsV_int, DN.clsV_bl, DN.clsV_str, DN.clsV_non, DN.clsV_lst, DN.clsV_tup, DN.clsV_scr, DN.fLenD_, DN.lenR_, DN.lenC_n, DN.lenC_s, DN.fIxD_, DN.ixR_, DN.ixC_n, DN.ixC_s, DN.okR_ok, DN.fEqD_, DN.fMethD_, DN.fPropD_, DN.fMakeD_, DN.isi_int_int, DN.isi_int_bool, DN.isi_int_str, DN.isi_str_str, DN.isi_str_int, DN.isi_lst_lst, DN.isi_lst_str, DN.isi_tup_str, DN.isi_tup_tup, DN.isi_lst_lt, DN.isi_tup_lt, DN.isi_str_lt, DN.methR_, DN.methP_, DN.askT_, DN.askP_, DN.fAsk1_, DN.ask1R_, DN.ask1P_, DN.at_cons, beq_self_eq_true, DN.eqR_int, DN.eqR_bl, DN.eqR_str, DN.eqR_lst, DN.eqR_tup, DN.eqR_non, DN.onlyV_bl, DN.onlyV_str, DN.fStrD_, DN.strR_, DN.strC_n, DN.strC_s, DN.fChain_, DN.fSl_, DN.fNoPart_, DN.fPart_, DN.partR_, DN.fDisp_, DN.gSl_lst, DN.gSl_tup, DN.fMut_, DN.gMu_, DN.muC_, DN.muP_, DN.isT_str, DN.isT_lst, DN.gClear_, DN.fCMeth_, DN.cmR_, DN.fMakeL_, DN.mkLR_, DN.makeR_ok, List.append_nil, DN.vB_, DN.vI_, DN.vS_, DN.vT_, DN.nL_, DN.vD_, DN.startE_, DN.outS_nx, DN.outS_rt, DN.outS_ex, List.map, List.nil_append, List.cons_append, List.length_cons, List.length_nil, List.replicate, List.getElem?_cons_zero, List.getElem?_cons_succ, List.getElem?_nil, List.set_cons_zero, List.set_cons_succ, if_true, if_false, ite_true, ite_false, Bool.not_true, Bool.not_false, Bool.false_eq_true, Bool.and_true, Bool.true_and, Bool.or_false, Bool.false_or, Nat.add_sub_cancel, Nat.zero_add, Nat.reduceSub, Nat.reduceAdd, h, ix_0, ix_1, ix_2, gInt_, gMod_ hm, gDiv_ hm hm2, gGt_, decide_eq_true ha, gt_iff_lt, set_ix0 h, exit_d, take_set]
theorem take_neg {n : Nat} {a b c m : Int} {T : Sto} (h : T[n]? = some (box a b c)) (ha : ¬ 0 < a) (hm : 0 < m) (hb : 0 ≤ b) (hb2 : b < 2147483629) (hc : 0 ≤ c) (hc2 : c < 1000000000) : 
    D_law_take [.r n, .d (.int m)] T = .ok (T.set n (box a b (c + 1))) (.val (.d (.int (((((b + 7727 * (c + 1) + 173) ^ 5).fmod 2147483647 + 86243 * (c + 1)) ^ 3).fmod 2147483587 |>.fdiv 32 |>.fmod m)))) := by
  have q1 : 0 ≤ ((b + 7727 * (c + 1) + 173) ^ 5).fmod 2147483647 := Int.fmod_nonneg_of_pos _ (by decide)
  have q2 : ((b + 7727 * (c + 1) + 173) ^ 5).fmod 2147483647 < 2147483647 := Int.fmod_lt_of_pos _ (by decide)
  unfold D_law_take defD
  have h' : (T.set n (.lst [Dv.int a, .int b, .int (c + 1)]))[n]? = some (box a b (c + 1)) := get_set h
  simp (config := { dsimp := false }) only [↓reduceIte, DN.bindV_val, DN.bindV_lst, DN.bindV_ob, DN.bindV_dc, DN.bindV_no, DN.bindV_ex, DN.bind_ok, DN.bind_no, DN.bind_ex, DN.sV_val, DN.sV_lst, DN.sV_ob, DN.sV_dc, DN.sV_ex, DN.sB_ok, DN.sB_ex, DN.kSeq_, DN.seqR_nx, DN.seqR_rt, DN.seqR_ex, DN.seqR_no, DN.kRet_, DN.retR_ok, DN.retR_ex, DN.kRetN_, DN.kNext_, DN.loopR_nx, DN.loopR_ct, DN.loopR_bk, DN.loopR_rt, DN.forGo_c, DN.forO_, DN.forGo_n, DN.iVal_, DN.itOf_lst, DN.itOf_tup, DN.kIf_, DN.kExpr_, DN.kSet_, DN.kSetC_, DN.setC_val, DN.setC_new, DN.kAsg_, DN.asgR_d, DN.asgO_, DN.tgN_, DN.tgNil_, DN.tgCons_, DN.tgO_, DN.tgT_, DN.kPar_, DN.parR_, DN.kSub_, DN.kFld_, DN.fVar_, DN.varR_, DN.fC_, DN.fOp_, DN.g2_, DN.g2o_, DN.fUn_, DN.g1_, DN.g1o_, DN.of_some, DN.snap_d, DN.snap_r, DN.snapC_lst, DN.snapC_ob, DN.fNil_, DN.fCons_, DN.fTup_, DN.fLst_, DN.allD_n, DN.allD_c, DN.allC_, DN.gTupD_, DN.gLstD_, DN.tupO_0, DN.lstO_0, DN.tupO_1, DN.lstO_1, DN.tupO_2, DN.lstO_2, DN.tupO_3, DN.lstO_3, DN.tupO_4, DN.lstO_4, DN.tupO_5, DN.lstO_5, DN.tupO_6, DN.lstO_6, DN.tupO_7, DN.lstO_7, DN.fAnd_, DN.fOr_, DN.fNot_, DN.fIf_, DN.onB_, DN.kVal_, DN.kAnd_, DN.kOr_, DN.kNot_, DN.kYes_, DN.fCall_, DN.gA_, DN.gAo_, DN.snaps_n, DN.snaps_c, DN.snapsC_, DN.arg1_, DN.arg12_1, DN.arg12_2, DN.arg2_, DN.onlyIf_t, DN.fCallD_, DN.fMeth_, DN.onT_, DN.onTo_, DN.gM_, DN.gMo_, DN.clsV_r, DN.clsC_lst, DN.clsC_ob, DN.clsV_obj, DN.clsV_int, DN.clsV_bl, DN.clsV_str, DN.clsV_non, DN.clsV_lst, DN.clsV_tup, DN.clsV_scr, DN.fLenD_, DN.lenR_, DN.lenC_n, DN.lenC_s, DN.fIxD_, DN.ixR_, DN.ixC_n, DN.ixC_s, DN.okR_ok, DN.fEqD_, DN.fMethD_, DN.fPropD_, DN.fMakeD_, DN.isi_int_int, DN.isi_int_bool, DN.isi_int_str, DN.isi_str_str, DN.isi_str_int, DN.isi_lst_lst, DN.isi_lst_str, DN.isi_tup_str, DN.isi_tup_tup, DN.isi_lst_lt, DN.isi_tup_lt, DN.isi_str_lt, DN.methR_, DN.methP_, DN.askT_, DN.askP_, DN.fAsk1_, DN.ask1R_, DN.ask1P_, DN.at_cons, beq_self_eq_true, DN.eqR_int, DN.eqR_bl, DN.eqR_str, DN.eqR_lst, DN.eqR_tup, DN.eqR_non, DN.onlyV_bl, DN.onlyV_str, DN.fStrD_, DN.strR_, DN.strC_n, DN.strC_s, DN.fChain_, DN.fSl_, DN.fNoPart_, DN.fPart_, DN.partR_, DN.fDisp_, DN.gSl_lst, DN.gSl_tup, DN.fMut_, DN.gMu_, DN.muC_, DN.muP_, DN.isT_str, DN.isT_lst, DN.gClear_, DN.fCMeth_, DN.cmR_, DN.fMakeL_, DN.mkLR_, DN.makeR_ok, List.append_nil, DN.vB_, DN.vI_, DN.vS_, DN.vT_, DN.nL_, DN.vD_, DN.startE_, DN.outS_nx, DN.outS_rt, DN.outS_ex, List.map, List.nil_append, List.cons_append, List.length_cons, List.length_nil, List.replicate, List.getElem?_cons_zero, List.getElem?_cons_succ, List.getElem?_nil, List.set_cons_zero, List.set_cons_succ, if_true, if_false, ite_true, ite_false, Bool.not_true, Bool.not_false, Bool.false_eq_true, Bool.and_true, Bool.true_and, Bool.or_false, Bool.false_or, Nat.add_sub_cancel, Nat.zero_add, Nat.reduceSub, Nat.reduceAdd, h, ix_0, ix_1, ix_2, gInt_, gGt_, decide_eq_false ha, gt_iff_lt, gAdd_, set_ix2 h, h', gMul_ (show -(2 ^ 64) < (7727 : Int) by decide) (show (7727 : Int) < 2 ^ 64 by decide)]
  rw [show (Dv.int 5) = Dv.int ((5 : Nat) : Int) from rfl, gPow_ (i := b + 7727 * (c + 1) + 173) (j := 5) (by omega) (by decide)]
  simp (config := { dsimp := false }) only [↓reduceIte, DN.bindV_val, DN.bindV_lst, DN.bindV_ob, DN.bindV_dc, DN.bindV_no, DN.bindV_ex, DN.bind_ok, DN.bind_no, DN.bind_ex, DN.sV_val, DN.sV_lst, DN.sV_ob, DN.sV_dc, DN.sV_ex, DN.sB_ok, DN.sB_ex, DN.kSeq_, DN.seqR_nx, DN.seqR_rt, DN.seqR_ex, DN.seqR_no, DN.kRet_, DN.retR_ok, DN.retR_ex, DN.kRetN_, DN.kNext_, DN.loopR_nx, DN.loopR_ct, DN.loopR_bk, DN.loopR_rt, DN.forGo_c, DN.forO_, DN.forGo_n, DN.iVal_, DN.itOf_lst, DN.itOf_tup, DN.kIf_, DN.kExpr_, DN.kSet_, DN.kSetC_, DN.setC_val, DN.setC_new, DN.kAsg_, DN.asgR_d, DN.asgO_, DN.tgN_, DN.tgNil_, DN.tgCons_, DN.tgO_, DN.tgT_, DN.kPar_, DN.parR_, DN.kSub_, DN.kFld_, DN.fVar_, DN.varR_, DN.fC_, DN.fOp_, DN.g2_, DN.g2o_, DN.fUn_, DN.g1_, DN.g1o_, DN.of_some, DN.snap_d, DN.snap_r, DN.snapC_lst, DN.snapC_ob, DN.fNil_, DN.fCons_, DN.fTup_, DN.fLst_, DN.allD_n, DN.allD_c, DN.allC_, DN.gTupD_, DN.gLstD_, DN.tupO_0, DN.lstO_0, DN.tupO_1, DN.lstO_1, DN.tupO_2, DN.lstO_2, DN.tupO_3, DN.lstO_3, DN.tupO_4, DN.lstO_4, DN.tupO_5, DN.lstO_5, DN.tupO_6, DN.lstO_6, DN.tupO_7, DN.lstO_7, DN.fAnd_, DN.fOr_, DN.fNot_, DN.fIf_, DN.onB_, DN.kVal_, DN.kAnd_, DN.kOr_, DN.kNot_, DN.kYes_, DN.fCall_, DN.gA_, DN.gAo_, DN.snaps_n, DN.snaps_c, DN.snapsC_, DN.arg1_, DN.arg12_1, DN.arg12_2, DN.arg2_, DN.onlyIf_t, DN.fCallD_, DN.fMeth_, DN.onT_, DN.onTo_, DN.gM_, DN.gMo_, DN.clsV_r, DN.clsC_lst, DN.clsC_ob, DN.clsV_obj, DN.clsV_int, DN.clsV_bl, DN.clsV_str, DN.clsV_non, DN.clsV_lst, DN.clsV_tup, DN.clsV_scr, DN.fLenD_, DN.lenR_, DN.lenC_n, DN.lenC_s, DN.fIxD_, DN.ixR_, DN.ixC_n, DN.ixC_s, DN.okR_ok, DN.fEqD_, DN.fMethD_, DN.fPropD_, DN.fMakeD_, DN.isi_int_int, DN.isi_int_bool, DN.isi_int_str, DN.isi_str_str, DN.isi_str_int, DN.isi_lst_lst, DN.isi_lst_str, DN.isi_tup_str, DN.isi_tup_tup, DN.isi_lst_lt, DN.isi_tup_lt, DN.isi_str_lt, DN.methR_, DN.methP_, DN.askT_, DN.askP_, DN.fAsk1_, DN.ask1R_, DN.ask1P_, DN.at_cons, beq_self_eq_true, DN.eqR_int, DN.eqR_bl, DN.eqR_str, DN.eqR_lst, DN.eqR_tup, DN.eqR_non, DN.onlyV_bl, DN.onlyV_str, DN.fStrD_, DN.strR_, DN.strC_n, DN.strC_s, DN.fChain_, DN.fSl_, DN.fNoPart_, DN.fPart_, DN.partR_, DN.fDisp_, DN.gSl_lst, DN.gSl_tup, DN.fMut_, DN.gMu_, DN.muC_, DN.muP_, DN.isT_str, DN.isT_lst, DN.gClear_, DN.fCMeth_, DN.cmR_, DN.fMakeL_, DN.mkLR_, DN.makeR_ok, List.append_nil, DN.vB_, DN.vI_, DN.vS_, DN.vT_, DN.nL_, DN.vD_, DN.startE_, DN.outS_nx, DN.outS_rt, DN.outS_ex, List.map, List.nil_append, List.cons_append, List.length_cons, List.length_nil, List.replicate, List.getElem?_cons_zero, List.getElem?_cons_succ, List.getElem?_nil, List.set_cons_zero, List.set_cons_succ, if_true, if_false, ite_true, ite_false, Bool.not_true, Bool.not_false, Bool.false_eq_true, Bool.and_true, Bool.true_and, Bool.or_false, Bool.false_or, Nat.add_sub_cancel, Nat.zero_add, Nat.reduceSub, Nat.reduceAdd, h', gMod_ (show (0 : Int) < 2147483647 by decide), ix_2, gAdd_, gInt_, gMul_ (show -(2 ^ 64) < (86243 : Int) by decide) (show (86243 : Int) < 2 ^ 64 by decide)]
  rw [show (Dv.int 3) = Dv.int ((3 : Nat) : Int) from rfl, gPow_ (j := 3) (by omega) (by decide)]
  simp (config := { dsimp := false }) only [↓reduceIte, DN.bindV_val, DN.bindV_lst, DN.bindV_ob, DN.bindV_dc, DN.bindV_no, DN.bindV_ex, DN.bind_ok, DN.bind_no, DN.bind_ex, DN.sV_val, DN.sV_lst, DN.sV_ob, DN.sV_dc, DN.sV_ex, DN.sB_ok, DN.sB_ex, DN.kSeq_, DN.seqR_nx, DN.seqR_rt, DN.seqR_ex, DN.seqR_no, DN.kRet_, DN.retR_ok, DN.retR_ex, DN.kRetN_, DN.kNext_, DN.loopR_nx, DN.loopR_ct, DN.loopR_bk, DN.loopR_rt, DN.forGo_c, DN.forO_, DN.forGo_n, DN.iVal_, DN.itOf_lst, DN.itOf_tup, DN.kIf_, DN.kExpr_, DN.kSet_, DN.kSetC_, DN.setC_val, DN.setC_new, DN.kAsg_, DN.asgR_d, DN.asgO_, DN.tgN_, DN.tgNil_, DN.tgCons_, DN.tgO_, DN.tgT_, DN.kPar_, DN.parR_, DN.kSub_, DN.kFld_, DN.fVar_, DN.varR_, DN.fC_, DN.fOp_, DN.g2_, DN.g2o_, DN.fUn_, DN.g1_, DN.g1o_, DN.of_some, DN.snap_d, DN.snap_r, DN.snapC_lst, DN.snapC_ob, DN.fNil_, DN.fCons_, DN.fTup_, DN.fLst_, DN.allD_n, DN.allD_c, DN.allC_, DN.gTupD_, DN.gLstD_, DN.tupO_0, DN.lstO_0, DN.tupO_1, DN.lstO_1, DN.tupO_2, DN.lstO_2, DN.tupO_3, DN.lstO_3, DN.tupO_4, DN.lstO_4, DN.tupO_5, DN.lstO_5, DN.tupO_6, DN.lstO_6, DN.tupO_7, DN.lstO_7, DN.fAnd_, DN.fOr_, DN.fNot_, DN.fIf_, DN.onB_, DN.kVal_, DN.kAnd_, DN.kOr_, DN.kNot_, DN.kYes_, DN.fCall_, DN.gA_, DN.gAo_, DN.snaps_n, DN.snaps_c, DN.snapsC_, DN.arg1_, DN.arg12_1, DN.arg12_2, DN.arg2_, DN.onlyIf_t, DN.fCallD_, DN.fMeth_, DN.onT_, DN.onTo_, DN.gM_, DN.gMo_, DN.clsV_r, DN.clsC_lst, DN.clsC_ob, DN.clsV_obj, DN.clsV_int, DN.clsV_bl, DN.clsV_str, DN.clsV_non, DN.clsV_lst, DN.clsV_tup, DN.clsV_scr, DN.fLenD_, DN.lenR_, DN.lenC_n, DN.lenC_s, DN.fIxD_, DN.ixR_, DN.ixC_n, DN.ixC_s, DN.okR_ok, DN.fEqD_, DN.fMethD_, DN.fPropD_, DN.fMakeD_, DN.isi_int_int, DN.isi_int_bool, DN.isi_int_str, DN.isi_str_str, DN.isi_str_int, DN.isi_lst_lst, DN.isi_lst_str, DN.isi_tup_str, DN.isi_tup_tup, DN.isi_lst_lt, DN.isi_tup_lt, DN.isi_str_lt, DN.methR_, DN.methP_, DN.askT_, DN.askP_, DN.fAsk1_, DN.ask1R_, DN.ask1P_, DN.at_cons, beq_self_eq_true, DN.eqR_int, DN.eqR_bl, DN.eqR_str, DN.eqR_lst, DN.eqR_tup, DN.eqR_non, DN.onlyV_bl, DN.onlyV_str, DN.fStrD_, DN.strR_, DN.strC_n, DN.strC_s, DN.fChain_, DN.fSl_, DN.fNoPart_, DN.fPart_, DN.partR_, DN.fDisp_, DN.gSl_lst, DN.gSl_tup, DN.fMut_, DN.gMu_, DN.muC_, DN.muP_, DN.isT_str, DN.isT_lst, DN.gClear_, DN.fCMeth_, DN.cmR_, DN.fMakeL_, DN.mkLR_, DN.makeR_ok, List.append_nil, DN.vB_, DN.vI_, DN.vS_, DN.vT_, DN.nL_, DN.vD_, DN.startE_, DN.outS_nx, DN.outS_rt, DN.outS_ex, List.map, List.nil_append, List.cons_append, List.length_cons, List.length_nil, List.replicate, List.getElem?_cons_zero, List.getElem?_cons_succ, List.getElem?_nil, List.set_cons_zero, List.set_cons_succ, if_true, if_false, ite_true, ite_false, Bool.not_true, Bool.not_false, Bool.false_eq_true, Bool.and_true, Bool.true_and, Bool.or_false, Bool.false_or, Nat.add_sub_cancel, Nat.zero_add, Nat.reduceSub, Nat.reduceAdd, gMod_ hm, gMod_ (show (0 : Int) < 2147483587 by decide), gDiv_ (show (0 : Int) < 32 by decide) (show (32 : Int) < 1073741824 by decide), gInt_, exit_d, take_set]
/-- the box at cell n -/
abbrev Bx (n : Nat) (k : Cell) : Prop := BxC 2147483629 n k
theorem take_ok {k : Cell} {n j : Nat} {m : Int} {T : Sto} (h : Bx j k) (hn : n < T.length) (hj : j < 1000000000) (hm : 0 < m) (hm2 : m < 1073741824) : ∃ (d : Int) (k' : Cell), 0 ≤ d ∧ d < m ∧ Bx (j + 1) k' ∧
    D_law_take [.r n, .d (.int m)] (T.set n k) = .ok (T.set n k') (.val (.d (.int d))) := by
  obtain ⟨a, b, c, rfl, h1, h2, h3, h4⟩ := h
  have hT : (T.set n (box a b c))[n]? = some (box a b c) := List.getElem?_set_self hn
  by_cases ha : 0 < a
  · exact ⟨_, _, Int.fmod_nonneg_of_pos _ hm, Int.fmod_lt_of_pos _ hm, ⟨_, b, c, rfl, h1, h2, h3, by omega⟩, by rw [take_pos hT ha hm hm2, List.set_set]⟩
  · exact ⟨_, _, Int.fmod_nonneg_of_pos _ hm, Int.fmod_lt_of_pos _ hm, ⟨a, b, c + 1, rfl, h1, h2, by omega, by omega⟩, by rw [take_neg hT ha hm h1 h2 h3 (by omega), List.set_set]⟩
/-- in natural numbers -/
theorem take_nat {k : Cell} {n j m : Nat} {T : Sto} (h : Bx j k) (hn : n < T.length) (hj : j < 1000000000) (hm : 0 < m) (hm2 : m < 1073741824) : ∃ (d : Nat) (k' : Cell), d < m ∧ Bx (j + 1) k' ∧
    D_law_take [.r n, .d (.int m)] (T.set n k) = .ok (T.set n k') (.val (.d (.int d))) := by
  obtain ⟨d, k', h1, h2, h3, h4⟩ := take_ok h hn hj (m := (m : Int)) (by omega) (by omega)
  exact ⟨d.toNat, k', by omega, h3, by rw [h4, Int.toNat_of_nonneg h1]⟩
theorem cell_at_ok {ns : List Int} {k : Nat} {S : Sto} (hn : ns.length ≤ 63) : ∃ v : Int, D_law_cell_at [.d (.scr ns), .d (.int k)] S = .ok S (.val (.d (.int v))) := by
  by_cases h : k < ns.length
  · refine ⟨ns[k], def_pure ?_⟩
    simp (config := { dsimp := false }) only [↓reduceIte, DN.bindV_val, DN.bindV_lst, DN.bindV_ob, DN.bindV_dc, DN.bindV_no, DN.bindV_ex, DN.bind_ok, DN.bind_no, DN.bind_ex, DN.sV_val, DN.sV_lst, DN.sV_ob, DN.sV_dc, DN.sV_ex, DN.sB_ok, DN.sB_ex, DN.kSeq_, DN.seqR_nx, DN.seqR_rt, DN.seqR_ex, DN.seqR_no, DN.kRet_, DN.retR_ok, DN.retR_ex, DN.kRetN_, DN.kNext_, DN.loopR_nx, DN.loopR_ct, DN.loopR_bk, DN.loopR_rt, DN.forGo_c, DN.forO_, DN.forGo_n, DN.iVal_, DN.itOf_lst, DN.itOf_tup, DN.kIf_, DN.kExpr_, DN.kSet_, DN.kSetC_, DN.setC_val, DN.setC_new, DN.kAsg_, DN.asgR_d, DN.asgO_, DN.tgN_, DN.tgNil_, DN.tgCons_, DN.tgO_, DN.tgT_, DN.kPar_, DN.parR_, DN.kSub_, DN.kFld_, DN.fVar_, DN.varR_, DN.fC_, DN.fOp_, DN.g2_, DN.g2o_, DN.fUn_, DN.g1_, DN.g1o_, DN.of_some, DN.snap_d, DN.snap_r, DN.snapC_lst, DN.snapC_ob, DN.fNil_, DN.fCons_, DN.fTup_, DN.fLst_, DN.allD_n, DN.allD_c, DN.allC_, DN.gTupD_, DN.gLstD_, DN.tupO_0, DN.lstO_0, DN.tupO_1, DN.lstO_1, DN.tupO_2, DN.lstO_2, DN.tupO_3, DN.lstO_3, DN.tupO_4, DN.lstO_4, DN.tupO_5, DN.lstO_5, DN.tupO_6, DN.lstO_6, DN.tupO_7, DN.lstO_7, DN.fAnd_, DN.fOr_, DN.fNot_, DN.fIf_, DN.onB_, DN.kVal_, DN.kAnd_, DN.kOr_, DN.kNot_, DN.kYes_, DN.fCall_, DN.gA_, DN.gAo_, DN.snaps_n, DN.snaps_c, DN.snapsC_, DN.arg1_, DN.arg12_1, DN.arg12_2, DN.arg2_, DN.onlyIf_t, DN.fCallD_, DN.fMeth_, DN.onT_, DN.onTo_, DN.gM_, DN.gMo_, DN.clsV_r, DN.clsC_lst, DN.clsC_ob, DN.clsV_obj, DN.clsV_int, DN.clsV_bl, DN.clsV_str, DN.clsV_non, DN.clsV_lst, DN.clsV_tup, DN.clsV_scr, DN.fLenD_, DN.lenR_, DN.lenC_n, DN.lenC_s, DN.fIxD_, DN.ixR_, DN.ixC_n, DN.ixC_s, DN.okR_ok, DN.fEqD_, DN.fMethD_, DN.fPropD_, DN.fMakeD_, DN.isi_int_int, DN.isi_int_bool, DN.isi_int_str, DN.isi_str_str, DN.isi_str_int, DN.isi_lst_lst, DN.isi_lst_str, DN.isi_tup_str, DN.isi_tup_tup, DN.isi_lst_lt, DN.isi_tup_lt, DN.isi_str_lt, DN.methR_, DN.methP_, DN.askT_, DN.askP_, DN.fAsk1_, DN.ask1R_, DN.ask1P_, DN.at_cons, beq_self_eq_true, DN.eqR_int, DN.eqR_bl, DN.eqR_str, DN.eqR_lst, DN.eqR_tup, DN.eqR_non, DN.onlyV_bl, DN.onlyV_str, DN.fStrD_, DN.strR_, DN.strC_n, DN.strC_s, DN.fChain_, DN.fSl_, DN.fNoPart_, DN.fPart_, DN.partR_, DN.fDisp_, DN.gSl_lst, DN.gSl_tup, DN.fMut_, DN.gMu_, DN.muC_, DN.muP_, DN.isT_str, DN.isT_lst, DN.gClear_, DN.fCMeth_, DN.cmR_, DN.fMakeL_, DN.mkLR_, DN.makeR_ok, List.append_nil, DN.vB_, DN.vI_, DN.vS_, DN.vT_, DN.nL_, DN.vD_, DN.startE_, DN.outS_nx, DN.outS_rt, DN.outS_ex, List.map, List.nil_append, List.cons_append, List.length_cons, List.length_nil, List.replicate, List.getElem?_cons_zero, List.getElem?_cons_succ, List.getElem?_nil, List.set_cons_zero, List.set_cons_succ, if_true, if_false, ite_true, ite_false, Bool.not_true, Bool.not_false, Bool.false_eq_true, Bool.and_true, Bool.true_and, Bool.or_false, Bool.false_or, Nat.add_sub_cancel, Nat.zero_add, Nat.reduceSub, Nat.reduceAdd, gLen_scr, gLt_, decide_eq_true (show (k : Int) < (ns.length : Int) by omega), gIx_scr (List.getElem?_eq_getElem h)]
  · refine ⟨15485863 * k + 7919, def_pure ?_⟩
    simp (config := { dsimp := false }) only [↓reduceIte, DN.bindV_val, DN.bindV_lst, DN.bindV_ob, DN.bindV_dc, DN.bindV_no, DN.bindV_ex, DN.bind_ok, DN.bind_no, DN.bind_ex, DN.sV_val, DN.sV_lst, DN.sV_ob, DN.sV_dc, DN.sV_ex, DN.sB_ok, DN.sB_ex, DN.kSeq_, DN.seqR_nx, DN.seqR_rt, DN.seqR_ex, DN.seqR_no, DN.kRet_, DN.retR_ok, DN.retR_ex, DN.kRetN_, DN.kNext_, DN.loopR_nx, DN.loopR_ct, DN.loopR_bk, DN.loopR_rt, DN.forGo_c, DN.forO_, DN.forGo_n, DN.iVal_, DN.itOf_lst, DN.itOf_tup, DN.kIf_, DN.kExpr_, DN.kSet_, DN.kSetC_, DN.setC_val, DN.setC_new, DN.kAsg_, DN.asgR_d, DN.asgO_, DN.tgN_, DN.tgNil_, DN.tgCons_, DN.tgO_, DN.tgT_, DN.kPar_, DN.parR_, DN.kSub_, DN.kFld_, DN.fVar_, DN.varR_, DN.fC_, DN.fOp_, DN.g2_, DN.g2o_, DN.fUn_, DN.g1_, DN.g1o_, DN.of_some, DN.snap_d, DN.snap_r, DN.snapC_lst, DN.snapC_ob, DN.fNil_, DN.fCons_, DN.fTup_, DN.fLst_, DN.allD_n, DN.allD_c, DN.allC_, DN.gTupD_, DN.gLstD_, DN.tupO_0, DN.lstO_0, DN.tupO_1, DN.lstO_1, DN.tupO_2, DN.lstO_2, DN.tupO_3, DN.lstO_3, DN.tupO_4, DN.lstO_4, DN.tupO_5, DN.lstO_5, DN.tupO_6, DN.lstO_6, DN.tupO_7, DN.lstO_7, DN.fAnd_, DN.fOr_, DN.fNot_, DN.fIf_, DN.onB_, DN.kVal_, DN.kAnd_, DN.kOr_, DN.kNot_, DN.kYes_, DN.fCall_, DN.gA_, DN.gAo_, DN.snaps_n, DN.snaps_c, DN.snapsC_, DN.arg1_, DN.arg12_1, DN.arg12_2, DN.arg2_, DN.onlyIf_t, DN.fCallD_, DN.fMeth_, DN.onT_, DN.onTo_, DN.gM_, DN.gMo_, DN.clsV_r, DN.clsC_lst, DN.clsC_ob, DN.clsV_obj, DN.clsV_int, DN.clsV_bl, DN.clsV_str, DN.clsV_non, DN.clsV_lst, DN.clsV_tup, DN.clsV_scr, DN.fLenD_, DN.lenR_, DN.lenC_n, DN.lenC_s, DN.fIxD_, DN.ixR_, DN.ixC_n, DN.ixC_s, DN.okR_ok, DN.fEqD_, DN.fMethD_, DN.fPropD_, DN.fMakeD_, DN.isi_int_int, DN.isi_int_bool, DN.isi_int_str, DN.isi_str_str, DN.isi_str_int, DN.isi_lst_lst, DN.isi_lst_str, DN.isi_tup_str, DN.isi_tup_tup, DN.isi_lst_lt, DN.isi_tup_lt, DN.isi_str_lt, DN.methR_, DN.methP_, DN.askT_, DN.askP_, DN.fAsk1_, DN.ask1R_, DN.ask1P_, DN.at_cons, beq_self_eq_true, DN.eqR_int, DN.eqR_bl, DN.eqR_str, DN.eqR_lst, DN.eqR_tup, DN.eqR_non, DN.onlyV_bl, DN.onlyV_str, DN.fStrD_, DN.strR_, DN.strC_n, DN.strC_s, DN.fChain_, DN.fSl_, DN.fNoPart_, DN.fPart_, DN.partR_, DN.fDisp_, DN.gSl_lst, DN.gSl_tup, DN.fMut_, DN.gMu_, DN.muC_, DN.muP_, DN.isT_str, DN.isT_lst, DN.gClear_, DN.fCMeth_, DN.cmR_, DN.fMakeL_, DN.mkLR_, DN.makeR_ok, List.append_nil, DN.vB_, DN.vI_, DN.vS_, DN.vT_, DN.nL_, DN.vD_, DN.startE_, DN.outS_nx, DN.outS_rt, DN.outS_ex, List.map, List.nil_append, List.cons_append, List.length_cons, List.length_nil, List.replicate, List.getElem?_cons_zero, List.getElem?_cons_succ, List.getElem?_nil, List.set_cons_zero, List.set_cons_succ, if_true, if_false, ite_true, ite_false, Bool.not_true, Bool.not_false, Bool.false_eq_true, Bool.and_true, Bool.true_and, Bool.or_false, Bool.false_or, Nat.add_sub_cancel, Nat.zero_add, Nat.reduceSub, Nat.reduceAdd, gLen_scr, gLt_, decide_eq_false (show ¬ (k : Int) < (ns.length : Int) by omega), gMul_ (show -(2 ^ 64) < (15485863 : Int) by decide) (show (15485863 : Int) < 2 ^ 64 by decide), gAdd_]
theorem box_ok {v : Int} {S : Sto} : ∃ k, Bx 0 k ∧ D_law_box [.d (.int v)] S = .ok S (.new k) := by
  refine ⟨box (max 0 (v - 10 ^ 18)) (v.fmod 2147483629) 0, ⟨_, _, _, rfl, Int.fmod_nonneg_of_pos _ (by decide), Int.fmod_lt_of_pos _ (by decide), by omega, by omega⟩, def_new ?_⟩
  have e : (if v - 10 ^ 18 > 0 then v - 10 ^ 18 else 0) = max 0 (v - 10 ^ 18) := by omega
  simp (config := { dsimp := false }) only [↓reduceIte, DN.bindV_val, DN.bindV_lst, DN.bindV_ob, DN.bindV_dc, DN.bindV_no, DN.bindV_ex, DN.bind_ok, DN.bind_no, DN.bind_ex, DN.sV_val, DN.sV_lst, DN.sV_ob, DN.sV_dc, DN.sV_ex, DN.sB_ok, DN.sB_ex, DN.kSeq_, DN.seqR_nx, DN.seqR_rt, DN.seqR_ex, DN.seqR_no, DN.kRet_, DN.retR_ok, DN.retR_ex, DN.kRetN_, DN.kNext_, DN.loopR_nx, DN.loopR_ct, DN.loopR_bk, DN.loopR_rt, DN.forGo_c, DN.forO_, DN.forGo_n, DN.iVal_, DN.itOf_lst, DN.itOf_tup, DN.kIf_, DN.kExpr_, DN.kSet_, DN.kSetC_, DN.setC_val, DN.setC_new, DN.kAsg_, DN.asgR_d, DN.asgO_, DN.tgN_, DN.tgNil_, DN.tgCons_, DN.tgO_, DN.tgT_, DN.kPar_, DN.parR_, DN.kSub_, DN.kFld_, DN.fVar_, DN.varR_, DN.fC_, DN.fOp_, DN.g2_, DN.g2o_, DN.fUn_, DN.g1_, DN.g1o_, DN.of_some, DN.snap_d, DN.snap_r, DN.snapC_lst, DN.snapC_ob, DN.fNil_, DN.fCons_, DN.fTup_, DN.fLst_, DN.allD_n, DN.allD_c, DN.allC_, DN.gTupD_, DN.gLstD_, DN.tupO_0, DN.lstO_0, DN.tupO_1, DN.lstO_1, DN.tupO_2, DN.lstO_2, DN.tupO_3, DN.lstO_3, DN.tupO_4, DN.lstO_4, DN.tupO_5, DN.lstO_5, DN.tupO_6, DN.lstO_6, DN.tupO_7, DN.lstO_7, DN.fAnd_, DN.fOr_, DN.fNot_, DN.fIf_, DN.onB_, DN.kVal_, DN.kAnd_, DN.kOr_, DN.kNot_, DN.kYes_, DN.fCall_, DN.gA_, DN.gAo_, DN.snaps_n, DN.snaps_c, DN.snapsC_, DN.arg1_, DN.arg12_1, DN.arg12_2, DN.arg2_, DN.onlyIf_t, DN.fCallD_, DN.fMeth_, DN.onT_, DN.onTo_, DN.gM_, DN.gMo_, DN.clsV_r, DN.clsC_lst, DN.clsC_ob, DN.clsV_obj, DN.clsV_int, DN.clsV_bl, DN.clsV_str, DN.clsV_non, DN.clsV_lst, DN.clsV_tup, DN.clsV_scr, DN.fLenD_, DN.lenR_, DN.lenC_n, DN.lenC_s, DN.fIxD_, DN.ixR_, DN.ixC_n, DN.ixC_s, DN.okR_ok, DN.fEqD_, DN.fMethD_, DN.fPropD_, DN.fMakeD_, DN.isi_int_int, DN.isi_int_bool, DN.isi_int_str, DN.isi_str_str, DN.isi_str_int, DN.isi_lst_lst, DN.isi_lst_str, DN.isi_tup_str, DN.isi_tup_tup, DN.isi_lst_lt, DN.isi_tup_lt, DN.isi_str_lt, DN.methR_, DN.methP_, DN.askT_, DN.askP_, DN.fAsk1_, DN.ask1R_, DN.ask1P_, DN.at_cons, beq_self_eq_true, DN.eqR_int, DN.eqR_bl, DN.eqR_str, DN.eqR_lst, DN.eqR_tup, DN.eqR_non, DN.onlyV_bl, DN.onlyV_str, DN.fStrD_, DN.strR_, DN.strC_n, DN.strC_s, DN.fChain_, DN.fSl_, DN.fNoPart_, DN.fPart_, DN.partR_, DN.fDisp_, DN.gSl_lst, DN.gSl_tup, DN.fMut_, DN.gMu_, DN.muC_, DN.muP_, DN.isT_str, DN.isT_lst, DN.gClear_, DN.fCMeth_, DN.cmR_, DN.fMakeL_, DN.mkLR_, DN.makeR_ok, List.append_nil, DN.vB_, DN.vI_, DN.vS_, DN.vT_, DN.nL_, DN.vD_, DN.startE_, DN.outS_nx, DN.outS_rt, DN.outS_ex, List.map, List.nil_append, List.cons_append, List.length_cons, List.length_nil, List.replicate, List.getElem?_cons_zero, List.getElem?_cons_succ, List.getElem?_nil, List.set_cons_zero, List.set_cons_succ, if_true, if_false, ite_true, ite_false, Bool.not_true, Bool.not_false, Bool.false_eq_true, Bool.and_true, Bool.true_and, Bool.or_false, Bool.false_or, Nat.add_sub_cancel, Nat.zero_add, Nat.reduceSub, Nat.reduceAdd, gMax2_, gMod_ (show (0 : Int) < 2147483629 by decide), gInt_, gSub_]
  rw [show (Dv.int 18) = Dv.int ((18 : Nat) : Int) from rfl, gPow_ (j := 18) (by decide) (by decide)]
  simp (config := { dsimp := false }) only [↓reduceIte, DN.bindV_val, DN.bindV_lst, DN.bindV_ob, DN.bindV_dc, DN.bindV_no, DN.bindV_ex, DN.bind_ok, DN.bind_no, DN.bind_ex, DN.sV_val, DN.sV_lst, DN.sV_ob, DN.sV_dc, DN.sV_ex, DN.sB_ok, DN.sB_ex, DN.kSeq_, DN.seqR_nx, DN.seqR_rt, DN.seqR_ex, DN.seqR_no, DN.kRet_, DN.retR_ok, DN.retR_ex, DN.kRetN_, DN.kNext_, DN.loopR_nx, DN.loopR_ct, DN.loopR_bk, DN.loopR_rt, DN.forGo_c, DN.forO_, DN.forGo_n, DN.iVal_, DN.itOf_lst, DN.itOf_tup, DN.kIf_, DN.kExpr_, DN.kSet_, DN.kSetC_, DN.setC_val, DN.setC_new, DN.kAsg_, DN.asgR_d, DN.asgO_, DN.tgN_, DN.tgNil_, DN.tgCons_, DN.tgO_, DN.tgT_, DN.kPar_, DN.parR_, DN.kSub_, DN.kFld_, DN.fVar_, DN.varR_, DN.fC_, DN.fOp_, DN.g2_, DN.g2o_, DN.fUn_, DN.g1_, DN.g1o_, DN.of_some, DN.snap_d, DN.snap_r, DN.snapC_lst, DN.snapC_ob, DN.fNil_, DN.fCons_, DN.fTup_, DN.fLst_, DN.allD_n, DN.allD_c, DN.allC_, DN.gTupD_, DN.gLstD_, DN.tupO_0, DN.lstO_0, DN.tupO_1, DN.lstO_1, DN.tupO_2, DN.lstO_2, DN.tupO_3, DN.lstO_3, DN.tupO_4, DN.lstO_4, DN.tupO_5, DN.lstO_5, DN.tupO_6, DN.lstO_6, DN.tupO_7, DN.lstO_7, DN.fAnd_, DN.fOr_, DN.fNot_, DN.fIf_, DN.onB_, DN.kVal_, DN.kAnd_, DN.kOr_, DN.kNot_, DN.kYes_, DN.fCall_, DN.gA_, DN.gAo_, DN.snaps_n, DN.snaps_c, DN.snapsC_, DN.arg1_, DN.arg12_1, DN.arg12_2, DN.arg2_, DN.onlyIf_t, DN.fCallD_, DN.fMeth_, DN.onT_, DN.onTo_, DN.gM_, DN.gMo_, DN.clsV_r, DN.clsC_lst, DN.clsC_ob, DN.clsV_obj, DN.clsV_int, DN.clsV_bl, DN.clsV_str, DN.clsV_non, DN.clsV_lst, DN.clsV_tup, DN.clsV_scr, DN.fLenD_, DN.lenR_, DN.lenC_n, DN.lenC_s, DN.fIxD_, DN.ixR_, DN.ixC_n, DN.ixC_s, DN.okR_ok, DN.fEqD_, DN.fMethD_, DN.fPropD_, DN.fMakeD_, DN.isi_int_int, DN.isi_int_bool, DN.isi_int_str, DN.isi_str_str, DN.isi_str_int, DN.isi_lst_lst, DN.isi_lst_str, DN.isi_tup_str, DN.isi_tup_tup, DN.isi_lst_lt, DN.isi_tup_lt, DN.isi_str_lt, DN.methR_, DN.methP_, DN.askT_, DN.askP_, DN.fAsk1_, DN.ask1R_, DN.ask1P_, DN.at_cons, beq_self_eq_true, DN.eqR_int, DN.eqR_bl, DN.eqR_str, DN.eqR_lst, DN.eqR_tup, DN.eqR_non, DN.onlyV_bl, DN.onlyV_str, DN.fStrD_, DN.strR_, DN.strC_n, DN.strC_s, DN.fChain_, DN.fSl_, DN.fNoPart_, DN.fPart_, DN.partR_, DN.fDisp_, DN.gSl_lst, DN.gSl_tup, DN.fMut_, DN.gMu_, DN.muC_, DN.muP_, DN.isT_str, DN.isT_lst, DN.gClear_, DN.fCMeth_, DN.cmR_, DN.fMakeL_, DN.mkLR_, DN.makeR_ok, List.append_nil, DN.vB_, DN.vI_, DN.vS_, DN.vT_, DN.nL_, DN.vD_, DN.startE_, DN.outS_nx, DN.outS_rt, DN.outS_ex, List.map, List.nil_append, List.cons_append, List.length_cons, List.length_nil, List.replicate, List.getElem?_cons_zero, List.getElem?_cons_succ, List.getElem?_nil, List.set_cons_zero, List.set_cons_succ, if_true, if_false, ite_true, ite_false, Bool.not_true, Bool.not_false, Bool.false_eq_true, Bool.and_true, Bool.true_and, Bool.or_false, Bool.false_or, Nat.add_sub_cancel, Nat.zero_add, Nat.reduceSub, Nat.reduceAdd, gMax2_, gMax2, gMod_ (show (0 : Int) < 2147483629 by decide), gInt_, gSub_]
  rw [e]
end Q12

namespace Q12
open DN PySem
/-- a word of n signs -/
structure Wd (n : Nat) (s : Str) : Prop where
  len : s.cps.toList.length = n
  le : n ≤ 60
  ok : ∀ c ∈ s.cps.toList, OP.okc c = true
theorem Wd.length {n : Nat} {s : Str} (h : Wd n s) : s.length = n := h.len
theorem Wd.sz {n : Nat} {s : Str} (h : Wd n s) : s.length ≤ 100000 := by have := h.length; have := h.le; omega
theorem Wd.lay {n : Nat} {s : Str} (h : Wd n s) : PyData.strOk s = true := OP.strOk_of fun c hc => OP.okc_lt (h.ok c hc)
theorem okc_in {c : Nat} (h : OP.okc c = true) : gIn (.str ⟨#[c]⟩) (.str "01*") = vB true := by
  show vB (inS ⟨#[c]⟩ "01*") = _
  have : inS ⟨#[c]⟩ "01*" = OP.okc c := rfl
  rw [this, h]
theorem is_word_ok {n : Nat} {s : Str} {S : Sto} (h : Wd n s) : D_is_word [.d (.str s)] S = .ok S (.val (.d (.bl true))) := by
  refine def_pure ?_
  have e := fLc_it (fa := fVar 0) (fe := fOp gIn (fVar 1) (fC (.str "01*"))) (vs := [1]) (env := [.v (.d (.str s)), .u]) (S := S) (i := 1) (fun _ => .bl true) rfl rfl (by rw [List.length_map]; exact h.sz) (fun x hx => by
    obtain ⟨c, hc, rfl⟩ := List.mem_map.mp hx
    simp (config := { dsimp := false }) only [↓reduceIte, DN.bindV_val, DN.bindV_lst, DN.bindV_ob, DN.bindV_dc, DN.bindV_no, DN.bindV_ex, DN.bind_ok, DN.bind_no, DN.bind_ex, DN.sV_val, DN.sV_lst, DN.sV_ob, DN.sV_dc, DN.sV_ex, DN.sB_ok, DN.sB_ex, DN.kSeq_, DN.seqR_nx, DN.seqR_rt, DN.seqR_ex, DN.seqR_no, DN.kRet_, DN.retR_ok, DN.retR_ex, DN.kRetN_, DN.kNext_, DN.loopR_nx, DN.loopR_ct, DN.loopR_bk, DN.loopR_rt, DN.forGo_c, DN.forO_, DN.forGo_n, DN.iVal_, DN.itOf_lst, DN.itOf_tup, DN.kIf_, DN.kExpr_, DN.kSet_, DN.kSetC_, DN.setC_val, DN.setC_new, DN.kAsg_, DN.asgR_d, DN.asgO_, DN.tgN_, DN.tgNil_, DN.tgCons_, DN.tgO_, DN.tgT_, DN.kPar_, DN.parR_, DN.kSub_, DN.kFld_, DN.fVar_, DN.varR_, DN.fC_, DN.fOp_, DN.g2_, DN.g2o_, DN.fUn_, DN.g1_, DN.g1o_, DN.of_some, DN.snap_d, DN.snap_r, DN.snapC_lst, DN.snapC_ob, DN.fNil_, DN.fCons_, DN.fTup_, DN.fLst_, DN.allD_n, DN.allD_c, DN.allC_, DN.gTupD_, DN.gLstD_, DN.tupO_0, DN.lstO_0, DN.tupO_1, DN.lstO_1, DN.tupO_2, DN.lstO_2, DN.tupO_3, DN.lstO_3, DN.tupO_4, DN.lstO_4, DN.tupO_5, DN.lstO_5, DN.tupO_6, DN.lstO_6, DN.tupO_7, DN.lstO_7, DN.fAnd_, DN.fOr_, DN.fNot_, DN.fIf_, DN.onB_, DN.kVal_, DN.kAnd_, DN.kOr_, DN.kNot_, DN.kYes_, DN.fCall_, DN.gA_, DN.gAo_, DN.snaps_n, DN.snaps_c, DN.snapsC_, DN.arg1_, DN.arg12_1, DN.arg12_2, DN.arg2_, DN.onlyIf_t, DN.fCallD_, DN.fMeth_, DN.onT_, DN.onTo_, DN.gM_, DN.gMo_, DN.clsV_r, DN.clsC_lst, DN.clsC_ob, DN.clsV_obj, DN.clsV_int, DN.clsV_bl, DN.clsV_str, DN.clsV_non, DN.clsV_lst, DN.clsV_tup, DN.clsV_scr, DN.fLenD_, DN.lenR_, DN.lenC_n, DN.lenC_s, DN.fIxD_, DN.ixR_, DN.ixC_n, DN.ixC_s, DN.okR_ok, DN.fEqD_, DN.fMethD_, DN.fPropD_, DN.fMakeD_, DN.isi_int_int, DN.isi_int_bool, DN.isi_int_str, DN.isi_str_str, DN.isi_str_int, DN.isi_lst_lst, DN.isi_lst_str, DN.isi_tup_str, DN.isi_tup_tup, DN.isi_lst_lt, DN.isi_tup_lt, DN.isi_str_lt, DN.methR_, DN.methP_, DN.askT_, DN.askP_, DN.fAsk1_, DN.ask1R_, DN.ask1P_, DN.at_cons, beq_self_eq_true, DN.eqR_int, DN.eqR_bl, DN.eqR_str, DN.eqR_lst, DN.eqR_tup, DN.eqR_non, DN.onlyV_bl, DN.onlyV_str, DN.fStrD_, DN.strR_, DN.strC_n, DN.strC_s, DN.fChain_, DN.fSl_, DN.fNoPart_, DN.fPart_, DN.partR_, DN.fDisp_, DN.gSl_lst, DN.gSl_tup, DN.fMut_, DN.gMu_, DN.muC_, DN.muP_, DN.isT_str, DN.isT_lst, DN.gClear_, DN.fCMeth_, DN.cmR_, DN.fMakeL_, DN.mkLR_, DN.makeR_ok, List.append_nil, DN.vB_, DN.vI_, DN.vS_, DN.vT_, DN.nL_, DN.vD_, DN.startE_, DN.outS_nx, DN.outS_rt, DN.outS_ex, List.map, List.nil_append, List.cons_append, List.length_cons, List.length_nil, List.replicate, List.getElem?_cons_zero, List.getElem?_cons_succ, List.getElem?_nil, List.set_cons_zero, List.set_cons_succ, if_true, if_false, ite_true, ite_false, Bool.not_true, Bool.not_false, Bool.false_eq_true, Bool.and_true, Bool.true_and, Bool.or_false, Bool.false_or, Nat.add_sub_cancel, Nat.zero_add, Nat.reduceSub, Nat.reduceAdd, wipeE, okc_in (h.ok c hc)]
    exact got_val)
  have hl := h.length
  have h60 := h.le
  simp (config := { dsimp := false }) only [↓reduceIte, DN.bindV_val, DN.bindV_lst, DN.bindV_ob, DN.bindV_dc, DN.bindV_no, DN.bindV_ex, DN.bind_ok, DN.bind_no, DN.bind_ex, DN.sV_val, DN.sV_lst, DN.sV_ob, DN.sV_dc, DN.sV_ex, DN.sB_ok, DN.sB_ex, DN.kSeq_, DN.seqR_nx, DN.seqR_rt, DN.seqR_ex, DN.seqR_no, DN.kRet_, DN.retR_ok, DN.retR_ex, DN.kRetN_, DN.kNext_, DN.loopR_nx, DN.loopR_ct, DN.loopR_bk, DN.loopR_rt, DN.forGo_c, DN.forO_, DN.forGo_n, DN.iVal_, DN.itOf_lst, DN.itOf_tup, DN.kIf_, DN.kExpr_, DN.kSet_, DN.kSetC_, DN.setC_val, DN.setC_new, DN.kAsg_, DN.asgR_d, DN.asgO_, DN.tgN_, DN.tgNil_, DN.tgCons_, DN.tgO_, DN.tgT_, DN.kPar_, DN.parR_, DN.kSub_, DN.kFld_, DN.fVar_, DN.varR_, DN.fC_, DN.fOp_, DN.g2_, DN.g2o_, DN.fUn_, DN.g1_, DN.g1o_, DN.of_some, DN.snap_d, DN.snap_r, DN.snapC_lst, DN.snapC_ob, DN.fNil_, DN.fCons_, DN.fTup_, DN.fLst_, DN.allD_n, DN.allD_c, DN.allC_, DN.gTupD_, DN.gLstD_, DN.tupO_0, DN.lstO_0, DN.tupO_1, DN.lstO_1, DN.tupO_2, DN.lstO_2, DN.tupO_3, DN.lstO_3, DN.tupO_4, DN.lstO_4, DN.tupO_5, DN.lstO_5, DN.tupO_6, DN.lstO_6, DN.tupO_7, DN.lstO_7, DN.fAnd_, DN.fOr_, DN.fNot_, DN.fIf_, DN.onB_, DN.kVal_, DN.kAnd_, DN.kOr_, DN.kNot_, DN.kYes_, DN.fCall_, DN.gA_, DN.gAo_, DN.snaps_n, DN.snaps_c, DN.snapsC_, DN.arg1_, DN.arg12_1, DN.arg12_2, DN.arg2_, DN.onlyIf_t, DN.fCallD_, DN.fMeth_, DN.onT_, DN.onTo_, DN.gM_, DN.gMo_, DN.clsV_r, DN.clsC_lst, DN.clsC_ob, DN.clsV_obj, DN.clsV_int, DN.clsV_bl, DN.clsV_str, DN.clsV_non, DN.clsV_lst, DN.clsV_tup, DN.clsV_scr, DN.fLenD_, DN.lenR_, DN.lenC_n, DN.lenC_s, DN.fIxD_, DN.ixR_, DN.ixC_n, DN.ixC_s, DN.okR_ok, DN.fEqD_, DN.fMethD_, DN.fPropD_, DN.fMakeD_, DN.isi_int_int, DN.isi_int_bool, DN.isi_int_str, DN.isi_str_str, DN.isi_str_int, DN.isi_lst_lst, DN.isi_lst_str, DN.isi_tup_str, DN.isi_tup_tup, DN.isi_lst_lt, DN.isi_tup_lt, DN.isi_str_lt, DN.methR_, DN.methP_, DN.askT_, DN.askP_, DN.fAsk1_, DN.ask1R_, DN.ask1P_, DN.at_cons, beq_self_eq_true, DN.eqR_int, DN.eqR_bl, DN.eqR_str, DN.eqR_lst, DN.eqR_tup, DN.eqR_non, DN.onlyV_bl, DN.onlyV_str, DN.fStrD_, DN.strR_, DN.strC_n, DN.strC_s, DN.fChain_, DN.fSl_, DN.fNoPart_, DN.fPart_, DN.partR_, DN.fDisp_, DN.gSl_lst, DN.gSl_tup, DN.fMut_, DN.gMu_, DN.muC_, DN.muP_, DN.isT_str, DN.isT_lst, DN.gClear_, DN.fCMeth_, DN.cmR_, DN.fMakeL_, DN.mkLR_, DN.makeR_ok, List.append_nil, DN.vB_, DN.vI_, DN.vS_, DN.vT_, DN.nL_, DN.vD_, DN.startE_, DN.outS_nx, DN.outS_rt, DN.outS_ex, List.map, List.nil_append, List.cons_append, List.length_cons, List.length_nil, List.replicate, List.getElem?_cons_zero, List.getElem?_cons_succ, List.getElem?_nil, List.set_cons_zero, List.set_cons_succ, if_true, if_false, ite_true, ite_false, Bool.not_true, Bool.not_false, Bool.false_eq_true, Bool.and_true, Bool.true_and, Bool.or_false, Bool.false_or, Nat.add_sub_cancel, Nat.zero_add, Nat.reduceSub, Nat.reduceAdd, e, gLen_str h.sz, hl, gLe_, decide_eq_true (show (n : Int) ≤ 60 by omega), gAll_true]
theorem check_word_ok {n : Nat} {s : Str} {S : Sto} (h : Wd n s) : D_check_word [.d (.str s)] S = .ok S (.val (.d .non)) := by
  refine def_pure ?_
  simp (config := { dsimp := false }) only [↓reduceIte, DN.bindV_val, DN.bindV_lst, DN.bindV_ob, DN.bindV_dc, DN.bindV_no, DN.bindV_ex, DN.bind_ok, DN.bind_no, DN.bind_ex, DN.sV_val, DN.sV_lst, DN.sV_ob, DN.sV_dc, DN.sV_ex, DN.sB_ok, DN.sB_ex, DN.kSeq_, DN.seqR_nx, DN.seqR_rt, DN.seqR_ex, DN.seqR_no, DN.kRet_, DN.retR_ok, DN.retR_ex, DN.kRetN_, DN.kNext_, DN.loopR_nx, DN.loopR_ct, DN.loopR_bk, DN.loopR_rt, DN.forGo_c, DN.forO_, DN.forGo_n, DN.iVal_, DN.itOf_lst, DN.itOf_tup, DN.kIf_, DN.kExpr_, DN.kSet_, DN.kSetC_, DN.setC_val, DN.setC_new, DN.kAsg_, DN.asgR_d, DN.asgO_, DN.tgN_, DN.tgNil_, DN.tgCons_, DN.tgO_, DN.tgT_, DN.kPar_, DN.parR_, DN.kSub_, DN.kFld_, DN.fVar_, DN.varR_, DN.fC_, DN.fOp_, DN.g2_, DN.g2o_, DN.fUn_, DN.g1_, DN.g1o_, DN.of_some, DN.snap_d, DN.snap_r, DN.snapC_lst, DN.snapC_ob, DN.fNil_, DN.fCons_, DN.fTup_, DN.fLst_, DN.allD_n, DN.allD_c, DN.allC_, DN.gTupD_, DN.gLstD_, DN.tupO_0, DN.lstO_0, DN.tupO_1, DN.lstO_1, DN.tupO_2, DN.lstO_2, DN.tupO_3, DN.lstO_3, DN.tupO_4, DN.lstO_4, DN.tupO_5, DN.lstO_5, DN.tupO_6, DN.lstO_6, DN.tupO_7, DN.lstO_7, DN.fAnd_, DN.fOr_, DN.fNot_, DN.fIf_, DN.onB_, DN.kVal_, DN.kAnd_, DN.kOr_, DN.kNot_, DN.kYes_, DN.fCall_, DN.gA_, DN.gAo_, DN.snaps_n, DN.snaps_c, DN.snapsC_, DN.arg1_, DN.arg12_1, DN.arg12_2, DN.arg2_, DN.onlyIf_t, DN.fCallD_, DN.fMeth_, DN.onT_, DN.onTo_, DN.gM_, DN.gMo_, DN.clsV_r, DN.clsC_lst, DN.clsC_ob, DN.clsV_obj, DN.clsV_int, DN.clsV_bl, DN.clsV_str, DN.clsV_non, DN.clsV_lst, DN.clsV_tup, DN.clsV_scr, DN.fLenD_, DN.lenR_, DN.lenC_n, DN.lenC_s, DN.fIxD_, DN.ixR_, DN.ixC_n, DN.ixC_s, DN.okR_ok, DN.fEqD_, DN.fMethD_, DN.fPropD_, DN.fMakeD_, DN.isi_int_int, DN.isi_int_bool, DN.isi_int_str, DN.isi_str_str, DN.isi_str_int, DN.isi_lst_lst, DN.isi_lst_str, DN.isi_tup_str, DN.isi_tup_tup, DN.isi_lst_lt, DN.isi_tup_lt, DN.isi_str_lt, DN.methR_, DN.methP_, DN.askT_, DN.askP_, DN.fAsk1_, DN.ask1R_, DN.ask1P_, DN.at_cons, beq_self_eq_true, DN.eqR_int, DN.eqR_bl, DN.eqR_str, DN.eqR_lst, DN.eqR_tup, DN.eqR_non, DN.onlyV_bl, DN.onlyV_str, DN.fStrD_, DN.strR_, DN.strC_n, DN.strC_s, DN.fChain_, DN.fSl_, DN.fNoPart_, DN.fPart_, DN.partR_, DN.fDisp_, DN.gSl_lst, DN.gSl_tup, DN.fMut_, DN.gMu_, DN.muC_, DN.muP_, DN.isT_str, DN.isT_lst, DN.gClear_, DN.fCMeth_, DN.cmR_, DN.fMakeL_, DN.mkLR_, DN.makeR_ok, List.append_nil, DN.vB_, DN.vI_, DN.vS_, DN.vT_, DN.nL_, DN.vD_, DN.startE_, DN.outS_nx, DN.outS_rt, DN.outS_ex, List.map, List.nil_append, List.cons_append, List.length_cons, List.length_nil, List.replicate, List.getElem?_cons_zero, List.getElem?_cons_succ, List.getElem?_nil, List.set_cons_zero, List.set_cons_succ, if_true, if_false, ite_true, ite_false, Bool.not_true, Bool.not_false, Bool.false_eq_true, Bool.and_true, Bool.true_and, Bool.or_false, Bool.false_or, Nat.add_sub_cancel, Nat.zero_add, Nat.reduceSub, Nat.reduceAdd, is_word_ok h]
/-- two signs that tell apart -/
def bad (c d : Nat) : Bool := (c == 48 && d == 49) || (c == 49 && d == 48)
/-- the places that tell apart -/
def dif (a b : Str) : List Nat := (List.range a.cps.toList.length).filter fun k => bad (a.cps.toList.getD k 0) (b.cps.toList.getD k 0)
theorem str_cps {a b : Str} : (a == b) = (a.cps.toList == b.cps.toList) := by
  by_cases h : a = b
  · subst h; simp
  · have : a.cps.toList ≠ b.cps.toList := fun c => h (by
      cases a; cases b
      congr
      exact Array.toList_inj.mp c)
    rw [beq_false_of_ne h, beq_false_of_ne this]
theorem z0 : PyData.strOk ("0" : Str) = true := OP.sgn_lay (c := 48) rfl
theorem z1 : PyData.strOk ("1" : Str) = true := OP.sgn_lay (c := 49) rfl
theorem bad_tup {c d : Nat} (hc : OP.okc c = true) (hd : OP.okc d = true) :
    gIn (.tup [.str ⟨#[c]⟩, .str ⟨#[d]⟩]) (.tup [.tup [.str "0", .str "1"], .tup [.str "1", .str "0"]]) = vB (bad c d) := by
  show onlyIf (okN 60 (.tup [.str ⟨#[c]⟩, .str ⟨#[d]⟩]) && _) _ = _
  have e1 : okN 60 (.tup [.str ⟨#[c]⟩, .str ⟨#[d]⟩]) = true := by
    show ((PyData.strOk ⟨#[c]⟩) && ((PyData.strOk ⟨#[d]⟩) && true)) = true
    rw [OP.sgn_lay hc, OP.sgn_lay hd]; rfl
  rw [e1]
  have e2 : okNs 60 [.tup [.str "0", .str "1"], .tup [.str "1", .str "0"]] = true := by
    show (((PyData.strOk ("0" : Str)) && ((PyData.strOk ("1" : Str)) && true)) && (((PyData.strOk ("1" : Str)) && ((PyData.strOk ("0" : Str)) && true)) && true)) = true
    rw [z0, z1]; rfl
  rw [e2]
  have hz : (("0" : Str) == ⟨#[c]⟩) = (48 == c) := by rw [str_cps]; simp [show (("0" : Str)).cps.toList = [48] from rfl]
  have ho : (("1" : Str) == ⟨#[c]⟩) = (49 == c) := by rw [str_cps]; simp [show (("1" : Str)).cps.toList = [49] from rfl]
  have hz' : (("0" : Str) == ⟨#[d]⟩) = (48 == d) := by rw [str_cps]; simp [show (("0" : Str)).cps.toList = [48] from rfl]
  have ho' : (("1" : Str) == ⟨#[d]⟩) = (49 == d) := by rw [str_cps]; simp [show (("1" : Str)).cps.toList = [49] from rfl]
  show vB _ = vB _
  congr 1
  simp only [inD, List.any, eqD, eqDs, Bool.and_true, Bool.or_false, hz, ho, hz', ho', bad]
  rw [show (48 == c) = (c == 48) from Bool.beq_comm, show (49 == c) = (c == 49) from Bool.beq_comm, show (48 == d) = (d == 48) from Bool.beq_comm, show (49 == d) = (d == 49) from Bool.beq_comm]
theorem bad_lst {c d : Nat} (hc : OP.okc c = true) (hd : OP.okc d = true) :
    gIn (.lst [.str ⟨#[c]⟩, .str ⟨#[d]⟩]) (.lst [.lst [.str "0", .str "1"], .lst [.str "1", .str "0"]]) = vB (bad c d) := by
  show onlyIf (okN 60 (.lst [.str ⟨#[c]⟩, .str ⟨#[d]⟩]) && _) _ = _
  have e1 : okN 60 (.lst [.str ⟨#[c]⟩, .str ⟨#[d]⟩]) = true := by
    show ((PyData.strOk ⟨#[c]⟩) && ((PyData.strOk ⟨#[d]⟩) && true)) = true
    rw [OP.sgn_lay hc, OP.sgn_lay hd]; rfl
  rw [e1]
  have e2 : okNs 60 [.lst [.str "0", .str "1"], .lst [.str "1", .str "0"]] = true := by
    show (((PyData.strOk ("0" : Str)) && ((PyData.strOk ("1" : Str)) && true)) && (((PyData.strOk ("1" : Str)) && ((PyData.strOk ("0" : Str)) && true)) && true)) = true
    rw [z0, z1]; rfl
  rw [e2]
  have hz : (("0" : Str) == ⟨#[c]⟩) = (48 == c) := by rw [str_cps]; simp [show (("0" : Str)).cps.toList = [48] from rfl]
  have ho : (("1" : Str) == ⟨#[c]⟩) = (49 == c) := by rw [str_cps]; simp [show (("1" : Str)).cps.toList = [49] from rfl]
  have hz' : (("0" : Str) == ⟨#[d]⟩) = (48 == d) := by rw [str_cps]; simp [show (("0" : Str)).cps.toList = [48] from rfl]
  have ho' : (("1" : Str) == ⟨#[d]⟩) = (49 == d) := by rw [str_cps]; simp [show (("1" : Str)).cps.toList = [49] from rfl]
  show vB _ = vB _
  congr 1
  simp only [inD, List.any, eqD, eqDs, Bool.and_true, Bool.or_false, hz, ho, hz', ho', bad]
  rw [show (48 == c) = (c == 48) from Bool.beq_comm, show (49 == c) = (c == 49) from Bool.beq_comm, show (48 == d) = (d == 48) from Bool.beq_comm, show (49 == d) = (d == 49) from Bool.beq_comm]
/-- the items of enumerate(zip(a, b)) -/
theorem ez_items (a b : List Nat) (h : a.length = b.length) : enumD (zipD (a.map fun c => Dv.str ⟨#[c]⟩) (b.map fun c => .str ⟨#[c]⟩)) = (List.range a.length).map fun k : Nat => Dv.tup [.int k, .tup [.str ⟨#[a.getD k 0]⟩, .str ⟨#[b.getD k 0]⟩]] := by
  unfold enumD zipD
  apply List.ext_getElem?
  intro k
  by_cases hk : k < a.length
  · have hk' : k < b.length := by omega
    simp [List.getElem?_map, List.getElem?_zipIdx, List.zip, List.getElem?_zipWith, List.getElem?_eq_getElem hk, List.getElem?_eq_getElem hk', List.getElem?_range hk, List.getD, Option.map]
  · rw [List.getElem?_eq_none, List.getElem?_eq_none]
    · simp; omega
    · simp [List.length_zip]; omega
theorem differing_ok {n : Nat} {a b : Str} {S : Sto} (ha : Wd n a) (hb : Wd n b) : D_differing [.d (.str a), .d (.str b)] S = .ok S (.new (.lst ((dif a b).map fun k : Nat => .int k))) := by
  have la := ha.len
  have lb := hb.len
  refine def_new ?_
  have hs : a.cps.size = b.cps.size := la.trans lb.symm
  have hi : iEz (fCons (fVar 0) (fCons (fVar 1) fNil)) [.v (.d (.str a)), .v (.d (.str b)), .u, .u] S = .ok S ((List.range a.cps.toList.length).map fun k : Nat => Dv.tup [.int k, .tup [.str ⟨#[a.cps.toList.getD k 0]⟩, .str ⟨#[b.cps.toList.getD k 0]⟩]], none) := by
    show itEz S [.d (.str a), .d (.str b)] = _
    unfold itEz
    simp only [hs, if_true]
    rw [ez_items _ _ (la.trans lb.symm)]
  have e := fLc_pure (fi := iEz (fCons (fVar 0) (fCons (fVar 1) fNil))) (tg := tgT (tgCons (tgN 2) (tgCons (tgN 3) tgNil)))
    (ft := kVal (fOp gIn (fVar 3) (fTup (fCons (fTup (fCons (fC (.str "0")) (fCons (fC (.str "1")) fNil))) (fCons (fTup (fCons (fC (.str "1")) (fCons (fC (.str "0")) fNil))) fNil)))))
    (fe := fVar 2) (vs := [2, 3]) (env := [.v (.d (.str a)), .v (.d (.str b)), .u, .u]) (S := S)
    (fun d => match d with | .tup [.int i, _] => bad (a.cps.toList.getD i.toNat 0) (b.cps.toList.getD i.toNat 0) | _ => false)
    (fun d => match d with | .tup [.int i, _] => .int i | _ => .non) hi rfl (by have := ha.le; simp [-Array.length_toList]; omega) (fun x hx => by
      obtain ⟨k, hk, rfl⟩ := List.mem_map.mp hx
      have hk := List.mem_range.mp hk
      have hka : OP.okc (a.cps.toList.getD k 0) = true := ha.ok _ (by rw [List.getD, List.getElem?_eq_getElem hk]; exact List.getElem_mem _)
      have hkb : OP.okc (b.cps.toList.getD k 0) = true := hb.ok _ (by rw [List.getD, List.getElem?_eq_getElem (by omega)]; exact List.getElem_mem _)
      refine ⟨_, rfl, ?_, fun _ => ?_⟩
      · simp (config := { dsimp := false }) only [↓reduceIte, DN.bindV_val, DN.bindV_lst, DN.bindV_ob, DN.bindV_dc, DN.bindV_no, DN.bindV_ex, DN.bind_ok, DN.bind_no, DN.bind_ex, DN.sV_val, DN.sV_lst, DN.sV_ob, DN.sV_dc, DN.sV_ex, DN.sB_ok, DN.sB_ex, DN.kSeq_, DN.seqR_nx, DN.seqR_rt, DN.seqR_ex, DN.seqR_no, DN.kRet_, DN.retR_ok, DN.retR_ex, DN.kRetN_, DN.kNext_, DN.loopR_nx, DN.loopR_ct, DN.loopR_bk, DN.loopR_rt, DN.forGo_c, DN.forO_, DN.forGo_n, DN.iVal_, DN.itOf_lst, DN.itOf_tup, DN.kIf_, DN.kExpr_, DN.kSet_, DN.kSetC_, DN.setC_val, DN.setC_new, DN.kAsg_, DN.asgR_d, DN.asgO_, DN.tgN_, DN.tgNil_, DN.tgCons_, DN.tgO_, DN.tgT_, DN.kPar_, DN.parR_, DN.kSub_, DN.kFld_, DN.fVar_, DN.varR_, DN.fC_, DN.fOp_, DN.g2_, DN.g2o_, DN.fUn_, DN.g1_, DN.g1o_, DN.of_some, DN.snap_d, DN.snap_r, DN.snapC_lst, DN.snapC_ob, DN.fNil_, DN.fCons_, DN.fTup_, DN.fLst_, DN.allD_n, DN.allD_c, DN.allC_, DN.gTupD_, DN.gLstD_, DN.tupO_0, DN.lstO_0, DN.tupO_1, DN.lstO_1, DN.tupO_2, DN.lstO_2, DN.tupO_3, DN.lstO_3, DN.tupO_4, DN.lstO_4, DN.tupO_5, DN.lstO_5, DN.tupO_6, DN.lstO_6, DN.tupO_7, DN.lstO_7, DN.fAnd_, DN.fOr_, DN.fNot_, DN.fIf_, DN.onB_, DN.kVal_, DN.kAnd_, DN.kOr_, DN.kNot_, DN.kYes_, DN.fCall_, DN.gA_, DN.gAo_, DN.snaps_n, DN.snaps_c, DN.snapsC_, DN.arg1_, DN.arg12_1, DN.arg12_2, DN.arg2_, DN.onlyIf_t, DN.fCallD_, DN.fMeth_, DN.onT_, DN.onTo_, DN.gM_, DN.gMo_, DN.clsV_r, DN.clsC_lst, DN.clsC_ob, DN.clsV_obj, DN.clsV_int, DN.clsV_bl, DN.clsV_str, DN.clsV_non, DN.clsV_lst, DN.clsV_tup, DN.clsV_scr, DN.fLenD_, DN.lenR_, DN.lenC_n, DN.lenC_s, DN.fIxD_, DN.ixR_, DN.ixC_n, DN.ixC_s, DN.okR_ok, DN.fEqD_, DN.fMethD_, DN.fPropD_, DN.fMakeD_, DN.isi_int_int, DN.isi_int_bool, DN.isi_int_str, DN.isi_str_str, DN.isi_str_int, DN.isi_lst_lst, DN.isi_lst_str, DN.isi_tup_str, DN.isi_tup_tup, DN.isi_lst_lt, DN.isi_tup_lt, DN.isi_str_lt, DN.methR_, DN.methP_, DN.askT_, DN.askP_, DN.fAsk1_, DN.ask1R_, DN.ask1P_, DN.at_cons, beq_self_eq_true, DN.eqR_int, DN.eqR_bl, DN.eqR_str, DN.eqR_lst, DN.eqR_tup, DN.eqR_non, DN.onlyV_bl, DN.onlyV_str, DN.fStrD_, DN.strR_, DN.strC_n, DN.strC_s, DN.fChain_, DN.fSl_, DN.fNoPart_, DN.fPart_, DN.partR_, DN.fDisp_, DN.gSl_lst, DN.gSl_tup, DN.fMut_, DN.gMu_, DN.muC_, DN.muP_, DN.isT_str, DN.isT_lst, DN.gClear_, DN.fCMeth_, DN.cmR_, DN.fMakeL_, DN.mkLR_, DN.makeR_ok, List.append_nil, DN.vB_, DN.vI_, DN.vS_, DN.vT_, DN.nL_, DN.vD_, DN.startE_, DN.outS_nx, DN.outS_rt, DN.outS_ex, List.map, List.nil_append, List.cons_append, List.length_cons, List.length_nil, List.replicate, List.getElem?_cons_zero, List.getElem?_cons_succ, List.getElem?_nil, List.set_cons_zero, List.set_cons_succ, if_true, if_false, ite_true, ite_false, Bool.not_true, Bool.not_false, Bool.false_eq_true, Bool.and_true, Bool.true_and, Bool.or_false, Bool.false_or, Nat.add_sub_cancel, Nat.zero_add, Nat.reduceSub, Nat.reduceAdd, wipeE, bad_tup hka hkb]
        rfl
      · exact got_val)
  have hn : gNe (.int a.length) (.int b.length) = vB false := by rw [gNe_int, ha.length, hb.length]; simp
  simp (config := { dsimp := false }) only [↓reduceIte, DN.bindV_val, DN.bindV_lst, DN.bindV_ob, DN.bindV_dc, DN.bindV_no, DN.bindV_ex, DN.bind_ok, DN.bind_no, DN.bind_ex, DN.sV_val, DN.sV_lst, DN.sV_ob, DN.sV_dc, DN.sV_ex, DN.sB_ok, DN.sB_ex, DN.kSeq_, DN.seqR_nx, DN.seqR_rt, DN.seqR_ex, DN.seqR_no, DN.kRet_, DN.retR_ok, DN.retR_ex, DN.kRetN_, DN.kNext_, DN.loopR_nx, DN.loopR_ct, DN.loopR_bk, DN.loopR_rt, DN.forGo_c, DN.forO_, DN.forGo_n, DN.iVal_, DN.itOf_lst, DN.itOf_tup, DN.kIf_, DN.kExpr_, DN.kSet_, DN.kSetC_, DN.setC_val, DN.setC_new, DN.kAsg_, DN.asgR_d, DN.asgO_, DN.tgN_, DN.tgNil_, DN.tgCons_, DN.tgO_, DN.tgT_, DN.kPar_, DN.parR_, DN.kSub_, DN.kFld_, DN.fVar_, DN.varR_, DN.fC_, DN.fOp_, DN.g2_, DN.g2o_, DN.fUn_, DN.g1_, DN.g1o_, DN.of_some, DN.snap_d, DN.snap_r, DN.snapC_lst, DN.snapC_ob, DN.fNil_, DN.fCons_, DN.fTup_, DN.fLst_, DN.allD_n, DN.allD_c, DN.allC_, DN.gTupD_, DN.gLstD_, DN.tupO_0, DN.lstO_0, DN.tupO_1, DN.lstO_1, DN.tupO_2, DN.lstO_2, DN.tupO_3, DN.lstO_3, DN.tupO_4, DN.lstO_4, DN.tupO_5, DN.lstO_5, DN.tupO_6, DN.lstO_6, DN.tupO_7, DN.lstO_7, DN.fAnd_, DN.fOr_, DN.fNot_, DN.fIf_, DN.onB_, DN.kVal_, DN.kAnd_, DN.kOr_, DN.kNot_, DN.kYes_, DN.fCall_, DN.gA_, DN.gAo_, DN.snaps_n, DN.snaps_c, DN.snapsC_, DN.arg1_, DN.arg12_1, DN.arg12_2, DN.arg2_, DN.onlyIf_t, DN.fCallD_, DN.fMeth_, DN.onT_, DN.onTo_, DN.gM_, DN.gMo_, DN.clsV_r, DN.clsC_lst, DN.clsC_ob, DN.clsV_obj, DN.clsV_int, DN.clsV_bl, DN.clsV_str, DN.clsV_non, DN.clsV_lst, DN.clsV_tup, DN.clsV_scr, DN.fLenD_, DN.lenR_, DN.lenC_n, DN.lenC_s, DN.fIxD_, DN.ixR_, DN.ixC_n, DN.ixC_s, DN.okR_ok, DN.fEqD_, DN.fMethD_, DN.fPropD_, DN.fMakeD_, DN.isi_int_int, DN.isi_int_bool, DN.isi_int_str, DN.isi_str_str, DN.isi_str_int, DN.isi_lst_lst, DN.isi_lst_str, DN.isi_tup_str, DN.isi_tup_tup, DN.isi_lst_lt, DN.isi_tup_lt, DN.isi_str_lt, DN.methR_, DN.methP_, DN.askT_, DN.askP_, DN.fAsk1_, DN.ask1R_, DN.ask1P_, DN.at_cons, beq_self_eq_true, DN.eqR_int, DN.eqR_bl, DN.eqR_str, DN.eqR_lst, DN.eqR_tup, DN.eqR_non, DN.onlyV_bl, DN.onlyV_str, DN.fStrD_, DN.strR_, DN.strC_n, DN.strC_s, DN.fChain_, DN.fSl_, DN.fNoPart_, DN.fPart_, DN.partR_, DN.fDisp_, DN.gSl_lst, DN.gSl_tup, DN.fMut_, DN.gMu_, DN.muC_, DN.muP_, DN.isT_str, DN.isT_lst, DN.gClear_, DN.fCMeth_, DN.cmR_, DN.fMakeL_, DN.mkLR_, DN.makeR_ok, List.append_nil, DN.vB_, DN.vI_, DN.vS_, DN.vT_, DN.nL_, DN.vD_, DN.startE_, DN.outS_nx, DN.outS_rt, DN.outS_ex, List.map, List.nil_append, List.cons_append, List.length_cons, List.length_nil, List.replicate, List.getElem?_cons_zero, List.getElem?_cons_succ, List.getElem?_nil, List.set_cons_zero, List.set_cons_succ, if_true, if_false, ite_true, ite_false, Bool.not_true, Bool.not_false, Bool.false_eq_true, Bool.and_true, Bool.true_and, Bool.or_false, Bool.false_or, Nat.add_sub_cancel, Nat.zero_add, Nat.reduceSub, Nat.reduceAdd, check_word_ok ha, check_word_ok hb, gLen_str ha.sz, gLen_str hb.sz, hn, e]
  rw [List.filter_map, List.map_map]
  rfl
theorem apart_ok {n : Nat} {a b : Str} {S : Sto} (ha : Wd n a) (hb : Wd n b) : D_apart [.d (.str a), .d (.str b)] S = .ok S (.val (.d (.int (dif a b).length))) := by
  refine def_pure ?_
  simp (config := { dsimp := false }) only [↓reduceIte, DN.bindV_val, DN.bindV_lst, DN.bindV_ob, DN.bindV_dc, DN.bindV_no, DN.bindV_ex, DN.bind_ok, DN.bind_no, DN.bind_ex, DN.sV_val, DN.sV_lst, DN.sV_ob, DN.sV_dc, DN.sV_ex, DN.sB_ok, DN.sB_ex, DN.kSeq_, DN.seqR_nx, DN.seqR_rt, DN.seqR_ex, DN.seqR_no, DN.kRet_, DN.retR_ok, DN.retR_ex, DN.kRetN_, DN.kNext_, DN.loopR_nx, DN.loopR_ct, DN.loopR_bk, DN.loopR_rt, DN.forGo_c, DN.forO_, DN.forGo_n, DN.iVal_, DN.itOf_lst, DN.itOf_tup, DN.kIf_, DN.kExpr_, DN.kSet_, DN.kSetC_, DN.setC_val, DN.setC_new, DN.kAsg_, DN.asgR_d, DN.asgO_, DN.tgN_, DN.tgNil_, DN.tgCons_, DN.tgO_, DN.tgT_, DN.kPar_, DN.parR_, DN.kSub_, DN.kFld_, DN.fVar_, DN.varR_, DN.fC_, DN.fOp_, DN.g2_, DN.g2o_, DN.fUn_, DN.g1_, DN.g1o_, DN.of_some, DN.snap_d, DN.snap_r, DN.snapC_lst, DN.snapC_ob, DN.fNil_, DN.fCons_, DN.fTup_, DN.fLst_, DN.allD_n, DN.allD_c, DN.allC_, DN.gTupD_, DN.gLstD_, DN.tupO_0, DN.lstO_0, DN.tupO_1, DN.lstO_1, DN.tupO_2, DN.lstO_2, DN.tupO_3, DN.lstO_3, DN.tupO_4, DN.lstO_4, DN.tupO_5, DN.lstO_5, DN.tupO_6, DN.lstO_6, DN.tupO_7, DN.lstO_7, DN.fAnd_, DN.fOr_, DN.fNot_, DN.fIf_, DN.onB_, DN.kVal_, DN.kAnd_, DN.kOr_, DN.kNot_, DN.kYes_, DN.fCall_, DN.gA_, DN.gAo_, DN.snaps_n, DN.snaps_c, DN.snapsC_, DN.arg1_, DN.arg12_1, DN.arg12_2, DN.arg2_, DN.onlyIf_t, DN.fCallD_, DN.fMeth_, DN.onT_, DN.onTo_, DN.gM_, DN.gMo_, DN.clsV_r, DN.clsC_lst, DN.clsC_ob, DN.clsV_obj, DN.clsV_int, DN.clsV_bl, DN.clsV_str, DN.clsV_non, DN.clsV_lst, DN.clsV_tup, DN.clsV_scr, DN.fLenD_, DN.lenR_, DN.lenC_n, DN.lenC_s, DN.fIxD_, DN.ixR_, DN.ixC_n, DN.ixC_s, DN.okR_ok, DN.fEqD_, DN.fMethD_, DN.fPropD_, DN.fMakeD_, DN.isi_int_int, DN.isi_int_bool, DN.isi_int_str, DN.isi_str_str, DN.isi_str_int, DN.isi_lst_lst, DN.isi_lst_str, DN.isi_tup_str, DN.isi_tup_tup, DN.isi_lst_lt, DN.isi_tup_lt, DN.isi_str_lt, DN.methR_, DN.methP_, DN.askT_, DN.askP_, DN.fAsk1_, DN.ask1R_, DN.ask1P_, DN.at_cons, beq_self_eq_true, DN.eqR_int, DN.eqR_bl, DN.eqR_str, DN.eqR_lst, DN.eqR_tup, DN.eqR_non, DN.onlyV_bl, DN.onlyV_str, DN.fStrD_, DN.strR_, DN.strC_n, DN.strC_s, DN.fChain_, DN.fSl_, DN.fNoPart_, DN.fPart_, DN.partR_, DN.fDisp_, DN.gSl_lst, DN.gSl_tup, DN.fMut_, DN.gMu_, DN.muC_, DN.muP_, DN.isT_str, DN.isT_lst, DN.gClear_, DN.fCMeth_, DN.cmR_, DN.fMakeL_, DN.mkLR_, DN.makeR_ok, List.append_nil, DN.vB_, DN.vI_, DN.vS_, DN.vT_, DN.nL_, DN.vD_, DN.startE_, DN.outS_nx, DN.outS_rt, DN.outS_ex, List.map, List.nil_append, List.cons_append, List.length_cons, List.length_nil, List.replicate, List.getElem?_cons_zero, List.getElem?_cons_succ, List.getElem?_nil, List.set_cons_zero, List.set_cons_succ, if_true, if_false, ite_true, ite_false, Bool.not_true, Bool.not_false, Bool.false_eq_true, Bool.and_true, Bool.true_and, Bool.or_false, Bool.false_or, Nat.add_sub_cancel, Nat.zero_add, Nat.reduceSub, Nat.reduceAdd, differing_ok ha hb, gLen_lst, List.length_map]
end Q12

namespace Q12
open DN PySem
theorem law_apart_ok {n : Nat} {a b : Str} {S : Sto} (ha : Wd n a) (hb : Wd n b) : D_law_apart [.d (.str a), .d (.str b)] S = .ok S (.val (.d (.int (dif a b).length))) := by
  have la := ha.len
  have lb := hb.len
  refine def_pure ?_
  have e := fLc_rgF (fl := fCons (fLenD [("Addresses", 1, D_Addresses_len)] (fCons (fVar 0) fNil)) fNil)
    (ft := kVal (fOp gIn (fLst (fCons (fIxD [("Addresses", 2, D_Addresses_getitem)] (fVar 0) (fVar 2)) (fCons (fIxD [("Addresses", 2, D_Addresses_getitem)] (fVar 1) (fVar 2)) fNil))) (fLst (fCons (fLst (fCons (fC (.str "0")) (fCons (fC (.str "1")) fNil))) (fCons (fLst (fCons (fC (.str "1")) (fCons (fC (.str "0")) fNil))) fNil)))))
    (fe := fVar 2) (vs := [2]) (env := [.v (.d (.str a)), .v (.d (.str b)), .u]) (S := S) (i := 2) (n := a.cps.toList.length) (fun k => bad (a.cps.toList.getD k 0) (b.cps.toList.getD k 0)) (fun k => .int k)
    (by simp (config := { dsimp := false }) only [↓reduceIte, DN.bindV_val, DN.bindV_lst, DN.bindV_ob, DN.bindV_dc, DN.bindV_no, DN.bindV_ex, DN.bind_ok, DN.bind_no, DN.bind_ex, DN.sV_val, DN.sV_lst, DN.sV_ob, DN.sV_dc, DN.sV_ex, DN.sB_ok, DN.sB_ex, DN.kSeq_, DN.seqR_nx, DN.seqR_rt, DN.seqR_ex, DN.seqR_no, DN.kRet_, DN.retR_ok, DN.retR_ex, DN.kRetN_, DN.kNext_, DN.loopR_nx, DN.loopR_ct, DN.loopR_bk, DN.loopR_rt, DN.forGo_c, DN.forO_, DN.forGo_n, DN.iVal_, DN.itOf_lst, DN.itOf_tup, DN.kIf_, DN.kExpr_, DN.kSet_, DN.kSetC_, DN.setC_val, DN.setC_new, DN.kAsg_, DN.asgR_d, DN.asgO_, DN.tgN_, DN.tgNil_, DN.tgCons_, DN.tgO_, DN.tgT_, DN.kPar_, DN.parR_, DN.kSub_, DN.kFld_, DN.fVar_, DN.varR_, DN.fC_, DN.fOp_, DN.g2_, DN.g2o_, DN.fUn_, DN.g1_, DN.g1o_, DN.of_some, DN.snap_d, DN.snap_r, DN.snapC_lst, DN.snapC_ob, DN.fNil_, DN.fCons_, DN.fTup_, DN.fLst_, DN.allD_n, DN.allD_c, DN.allC_, DN.gTupD_, DN.gLstD_, DN.tupO_0, DN.lstO_0, DN.tupO_1, DN.lstO_1, DN.tupO_2, DN.lstO_2, DN.tupO_3, DN.lstO_3, DN.tupO_4, DN.lstO_4, DN.tupO_5, DN.lstO_5, DN.tupO_6, DN.lstO_6, DN.tupO_7, DN.lstO_7, DN.fAnd_, DN.fOr_, DN.fNot_, DN.fIf_, DN.onB_, DN.kVal_, DN.kAnd_, DN.kOr_, DN.kNot_, DN.kYes_, DN.fCall_, DN.gA_, DN.gAo_, DN.snaps_n, DN.snaps_c, DN.snapsC_, DN.arg1_, DN.arg12_1, DN.arg12_2, DN.arg2_, DN.onlyIf_t, DN.fCallD_, DN.fMeth_, DN.onT_, DN.onTo_, DN.gM_, DN.gMo_, DN.clsV_r, DN.clsC_lst, DN.clsC_ob, DN.clsV_obj, DN.clsV_int, DN.clsV_bl, DN.clsV_str, DN.clsV_non, DN.clsV_lst, DN.clsV_tup, DN.clsV_scr, DN.fLenD_, DN.lenR_, DN.lenC_n, DN.lenC_s, DN.fIxD_, DN.ixR_, DN.ixC_n, DN.ixC_s, DN.okR_ok, DN.fEqD_, DN.fMethD_, DN.fPropD_, DN.fMakeD_, DN.isi_int_int, DN.isi_int_bool, DN.isi_int_str, DN.isi_str_str, DN.isi_str_int, DN.isi_lst_lst, DN.isi_lst_str, DN.isi_tup_str, DN.isi_tup_tup, DN.isi_lst_lt, DN.isi_tup_lt, DN.isi_str_lt, DN.methR_, DN.methP_, DN.askT_, DN.askP_, DN.fAsk1_, DN.ask1R_, DN.ask1P_, DN.at_cons, beq_self_eq_true, DN.eqR_int, DN.eqR_bl, DN.eqR_str, DN.eqR_lst, DN.eqR_tup, DN.eqR_non, DN.onlyV_bl, DN.onlyV_str, DN.fStrD_, DN.strR_, DN.strC_n, DN.strC_s, DN.fChain_, DN.fSl_, DN.fNoPart_, DN.fPart_, DN.partR_, DN.fDisp_, DN.gSl_lst, DN.gSl_tup, DN.fMut_, DN.gMu_, DN.muC_, DN.muP_, DN.isT_str, DN.isT_lst, DN.gClear_, DN.fCMeth_, DN.cmR_, DN.fMakeL_, DN.mkLR_, DN.makeR_ok, List.append_nil, DN.vB_, DN.vI_, DN.vS_, DN.vT_, DN.nL_, DN.vD_, DN.startE_, DN.outS_nx, DN.outS_rt, DN.outS_ex, List.map, List.nil_append, List.cons_append, List.length_cons, List.length_nil, List.replicate, List.getElem?_cons_zero, List.getElem?_cons_succ, List.getElem?_nil, List.set_cons_zero, List.set_cons_succ, if_true, if_false, ite_true, ite_false, Bool.not_true, Bool.not_false, Bool.false_eq_true, Bool.and_true, Bool.true_and, Bool.or_false, Bool.false_or, Nat.add_sub_cancel, Nat.zero_add, Nat.reduceSub, Nat.reduceAdd, gLen_str ha.sz]; rfl) (by have := ha.le; omega) (fun k hk => by
      have ea : a.cps.toList[k]? = some (a.cps.toList.getD k 0) := by rw [List.getD, List.getElem?_eq_getElem hk]; rfl
      have eb : b.cps.toList[k]? = some (b.cps.toList.getD k 0) := by rw [List.getD, List.getElem?_eq_getElem (by omega)]; rfl
      have hka : OP.okc (a.cps.toList.getD k 0) = true := ha.ok _ (List.mem_of_getElem? ea)
      have hkb : OP.okc (b.cps.toList.getD k 0) = true := hb.ok _ (List.mem_of_getElem? eb)
      simp (config := { dsimp := false }) only [↓reduceIte, DN.bindV_val, DN.bindV_lst, DN.bindV_ob, DN.bindV_dc, DN.bindV_no, DN.bindV_ex, DN.bind_ok, DN.bind_no, DN.bind_ex, DN.sV_val, DN.sV_lst, DN.sV_ob, DN.sV_dc, DN.sV_ex, DN.sB_ok, DN.sB_ex, DN.kSeq_, DN.seqR_nx, DN.seqR_rt, DN.seqR_ex, DN.seqR_no, DN.kRet_, DN.retR_ok, DN.retR_ex, DN.kRetN_, DN.kNext_, DN.loopR_nx, DN.loopR_ct, DN.loopR_bk, DN.loopR_rt, DN.forGo_c, DN.forO_, DN.forGo_n, DN.iVal_, DN.itOf_lst, DN.itOf_tup, DN.kIf_, DN.kExpr_, DN.kSet_, DN.kSetC_, DN.setC_val, DN.setC_new, DN.kAsg_, DN.asgR_d, DN.asgO_, DN.tgN_, DN.tgNil_, DN.tgCons_, DN.tgO_, DN.tgT_, DN.kPar_, DN.parR_, DN.kSub_, DN.kFld_, DN.fVar_, DN.varR_, DN.fC_, DN.fOp_, DN.g2_, DN.g2o_, DN.fUn_, DN.g1_, DN.g1o_, DN.of_some, DN.snap_d, DN.snap_r, DN.snapC_lst, DN.snapC_ob, DN.fNil_, DN.fCons_, DN.fTup_, DN.fLst_, DN.allD_n, DN.allD_c, DN.allC_, DN.gTupD_, DN.gLstD_, DN.tupO_0, DN.lstO_0, DN.tupO_1, DN.lstO_1, DN.tupO_2, DN.lstO_2, DN.tupO_3, DN.lstO_3, DN.tupO_4, DN.lstO_4, DN.tupO_5, DN.lstO_5, DN.tupO_6, DN.lstO_6, DN.tupO_7, DN.lstO_7, DN.fAnd_, DN.fOr_, DN.fNot_, DN.fIf_, DN.onB_, DN.kVal_, DN.kAnd_, DN.kOr_, DN.kNot_, DN.kYes_, DN.fCall_, DN.gA_, DN.gAo_, DN.snaps_n, DN.snaps_c, DN.snapsC_, DN.arg1_, DN.arg12_1, DN.arg12_2, DN.arg2_, DN.onlyIf_t, DN.fCallD_, DN.fMeth_, DN.onT_, DN.onTo_, DN.gM_, DN.gMo_, DN.clsV_r, DN.clsC_lst, DN.clsC_ob, DN.clsV_obj, DN.clsV_int, DN.clsV_bl, DN.clsV_str, DN.clsV_non, DN.clsV_lst, DN.clsV_tup, DN.clsV_scr, DN.fLenD_, DN.lenR_, DN.lenC_n, DN.lenC_s, DN.fIxD_, DN.ixR_, DN.ixC_n, DN.ixC_s, DN.okR_ok, DN.fEqD_, DN.fMethD_, DN.fPropD_, DN.fMakeD_, DN.isi_int_int, DN.isi_int_bool, DN.isi_int_str, DN.isi_str_str, DN.isi_str_int, DN.isi_lst_lst, DN.isi_lst_str, DN.isi_tup_str, DN.isi_tup_tup, DN.isi_lst_lt, DN.isi_tup_lt, DN.isi_str_lt, DN.methR_, DN.methP_, DN.askT_, DN.askP_, DN.fAsk1_, DN.ask1R_, DN.ask1P_, DN.at_cons, beq_self_eq_true, DN.eqR_int, DN.eqR_bl, DN.eqR_str, DN.eqR_lst, DN.eqR_tup, DN.eqR_non, DN.onlyV_bl, DN.onlyV_str, DN.fStrD_, DN.strR_, DN.strC_n, DN.strC_s, DN.fChain_, DN.fSl_, DN.fNoPart_, DN.fPart_, DN.partR_, DN.fDisp_, DN.gSl_lst, DN.gSl_tup, DN.fMut_, DN.gMu_, DN.muC_, DN.muP_, DN.isT_str, DN.isT_lst, DN.gClear_, DN.fCMeth_, DN.cmR_, DN.fMakeL_, DN.mkLR_, DN.makeR_ok, List.append_nil, DN.vB_, DN.vI_, DN.vS_, DN.vT_, DN.nL_, DN.vD_, DN.startE_, DN.outS_nx, DN.outS_rt, DN.outS_ex, List.map, List.nil_append, List.cons_append, List.length_cons, List.length_nil, List.replicate, List.getElem?_cons_zero, List.getElem?_cons_succ, List.getElem?_nil, List.set_cons_zero, List.set_cons_succ, if_true, if_false, ite_true, ite_false, Bool.not_true, Bool.not_false, Bool.false_eq_true, Bool.and_true, Bool.true_and, Bool.or_false, Bool.false_or, Nat.add_sub_cancel, Nat.zero_add, Nat.reduceSub, Nat.reduceAdd, wipeE, gIx_str ha.sz ea, gIx_str hb.sz eb, bad_lst hka hkb]) (fun k hk _ => by simp (config := { dsimp := false }) only [↓reduceIte, DN.bindV_val, DN.bindV_lst, DN.bindV_ob, DN.bindV_dc, DN.bindV_no, DN.bindV_ex, DN.bind_ok, DN.bind_no, DN.bind_ex, DN.sV_val, DN.sV_lst, DN.sV_ob, DN.sV_dc, DN.sV_ex, DN.sB_ok, DN.sB_ex, DN.kSeq_, DN.seqR_nx, DN.seqR_rt, DN.seqR_ex, DN.seqR_no, DN.kRet_, DN.retR_ok, DN.retR_ex, DN.kRetN_, DN.kNext_, DN.loopR_nx, DN.loopR_ct, DN.loopR_bk, DN.loopR_rt, DN.forGo_c, DN.forO_, DN.forGo_n, DN.iVal_, DN.itOf_lst, DN.itOf_tup, DN.kIf_, DN.kExpr_, DN.kSet_, DN.kSetC_, DN.setC_val, DN.setC_new, DN.kAsg_, DN.asgR_d, DN.asgO_, DN.tgN_, DN.tgNil_, DN.tgCons_, DN.tgO_, DN.tgT_, DN.kPar_, DN.parR_, DN.kSub_, DN.kFld_, DN.fVar_, DN.varR_, DN.fC_, DN.fOp_, DN.g2_, DN.g2o_, DN.fUn_, DN.g1_, DN.g1o_, DN.of_some, DN.snap_d, DN.snap_r, DN.snapC_lst, DN.snapC_ob, DN.fNil_, DN.fCons_, DN.fTup_, DN.fLst_, DN.allD_n, DN.allD_c, DN.allC_, DN.gTupD_, DN.gLstD_, DN.tupO_0, DN.lstO_0, DN.tupO_1, DN.lstO_1, DN.tupO_2, DN.lstO_2, DN.tupO_3, DN.lstO_3, DN.tupO_4, DN.lstO_4, DN.tupO_5, DN.lstO_5, DN.tupO_6, DN.lstO_6, DN.tupO_7, DN.lstO_7, DN.fAnd_, DN.fOr_, DN.fNot_, DN.fIf_, DN.onB_, DN.kVal_, DN.kAnd_, DN.kOr_, DN.kNot_, DN.kYes_, DN.fCall_, DN.gA_, DN.gAo_, DN.snaps_n, DN.snaps_c, DN.snapsC_, DN.arg1_, DN.arg12_1, DN.arg12_2, DN.arg2_, DN.onlyIf_t, DN.fCallD_, DN.fMeth_, DN.onT_, DN.onTo_, DN.gM_, DN.gMo_, DN.clsV_r, DN.clsC_lst, DN.clsC_ob, DN.clsV_obj, DN.clsV_int, DN.clsV_bl, DN.clsV_str, DN.clsV_non, DN.clsV_lst, DN.clsV_tup, DN.clsV_scr, DN.fLenD_, DN.lenR_, DN.lenC_n, DN.lenC_s, DN.fIxD_, DN.ixR_, DN.ixC_n, DN.ixC_s, DN.okR_ok, DN.fEqD_, DN.fMethD_, DN.fPropD_, DN.fMakeD_, DN.isi_int_int, DN.isi_int_bool, DN.isi_int_str, DN.isi_str_str, DN.isi_str_int, DN.isi_lst_lst, DN.isi_lst_str, DN.isi_tup_str, DN.isi_tup_tup, DN.isi_lst_lt, DN.isi_tup_lt, DN.isi_str_lt, DN.methR_, DN.methP_, DN.askT_, DN.askP_, DN.fAsk1_, DN.ask1R_, DN.ask1P_, DN.at_cons, beq_self_eq_true, DN.eqR_int, DN.eqR_bl, DN.eqR_str, DN.eqR_lst, DN.eqR_tup, DN.eqR_non, DN.onlyV_bl, DN.onlyV_str, DN.fStrD_, DN.strR_, DN.strC_n, DN.strC_s, DN.fChain_, DN.fSl_, DN.fNoPart_, DN.fPart_, DN.partR_, DN.fDisp_, DN.gSl_lst, DN.gSl_tup, DN.fMut_, DN.gMu_, DN.muC_, DN.muP_, DN.isT_str, DN.isT_lst, DN.gClear_, DN.fCMeth_, DN.cmR_, DN.fMakeL_, DN.mkLR_, DN.makeR_ok, List.append_nil, DN.vB_, DN.vI_, DN.vS_, DN.vT_, DN.nL_, DN.vD_, DN.startE_, DN.outS_nx, DN.outS_rt, DN.outS_ex, List.map, List.nil_append, List.cons_append, List.length_cons, List.length_nil, List.replicate, List.getElem?_cons_zero, List.getElem?_cons_succ, List.getElem?_nil, List.set_cons_zero, List.set_cons_succ, if_true, if_false, ite_true, ite_false, Bool.not_true, Bool.not_false, Bool.false_eq_true, Bool.and_true, Bool.true_and, Bool.or_false, Bool.false_or, Nat.add_sub_cancel, Nat.zero_add, Nat.reduceSub, Nat.reduceAdd, wipeE]; exact got_val)
  simp (config := { dsimp := false }) only [↓reduceIte, DN.bindV_val, DN.bindV_lst, DN.bindV_ob, DN.bindV_dc, DN.bindV_no, DN.bindV_ex, DN.bind_ok, DN.bind_no, DN.bind_ex, DN.sV_val, DN.sV_lst, DN.sV_ob, DN.sV_dc, DN.sV_ex, DN.sB_ok, DN.sB_ex, DN.kSeq_, DN.seqR_nx, DN.seqR_rt, DN.seqR_ex, DN.seqR_no, DN.kRet_, DN.retR_ok, DN.retR_ex, DN.kRetN_, DN.kNext_, DN.loopR_nx, DN.loopR_ct, DN.loopR_bk, DN.loopR_rt, DN.forGo_c, DN.forO_, DN.forGo_n, DN.iVal_, DN.itOf_lst, DN.itOf_tup, DN.kIf_, DN.kExpr_, DN.kSet_, DN.kSetC_, DN.setC_val, DN.setC_new, DN.kAsg_, DN.asgR_d, DN.asgO_, DN.tgN_, DN.tgNil_, DN.tgCons_, DN.tgO_, DN.tgT_, DN.kPar_, DN.parR_, DN.kSub_, DN.kFld_, DN.fVar_, DN.varR_, DN.fC_, DN.fOp_, DN.g2_, DN.g2o_, DN.fUn_, DN.g1_, DN.g1o_, DN.of_some, DN.snap_d, DN.snap_r, DN.snapC_lst, DN.snapC_ob, DN.fNil_, DN.fCons_, DN.fTup_, DN.fLst_, DN.allD_n, DN.allD_c, DN.allC_, DN.gTupD_, DN.gLstD_, DN.tupO_0, DN.lstO_0, DN.tupO_1, DN.lstO_1, DN.tupO_2, DN.lstO_2, DN.tupO_3, DN.lstO_3, DN.tupO_4, DN.lstO_4, DN.tupO_5, DN.lstO_5, DN.tupO_6, DN.lstO_6, DN.tupO_7, DN.lstO_7, DN.fAnd_, DN.fOr_, DN.fNot_, DN.fIf_, DN.onB_, DN.kVal_, DN.kAnd_, DN.kOr_, DN.kNot_, DN.kYes_, DN.fCall_, DN.gA_, DN.gAo_, DN.snaps_n, DN.snaps_c, DN.snapsC_, DN.arg1_, DN.arg12_1, DN.arg12_2, DN.arg2_, DN.onlyIf_t, DN.fCallD_, DN.fMeth_, DN.onT_, DN.onTo_, DN.gM_, DN.gMo_, DN.clsV_r, DN.clsC_lst, DN.clsC_ob, DN.clsV_obj, DN.clsV_int, DN.clsV_bl, DN.clsV_str, DN.clsV_non, DN.clsV_lst, DN.clsV_tup, DN.clsV_scr, DN.fLenD_, DN.lenR_, DN.lenC_n, DN.lenC_s, DN.fIxD_, DN.ixR_, DN.ixC_n, DN.ixC_s, DN.okR_ok, DN.fEqD_, DN.fMethD_, DN.fPropD_, DN.fMakeD_, DN.isi_int_int, DN.isi_int_bool, DN.isi_int_str, DN.isi_str_str, DN.isi_str_int, DN.isi_lst_lst, DN.isi_lst_str, DN.isi_tup_str, DN.isi_tup_tup, DN.isi_lst_lt, DN.isi_tup_lt, DN.isi_str_lt, DN.methR_, DN.methP_, DN.askT_, DN.askP_, DN.fAsk1_, DN.ask1R_, DN.ask1P_, DN.at_cons, beq_self_eq_true, DN.eqR_int, DN.eqR_bl, DN.eqR_str, DN.eqR_lst, DN.eqR_tup, DN.eqR_non, DN.onlyV_bl, DN.onlyV_str, DN.fStrD_, DN.strR_, DN.strC_n, DN.strC_s, DN.fChain_, DN.fSl_, DN.fNoPart_, DN.fPart_, DN.partR_, DN.fDisp_, DN.gSl_lst, DN.gSl_tup, DN.fMut_, DN.gMu_, DN.muC_, DN.muP_, DN.isT_str, DN.isT_lst, DN.gClear_, DN.fCMeth_, DN.cmR_, DN.fMakeL_, DN.mkLR_, DN.makeR_ok, List.append_nil, DN.vB_, DN.vI_, DN.vS_, DN.vT_, DN.nL_, DN.vD_, DN.startE_, DN.outS_nx, DN.outS_rt, DN.outS_ex, List.map, List.nil_append, List.cons_append, List.length_cons, List.length_nil, List.replicate, List.getElem?_cons_zero, List.getElem?_cons_succ, List.getElem?_nil, List.set_cons_zero, List.set_cons_succ, if_true, if_false, ite_true, ite_false, Bool.not_true, Bool.not_false, Bool.false_eq_true, Bool.and_true, Bool.true_and, Bool.or_false, Bool.false_or, Nat.add_sub_cancel, Nat.zero_add, Nat.reduceSub, Nat.reduceAdd, e, gLen_lst, List.length_map]
  rfl
/-- words of one length for some houses -/
structure Ws (n : Nat) (ws : List Str) : Prop where
  all : ∀ w ∈ ws, Wd n w
  pos : 1 ≤ ws.length
  le : ws.length ≤ 40
theorem Ws.ok {n : Nat} {ws : List Str} (h : Ws n ws) (m : Nat) : okNs m (ws.map .str) = true := okNs_all fun d hd => by
  obtain ⟨w, hw, rfl⟩ := List.mem_map.mp hd
  rw [okN_str]
  exact (h.all w hw).lay
theorem Ws.head {n : Nat} {ws : List Str} (h : Ws n ws) : ∃ w, ws[0]? = some w ∧ Wd n w := by
  have := h.pos
  exact ⟨ws[0], List.getElem?_eq_getElem (by omega), h.all _ (List.getElem_mem _)⟩
theorem are_words_ok {n : Nat} {ws : List Str} {S : Sto} {a : Vr} (h : Ws n ws) (q : Sq S a (ws.map .str)) : D_are_words [a] S = .ok S (.val (.d (.bl true))) := by
  refine def_pure ?_
  obtain ⟨w0, h0, g0⟩ := h.head
  obtain ⟨d, h1, h2, h3, _, _, h4⟩ := q.sn
  have hc := q.cl
  have hp := h.pos
  have hl := h.le
  have i0 : gIx d (.int 0) = vD (.str w0) := h4 0 _ (by simp [List.getElem?_map, h0])
  have e1 := fLc_sq (fa := fVar 0) (fe := fCallD 1 D_is_word (fCons (fVar 1) fNil)) (vs := [1]) (env := [.v a, .u]) (S := S) (i := 1) (fun _ => .bl true) rfl q (by simp; omega) (fun x hx => by
    obtain ⟨w, hw, rfl⟩ := List.mem_map.mp hx
    simp (config := { dsimp := false }) only [↓reduceIte, DN.bindV_val, DN.bindV_lst, DN.bindV_ob, DN.bindV_dc, DN.bindV_no, DN.bindV_ex, DN.bind_ok, DN.bind_no, DN.bind_ex, DN.sV_val, DN.sV_lst, DN.sV_ob, DN.sV_dc, DN.sV_ex, DN.sB_ok, DN.sB_ex, DN.kSeq_, DN.seqR_nx, DN.seqR_rt, DN.seqR_ex, DN.seqR_no, DN.kRet_, DN.retR_ok, DN.retR_ex, DN.kRetN_, DN.kNext_, DN.loopR_nx, DN.loopR_ct, DN.loopR_bk, DN.loopR_rt, DN.forGo_c, DN.forO_, DN.forGo_n, DN.iVal_, DN.itOf_lst, DN.itOf_tup, DN.kIf_, DN.kExpr_, DN.kSet_, DN.kSetC_, DN.setC_val, DN.setC_new, DN.kAsg_, DN.asgR_d, DN.asgO_, DN.tgN_, DN.tgNil_, DN.tgCons_, DN.tgO_, DN.tgT_, DN.kPar_, DN.parR_, DN.kSub_, DN.kFld_, DN.fVar_, DN.varR_, DN.fC_, DN.fOp_, DN.g2_, DN.g2o_, DN.fUn_, DN.g1_, DN.g1o_, DN.of_some, DN.snap_d, DN.snap_r, DN.snapC_lst, DN.snapC_ob, DN.fNil_, DN.fCons_, DN.fTup_, DN.fLst_, DN.allD_n, DN.allD_c, DN.allC_, DN.gTupD_, DN.gLstD_, DN.tupO_0, DN.lstO_0, DN.tupO_1, DN.lstO_1, DN.tupO_2, DN.lstO_2, DN.tupO_3, DN.lstO_3, DN.tupO_4, DN.lstO_4, DN.tupO_5, DN.lstO_5, DN.tupO_6, DN.lstO_6, DN.tupO_7, DN.lstO_7, DN.fAnd_, DN.fOr_, DN.fNot_, DN.fIf_, DN.onB_, DN.kVal_, DN.kAnd_, DN.kOr_, DN.kNot_, DN.kYes_, DN.fCall_, DN.gA_, DN.gAo_, DN.snaps_n, DN.snaps_c, DN.snapsC_, DN.arg1_, DN.arg12_1, DN.arg12_2, DN.arg2_, DN.onlyIf_t, DN.fCallD_, DN.fMeth_, DN.onT_, DN.onTo_, DN.gM_, DN.gMo_, DN.clsV_r, DN.clsC_lst, DN.clsC_ob, DN.clsV_obj, DN.clsV_int, DN.clsV_bl, DN.clsV_str, DN.clsV_non, DN.clsV_lst, DN.clsV_tup, DN.clsV_scr, DN.fLenD_, DN.lenR_, DN.lenC_n, DN.lenC_s, DN.fIxD_, DN.ixR_, DN.ixC_n, DN.ixC_s, DN.okR_ok, DN.fEqD_, DN.fMethD_, DN.fPropD_, DN.fMakeD_, DN.isi_int_int, DN.isi_int_bool, DN.isi_int_str, DN.isi_str_str, DN.isi_str_int, DN.isi_lst_lst, DN.isi_lst_str, DN.isi_tup_str, DN.isi_tup_tup, DN.isi_lst_lt, DN.isi_tup_lt, DN.isi_str_lt, DN.methR_, DN.methP_, DN.askT_, DN.askP_, DN.fAsk1_, DN.ask1R_, DN.ask1P_, DN.at_cons, beq_self_eq_true, DN.eqR_int, DN.eqR_bl, DN.eqR_str, DN.eqR_lst, DN.eqR_tup, DN.eqR_non, DN.onlyV_bl, DN.onlyV_str, DN.fStrD_, DN.strR_, DN.strC_n, DN.strC_s, DN.fChain_, DN.fSl_, DN.fNoPart_, DN.fPart_, DN.partR_, DN.fDisp_, DN.gSl_lst, DN.gSl_tup, DN.fMut_, DN.gMu_, DN.muC_, DN.muP_, DN.isT_str, DN.isT_lst, DN.gClear_, DN.fCMeth_, DN.cmR_, DN.fMakeL_, DN.mkLR_, DN.makeR_ok, List.append_nil, DN.vB_, DN.vI_, DN.vS_, DN.vT_, DN.nL_, DN.vD_, DN.startE_, DN.outS_nx, DN.outS_rt, DN.outS_ex, List.map, List.nil_append, List.cons_append, List.length_cons, List.length_nil, List.replicate, List.getElem?_cons_zero, List.getElem?_cons_succ, List.getElem?_nil, List.set_cons_zero, List.set_cons_succ, if_true, if_false, ite_true, ite_false, Bool.not_true, Bool.not_false, Bool.false_eq_true, Bool.and_true, Bool.true_and, Bool.or_false, Bool.false_or, Nat.add_sub_cancel, Nat.zero_add, Nat.reduceSub, Nat.reduceAdd, wipeE, is_word_ok (h.all w hw)]
    exact got_val)
  have e2 := fLc_sq (fa := fVar 0) (fe := fOp gEq (fLenD [("Addresses", 1, D_Addresses_len)] (fCons (fVar 1) fNil)) (fLenD [("Addresses", 1, D_Addresses_len)] (fCons (fIxD [("Addresses", 2, D_Addresses_getitem)] (fVar 0) (fC (.int 0))) fNil))) (vs := [1]) (env := [.v a, .u]) (S := S) (i := 1) (fun _ => .bl true) rfl q (by simp; omega) (fun x hx => by
    obtain ⟨w, hw, rfl⟩ := List.mem_map.mp hx
    have hw' := h.all w hw
    simp (config := { dsimp := false }) only [↓reduceIte, DN.bindV_val, DN.bindV_lst, DN.bindV_ob, DN.bindV_dc, DN.bindV_no, DN.bindV_ex, DN.bind_ok, DN.bind_no, DN.bind_ex, DN.sV_val, DN.sV_lst, DN.sV_ob, DN.sV_dc, DN.sV_ex, DN.sB_ok, DN.sB_ex, DN.kSeq_, DN.seqR_nx, DN.seqR_rt, DN.seqR_ex, DN.seqR_no, DN.kRet_, DN.retR_ok, DN.retR_ex, DN.kRetN_, DN.kNext_, DN.loopR_nx, DN.loopR_ct, DN.loopR_bk, DN.loopR_rt, DN.forGo_c, DN.forO_, DN.forGo_n, DN.iVal_, DN.itOf_lst, DN.itOf_tup, DN.kIf_, DN.kExpr_, DN.kSet_, DN.kSetC_, DN.setC_val, DN.setC_new, DN.kAsg_, DN.asgR_d, DN.asgO_, DN.tgN_, DN.tgNil_, DN.tgCons_, DN.tgO_, DN.tgT_, DN.kPar_, DN.parR_, DN.kSub_, DN.kFld_, DN.fVar_, DN.varR_, DN.fC_, DN.fOp_, DN.g2_, DN.g2o_, DN.fUn_, DN.g1_, DN.g1o_, DN.of_some, DN.snap_d, DN.snap_r, DN.snapC_lst, DN.snapC_ob, DN.fNil_, DN.fCons_, DN.fTup_, DN.fLst_, DN.allD_n, DN.allD_c, DN.allC_, DN.gTupD_, DN.gLstD_, DN.tupO_0, DN.lstO_0, DN.tupO_1, DN.lstO_1, DN.tupO_2, DN.lstO_2, DN.tupO_3, DN.lstO_3, DN.tupO_4, DN.lstO_4, DN.tupO_5, DN.lstO_5, DN.tupO_6, DN.lstO_6, DN.tupO_7, DN.lstO_7, DN.fAnd_, DN.fOr_, DN.fNot_, DN.fIf_, DN.onB_, DN.kVal_, DN.kAnd_, DN.kOr_, DN.kNot_, DN.kYes_, DN.fCall_, DN.gA_, DN.gAo_, DN.snaps_n, DN.snaps_c, DN.snapsC_, DN.arg1_, DN.arg12_1, DN.arg12_2, DN.arg2_, DN.onlyIf_t, DN.fCallD_, DN.fMeth_, DN.onT_, DN.onTo_, DN.gM_, DN.gMo_, DN.clsV_r, DN.clsC_lst, DN.clsC_ob, DN.clsV_obj, DN.clsV_int, DN.clsV_bl, DN.clsV_str, DN.clsV_non, DN.clsV_lst, DN.clsV_tup, DN.clsV_scr, DN.fLenD_, DN.lenR_, DN.lenC_n, DN.lenC_s, DN.fIxD_, DN.ixR_, DN.ixC_n, DN.ixC_s, DN.okR_ok, DN.fEqD_, DN.fMethD_, DN.fPropD_, DN.fMakeD_, DN.isi_int_int, DN.isi_int_bool, DN.isi_int_str, DN.isi_str_str, DN.isi_str_int, DN.isi_lst_lst, DN.isi_lst_str, DN.isi_tup_str, DN.isi_tup_tup, DN.isi_lst_lt, DN.isi_tup_lt, DN.isi_str_lt, DN.methR_, DN.methP_, DN.askT_, DN.askP_, DN.fAsk1_, DN.ask1R_, DN.ask1P_, DN.at_cons, beq_self_eq_true, DN.eqR_int, DN.eqR_bl, DN.eqR_str, DN.eqR_lst, DN.eqR_tup, DN.eqR_non, DN.onlyV_bl, DN.onlyV_str, DN.fStrD_, DN.strR_, DN.strC_n, DN.strC_s, DN.fChain_, DN.fSl_, DN.fNoPart_, DN.fPart_, DN.partR_, DN.fDisp_, DN.gSl_lst, DN.gSl_tup, DN.fMut_, DN.gMu_, DN.muC_, DN.muP_, DN.isT_str, DN.isT_lst, DN.gClear_, DN.fCMeth_, DN.cmR_, DN.fMakeL_, DN.mkLR_, DN.makeR_ok, List.append_nil, DN.vB_, DN.vI_, DN.vS_, DN.vT_, DN.nL_, DN.vD_, DN.startE_, DN.outS_nx, DN.outS_rt, DN.outS_ex, List.map, List.nil_append, List.cons_append, List.length_cons, List.length_nil, List.replicate, List.getElem?_cons_zero, List.getElem?_cons_succ, List.getElem?_nil, List.set_cons_zero, List.set_cons_succ, if_true, if_false, ite_true, ite_false, Bool.not_true, Bool.not_false, Bool.false_eq_true, Bool.and_true, Bool.true_and, Bool.or_false, Bool.false_or, Nat.add_sub_cancel, Nat.zero_add, Nat.reduceSub, Nat.reduceAdd, wipeE, hc, h1, i0, gLen_str hw'.sz, gLen_str g0.sz, gEq_int, hw'.length, g0.length, decide_true]
    exact got_val)
  simp (config := { dsimp := false }) only [↓reduceIte, DN.bindV_val, DN.bindV_lst, DN.bindV_ob, DN.bindV_dc, DN.bindV_no, DN.bindV_ex, DN.bind_ok, DN.bind_no, DN.bind_ex, DN.sV_val, DN.sV_lst, DN.sV_ob, DN.sV_dc, DN.sV_ex, DN.sB_ok, DN.sB_ex, DN.kSeq_, DN.seqR_nx, DN.seqR_rt, DN.seqR_ex, DN.seqR_no, DN.kRet_, DN.retR_ok, DN.retR_ex, DN.kRetN_, DN.kNext_, DN.loopR_nx, DN.loopR_ct, DN.loopR_bk, DN.loopR_rt, DN.forGo_c, DN.forO_, DN.forGo_n, DN.iVal_, DN.itOf_lst, DN.itOf_tup, DN.kIf_, DN.kExpr_, DN.kSet_, DN.kSetC_, DN.setC_val, DN.setC_new, DN.kAsg_, DN.asgR_d, DN.asgO_, DN.tgN_, DN.tgNil_, DN.tgCons_, DN.tgO_, DN.tgT_, DN.kPar_, DN.parR_, DN.kSub_, DN.kFld_, DN.fVar_, DN.varR_, DN.fC_, DN.fOp_, DN.g2_, DN.g2o_, DN.fUn_, DN.g1_, DN.g1o_, DN.of_some, DN.snap_d, DN.snap_r, DN.snapC_lst, DN.snapC_ob, DN.fNil_, DN.fCons_, DN.fTup_, DN.fLst_, DN.allD_n, DN.allD_c, DN.allC_, DN.gTupD_, DN.gLstD_, DN.tupO_0, DN.lstO_0, DN.tupO_1, DN.lstO_1, DN.tupO_2, DN.lstO_2, DN.tupO_3, DN.lstO_3, DN.tupO_4, DN.lstO_4, DN.tupO_5, DN.lstO_5, DN.tupO_6, DN.lstO_6, DN.tupO_7, DN.lstO_7, DN.fAnd_, DN.fOr_, DN.fNot_, DN.fIf_, DN.onB_, DN.kVal_, DN.kAnd_, DN.kOr_, DN.kNot_, DN.kYes_, DN.fCall_, DN.gA_, DN.gAo_, DN.snaps_n, DN.snaps_c, DN.snapsC_, DN.arg1_, DN.arg12_1, DN.arg12_2, DN.arg2_, DN.onlyIf_t, DN.fCallD_, DN.fMeth_, DN.onT_, DN.onTo_, DN.gM_, DN.gMo_, DN.clsV_r, DN.clsC_lst, DN.clsC_ob, DN.clsV_obj, DN.clsV_int, DN.clsV_bl, DN.clsV_str, DN.clsV_non, DN.clsV_lst, DN.clsV_tup, DN.clsV_scr, DN.fLenD_, DN.lenR_, DN.lenC_n, DN.lenC_s, DN.fIxD_, DN.ixR_, DN.ixC_n, DN.ixC_s, DN.okR_ok, DN.fEqD_, DN.fMethD_, DN.fPropD_, DN.fMakeD_, DN.isi_int_int, DN.isi_int_bool, DN.isi_int_str, DN.isi_str_str, DN.isi_str_int, DN.isi_lst_lst, DN.isi_lst_str, DN.isi_tup_str, DN.isi_tup_tup, DN.isi_lst_lt, DN.isi_tup_lt, DN.isi_str_lt, DN.methR_, DN.methP_, DN.askT_, DN.askP_, DN.fAsk1_, DN.ask1R_, DN.ask1P_, DN.at_cons, beq_self_eq_true, DN.eqR_int, DN.eqR_bl, DN.eqR_str, DN.eqR_lst, DN.eqR_tup, DN.eqR_non, DN.onlyV_bl, DN.onlyV_str, DN.fStrD_, DN.strR_, DN.strC_n, DN.strC_s, DN.fChain_, DN.fSl_, DN.fNoPart_, DN.fPart_, DN.partR_, DN.fDisp_, DN.gSl_lst, DN.gSl_tup, DN.fMut_, DN.gMu_, DN.muC_, DN.muP_, DN.isT_str, DN.isT_lst, DN.gClear_, DN.fCMeth_, DN.cmR_, DN.fMakeL_, DN.mkLR_, DN.makeR_ok, List.append_nil, DN.vB_, DN.vI_, DN.vS_, DN.vT_, DN.nL_, DN.vD_, DN.startE_, DN.outS_nx, DN.outS_rt, DN.outS_ex, List.map, List.nil_append, List.cons_append, List.length_cons, List.length_nil, List.replicate, List.getElem?_cons_zero, List.getElem?_cons_succ, List.getElem?_nil, List.set_cons_zero, List.set_cons_succ, if_true, if_false, ite_true, ite_false, Bool.not_true, Bool.not_false, Bool.false_eq_true, Bool.and_true, Bool.true_and, Bool.or_false, Bool.false_or, Nat.add_sub_cancel, Nat.zero_add, Nat.reduceSub, Nat.reduceAdd, hc, h1, h2, h3, gLe_, List.length_map, decide_eq_true (show (1 : Int) ≤ (ws.length : Int) by omega), decide_eq_true (show (ws.length : Int) ≤ 40 by omega), e1, e2, gAll_true]
abbrev A (ws : List Str) : Dv := .obj "Addresses" [.tup (ws.map .str)]
theorem Sq.app {S : Sto} {a : Vr} {ds : List Dv} {c : Cell} (h : Sq S a ds) : Sq (S ++ [c]) a ds := by
  cases a with
  | d x =>
    obtain ⟨⟨t, h1, h2, h3⟩, h4, h5⟩ := h
    refine ⟨⟨t, ?_, h2, ?_⟩, h4, ?_⟩
    · unfold itOf at h1 ⊢
      cases q : iterD x with
      | none => simp only [q] at h1; cases h1
      | some l => simp only [q] at h1 ⊢; cases h1; rfl
    · unfold itOf at h1
      cases q : iterD x with
      | none => simp only [q] at h1; cases h1
      | some l => simp only [q] at h1; cases h1; rfl
    · cases x <;> first | rfl | exact h5
  | r n =>
    obtain ⟨t, h1, h2, h3⟩ := h.it
    cases q : S[n]? with
    | none => simp [itOf, q] at h1
    | some k =>
      cases k with
      | lst l =>
        have : t = (l, some n) := by simp [itOf, q] at h1; exact h1.symm
        subst this
        cases h2
        exact Sq.cell (by rw [List.getElem?_append_left (List.getElem?_eq_some_iff.mp q).1]; exact q)
      | ob c l => simp [itOf, q] at h1
      | dc t k l => simp [itOf, q] at h1
      | dead => simp [itOf, q] at h1
theorem init_ok {n : Nat} {ws : List Str} {S : Sto} {a : Vr} (h : Ws n ws) (q : Sq S a (ws.map .str)) : D_Addresses_init [.r S.length, a] (S ++ [.ob "Addresses" []]) = .ok (S ++ [.ob "Addresses" [.tup (ws.map .str)]]) (.val (.d .non)) := by
  have q' := Sq.app (c := .ob "Addresses" []) q
  obtain ⟨d, h1, h2, h3, h4, _, _⟩ := q'.sn
  have e : setFd ["Addresses"] "kept" [.v (.r S.length), .v a] (S ++ [.ob "Addresses" []]) (.r S.length) (.d (.tup (ws.map .str))) = .nx [.v (.r S.length), .v a] (S ++ [.ob "Addresses" [.tup (ws.map .str)]]) := by
    have e1 : (S ++ [Cell.ob "Addresses" []])[S.length]? = some (.ob "Addresses" []) := by simp
    unfold setFd
    simp only [e1]
    show RS.nx _ ((S ++ [Cell.ob "Addresses" []]).set S.length (.ob "Addresses" [.tup (ws.map .str)])) = _
    rw [List.set_append_right _ _ (Nat.le_refl _), Nat.sub_self]
    rfl
  unfold D_Addresses_init defD
  simp (config := { dsimp := false }) only [↓reduceIte, DN.bindV_val, DN.bindV_lst, DN.bindV_ob, DN.bindV_dc, DN.bindV_no, DN.bindV_ex, DN.bind_ok, DN.bind_no, DN.bind_ex, DN.sV_val, DN.sV_lst, DN.sV_ob, DN.sV_dc, DN.sV_ex, DN.sB_ok, DN.sB_ex, DN.kSeq_, DN.seqR_nx, DN.seqR_rt, DN.seqR_ex, DN.seqR_no, DN.kRet_, DN.retR_ok, DN.retR_ex, DN.kRetN_, DN.kNext_, DN.loopR_nx, DN.loopR_ct, DN.loopR_bk, DN.loopR_rt, DN.forGo_c, DN.forO_, DN.forGo_n, DN.iVal_, DN.itOf_lst, DN.itOf_tup, DN.kIf_, DN.kExpr_, DN.kSet_, DN.kSetC_, DN.setC_val, DN.setC_new, DN.kAsg_, DN.asgR_d, DN.asgO_, DN.tgN_, DN.tgNil_, DN.tgCons_, DN.tgO_, DN.tgT_, DN.kPar_, DN.parR_, DN.kSub_, DN.kFld_, DN.fVar_, DN.varR_, DN.fC_, DN.fOp_, DN.g2_, DN.g2o_, DN.fUn_, DN.g1_, DN.g1o_, DN.of_some, DN.snap_d, DN.snap_r, DN.snapC_lst, DN.snapC_ob, DN.fNil_, DN.fCons_, DN.fTup_, DN.fLst_, DN.allD_n, DN.allD_c, DN.allC_, DN.gTupD_, DN.gLstD_, DN.tupO_0, DN.lstO_0, DN.tupO_1, DN.lstO_1, DN.tupO_2, DN.lstO_2, DN.tupO_3, DN.lstO_3, DN.tupO_4, DN.lstO_4, DN.tupO_5, DN.lstO_5, DN.tupO_6, DN.lstO_6, DN.tupO_7, DN.lstO_7, DN.fAnd_, DN.fOr_, DN.fNot_, DN.fIf_, DN.onB_, DN.kVal_, DN.kAnd_, DN.kOr_, DN.kNot_, DN.kYes_, DN.fCall_, DN.gA_, DN.gAo_, DN.snaps_n, DN.snaps_c, DN.snapsC_, DN.arg1_, DN.arg12_1, DN.arg12_2, DN.arg2_, DN.onlyIf_t, DN.fCallD_, DN.fMeth_, DN.onT_, DN.onTo_, DN.gM_, DN.gMo_, DN.clsV_r, DN.clsC_lst, DN.clsC_ob, DN.clsV_obj, DN.clsV_int, DN.clsV_bl, DN.clsV_str, DN.clsV_non, DN.clsV_lst, DN.clsV_tup, DN.clsV_scr, DN.fLenD_, DN.lenR_, DN.lenC_n, DN.lenC_s, DN.fIxD_, DN.ixR_, DN.ixC_n, DN.ixC_s, DN.okR_ok, DN.fEqD_, DN.fMethD_, DN.fPropD_, DN.fMakeD_, DN.isi_int_int, DN.isi_int_bool, DN.isi_int_str, DN.isi_str_str, DN.isi_str_int, DN.isi_lst_lst, DN.isi_lst_str, DN.isi_tup_str, DN.isi_tup_tup, DN.isi_lst_lt, DN.isi_tup_lt, DN.isi_str_lt, DN.methR_, DN.methP_, DN.askT_, DN.askP_, DN.fAsk1_, DN.ask1R_, DN.ask1P_, DN.at_cons, beq_self_eq_true, DN.eqR_int, DN.eqR_bl, DN.eqR_str, DN.eqR_lst, DN.eqR_tup, DN.eqR_non, DN.onlyV_bl, DN.onlyV_str, DN.fStrD_, DN.strR_, DN.strC_n, DN.strC_s, DN.fChain_, DN.fSl_, DN.fNoPart_, DN.fPart_, DN.partR_, DN.fDisp_, DN.gSl_lst, DN.gSl_tup, DN.fMut_, DN.gMu_, DN.muC_, DN.muP_, DN.isT_str, DN.isT_lst, DN.gClear_, DN.fCMeth_, DN.cmR_, DN.fMakeL_, DN.mkLR_, DN.makeR_ok, List.append_nil, DN.vB_, DN.vI_, DN.vS_, DN.vT_, DN.nL_, DN.vD_, DN.startE_, DN.outS_nx, DN.outS_rt, DN.outS_ex, List.map, List.nil_append, List.cons_append, List.length_cons, List.length_nil, List.replicate, List.getElem?_cons_zero, List.getElem?_cons_succ, List.getElem?_nil, List.set_cons_zero, List.set_cons_succ, if_true, if_false, ite_true, ite_false, Bool.not_true, Bool.not_false, Bool.false_eq_true, Bool.and_true, Bool.true_and, Bool.or_false, Bool.false_or, Nat.add_sub_cancel, Nat.zero_add, Nat.reduceSub, Nat.reduceAdd, are_words_ok h q', h1, h4, e]
  rw [exit_d, List.take_of_length_le (by simp)]
theorem make_ok {n : Nat} {ws : List Str} {S S' : Sto} {a : Vr} {fa : FA} {env : DN.Env} (h : Ws n ws) (e : fa env S = .ok S' [a]) (q : Sq S' a (ws.map .str)) : fMakeD "Addresses" [] 2 D_Addresses_init fa env S = .ok S' (.new (.ob "Addresses" [.tup (ws.map .str)])) := by
  simp (config := { dsimp := false }) only [↓reduceIte, DN.bindV_val, DN.bindV_lst, DN.bindV_ob, DN.bindV_dc, DN.bindV_no, DN.bindV_ex, DN.bind_ok, DN.bind_no, DN.bind_ex, DN.sV_val, DN.sV_lst, DN.sV_ob, DN.sV_dc, DN.sV_ex, DN.sB_ok, DN.sB_ex, DN.kSeq_, DN.seqR_nx, DN.seqR_rt, DN.seqR_ex, DN.seqR_no, DN.kRet_, DN.retR_ok, DN.retR_ex, DN.kRetN_, DN.kNext_, DN.loopR_nx, DN.loopR_ct, DN.loopR_bk, DN.loopR_rt, DN.forGo_c, DN.forO_, DN.forGo_n, DN.iVal_, DN.itOf_lst, DN.itOf_tup, DN.kIf_, DN.kExpr_, DN.kSet_, DN.kSetC_, DN.setC_val, DN.setC_new, DN.kAsg_, DN.asgR_d, DN.asgO_, DN.tgN_, DN.tgNil_, DN.tgCons_, DN.tgO_, DN.tgT_, DN.kPar_, DN.parR_, DN.kSub_, DN.kFld_, DN.fVar_, DN.varR_, DN.fC_, DN.fOp_, DN.g2_, DN.g2o_, DN.fUn_, DN.g1_, DN.g1o_, DN.of_some, DN.snap_d, DN.snap_r, DN.snapC_lst, DN.snapC_ob, DN.fNil_, DN.fCons_, DN.fTup_, DN.fLst_, DN.allD_n, DN.allD_c, DN.allC_, DN.gTupD_, DN.gLstD_, DN.tupO_0, DN.lstO_0, DN.tupO_1, DN.lstO_1, DN.tupO_2, DN.lstO_2, DN.tupO_3, DN.lstO_3, DN.tupO_4, DN.lstO_4, DN.tupO_5, DN.lstO_5, DN.tupO_6, DN.lstO_6, DN.tupO_7, DN.lstO_7, DN.fAnd_, DN.fOr_, DN.fNot_, DN.fIf_, DN.onB_, DN.kVal_, DN.kAnd_, DN.kOr_, DN.kNot_, DN.kYes_, DN.fCall_, DN.gA_, DN.gAo_, DN.snaps_n, DN.snaps_c, DN.snapsC_, DN.arg1_, DN.arg12_1, DN.arg12_2, DN.arg2_, DN.onlyIf_t, DN.fCallD_, DN.fMeth_, DN.onT_, DN.onTo_, DN.gM_, DN.gMo_, DN.clsV_r, DN.clsC_lst, DN.clsC_ob, DN.clsV_obj, DN.clsV_int, DN.clsV_bl, DN.clsV_str, DN.clsV_non, DN.clsV_lst, DN.clsV_tup, DN.clsV_scr, DN.fLenD_, DN.lenR_, DN.lenC_n, DN.lenC_s, DN.fIxD_, DN.ixR_, DN.ixC_n, DN.ixC_s, DN.okR_ok, DN.fEqD_, DN.fMethD_, DN.fPropD_, DN.fMakeD_, DN.isi_int_int, DN.isi_int_bool, DN.isi_int_str, DN.isi_str_str, DN.isi_str_int, DN.isi_lst_lst, DN.isi_lst_str, DN.isi_tup_str, DN.isi_tup_tup, DN.isi_lst_lt, DN.isi_tup_lt, DN.isi_str_lt, DN.methR_, DN.methP_, DN.askT_, DN.askP_, DN.fAsk1_, DN.ask1R_, DN.ask1P_, DN.at_cons, beq_self_eq_true, DN.eqR_int, DN.eqR_bl, DN.eqR_str, DN.eqR_lst, DN.eqR_tup, DN.eqR_non, DN.onlyV_bl, DN.onlyV_str, DN.fStrD_, DN.strR_, DN.strC_n, DN.strC_s, DN.fChain_, DN.fSl_, DN.fNoPart_, DN.fPart_, DN.partR_, DN.fDisp_, DN.gSl_lst, DN.gSl_tup, DN.fMut_, DN.gMu_, DN.muC_, DN.muP_, DN.isT_str, DN.isT_lst, DN.gClear_, DN.fCMeth_, DN.cmR_, DN.fMakeL_, DN.mkLR_, DN.makeR_ok, List.append_nil, DN.vB_, DN.vI_, DN.vS_, DN.vT_, DN.nL_, DN.vD_, DN.startE_, DN.outS_nx, DN.outS_rt, DN.outS_ex, List.map, List.nil_append, List.cons_append, List.length_cons, List.length_nil, List.replicate, List.getElem?_cons_zero, List.getElem?_cons_succ, List.getElem?_nil, List.set_cons_zero, List.set_cons_succ, if_true, if_false, ite_true, ite_false, Bool.not_true, Bool.not_false, Bool.false_eq_true, Bool.and_true, Bool.true_and, Bool.or_false, Bool.false_or, Nat.add_sub_cancel, Nat.zero_add, Nat.reduceSub, Nat.reduceAdd, e, init_ok h q]
section
variable {n : Nat} {ws : List Str} {S : Sto}
theorem words_ok : D_Addresses_words [.d (A ws)] S = .ok S (.val (.d (.tup (ws.map .str)))) := by
  refine def_pure ?_
  simp (config := { dsimp := false }) only [↓reduceIte, DN.bindV_val, DN.bindV_lst, DN.bindV_ob, DN.bindV_dc, DN.bindV_no, DN.bindV_ex, DN.bind_ok, DN.bind_no, DN.bind_ex, DN.sV_val, DN.sV_lst, DN.sV_ob, DN.sV_dc, DN.sV_ex, DN.sB_ok, DN.sB_ex, DN.kSeq_, DN.seqR_nx, DN.seqR_rt, DN.seqR_ex, DN.seqR_no, DN.kRet_, DN.retR_ok, DN.retR_ex, DN.kRetN_, DN.kNext_, DN.loopR_nx, DN.loopR_ct, DN.loopR_bk, DN.loopR_rt, DN.forGo_c, DN.forO_, DN.forGo_n, DN.iVal_, DN.itOf_lst, DN.itOf_tup, DN.kIf_, DN.kExpr_, DN.kSet_, DN.kSetC_, DN.setC_val, DN.setC_new, DN.kAsg_, DN.asgR_d, DN.asgO_, DN.tgN_, DN.tgNil_, DN.tgCons_, DN.tgO_, DN.tgT_, DN.kPar_, DN.parR_, DN.kSub_, DN.kFld_, DN.fVar_, DN.varR_, DN.fC_, DN.fOp_, DN.g2_, DN.g2o_, DN.fUn_, DN.g1_, DN.g1o_, DN.of_some, DN.snap_d, DN.snap_r, DN.snapC_lst, DN.snapC_ob, DN.fNil_, DN.fCons_, DN.fTup_, DN.fLst_, DN.allD_n, DN.allD_c, DN.allC_, DN.gTupD_, DN.gLstD_, DN.tupO_0, DN.lstO_0, DN.tupO_1, DN.lstO_1, DN.tupO_2, DN.lstO_2, DN.tupO_3, DN.lstO_3, DN.tupO_4, DN.lstO_4, DN.tupO_5, DN.lstO_5, DN.tupO_6, DN.lstO_6, DN.tupO_7, DN.lstO_7, DN.fAnd_, DN.fOr_, DN.fNot_, DN.fIf_, DN.onB_, DN.kVal_, DN.kAnd_, DN.kOr_, DN.kNot_, DN.kYes_, DN.fCall_, DN.gA_, DN.gAo_, DN.snaps_n, DN.snaps_c, DN.snapsC_, DN.arg1_, DN.arg12_1, DN.arg12_2, DN.arg2_, DN.onlyIf_t, DN.fCallD_, DN.fMeth_, DN.onT_, DN.onTo_, DN.gM_, DN.gMo_, DN.clsV_r, DN.clsC_lst, DN.clsC_ob, DN.clsV_obj, DN.clsV_int, DN.clsV_bl, DN.clsV_str, DN.clsV_non, DN.clsV_lst, DN.clsV_tup, DN.clsV_scr, DN.fLenD_, DN.lenR_, DN.lenC_n, DN.lenC_s, DN.fIxD_, DN.ixR_, DN.ixC_n, DN.ixC_s, DN.okR_ok, DN.fEqD_, DN.fMethD_, DN.fPropD_, DN.fMakeD_, DN.isi_int_int, DN.isi_int_bool, DN.isi_int_str, DN.isi_str_str, DN.isi_str_int, DN.isi_lst_lst, DN.isi_lst_str, DN.isi_tup_str, DN.isi_tup_tup, DN.isi_lst_lt, DN.isi_tup_lt, DN.isi_str_lt, DN.methR_, DN.methP_, DN.askT_, DN.askP_, DN.fAsk1_, DN.ask1R_, DN.ask1P_, DN.at_cons, beq_self_eq_true, DN.eqR_int, DN.eqR_bl, DN.eqR_str, DN.eqR_lst, DN.eqR_tup, DN.eqR_non, DN.onlyV_bl, DN.onlyV_str, DN.fStrD_, DN.strR_, DN.strC_n, DN.strC_s, DN.fChain_, DN.fSl_, DN.fNoPart_, DN.fPart_, DN.partR_, DN.fDisp_, DN.gSl_lst, DN.gSl_tup, DN.fMut_, DN.gMu_, DN.muC_, DN.muP_, DN.isT_str, DN.isT_lst, DN.gClear_, DN.fCMeth_, DN.cmR_, DN.fMakeL_, DN.mkLR_, DN.makeR_ok, List.append_nil, DN.vB_, DN.vI_, DN.vS_, DN.vT_, DN.nL_, DN.vD_, DN.startE_, DN.outS_nx, DN.outS_rt, DN.outS_ex, List.map, List.nil_append, List.cons_append, List.length_cons, List.length_nil, List.replicate, List.getElem?_cons_zero, List.getElem?_cons_succ, List.getElem?_nil, List.set_cons_zero, List.set_cons_succ, if_true, if_false, ite_true, ite_false, Bool.not_true, Bool.not_false, Bool.false_eq_true, Bool.and_true, Bool.true_and, Bool.or_false, Bool.false_or, Nat.add_sub_cancel, Nat.zero_add, Nat.reduceSub, Nat.reduceAdd]
  rfl
theorem kept_ok : gFld ["Addresses"] "kept" (A ws) = vT (ws.map .str) := rfl
theorem length_ok (h : Ws n ws) : D_Addresses_length [.d (A ws)] S = .ok S (.val (.d (.int n))) := by
  obtain ⟨w0, h0, g0⟩ := h.head
  refine def_pure ?_
  have i0 : gIx (.tup (ws.map .str)) (.int 0) = vD (.str w0) := gIx_tup (i := 0) (by simp [List.getElem?_map, h0])
  simp (config := { dsimp := false }) only [↓reduceIte, DN.bindV_val, DN.bindV_lst, DN.bindV_ob, DN.bindV_dc, DN.bindV_no, DN.bindV_ex, DN.bind_ok, DN.bind_no, DN.bind_ex, DN.sV_val, DN.sV_lst, DN.sV_ob, DN.sV_dc, DN.sV_ex, DN.sB_ok, DN.sB_ex, DN.kSeq_, DN.seqR_nx, DN.seqR_rt, DN.seqR_ex, DN.seqR_no, DN.kRet_, DN.retR_ok, DN.retR_ex, DN.kRetN_, DN.kNext_, DN.loopR_nx, DN.loopR_ct, DN.loopR_bk, DN.loopR_rt, DN.forGo_c, DN.forO_, DN.forGo_n, DN.iVal_, DN.itOf_lst, DN.itOf_tup, DN.kIf_, DN.kExpr_, DN.kSet_, DN.kSetC_, DN.setC_val, DN.setC_new, DN.kAsg_, DN.asgR_d, DN.asgO_, DN.tgN_, DN.tgNil_, DN.tgCons_, DN.tgO_, DN.tgT_, DN.kPar_, DN.parR_, DN.kSub_, DN.kFld_, DN.fVar_, DN.varR_, DN.fC_, DN.fOp_, DN.g2_, DN.g2o_, DN.fUn_, DN.g1_, DN.g1o_, DN.of_some, DN.snap_d, DN.snap_r, DN.snapC_lst, DN.snapC_ob, DN.fNil_, DN.fCons_, DN.fTup_, DN.fLst_, DN.allD_n, DN.allD_c, DN.allC_, DN.gTupD_, DN.gLstD_, DN.tupO_0, DN.lstO_0, DN.tupO_1, DN.lstO_1, DN.tupO_2, DN.lstO_2, DN.tupO_3, DN.lstO_3, DN.tupO_4, DN.lstO_4, DN.tupO_5, DN.lstO_5, DN.tupO_6, DN.lstO_6, DN.tupO_7, DN.lstO_7, DN.fAnd_, DN.fOr_, DN.fNot_, DN.fIf_, DN.onB_, DN.kVal_, DN.kAnd_, DN.kOr_, DN.kNot_, DN.kYes_, DN.fCall_, DN.gA_, DN.gAo_, DN.snaps_n, DN.snaps_c, DN.snapsC_, DN.arg1_, DN.arg12_1, DN.arg12_2, DN.arg2_, DN.onlyIf_t, DN.fCallD_, DN.fMeth_, DN.onT_, DN.onTo_, DN.gM_, DN.gMo_, DN.clsV_r, DN.clsC_lst, DN.clsC_ob, DN.clsV_obj, DN.clsV_int, DN.clsV_bl, DN.clsV_str, DN.clsV_non, DN.clsV_lst, DN.clsV_tup, DN.clsV_scr, DN.fLenD_, DN.lenR_, DN.lenC_n, DN.lenC_s, DN.fIxD_, DN.ixR_, DN.ixC_n, DN.ixC_s, DN.okR_ok, DN.fEqD_, DN.fMethD_, DN.fPropD_, DN.fMakeD_, DN.isi_int_int, DN.isi_int_bool, DN.isi_int_str, DN.isi_str_str, DN.isi_str_int, DN.isi_lst_lst, DN.isi_lst_str, DN.isi_tup_str, DN.isi_tup_tup, DN.isi_lst_lt, DN.isi_tup_lt, DN.isi_str_lt, DN.methR_, DN.methP_, DN.askT_, DN.askP_, DN.fAsk1_, DN.ask1R_, DN.ask1P_, DN.at_cons, beq_self_eq_true, DN.eqR_int, DN.eqR_bl, DN.eqR_str, DN.eqR_lst, DN.eqR_tup, DN.eqR_non, DN.onlyV_bl, DN.onlyV_str, DN.fStrD_, DN.strR_, DN.strC_n, DN.strC_s, DN.fChain_, DN.fSl_, DN.fNoPart_, DN.fPart_, DN.partR_, DN.fDisp_, DN.gSl_lst, DN.gSl_tup, DN.fMut_, DN.gMu_, DN.muC_, DN.muP_, DN.isT_str, DN.isT_lst, DN.gClear_, DN.fCMeth_, DN.cmR_, DN.fMakeL_, DN.mkLR_, DN.makeR_ok, List.append_nil, DN.vB_, DN.vI_, DN.vS_, DN.vT_, DN.nL_, DN.vD_, DN.startE_, DN.outS_nx, DN.outS_rt, DN.outS_ex, List.map, List.nil_append, List.cons_append, List.length_cons, List.length_nil, List.replicate, List.getElem?_cons_zero, List.getElem?_cons_succ, List.getElem?_nil, List.set_cons_zero, List.set_cons_succ, if_true, if_false, ite_true, ite_false, Bool.not_true, Bool.not_false, Bool.false_eq_true, Bool.and_true, Bool.true_and, Bool.or_false, Bool.false_or, Nat.add_sub_cancel, Nat.zero_add, Nat.reduceSub, Nat.reduceAdd, kept_ok, i0, gLen_str g0.sz, g0.length]
theorem len_ok : D_Addresses_len [.d (A ws)] S = .ok S (.val (.d (.int ws.length))) := by
  refine def_pure ?_
  simp (config := { dsimp := false }) only [↓reduceIte, DN.bindV_val, DN.bindV_lst, DN.bindV_ob, DN.bindV_dc, DN.bindV_no, DN.bindV_ex, DN.bind_ok, DN.bind_no, DN.bind_ex, DN.sV_val, DN.sV_lst, DN.sV_ob, DN.sV_dc, DN.sV_ex, DN.sB_ok, DN.sB_ex, DN.kSeq_, DN.seqR_nx, DN.seqR_rt, DN.seqR_ex, DN.seqR_no, DN.kRet_, DN.retR_ok, DN.retR_ex, DN.kRetN_, DN.kNext_, DN.loopR_nx, DN.loopR_ct, DN.loopR_bk, DN.loopR_rt, DN.forGo_c, DN.forO_, DN.forGo_n, DN.iVal_, DN.itOf_lst, DN.itOf_tup, DN.kIf_, DN.kExpr_, DN.kSet_, DN.kSetC_, DN.setC_val, DN.setC_new, DN.kAsg_, DN.asgR_d, DN.asgO_, DN.tgN_, DN.tgNil_, DN.tgCons_, DN.tgO_, DN.tgT_, DN.kPar_, DN.parR_, DN.kSub_, DN.kFld_, DN.fVar_, DN.varR_, DN.fC_, DN.fOp_, DN.g2_, DN.g2o_, DN.fUn_, DN.g1_, DN.g1o_, DN.of_some, DN.snap_d, DN.snap_r, DN.snapC_lst, DN.snapC_ob, DN.fNil_, DN.fCons_, DN.fTup_, DN.fLst_, DN.allD_n, DN.allD_c, DN.allC_, DN.gTupD_, DN.gLstD_, DN.tupO_0, DN.lstO_0, DN.tupO_1, DN.lstO_1, DN.tupO_2, DN.lstO_2, DN.tupO_3, DN.lstO_3, DN.tupO_4, DN.lstO_4, DN.tupO_5, DN.lstO_5, DN.tupO_6, DN.lstO_6, DN.tupO_7, DN.lstO_7, DN.fAnd_, DN.fOr_, DN.fNot_, DN.fIf_, DN.onB_, DN.kVal_, DN.kAnd_, DN.kOr_, DN.kNot_, DN.kYes_, DN.fCall_, DN.gA_, DN.gAo_, DN.snaps_n, DN.snaps_c, DN.snapsC_, DN.arg1_, DN.arg12_1, DN.arg12_2, DN.arg2_, DN.onlyIf_t, DN.fCallD_, DN.fMeth_, DN.onT_, DN.onTo_, DN.gM_, DN.gMo_, DN.clsV_r, DN.clsC_lst, DN.clsC_ob, DN.clsV_obj, DN.clsV_int, DN.clsV_bl, DN.clsV_str, DN.clsV_non, DN.clsV_lst, DN.clsV_tup, DN.clsV_scr, DN.fLenD_, DN.lenR_, DN.lenC_n, DN.lenC_s, DN.fIxD_, DN.ixR_, DN.ixC_n, DN.ixC_s, DN.okR_ok, DN.fEqD_, DN.fMethD_, DN.fPropD_, DN.fMakeD_, DN.isi_int_int, DN.isi_int_bool, DN.isi_int_str, DN.isi_str_str, DN.isi_str_int, DN.isi_lst_lst, DN.isi_lst_str, DN.isi_tup_str, DN.isi_tup_tup, DN.isi_lst_lt, DN.isi_tup_lt, DN.isi_str_lt, DN.methR_, DN.methP_, DN.askT_, DN.askP_, DN.fAsk1_, DN.ask1R_, DN.ask1P_, DN.at_cons, beq_self_eq_true, DN.eqR_int, DN.eqR_bl, DN.eqR_str, DN.eqR_lst, DN.eqR_tup, DN.eqR_non, DN.onlyV_bl, DN.onlyV_str, DN.fStrD_, DN.strR_, DN.strC_n, DN.strC_s, DN.fChain_, DN.fSl_, DN.fNoPart_, DN.fPart_, DN.partR_, DN.fDisp_, DN.gSl_lst, DN.gSl_tup, DN.fMut_, DN.gMu_, DN.muC_, DN.muP_, DN.isT_str, DN.isT_lst, DN.gClear_, DN.fCMeth_, DN.cmR_, DN.fMakeL_, DN.mkLR_, DN.makeR_ok, List.append_nil, DN.vB_, DN.vI_, DN.vS_, DN.vT_, DN.nL_, DN.vD_, DN.startE_, DN.outS_nx, DN.outS_rt, DN.outS_ex, List.map, List.nil_append, List.cons_append, List.length_cons, List.length_nil, List.replicate, List.getElem?_cons_zero, List.getElem?_cons_succ, List.getElem?_nil, List.set_cons_zero, List.set_cons_succ, if_true, if_false, ite_true, ite_false, Bool.not_true, Bool.not_false, Bool.false_eq_true, Bool.and_true, Bool.true_and, Bool.or_false, Bool.false_or, Nat.add_sub_cancel, Nat.zero_add, Nat.reduceSub, Nat.reduceAdd, kept_ok, gLen_tup, List.length_map]
theorem is_integer_ok {i : Int} : D_is_integer [.d (.int i)] S = .ok S (.val (.d (.bl true))) := by
  refine def_pure ?_
  simp (config := { dsimp := false }) only [↓reduceIte, DN.bindV_val, DN.bindV_lst, DN.bindV_ob, DN.bindV_dc, DN.bindV_no, DN.bindV_ex, DN.bind_ok, DN.bind_no, DN.bind_ex, DN.sV_val, DN.sV_lst, DN.sV_ob, DN.sV_dc, DN.sV_ex, DN.sB_ok, DN.sB_ex, DN.kSeq_, DN.seqR_nx, DN.seqR_rt, DN.seqR_ex, DN.seqR_no, DN.kRet_, DN.retR_ok, DN.retR_ex, DN.kRetN_, DN.kNext_, DN.loopR_nx, DN.loopR_ct, DN.loopR_bk, DN.loopR_rt, DN.forGo_c, DN.forO_, DN.forGo_n, DN.iVal_, DN.itOf_lst, DN.itOf_tup, DN.kIf_, DN.kExpr_, DN.kSet_, DN.kSetC_, DN.setC_val, DN.setC_new, DN.kAsg_, DN.asgR_d, DN.asgO_, DN.tgN_, DN.tgNil_, DN.tgCons_, DN.tgO_, DN.tgT_, DN.kPar_, DN.parR_, DN.kSub_, DN.kFld_, DN.fVar_, DN.varR_, DN.fC_, DN.fOp_, DN.g2_, DN.g2o_, DN.fUn_, DN.g1_, DN.g1o_, DN.of_some, DN.snap_d, DN.snap_r, DN.snapC_lst, DN.snapC_ob, DN.fNil_, DN.fCons_, DN.fTup_, DN.fLst_, DN.allD_n, DN.allD_c, DN.allC_, DN.gTupD_, DN.gLstD_, DN.tupO_0, DN.lstO_0, DN.tupO_1, DN.lstO_1, DN.tupO_2, DN.lstO_2, DN.tupO_3, DN.lstO_3, DN.tupO_4, DN.lstO_4, DN.tupO_5, DN.lstO_5, DN.tupO_6, DN.lstO_6, DN.tupO_7, DN.lstO_7, DN.fAnd_, DN.fOr_, DN.fNot_, DN.fIf_, DN.onB_, DN.kVal_, DN.kAnd_, DN.kOr_, DN.kNot_, DN.kYes_, DN.fCall_, DN.gA_, DN.gAo_, DN.snaps_n, DN.snaps_c, DN.snapsC_, DN.arg1_, DN.arg12_1, DN.arg12_2, DN.arg2_, DN.onlyIf_t, DN.fCallD_, DN.fMeth_, DN.onT_, DN.onTo_, DN.gM_, DN.gMo_, DN.clsV_r, DN.clsC_lst, DN.clsC_ob, DN.clsV_obj, DN.clsV_int, DN.clsV_bl, DN.clsV_str, DN.clsV_non, DN.clsV_lst, DN.clsV_tup, DN.clsV_scr, DN.fLenD_, DN.lenR_, DN.lenC_n, DN.lenC_s, DN.fIxD_, DN.ixR_, DN.ixC_n, DN.ixC_s, DN.okR_ok, DN.fEqD_, DN.fMethD_, DN.fPropD_, DN.fMakeD_, DN.isi_int_int, DN.isi_int_bool, DN.isi_int_str, DN.isi_str_str, DN.isi_str_int, DN.isi_lst_lst, DN.isi_lst_str, DN.isi_tup_str, DN.isi_tup_tup, DN.isi_lst_lt, DN.isi_tup_lt, DN.isi_str_lt, DN.methR_, DN.methP_, DN.askT_, DN.askP_, DN.fAsk1_, DN.ask1R_, DN.ask1P_, DN.at_cons, beq_self_eq_true, DN.eqR_int, DN.eqR_bl, DN.eqR_str, DN.eqR_lst, DN.eqR_tup, DN.eqR_non, DN.onlyV_bl, DN.onlyV_str, DN.fStrD_, DN.strR_, DN.strC_n, DN.strC_s, DN.fChain_, DN.fSl_, DN.fNoPart_, DN.fPart_, DN.partR_, DN.fDisp_, DN.gSl_lst, DN.gSl_tup, DN.fMut_, DN.gMu_, DN.muC_, DN.muP_, DN.isT_str, DN.isT_lst, DN.gClear_, DN.fCMeth_, DN.cmR_, DN.fMakeL_, DN.mkLR_, DN.makeR_ok, List.append_nil, DN.vB_, DN.vI_, DN.vS_, DN.vT_, DN.nL_, DN.vD_, DN.startE_, DN.outS_nx, DN.outS_rt, DN.outS_ex, List.map, List.nil_append, List.cons_append, List.length_cons, List.length_nil, List.replicate, List.getElem?_cons_zero, List.getElem?_cons_succ, List.getElem?_nil, List.set_cons_zero, List.set_cons_succ, if_true, if_false, ite_true, ite_false, Bool.not_true, Bool.not_false, Bool.false_eq_true, Bool.and_true, Bool.true_and, Bool.or_false, Bool.false_or, Nat.add_sub_cancel, Nat.zero_add, Nat.reduceSub, Nat.reduceAdd]
theorem check_house_ok {i : Nat} (h : i < ws.length) : D_Addresses_check_house [.d (A ws), .d (.int i)] S = .ok S (.val (.d .non)) := by
  refine def_pure ?_
  simp (config := { dsimp := false }) only [↓reduceIte, DN.bindV_val, DN.bindV_lst, DN.bindV_ob, DN.bindV_dc, DN.bindV_no, DN.bindV_ex, DN.bind_ok, DN.bind_no, DN.bind_ex, DN.sV_val, DN.sV_lst, DN.sV_ob, DN.sV_dc, DN.sV_ex, DN.sB_ok, DN.sB_ex, DN.kSeq_, DN.seqR_nx, DN.seqR_rt, DN.seqR_ex, DN.seqR_no, DN.kRet_, DN.retR_ok, DN.retR_ex, DN.kRetN_, DN.kNext_, DN.loopR_nx, DN.loopR_ct, DN.loopR_bk, DN.loopR_rt, DN.forGo_c, DN.forO_, DN.forGo_n, DN.iVal_, DN.itOf_lst, DN.itOf_tup, DN.kIf_, DN.kExpr_, DN.kSet_, DN.kSetC_, DN.setC_val, DN.setC_new, DN.kAsg_, DN.asgR_d, DN.asgO_, DN.tgN_, DN.tgNil_, DN.tgCons_, DN.tgO_, DN.tgT_, DN.kPar_, DN.parR_, DN.kSub_, DN.kFld_, DN.fVar_, DN.varR_, DN.fC_, DN.fOp_, DN.g2_, DN.g2o_, DN.fUn_, DN.g1_, DN.g1o_, DN.of_some, DN.snap_d, DN.snap_r, DN.snapC_lst, DN.snapC_ob, DN.fNil_, DN.fCons_, DN.fTup_, DN.fLst_, DN.allD_n, DN.allD_c, DN.allC_, DN.gTupD_, DN.gLstD_, DN.tupO_0, DN.lstO_0, DN.tupO_1, DN.lstO_1, DN.tupO_2, DN.lstO_2, DN.tupO_3, DN.lstO_3, DN.tupO_4, DN.lstO_4, DN.tupO_5, DN.lstO_5, DN.tupO_6, DN.lstO_6, DN.tupO_7, DN.lstO_7, DN.fAnd_, DN.fOr_, DN.fNot_, DN.fIf_, DN.onB_, DN.kVal_, DN.kAnd_, DN.kOr_, DN.kNot_, DN.kYes_, DN.fCall_, DN.gA_, DN.gAo_, DN.snaps_n, DN.snaps_c, DN.snapsC_, DN.arg1_, DN.arg12_1, DN.arg12_2, DN.arg2_, DN.onlyIf_t, DN.fCallD_, DN.fMeth_, DN.onT_, DN.onTo_, DN.gM_, DN.gMo_, DN.clsV_r, DN.clsC_lst, DN.clsC_ob, DN.clsV_obj, DN.clsV_int, DN.clsV_bl, DN.clsV_str, DN.clsV_non, DN.clsV_lst, DN.clsV_tup, DN.clsV_scr, DN.fLenD_, DN.lenR_, DN.lenC_n, DN.lenC_s, DN.fIxD_, DN.ixR_, DN.ixC_n, DN.ixC_s, DN.okR_ok, DN.fEqD_, DN.fMethD_, DN.fPropD_, DN.fMakeD_, DN.isi_int_int, DN.isi_int_bool, DN.isi_int_str, DN.isi_str_str, DN.isi_str_int, DN.isi_lst_lst, DN.isi_lst_str, DN.isi_tup_str, DN.isi_tup_tup, DN.isi_lst_lt, DN.isi_tup_lt, DN.isi_str_lt, DN.methR_, DN.methP_, DN.askT_, DN.askP_, DN.fAsk1_, DN.ask1R_, DN.ask1P_, DN.at_cons, beq_self_eq_true, DN.eqR_int, DN.eqR_bl, DN.eqR_str, DN.eqR_lst, DN.eqR_tup, DN.eqR_non, DN.onlyV_bl, DN.onlyV_str, DN.fStrD_, DN.strR_, DN.strC_n, DN.strC_s, DN.fChain_, DN.fSl_, DN.fNoPart_, DN.fPart_, DN.partR_, DN.fDisp_, DN.gSl_lst, DN.gSl_tup, DN.fMut_, DN.gMu_, DN.muC_, DN.muP_, DN.isT_str, DN.isT_lst, DN.gClear_, DN.fCMeth_, DN.cmR_, DN.fMakeL_, DN.mkLR_, DN.makeR_ok, List.append_nil, DN.vB_, DN.vI_, DN.vS_, DN.vT_, DN.nL_, DN.vD_, DN.startE_, DN.outS_nx, DN.outS_rt, DN.outS_ex, List.map, List.nil_append, List.cons_append, List.length_cons, List.length_nil, List.replicate, List.getElem?_cons_zero, List.getElem?_cons_succ, List.getElem?_nil, List.set_cons_zero, List.set_cons_succ, if_true, if_false, ite_true, ite_false, Bool.not_true, Bool.not_false, Bool.false_eq_true, Bool.and_true, Bool.true_and, Bool.or_false, Bool.false_or, Nat.add_sub_cancel, Nat.zero_add, Nat.reduceSub, Nat.reduceAdd, is_integer_ok, kept_ok, gLen_tup, gLe_, gLt_, List.length_map, decide_eq_true (show (0 : Int) ≤ (i : Int) by omega), decide_eq_true (show (i : Int) < (ws.length : Int) by omega)]
theorem getitem_ok {i : Nat} {w : Str} (h : ws[i]? = some w) : D_Addresses_getitem [.d (A ws), .d (.int i)] S = .ok S (.val (.d (.str w))) := by
  refine def_pure ?_
  have hi := (List.getElem?_eq_some_iff.mp h).1
  have i0 : gIx (.tup (ws.map .str)) (.int i) = vD (.str w) := gIx_tup (by simp [List.getElem?_map, h])
  simp (config := { dsimp := false }) only [↓reduceIte, DN.bindV_val, DN.bindV_lst, DN.bindV_ob, DN.bindV_dc, DN.bindV_no, DN.bindV_ex, DN.bind_ok, DN.bind_no, DN.bind_ex, DN.sV_val, DN.sV_lst, DN.sV_ob, DN.sV_dc, DN.sV_ex, DN.sB_ok, DN.sB_ex, DN.kSeq_, DN.seqR_nx, DN.seqR_rt, DN.seqR_ex, DN.seqR_no, DN.kRet_, DN.retR_ok, DN.retR_ex, DN.kRetN_, DN.kNext_, DN.loopR_nx, DN.loopR_ct, DN.loopR_bk, DN.loopR_rt, DN.forGo_c, DN.forO_, DN.forGo_n, DN.iVal_, DN.itOf_lst, DN.itOf_tup, DN.kIf_, DN.kExpr_, DN.kSet_, DN.kSetC_, DN.setC_val, DN.setC_new, DN.kAsg_, DN.asgR_d, DN.asgO_, DN.tgN_, DN.tgNil_, DN.tgCons_, DN.tgO_, DN.tgT_, DN.kPar_, DN.parR_, DN.kSub_, DN.kFld_, DN.fVar_, DN.varR_, DN.fC_, DN.fOp_, DN.g2_, DN.g2o_, DN.fUn_, DN.g1_, DN.g1o_, DN.of_some, DN.snap_d, DN.snap_r, DN.snapC_lst, DN.snapC_ob, DN.fNil_, DN.fCons_, DN.fTup_, DN.fLst_, DN.allD_n, DN.allD_c, DN.allC_, DN.gTupD_, DN.gLstD_, DN.tupO_0, DN.lstO_0, DN.tupO_1, DN.lstO_1, DN.tupO_2, DN.lstO_2, DN.tupO_3, DN.lstO_3, DN.tupO_4, DN.lstO_4, DN.tupO_5, DN.lstO_5, DN.tupO_6, DN.lstO_6, DN.tupO_7, DN.lstO_7, DN.fAnd_, DN.fOr_, DN.fNot_, DN.fIf_, DN.onB_, DN.kVal_, DN.kAnd_, DN.kOr_, DN.kNot_, DN.kYes_, DN.fCall_, DN.gA_, DN.gAo_, DN.snaps_n, DN.snaps_c, DN.snapsC_, DN.arg1_, DN.arg12_1, DN.arg12_2, DN.arg2_, DN.onlyIf_t, DN.fCallD_, DN.fMeth_, DN.onT_, DN.onTo_, DN.gM_, DN.gMo_, DN.clsV_r, DN.clsC_lst, DN.clsC_ob, DN.clsV_obj, DN.clsV_int, DN.clsV_bl, DN.clsV_str, DN.clsV_non, DN.clsV_lst, DN.clsV_tup, DN.clsV_scr, DN.fLenD_, DN.lenR_, DN.lenC_n, DN.lenC_s, DN.fIxD_, DN.ixR_, DN.ixC_n, DN.ixC_s, DN.okR_ok, DN.fEqD_, DN.fMethD_, DN.fPropD_, DN.fMakeD_, DN.isi_int_int, DN.isi_int_bool, DN.isi_int_str, DN.isi_str_str, DN.isi_str_int, DN.isi_lst_lst, DN.isi_lst_str, DN.isi_tup_str, DN.isi_tup_tup, DN.isi_lst_lt, DN.isi_tup_lt, DN.isi_str_lt, DN.methR_, DN.methP_, DN.askT_, DN.askP_, DN.fAsk1_, DN.ask1R_, DN.ask1P_, DN.at_cons, beq_self_eq_true, DN.eqR_int, DN.eqR_bl, DN.eqR_str, DN.eqR_lst, DN.eqR_tup, DN.eqR_non, DN.onlyV_bl, DN.onlyV_str, DN.fStrD_, DN.strR_, DN.strC_n, DN.strC_s, DN.fChain_, DN.fSl_, DN.fNoPart_, DN.fPart_, DN.partR_, DN.fDisp_, DN.gSl_lst, DN.gSl_tup, DN.fMut_, DN.gMu_, DN.muC_, DN.muP_, DN.isT_str, DN.isT_lst, DN.gClear_, DN.fCMeth_, DN.cmR_, DN.fMakeL_, DN.mkLR_, DN.makeR_ok, List.append_nil, DN.vB_, DN.vI_, DN.vS_, DN.vT_, DN.nL_, DN.vD_, DN.startE_, DN.outS_nx, DN.outS_rt, DN.outS_ex, List.map, List.nil_append, List.cons_append, List.length_cons, List.length_nil, List.replicate, List.getElem?_cons_zero, List.getElem?_cons_succ, List.getElem?_nil, List.set_cons_zero, List.set_cons_succ, if_true, if_false, ite_true, ite_false, Bool.not_true, Bool.not_false, Bool.false_eq_true, Bool.and_true, Bool.true_and, Bool.or_false, Bool.false_or, Nat.add_sub_cancel, Nat.zero_add, Nat.reduceSub, Nat.reduceAdd, MT.at, check_house_ok hi, kept_ok, i0, beq_self_eq_true]
theorem meth_apart_ok {i j : Nat} {v w : Str} (h : Ws n ws) (hi : ws[i]? = some v) (hj : ws[j]? = some w) : D_Addresses_apart [.d (A ws), .d (.int i), .d (.int j)] S = .ok S (.val (.d (.int (dif v w).length))) := by
  refine def_pure ?_
  have li := (List.getElem?_eq_some_iff.mp hi).1
  have lj := (List.getElem?_eq_some_iff.mp hj).1
  have i0 : gIx (.tup (ws.map .str)) (.int i) = vD (.str v) := gIx_tup (by simp [List.getElem?_map, hi])
  have j0 : gIx (.tup (ws.map .str)) (.int j) = vD (.str w) := gIx_tup (by simp [List.getElem?_map, hj])
  simp (config := { dsimp := false }) only [↓reduceIte, DN.bindV_val, DN.bindV_lst, DN.bindV_ob, DN.bindV_dc, DN.bindV_no, DN.bindV_ex, DN.bind_ok, DN.bind_no, DN.bind_ex, DN.sV_val, DN.sV_lst, DN.sV_ob, DN.sV_dc, DN.sV_ex, DN.sB_ok, DN.sB_ex, DN.kSeq_, DN.seqR_nx, DN.seqR_rt, DN.seqR_ex, DN.seqR_no, DN.kRet_, DN.retR_ok, DN.retR_ex, DN.kRetN_, DN.kNext_, DN.loopR_nx, DN.loopR_ct, DN.loopR_bk, DN.loopR_rt, DN.forGo_c, DN.forO_, DN.forGo_n, DN.iVal_, DN.itOf_lst, DN.itOf_tup, DN.kIf_, DN.kExpr_, DN.kSet_, DN.kSetC_, DN.setC_val, DN.setC_new, DN.kAsg_, DN.asgR_d, DN.asgO_, DN.tgN_, DN.tgNil_, DN.tgCons_, DN.tgO_, DN.tgT_, DN.kPar_, DN.parR_, DN.kSub_, DN.kFld_, DN.fVar_, DN.varR_, DN.fC_, DN.fOp_, DN.g2_, DN.g2o_, DN.fUn_, DN.g1_, DN.g1o_, DN.of_some, DN.snap_d, DN.snap_r, DN.snapC_lst, DN.snapC_ob, DN.fNil_, DN.fCons_, DN.fTup_, DN.fLst_, DN.allD_n, DN.allD_c, DN.allC_, DN.gTupD_, DN.gLstD_, DN.tupO_0, DN.lstO_0, DN.tupO_1, DN.lstO_1, DN.tupO_2, DN.lstO_2, DN.tupO_3, DN.lstO_3, DN.tupO_4, DN.lstO_4, DN.tupO_5, DN.lstO_5, DN.tupO_6, DN.lstO_6, DN.tupO_7, DN.lstO_7, DN.fAnd_, DN.fOr_, DN.fNot_, DN.fIf_, DN.onB_, DN.kVal_, DN.kAnd_, DN.kOr_, DN.kNot_, DN.kYes_, DN.fCall_, DN.gA_, DN.gAo_, DN.snaps_n, DN.snaps_c, DN.snapsC_, DN.arg1_, DN.arg12_1, DN.arg12_2, DN.arg2_, DN.onlyIf_t, DN.fCallD_, DN.fMeth_, DN.onT_, DN.onTo_, DN.gM_, DN.gMo_, DN.clsV_r, DN.clsC_lst, DN.clsC_ob, DN.clsV_obj, DN.clsV_int, DN.clsV_bl, DN.clsV_str, DN.clsV_non, DN.clsV_lst, DN.clsV_tup, DN.clsV_scr, DN.fLenD_, DN.lenR_, DN.lenC_n, DN.lenC_s, DN.fIxD_, DN.ixR_, DN.ixC_n, DN.ixC_s, DN.okR_ok, DN.fEqD_, DN.fMethD_, DN.fPropD_, DN.fMakeD_, DN.isi_int_int, DN.isi_int_bool, DN.isi_int_str, DN.isi_str_str, DN.isi_str_int, DN.isi_lst_lst, DN.isi_lst_str, DN.isi_tup_str, DN.isi_tup_tup, DN.isi_lst_lt, DN.isi_tup_lt, DN.isi_str_lt, DN.methR_, DN.methP_, DN.askT_, DN.askP_, DN.fAsk1_, DN.ask1R_, DN.ask1P_, DN.at_cons, beq_self_eq_true, DN.eqR_int, DN.eqR_bl, DN.eqR_str, DN.eqR_lst, DN.eqR_tup, DN.eqR_non, DN.onlyV_bl, DN.onlyV_str, DN.fStrD_, DN.strR_, DN.strC_n, DN.strC_s, DN.fChain_, DN.fSl_, DN.fNoPart_, DN.fPart_, DN.partR_, DN.fDisp_, DN.gSl_lst, DN.gSl_tup, DN.fMut_, DN.gMu_, DN.muC_, DN.muP_, DN.isT_str, DN.isT_lst, DN.gClear_, DN.fCMeth_, DN.cmR_, DN.fMakeL_, DN.mkLR_, DN.makeR_ok, List.append_nil, DN.vB_, DN.vI_, DN.vS_, DN.vT_, DN.nL_, DN.vD_, DN.startE_, DN.outS_nx, DN.outS_rt, DN.outS_ex, List.map, List.nil_append, List.cons_append, List.length_cons, List.length_nil, List.replicate, List.getElem?_cons_zero, List.getElem?_cons_succ, List.getElem?_nil, List.set_cons_zero, List.set_cons_succ, if_true, if_false, ite_true, ite_false, Bool.not_true, Bool.not_false, Bool.false_eq_true, Bool.and_true, Bool.true_and, Bool.or_false, Bool.false_or, Nat.add_sub_cancel, Nat.zero_add, Nat.reduceSub, Nat.reduceAdd, MT.at, check_house_ok li, check_house_ok lj, kept_ok, i0, j0, beq_self_eq_true, apart_ok (h.all v (List.mem_of_getElem? hi)) (h.all w (List.mem_of_getElem? hj))]
/-- the rows -/
def rowD (ws : List Str) (a : Str) : Dv := .tup (ws.map fun b => Dv.int (dif a b).length)
def tabD (ws : List Str) : List Dv := ws.map (rowD ws)
theorem table_ok (h : Ws n ws) : D_Addresses_table [.d (A ws)] S = .ok S (.new (.lst (tabD ws))) := by
  refine def_new ?_
  have hl := h.le
  have e := fLc_strs (fa := fUn (gFld ["Addresses"] "kept") (fVar 0)) (fe := fCall gTuple (fCons (fLc (iVal (fUn (gFld ["Addresses"] "kept") (fVar 0))) (tgN 1) kYes (fCallD 2 D_apart (fCons (fVar 2) (fCons (fVar 1) fNil))) [1]) fNil)) (vs := [2]) (env := [.v (.d (A ws)), .u, .u]) (S := S) (i := 2) (ws := ws) (rowD ws) (d := .tup (ws.map .str))
    (by simp (config := { dsimp := false }) only [↓reduceIte, DN.bindV_val, DN.bindV_lst, DN.bindV_ob, DN.bindV_dc, DN.bindV_no, DN.bindV_ex, DN.bind_ok, DN.bind_no, DN.bind_ex, DN.sV_val, DN.sV_lst, DN.sV_ob, DN.sV_dc, DN.sV_ex, DN.sB_ok, DN.sB_ex, DN.kSeq_, DN.seqR_nx, DN.seqR_rt, DN.seqR_ex, DN.seqR_no, DN.kRet_, DN.retR_ok, DN.retR_ex, DN.kRetN_, DN.kNext_, DN.loopR_nx, DN.loopR_ct, DN.loopR_bk, DN.loopR_rt, DN.forGo_c, DN.forO_, DN.forGo_n, DN.iVal_, DN.itOf_lst, DN.itOf_tup, DN.kIf_, DN.kExpr_, DN.kSet_, DN.kSetC_, DN.setC_val, DN.setC_new, DN.kAsg_, DN.asgR_d, DN.asgO_, DN.tgN_, DN.tgNil_, DN.tgCons_, DN.tgO_, DN.tgT_, DN.kPar_, DN.parR_, DN.kSub_, DN.kFld_, DN.fVar_, DN.varR_, DN.fC_, DN.fOp_, DN.g2_, DN.g2o_, DN.fUn_, DN.g1_, DN.g1o_, DN.of_some, DN.snap_d, DN.snap_r, DN.snapC_lst, DN.snapC_ob, DN.fNil_, DN.fCons_, DN.fTup_, DN.fLst_, DN.allD_n, DN.allD_c, DN.allC_, DN.gTupD_, DN.gLstD_, DN.tupO_0, DN.lstO_0, DN.tupO_1, DN.lstO_1, DN.tupO_2, DN.lstO_2, DN.tupO_3, DN.lstO_3, DN.tupO_4, DN.lstO_4, DN.tupO_5, DN.lstO_5, DN.tupO_6, DN.lstO_6, DN.tupO_7, DN.lstO_7, DN.fAnd_, DN.fOr_, DN.fNot_, DN.fIf_, DN.onB_, DN.kVal_, DN.kAnd_, DN.kOr_, DN.kNot_, DN.kYes_, DN.fCall_, DN.gA_, DN.gAo_, DN.snaps_n, DN.snaps_c, DN.snapsC_, DN.arg1_, DN.arg12_1, DN.arg12_2, DN.arg2_, DN.onlyIf_t, DN.fCallD_, DN.fMeth_, DN.onT_, DN.onTo_, DN.gM_, DN.gMo_, DN.clsV_r, DN.clsC_lst, DN.clsC_ob, DN.clsV_obj, DN.clsV_int, DN.clsV_bl, DN.clsV_str, DN.clsV_non, DN.clsV_lst, DN.clsV_tup, DN.clsV_scr, DN.fLenD_, DN.lenR_, DN.lenC_n, DN.lenC_s, DN.fIxD_, DN.ixR_, DN.ixC_n, DN.ixC_s, DN.okR_ok, DN.fEqD_, DN.fMethD_, DN.fPropD_, DN.fMakeD_, DN.isi_int_int, DN.isi_int_bool, DN.isi_int_str, DN.isi_str_str, DN.isi_str_int, DN.isi_lst_lst, DN.isi_lst_str, DN.isi_tup_str, DN.isi_tup_tup, DN.isi_lst_lt, DN.isi_tup_lt, DN.isi_str_lt, DN.methR_, DN.methP_, DN.askT_, DN.askP_, DN.fAsk1_, DN.ask1R_, DN.ask1P_, DN.at_cons, beq_self_eq_true, DN.eqR_int, DN.eqR_bl, DN.eqR_str, DN.eqR_lst, DN.eqR_tup, DN.eqR_non, DN.onlyV_bl, DN.onlyV_str, DN.fStrD_, DN.strR_, DN.strC_n, DN.strC_s, DN.fChain_, DN.fSl_, DN.fNoPart_, DN.fPart_, DN.partR_, DN.fDisp_, DN.gSl_lst, DN.gSl_tup, DN.fMut_, DN.gMu_, DN.muC_, DN.muP_, DN.isT_str, DN.isT_lst, DN.gClear_, DN.fCMeth_, DN.cmR_, DN.fMakeL_, DN.mkLR_, DN.makeR_ok, List.append_nil, DN.vB_, DN.vI_, DN.vS_, DN.vT_, DN.nL_, DN.vD_, DN.startE_, DN.outS_nx, DN.outS_rt, DN.outS_ex, List.map, List.nil_append, List.cons_append, List.length_cons, List.length_nil, List.replicate, List.getElem?_cons_zero, List.getElem?_cons_succ, List.getElem?_nil, List.set_cons_zero, List.set_cons_succ, if_true, if_false, ite_true, ite_false, Bool.not_true, Bool.not_false, Bool.false_eq_true, Bool.and_true, Bool.true_and, Bool.or_false, Bool.false_or, Nat.add_sub_cancel, Nat.zero_add, Nat.reduceSub, Nat.reduceAdd, kept_ok]) rfl (by omega) (fun a ha => by
      have e2 := fLc_strs (fa := fUn (gFld ["Addresses"] "kept") (fVar 0)) (fe := fCallD 2 D_apart (fCons (fVar 2) (fCons (fVar 1) fNil))) (vs := [1]) (env := [.v (.d (A ws)), .u, .v (.d (.str a))]) (S := S) (i := 1) (ws := ws) (fun b => Dv.int (dif a b).length) (d := .tup (ws.map .str))
        (by simp (config := { dsimp := false }) only [↓reduceIte, DN.bindV_val, DN.bindV_lst, DN.bindV_ob, DN.bindV_dc, DN.bindV_no, DN.bindV_ex, DN.bind_ok, DN.bind_no, DN.bind_ex, DN.sV_val, DN.sV_lst, DN.sV_ob, DN.sV_dc, DN.sV_ex, DN.sB_ok, DN.sB_ex, DN.kSeq_, DN.seqR_nx, DN.seqR_rt, DN.seqR_ex, DN.seqR_no, DN.kRet_, DN.retR_ok, DN.retR_ex, DN.kRetN_, DN.kNext_, DN.loopR_nx, DN.loopR_ct, DN.loopR_bk, DN.loopR_rt, DN.forGo_c, DN.forO_, DN.forGo_n, DN.iVal_, DN.itOf_lst, DN.itOf_tup, DN.kIf_, DN.kExpr_, DN.kSet_, DN.kSetC_, DN.setC_val, DN.setC_new, DN.kAsg_, DN.asgR_d, DN.asgO_, DN.tgN_, DN.tgNil_, DN.tgCons_, DN.tgO_, DN.tgT_, DN.kPar_, DN.parR_, DN.kSub_, DN.kFld_, DN.fVar_, DN.varR_, DN.fC_, DN.fOp_, DN.g2_, DN.g2o_, DN.fUn_, DN.g1_, DN.g1o_, DN.of_some, DN.snap_d, DN.snap_r, DN.snapC_lst, DN.snapC_ob, DN.fNil_, DN.fCons_, DN.fTup_, DN.fLst_, DN.allD_n, DN.allD_c, DN.allC_, DN.gTupD_, DN.gLstD_, DN.tupO_0, DN.lstO_0, DN.tupO_1, DN.lstO_1, DN.tupO_2, DN.lstO_2, DN.tupO_3, DN.lstO_3, DN.tupO_4, DN.lstO_4, DN.tupO_5, DN.lstO_5, DN.tupO_6, DN.lstO_6, DN.tupO_7, DN.lstO_7, DN.fAnd_, DN.fOr_, DN.fNot_, DN.fIf_, DN.onB_, DN.kVal_, DN.kAnd_, DN.kOr_, DN.kNot_, DN.kYes_, DN.fCall_, DN.gA_, DN.gAo_, DN.snaps_n, DN.snaps_c, DN.snapsC_, DN.arg1_, DN.arg12_1, DN.arg12_2, DN.arg2_, DN.onlyIf_t, DN.fCallD_, DN.fMeth_, DN.onT_, DN.onTo_, DN.gM_, DN.gMo_, DN.clsV_r, DN.clsC_lst, DN.clsC_ob, DN.clsV_obj, DN.clsV_int, DN.clsV_bl, DN.clsV_str, DN.clsV_non, DN.clsV_lst, DN.clsV_tup, DN.clsV_scr, DN.fLenD_, DN.lenR_, DN.lenC_n, DN.lenC_s, DN.fIxD_, DN.ixR_, DN.ixC_n, DN.ixC_s, DN.okR_ok, DN.fEqD_, DN.fMethD_, DN.fPropD_, DN.fMakeD_, DN.isi_int_int, DN.isi_int_bool, DN.isi_int_str, DN.isi_str_str, DN.isi_str_int, DN.isi_lst_lst, DN.isi_lst_str, DN.isi_tup_str, DN.isi_tup_tup, DN.isi_lst_lt, DN.isi_tup_lt, DN.isi_str_lt, DN.methR_, DN.methP_, DN.askT_, DN.askP_, DN.fAsk1_, DN.ask1R_, DN.ask1P_, DN.at_cons, beq_self_eq_true, DN.eqR_int, DN.eqR_bl, DN.eqR_str, DN.eqR_lst, DN.eqR_tup, DN.eqR_non, DN.onlyV_bl, DN.onlyV_str, DN.fStrD_, DN.strR_, DN.strC_n, DN.strC_s, DN.fChain_, DN.fSl_, DN.fNoPart_, DN.fPart_, DN.partR_, DN.fDisp_, DN.gSl_lst, DN.gSl_tup, DN.fMut_, DN.gMu_, DN.muC_, DN.muP_, DN.isT_str, DN.isT_lst, DN.gClear_, DN.fCMeth_, DN.cmR_, DN.fMakeL_, DN.mkLR_, DN.makeR_ok, List.append_nil, DN.vB_, DN.vI_, DN.vS_, DN.vT_, DN.nL_, DN.vD_, DN.startE_, DN.outS_nx, DN.outS_rt, DN.outS_ex, List.map, List.nil_append, List.cons_append, List.length_cons, List.length_nil, List.replicate, List.getElem?_cons_zero, List.getElem?_cons_succ, List.getElem?_nil, List.set_cons_zero, List.set_cons_succ, if_true, if_false, ite_true, ite_false, Bool.not_true, Bool.not_false, Bool.false_eq_true, Bool.and_true, Bool.true_and, Bool.or_false, Bool.false_or, Nat.add_sub_cancel, Nat.zero_add, Nat.reduceSub, Nat.reduceAdd, kept_ok]) rfl (by omega) (fun b hb => by
          simp (config := { dsimp := false }) only [↓reduceIte, DN.bindV_val, DN.bindV_lst, DN.bindV_ob, DN.bindV_dc, DN.bindV_no, DN.bindV_ex, DN.bind_ok, DN.bind_no, DN.bind_ex, DN.sV_val, DN.sV_lst, DN.sV_ob, DN.sV_dc, DN.sV_ex, DN.sB_ok, DN.sB_ex, DN.kSeq_, DN.seqR_nx, DN.seqR_rt, DN.seqR_ex, DN.seqR_no, DN.kRet_, DN.retR_ok, DN.retR_ex, DN.kRetN_, DN.kNext_, DN.loopR_nx, DN.loopR_ct, DN.loopR_bk, DN.loopR_rt, DN.forGo_c, DN.forO_, DN.forGo_n, DN.iVal_, DN.itOf_lst, DN.itOf_tup, DN.kIf_, DN.kExpr_, DN.kSet_, DN.kSetC_, DN.setC_val, DN.setC_new, DN.kAsg_, DN.asgR_d, DN.asgO_, DN.tgN_, DN.tgNil_, DN.tgCons_, DN.tgO_, DN.tgT_, DN.kPar_, DN.parR_, DN.kSub_, DN.kFld_, DN.fVar_, DN.varR_, DN.fC_, DN.fOp_, DN.g2_, DN.g2o_, DN.fUn_, DN.g1_, DN.g1o_, DN.of_some, DN.snap_d, DN.snap_r, DN.snapC_lst, DN.snapC_ob, DN.fNil_, DN.fCons_, DN.fTup_, DN.fLst_, DN.allD_n, DN.allD_c, DN.allC_, DN.gTupD_, DN.gLstD_, DN.tupO_0, DN.lstO_0, DN.tupO_1, DN.lstO_1, DN.tupO_2, DN.lstO_2, DN.tupO_3, DN.lstO_3, DN.tupO_4, DN.lstO_4, DN.tupO_5, DN.lstO_5, DN.tupO_6, DN.lstO_6, DN.tupO_7, DN.lstO_7, DN.fAnd_, DN.fOr_, DN.fNot_, DN.fIf_, DN.onB_, DN.kVal_, DN.kAnd_, DN.kOr_, DN.kNot_, DN.kYes_, DN.fCall_, DN.gA_, DN.gAo_, DN.snaps_n, DN.snaps_c, DN.snapsC_, DN.arg1_, DN.arg12_1, DN.arg12_2, DN.arg2_, DN.onlyIf_t, DN.fCallD_, DN.fMeth_, DN.onT_, DN.onTo_, DN.gM_, DN.gMo_, DN.clsV_r, DN.clsC_lst, DN.clsC_ob, DN.clsV_obj, DN.clsV_int, DN.clsV_bl, DN.clsV_str, DN.clsV_non, DN.clsV_lst, DN.clsV_tup, DN.clsV_scr, DN.fLenD_, DN.lenR_, DN.lenC_n, DN.lenC_s, DN.fIxD_, DN.ixR_, DN.ixC_n, DN.ixC_s, DN.okR_ok, DN.fEqD_, DN.fMethD_, DN.fPropD_, DN.fMakeD_, DN.isi_int_int, DN.isi_int_bool, DN.isi_int_str, DN.isi_str_str, DN.isi_str_int, DN.isi_lst_lst, DN.isi_lst_str, DN.isi_tup_str, DN.isi_tup_tup, DN.isi_lst_lt, DN.isi_tup_lt, DN.isi_str_lt, DN.methR_, DN.methP_, DN.askT_, DN.askP_, DN.fAsk1_, DN.ask1R_, DN.ask1P_, DN.at_cons, beq_self_eq_true, DN.eqR_int, DN.eqR_bl, DN.eqR_str, DN.eqR_lst, DN.eqR_tup, DN.eqR_non, DN.onlyV_bl, DN.onlyV_str, DN.fStrD_, DN.strR_, DN.strC_n, DN.strC_s, DN.fChain_, DN.fSl_, DN.fNoPart_, DN.fPart_, DN.partR_, DN.fDisp_, DN.gSl_lst, DN.gSl_tup, DN.fMut_, DN.gMu_, DN.muC_, DN.muP_, DN.isT_str, DN.isT_lst, DN.gClear_, DN.fCMeth_, DN.cmR_, DN.fMakeL_, DN.mkLR_, DN.makeR_ok, List.append_nil, DN.vB_, DN.vI_, DN.vS_, DN.vT_, DN.nL_, DN.vD_, DN.startE_, DN.outS_nx, DN.outS_rt, DN.outS_ex, List.map, List.nil_append, List.cons_append, List.length_cons, List.length_nil, List.replicate, List.getElem?_cons_zero, List.getElem?_cons_succ, List.getElem?_nil, List.set_cons_zero, List.set_cons_succ, if_true, if_false, ite_true, ite_false, Bool.not_true, Bool.not_false, Bool.false_eq_true, Bool.and_true, Bool.true_and, Bool.or_false, Bool.false_or, Nat.add_sub_cancel, Nat.zero_add, Nat.reduceSub, Nat.reduceAdd, wipeE, apart_ok (h.all a ha) (h.all b hb)]
          exact got_val)
      simp (config := { dsimp := false }) only [↓reduceIte, DN.bindV_val, DN.bindV_lst, DN.bindV_ob, DN.bindV_dc, DN.bindV_no, DN.bindV_ex, DN.bind_ok, DN.bind_no, DN.bind_ex, DN.sV_val, DN.sV_lst, DN.sV_ob, DN.sV_dc, DN.sV_ex, DN.sB_ok, DN.sB_ex, DN.kSeq_, DN.seqR_nx, DN.seqR_rt, DN.seqR_ex, DN.seqR_no, DN.kRet_, DN.retR_ok, DN.retR_ex, DN.kRetN_, DN.kNext_, DN.loopR_nx, DN.loopR_ct, DN.loopR_bk, DN.loopR_rt, DN.forGo_c, DN.forO_, DN.forGo_n, DN.iVal_, DN.itOf_lst, DN.itOf_tup, DN.kIf_, DN.kExpr_, DN.kSet_, DN.kSetC_, DN.setC_val, DN.setC_new, DN.kAsg_, DN.asgR_d, DN.asgO_, DN.tgN_, DN.tgNil_, DN.tgCons_, DN.tgO_, DN.tgT_, DN.kPar_, DN.parR_, DN.kSub_, DN.kFld_, DN.fVar_, DN.varR_, DN.fC_, DN.fOp_, DN.g2_, DN.g2o_, DN.fUn_, DN.g1_, DN.g1o_, DN.of_some, DN.snap_d, DN.snap_r, DN.snapC_lst, DN.snapC_ob, DN.fNil_, DN.fCons_, DN.fTup_, DN.fLst_, DN.allD_n, DN.allD_c, DN.allC_, DN.gTupD_, DN.gLstD_, DN.tupO_0, DN.lstO_0, DN.tupO_1, DN.lstO_1, DN.tupO_2, DN.lstO_2, DN.tupO_3, DN.lstO_3, DN.tupO_4, DN.lstO_4, DN.tupO_5, DN.lstO_5, DN.tupO_6, DN.lstO_6, DN.tupO_7, DN.lstO_7, DN.fAnd_, DN.fOr_, DN.fNot_, DN.fIf_, DN.onB_, DN.kVal_, DN.kAnd_, DN.kOr_, DN.kNot_, DN.kYes_, DN.fCall_, DN.gA_, DN.gAo_, DN.snaps_n, DN.snaps_c, DN.snapsC_, DN.arg1_, DN.arg12_1, DN.arg12_2, DN.arg2_, DN.onlyIf_t, DN.fCallD_, DN.fMeth_, DN.onT_, DN.onTo_, DN.gM_, DN.gMo_, DN.clsV_r, DN.clsC_lst, DN.clsC_ob, DN.clsV_obj, DN.clsV_int, DN.clsV_bl, DN.clsV_str, DN.clsV_non, DN.clsV_lst, DN.clsV_tup, DN.clsV_scr, DN.fLenD_, DN.lenR_, DN.lenC_n, DN.lenC_s, DN.fIxD_, DN.ixR_, DN.ixC_n, DN.ixC_s, DN.okR_ok, DN.fEqD_, DN.fMethD_, DN.fPropD_, DN.fMakeD_, DN.isi_int_int, DN.isi_int_bool, DN.isi_int_str, DN.isi_str_str, DN.isi_str_int, DN.isi_lst_lst, DN.isi_lst_str, DN.isi_tup_str, DN.isi_tup_tup, DN.isi_lst_lt, DN.isi_tup_lt, DN.isi_str_lt, DN.methR_, DN.methP_, DN.askT_, DN.askP_, DN.fAsk1_, DN.ask1R_, DN.ask1P_, DN.at_cons, beq_self_eq_true, DN.eqR_int, DN.eqR_bl, DN.eqR_str, DN.eqR_lst, DN.eqR_tup, DN.eqR_non, DN.onlyV_bl, DN.onlyV_str, DN.fStrD_, DN.strR_, DN.strC_n, DN.strC_s, DN.fChain_, DN.fSl_, DN.fNoPart_, DN.fPart_, DN.partR_, DN.fDisp_, DN.gSl_lst, DN.gSl_tup, DN.fMut_, DN.gMu_, DN.muC_, DN.muP_, DN.isT_str, DN.isT_lst, DN.gClear_, DN.fCMeth_, DN.cmR_, DN.fMakeL_, DN.mkLR_, DN.makeR_ok, List.append_nil, DN.vB_, DN.vI_, DN.vS_, DN.vT_, DN.nL_, DN.vD_, DN.startE_, DN.outS_nx, DN.outS_rt, DN.outS_ex, List.map, List.nil_append, List.cons_append, List.length_cons, List.length_nil, List.replicate, List.getElem?_cons_zero, List.getElem?_cons_succ, List.getElem?_nil, List.set_cons_zero, List.set_cons_succ, if_true, if_false, ite_true, ite_false, Bool.not_true, Bool.not_false, Bool.false_eq_true, Bool.and_true, Bool.true_and, Bool.or_false, Bool.false_or, Nat.add_sub_cancel, Nat.zero_add, Nat.reduceSub, Nat.reduceAdd, wipeE, e2, gTuple_lst]
      exact got_val)
  simp (config := { dsimp := false }) only [↓reduceIte, DN.bindV_val, DN.bindV_lst, DN.bindV_ob, DN.bindV_dc, DN.bindV_no, DN.bindV_ex, DN.bind_ok, DN.bind_no, DN.bind_ex, DN.sV_val, DN.sV_lst, DN.sV_ob, DN.sV_dc, DN.sV_ex, DN.sB_ok, DN.sB_ex, DN.kSeq_, DN.seqR_nx, DN.seqR_rt, DN.seqR_ex, DN.seqR_no, DN.kRet_, DN.retR_ok, DN.retR_ex, DN.kRetN_, DN.kNext_, DN.loopR_nx, DN.loopR_ct, DN.loopR_bk, DN.loopR_rt, DN.forGo_c, DN.forO_, DN.forGo_n, DN.iVal_, DN.itOf_lst, DN.itOf_tup, DN.kIf_, DN.kExpr_, DN.kSet_, DN.kSetC_, DN.setC_val, DN.setC_new, DN.kAsg_, DN.asgR_d, DN.asgO_, DN.tgN_, DN.tgNil_, DN.tgCons_, DN.tgO_, DN.tgT_, DN.kPar_, DN.parR_, DN.kSub_, DN.kFld_, DN.fVar_, DN.varR_, DN.fC_, DN.fOp_, DN.g2_, DN.g2o_, DN.fUn_, DN.g1_, DN.g1o_, DN.of_some, DN.snap_d, DN.snap_r, DN.snapC_lst, DN.snapC_ob, DN.fNil_, DN.fCons_, DN.fTup_, DN.fLst_, DN.allD_n, DN.allD_c, DN.allC_, DN.gTupD_, DN.gLstD_, DN.tupO_0, DN.lstO_0, DN.tupO_1, DN.lstO_1, DN.tupO_2, DN.lstO_2, DN.tupO_3, DN.lstO_3, DN.tupO_4, DN.lstO_4, DN.tupO_5, DN.lstO_5, DN.tupO_6, DN.lstO_6, DN.tupO_7, DN.lstO_7, DN.fAnd_, DN.fOr_, DN.fNot_, DN.fIf_, DN.onB_, DN.kVal_, DN.kAnd_, DN.kOr_, DN.kNot_, DN.kYes_, DN.fCall_, DN.gA_, DN.gAo_, DN.snaps_n, DN.snaps_c, DN.snapsC_, DN.arg1_, DN.arg12_1, DN.arg12_2, DN.arg2_, DN.onlyIf_t, DN.fCallD_, DN.fMeth_, DN.onT_, DN.onTo_, DN.gM_, DN.gMo_, DN.clsV_r, DN.clsC_lst, DN.clsC_ob, DN.clsV_obj, DN.clsV_int, DN.clsV_bl, DN.clsV_str, DN.clsV_non, DN.clsV_lst, DN.clsV_tup, DN.clsV_scr, DN.fLenD_, DN.lenR_, DN.lenC_n, DN.lenC_s, DN.fIxD_, DN.ixR_, DN.ixC_n, DN.ixC_s, DN.okR_ok, DN.fEqD_, DN.fMethD_, DN.fPropD_, DN.fMakeD_, DN.isi_int_int, DN.isi_int_bool, DN.isi_int_str, DN.isi_str_str, DN.isi_str_int, DN.isi_lst_lst, DN.isi_lst_str, DN.isi_tup_str, DN.isi_tup_tup, DN.isi_lst_lt, DN.isi_tup_lt, DN.isi_str_lt, DN.methR_, DN.methP_, DN.askT_, DN.askP_, DN.fAsk1_, DN.ask1R_, DN.ask1P_, DN.at_cons, beq_self_eq_true, DN.eqR_int, DN.eqR_bl, DN.eqR_str, DN.eqR_lst, DN.eqR_tup, DN.eqR_non, DN.onlyV_bl, DN.onlyV_str, DN.fStrD_, DN.strR_, DN.strC_n, DN.strC_s, DN.fChain_, DN.fSl_, DN.fNoPart_, DN.fPart_, DN.partR_, DN.fDisp_, DN.gSl_lst, DN.gSl_tup, DN.fMut_, DN.gMu_, DN.muC_, DN.muP_, DN.isT_str, DN.isT_lst, DN.gClear_, DN.fCMeth_, DN.cmR_, DN.fMakeL_, DN.mkLR_, DN.makeR_ok, List.append_nil, DN.vB_, DN.vI_, DN.vS_, DN.vT_, DN.nL_, DN.vD_, DN.startE_, DN.outS_nx, DN.outS_rt, DN.outS_ex, List.map, List.nil_append, List.cons_append, List.length_cons, List.length_nil, List.replicate, List.getElem?_cons_zero, List.getElem?_cons_succ, List.getElem?_nil, List.set_cons_zero, List.set_cons_succ, if_true, if_false, ite_true, ite_false, Bool.not_true, Bool.not_false, Bool.false_eq_true, Bool.and_true, Bool.true_and, Bool.or_false, Bool.false_or, Nat.add_sub_cancel, Nat.zero_add, Nat.reduceSub, Nat.reduceAdd, e]
  rfl
theorem join_sz (h : Ws n ws) : (ws.map fun s : Str => s.length).sum + ws.length * (" " : Str).length ≤ 100000 := by
  have h1 : ∀ l : List Str, (∀ w ∈ l, Wd n w) → (l.map fun s : Str => s.length).sum ≤ l.length * 60 := by
    intro l hl
    induction l with
    | nil => simp
    | cons w l ih =>
      have h2 := ih fun x hx => hl x (List.mem_cons_of_mem _ hx)
      have h3 := hl w List.mem_cons_self
      have := h3.length
      have := h3.le
      simp only [List.map_cons, List.sum_cons, List.length_cons]
      omega
  have h2 := h1 ws h.all
  have := h.le
  have : (" " : Str).length = 1 := rfl
  rw [this]
  omega
theorem join_lst (h : Ws n ws) : gJoin (.str " ") [.lst (ws.map .str)] = vS (Txt.join " " ws) := by
  show (match strs? (ws.map .str) with | some ss => (if (ss.map fun s : Str => s.length).sum + ss.length * (" " : Str).length ≤ 100000 then vS (Txt.join " " ss) else none) | none => none) = _
  rw [strs_map]
  show (if (ws.map fun s : Str => s.length).sum + ws.length * (" " : Str).length ≤ 100000 then vS (Txt.join " " ws) else none) = _
  rw [if_pos (join_sz h)]
theorem join_tup (h : Ws n ws) : gJoin (.str " ") [.tup (ws.map .str)] = vS (Txt.join " " ws) := join_lst h
theorem str_ok (h : Ws n ws) : D_Addresses_str [.d (A ws)] S = .ok S (.val (.d (.str (Txt.join " " ws)))) := by
  refine def_pure ?_
  simp (config := { dsimp := false }) only [↓reduceIte, DN.bindV_val, DN.bindV_lst, DN.bindV_ob, DN.bindV_dc, DN.bindV_no, DN.bindV_ex, DN.bind_ok, DN.bind_no, DN.bind_ex, DN.sV_val, DN.sV_lst, DN.sV_ob, DN.sV_dc, DN.sV_ex, DN.sB_ok, DN.sB_ex, DN.kSeq_, DN.seqR_nx, DN.seqR_rt, DN.seqR_ex, DN.seqR_no, DN.kRet_, DN.retR_ok, DN.retR_ex, DN.kRetN_, DN.kNext_, DN.loopR_nx, DN.loopR_ct, DN.loopR_bk, DN.loopR_rt, DN.forGo_c, DN.forO_, DN.forGo_n, DN.iVal_, DN.itOf_lst, DN.itOf_tup, DN.kIf_, DN.kExpr_, DN.kSet_, DN.kSetC_, DN.setC_val, DN.setC_new, DN.kAsg_, DN.asgR_d, DN.asgO_, DN.tgN_, DN.tgNil_, DN.tgCons_, DN.tgO_, DN.tgT_, DN.kPar_, DN.parR_, DN.kSub_, DN.kFld_, DN.fVar_, DN.varR_, DN.fC_, DN.fOp_, DN.g2_, DN.g2o_, DN.fUn_, DN.g1_, DN.g1o_, DN.of_some, DN.snap_d, DN.snap_r, DN.snapC_lst, DN.snapC_ob, DN.fNil_, DN.fCons_, DN.fTup_, DN.fLst_, DN.allD_n, DN.allD_c, DN.allC_, DN.gTupD_, DN.gLstD_, DN.tupO_0, DN.lstO_0, DN.tupO_1, DN.lstO_1, DN.tupO_2, DN.lstO_2, DN.tupO_3, DN.lstO_3, DN.tupO_4, DN.lstO_4, DN.tupO_5, DN.lstO_5, DN.tupO_6, DN.lstO_6, DN.tupO_7, DN.lstO_7, DN.fAnd_, DN.fOr_, DN.fNot_, DN.fIf_, DN.onB_, DN.kVal_, DN.kAnd_, DN.kOr_, DN.kNot_, DN.kYes_, DN.fCall_, DN.gA_, DN.gAo_, DN.snaps_n, DN.snaps_c, DN.snapsC_, DN.arg1_, DN.arg12_1, DN.arg12_2, DN.arg2_, DN.onlyIf_t, DN.fCallD_, DN.fMeth_, DN.onT_, DN.onTo_, DN.gM_, DN.gMo_, DN.clsV_r, DN.clsC_lst, DN.clsC_ob, DN.clsV_obj, DN.clsV_int, DN.clsV_bl, DN.clsV_str, DN.clsV_non, DN.clsV_lst, DN.clsV_tup, DN.clsV_scr, DN.fLenD_, DN.lenR_, DN.lenC_n, DN.lenC_s, DN.fIxD_, DN.ixR_, DN.ixC_n, DN.ixC_s, DN.okR_ok, DN.fEqD_, DN.fMethD_, DN.fPropD_, DN.fMakeD_, DN.isi_int_int, DN.isi_int_bool, DN.isi_int_str, DN.isi_str_str, DN.isi_str_int, DN.isi_lst_lst, DN.isi_lst_str, DN.isi_tup_str, DN.isi_tup_tup, DN.isi_lst_lt, DN.isi_tup_lt, DN.isi_str_lt, DN.methR_, DN.methP_, DN.askT_, DN.askP_, DN.fAsk1_, DN.ask1R_, DN.ask1P_, DN.at_cons, beq_self_eq_true, DN.eqR_int, DN.eqR_bl, DN.eqR_str, DN.eqR_lst, DN.eqR_tup, DN.eqR_non, DN.onlyV_bl, DN.onlyV_str, DN.fStrD_, DN.strR_, DN.strC_n, DN.strC_s, DN.fChain_, DN.fSl_, DN.fNoPart_, DN.fPart_, DN.partR_, DN.fDisp_, DN.gSl_lst, DN.gSl_tup, DN.fMut_, DN.gMu_, DN.muC_, DN.muP_, DN.isT_str, DN.isT_lst, DN.gClear_, DN.fCMeth_, DN.cmR_, DN.fMakeL_, DN.mkLR_, DN.makeR_ok, List.append_nil, DN.vB_, DN.vI_, DN.vS_, DN.vT_, DN.nL_, DN.vD_, DN.startE_, DN.outS_nx, DN.outS_rt, DN.outS_ex, List.map, List.nil_append, List.cons_append, List.length_cons, List.length_nil, List.replicate, List.getElem?_cons_zero, List.getElem?_cons_succ, List.getElem?_nil, List.set_cons_zero, List.set_cons_succ, if_true, if_false, ite_true, ite_false, Bool.not_true, Bool.not_false, Bool.false_eq_true, Bool.and_true, Bool.true_and, Bool.or_false, Bool.false_or, Nat.add_sub_cancel, Nat.zero_add, Nat.reduceSub, Nat.reduceAdd, kept_ok, join_tup h]
theorem eq_ok {m : Nat} {vs : List Str} (h : Ws n ws) (g : Ws m vs) : D_Addresses_eq [.d (A ws), .d (A vs)] S = .ok S (.val (.d (.bl (decide (ws = vs))))) := by
  refine def_pure ?_
  have e : gEq (.tup (ws.map .str)) (.tup (vs.map .str)) = vB (decide (ws = vs)) := by
    unfold gEq
    rw [show okN 60 (.tup (ws.map .str)) = true from h.ok 59, show okN 60 (.tup (vs.map .str)) = true from g.ok 59]
    show vB (eqDs (ws.map .str) (vs.map .str)) = _
    rw [eqDs_strs]
  have i : gIsi ["Addresses"] (A vs) (.cls "Addresses") = vB true := rfl
  simp (config := { dsimp := false }) only [↓reduceIte, DN.bindV_val, DN.bindV_lst, DN.bindV_ob, DN.bindV_dc, DN.bindV_no, DN.bindV_ex, DN.bind_ok, DN.bind_no, DN.bind_ex, DN.sV_val, DN.sV_lst, DN.sV_ob, DN.sV_dc, DN.sV_ex, DN.sB_ok, DN.sB_ex, DN.kSeq_, DN.seqR_nx, DN.seqR_rt, DN.seqR_ex, DN.seqR_no, DN.kRet_, DN.retR_ok, DN.retR_ex, DN.kRetN_, DN.kNext_, DN.loopR_nx, DN.loopR_ct, DN.loopR_bk, DN.loopR_rt, DN.forGo_c, DN.forO_, DN.forGo_n, DN.iVal_, DN.itOf_lst, DN.itOf_tup, DN.kIf_, DN.kExpr_, DN.kSet_, DN.kSetC_, DN.setC_val, DN.setC_new, DN.kAsg_, DN.asgR_d, DN.asgO_, DN.tgN_, DN.tgNil_, DN.tgCons_, DN.tgO_, DN.tgT_, DN.kPar_, DN.parR_, DN.kSub_, DN.kFld_, DN.fVar_, DN.varR_, DN.fC_, DN.fOp_, DN.g2_, DN.g2o_, DN.fUn_, DN.g1_, DN.g1o_, DN.of_some, DN.snap_d, DN.snap_r, DN.snapC_lst, DN.snapC_ob, DN.fNil_, DN.fCons_, DN.fTup_, DN.fLst_, DN.allD_n, DN.allD_c, DN.allC_, DN.gTupD_, DN.gLstD_, DN.tupO_0, DN.lstO_0, DN.tupO_1, DN.lstO_1, DN.tupO_2, DN.lstO_2, DN.tupO_3, DN.lstO_3, DN.tupO_4, DN.lstO_4, DN.tupO_5, DN.lstO_5, DN.tupO_6, DN.lstO_6, DN.tupO_7, DN.lstO_7, DN.fAnd_, DN.fOr_, DN.fNot_, DN.fIf_, DN.onB_, DN.kVal_, DN.kAnd_, DN.kOr_, DN.kNot_, DN.kYes_, DN.fCall_, DN.gA_, DN.gAo_, DN.snaps_n, DN.snaps_c, DN.snapsC_, DN.arg1_, DN.arg12_1, DN.arg12_2, DN.arg2_, DN.onlyIf_t, DN.fCallD_, DN.fMeth_, DN.onT_, DN.onTo_, DN.gM_, DN.gMo_, DN.clsV_r, DN.clsC_lst, DN.clsC_ob, DN.clsV_obj, DN.clsV_int, DN.clsV_bl, DN.clsV_str, DN.clsV_non, DN.clsV_lst, DN.clsV_tup, DN.clsV_scr, DN.fLenD_, DN.lenR_, DN.lenC_n, DN.lenC_s, DN.fIxD_, DN.ixR_, DN.ixC_n, DN.ixC_s, DN.okR_ok, DN.fEqD_, DN.fMethD_, DN.fPropD_, DN.fMakeD_, DN.isi_int_int, DN.isi_int_bool, DN.isi_int_str, DN.isi_str_str, DN.isi_str_int, DN.isi_lst_lst, DN.isi_lst_str, DN.isi_tup_str, DN.isi_tup_tup, DN.isi_lst_lt, DN.isi_tup_lt, DN.isi_str_lt, DN.methR_, DN.methP_, DN.askT_, DN.askP_, DN.fAsk1_, DN.ask1R_, DN.ask1P_, DN.at_cons, beq_self_eq_true, DN.eqR_int, DN.eqR_bl, DN.eqR_str, DN.eqR_lst, DN.eqR_tup, DN.eqR_non, DN.onlyV_bl, DN.onlyV_str, DN.fStrD_, DN.strR_, DN.strC_n, DN.strC_s, DN.fChain_, DN.fSl_, DN.fNoPart_, DN.fPart_, DN.partR_, DN.fDisp_, DN.gSl_lst, DN.gSl_tup, DN.fMut_, DN.gMu_, DN.muC_, DN.muP_, DN.isT_str, DN.isT_lst, DN.gClear_, DN.fCMeth_, DN.cmR_, DN.fMakeL_, DN.mkLR_, DN.makeR_ok, List.append_nil, DN.vB_, DN.vI_, DN.vS_, DN.vT_, DN.nL_, DN.vD_, DN.startE_, DN.outS_nx, DN.outS_rt, DN.outS_ex, List.map, List.nil_append, List.cons_append, List.length_cons, List.length_nil, List.replicate, List.getElem?_cons_zero, List.getElem?_cons_succ, List.getElem?_nil, List.set_cons_zero, List.set_cons_succ, if_true, if_false, ite_true, ite_false, Bool.not_true, Bool.not_false, Bool.false_eq_true, Bool.and_true, Bool.true_and, Bool.or_false, Bool.false_or, Nat.add_sub_cancel, Nat.zero_add, Nat.reduceSub, Nat.reduceAdd, kept_ok, i, e]
end
end Q12

namespace Q12
open DN PySem
theorem joinL_len (S : List Nat) : ∀ l : List (List Nat), (TL.joinL S l).length ≤ (l.map List.length).sum + l.length * S.length
  | [] => by simp [TL.joinL]
  | [p] => by simp [TL.joinL]
  | p :: q :: r => by
    have ih := joinL_len S (q :: r)
    simp only [TL.joinL, List.length_append, List.map_cons, List.sum_cons, List.length_cons] at ih ⊢
    simp only [Nat.add_mul, Nat.one_mul] at ih ⊢
    omega
theorem join_len {n : Nat} {ws : List Str} (h : Ws n ws) : (Txt.join " " ws).length + 2 ≤ 100000 := by
  have h1 := joinL_len (TL.tl (" " : Str)) (ws.map TL.tl)
  rw [← TL.tl_join, ← TL.join_eq] at h1
  have h2 : ∀ l : List Str, (∀ w ∈ l, Wd n w) → ((l.map TL.tl).map List.length).sum ≤ l.length * 60 := by
    intro l hl
    induction l with
    | nil => simp
    | cons w l ih =>
      have h2 := ih fun x hx => hl x (List.mem_cons_of_mem _ hx)
      have h3 := hl w List.mem_cons_self
      have h5 : (TL.tl w).length = n := h3.len
      have h4 := h3.le
      simp only [List.map_cons, List.sum_cons, List.length_cons, h5]
      omega
  have h3 := h2 ws h.all
  have h4 := h.le
  have h5 : (TL.tl (" " : Str)).length = 1 := rfl
  rw [h5, List.length_map] at h1
  have h6 : (TL.tl (Txt.join " " ws)).length = (Txt.join " " ws).length := rfl
  omega
theorem split_ok {n : Nat} {ws : List Str} (h : Ws n ws) : gSplit (.str (Txt.join " " ws)) [.str " "] = nL (ws.map .str) := by
  show (if (" " : Str).length ≠ 0 ∧ (Txt.join " " ws).length + 2 ≤ 100000 then nL ((Txt.split (Txt.join " " ws) " ").map .str) else none) = _
  rw [if_pos ⟨by decide, join_len h⟩, TL.split_join (y := " ") (s := 32) (S := []) rfl (by rw [← Array.all_toList]; rfl) (fun e => by have := h.pos; rw [e] at this; simp at this) fun p hp hc => by
    have := (h.all p hp).ok 32 hc
    exact absurd this (by decide)]
theorem read_ok {n : Nat} {ws : List Str} {S : Sto} (h : Ws n ws) : D_Addresses_read [.d (.cls "Addresses"), .d (.str (Txt.join " " ws))] S = .ok S (.new (.ob "Addresses" [.tup (ws.map .str)])) := by
  refine def_new ?_
  simp (config := { dsimp := false }) only [↓reduceIte, DN.bindV_val, DN.bindV_lst, DN.bindV_ob, DN.bindV_dc, DN.bindV_no, DN.bindV_ex, DN.bind_ok, DN.bind_no, DN.bind_ex, DN.sV_val, DN.sV_lst, DN.sV_ob, DN.sV_dc, DN.sV_ex, DN.sB_ok, DN.sB_ex, DN.kSeq_, DN.seqR_nx, DN.seqR_rt, DN.seqR_ex, DN.seqR_no, DN.kRet_, DN.retR_ok, DN.retR_ex, DN.kRetN_, DN.kNext_, DN.loopR_nx, DN.loopR_ct, DN.loopR_bk, DN.loopR_rt, DN.forGo_c, DN.forO_, DN.forGo_n, DN.iVal_, DN.itOf_lst, DN.itOf_tup, DN.kIf_, DN.kExpr_, DN.kSet_, DN.kSetC_, DN.setC_val, DN.setC_new, DN.kAsg_, DN.asgR_d, DN.asgO_, DN.tgN_, DN.tgNil_, DN.tgCons_, DN.tgO_, DN.tgT_, DN.kPar_, DN.parR_, DN.kSub_, DN.kFld_, DN.fVar_, DN.varR_, DN.fC_, DN.fOp_, DN.g2_, DN.g2o_, DN.fUn_, DN.g1_, DN.g1o_, DN.of_some, DN.snap_d, DN.snap_r, DN.snapC_lst, DN.snapC_ob, DN.fNil_, DN.fCons_, DN.fTup_, DN.fLst_, DN.allD_n, DN.allD_c, DN.allC_, DN.gTupD_, DN.gLstD_, DN.tupO_0, DN.lstO_0, DN.tupO_1, DN.lstO_1, DN.tupO_2, DN.lstO_2, DN.tupO_3, DN.lstO_3, DN.tupO_4, DN.lstO_4, DN.tupO_5, DN.lstO_5, DN.tupO_6, DN.lstO_6, DN.tupO_7, DN.lstO_7, DN.fAnd_, DN.fOr_, DN.fNot_, DN.fIf_, DN.onB_, DN.kVal_, DN.kAnd_, DN.kOr_, DN.kNot_, DN.kYes_, DN.fCall_, DN.gA_, DN.gAo_, DN.snaps_n, DN.snaps_c, DN.snapsC_, DN.arg1_, DN.arg12_1, DN.arg12_2, DN.arg2_, DN.onlyIf_t, DN.fCallD_, DN.fMeth_, DN.onT_, DN.onTo_, DN.gM_, DN.gMo_, DN.clsV_r, DN.clsC_lst, DN.clsC_ob, DN.clsV_obj, DN.clsV_int, DN.clsV_bl, DN.clsV_str, DN.clsV_non, DN.clsV_lst, DN.clsV_tup, DN.clsV_scr, DN.fLenD_, DN.lenR_, DN.lenC_n, DN.lenC_s, DN.fIxD_, DN.ixR_, DN.ixC_n, DN.ixC_s, DN.okR_ok, DN.fEqD_, DN.fMethD_, DN.fPropD_, DN.fMakeD_, DN.isi_int_int, DN.isi_int_bool, DN.isi_int_str, DN.isi_str_str, DN.isi_str_int, DN.isi_lst_lst, DN.isi_lst_str, DN.isi_tup_str, DN.isi_tup_tup, DN.isi_lst_lt, DN.isi_tup_lt, DN.isi_str_lt, DN.methR_, DN.methP_, DN.askT_, DN.askP_, DN.fAsk1_, DN.ask1R_, DN.ask1P_, DN.at_cons, beq_self_eq_true, DN.eqR_int, DN.eqR_bl, DN.eqR_str, DN.eqR_lst, DN.eqR_tup, DN.eqR_non, DN.onlyV_bl, DN.onlyV_str, DN.fStrD_, DN.strR_, DN.strC_n, DN.strC_s, DN.fChain_, DN.fSl_, DN.fNoPart_, DN.fPart_, DN.partR_, DN.fDisp_, DN.gSl_lst, DN.gSl_tup, DN.fMut_, DN.gMu_, DN.muC_, DN.muP_, DN.isT_str, DN.isT_lst, DN.gClear_, DN.fCMeth_, DN.cmR_, DN.fMakeL_, DN.mkLR_, DN.makeR_ok, List.append_nil, DN.vB_, DN.vI_, DN.vS_, DN.vT_, DN.nL_, DN.vD_, DN.startE_, DN.outS_nx, DN.outS_rt, DN.outS_ex, List.map, List.nil_append, List.cons_append, List.length_cons, List.length_nil, List.replicate, List.getElem?_cons_zero, List.getElem?_cons_succ, List.getElem?_nil, List.set_cons_zero, List.set_cons_succ, if_true, if_false, ite_true, ite_false, Bool.not_true, Bool.not_false, Bool.false_eq_true, Bool.and_true, Bool.true_and, Bool.or_false, Bool.false_or, Nat.add_sub_cancel, Nat.zero_add, Nat.reduceSub, Nat.reduceAdd, split_ok h, are_words_ok h Sq.lst, init_ok h Sq.lst]
/-! ### what the law draws -/
theorem sgn_at : ∀ d : Nat, d < 10 → OP.okc ((("01**01001*" : Str)).cps.toList.getD d 0) = true := by decide
theorem signs_ok {k : Cell} {n j size : Nat} {T : Sto} (h : Bx j k) (hn : n < T.length) (hj : j + size + 1 < 1000000000) (hs : size ≤ 60) : ∃ (s : Str) (k' : Cell), Wd size s ∧ Bx (j + size + 1) k' ∧
    D_law_signs [.r n, .d (.int size)] (T.set n k) = .ok (T.set n k') (.val (.d (.str s))) := by
  obtain ⟨p, k1, hp, h1, e1⟩ := take_nat (m := 3) h hn (by omega) (by omega) (by omega)
  obtain ⟨M, hM, hM2, eM⟩ : ∃ M : Nat, 0 < M ∧ M ≤ 10 ∧ gIx (.lst [.int 4, .int 2, .int 10]) (.int p) = vI M := by
    match p, hp with
    | 0, _ => exact ⟨4, by omega, by omega, rfl⟩
    | 1, _ => exact ⟨2, by omega, by omega, rfl⟩
    | 2, _ => exact ⟨10, by omega, by omega, rfl⟩
  obtain ⟨S', ys, e2, ⟨k2, hk2, hS'⟩, e4, e5⟩ := fLc_draw (fl := fCons (fVar 1) fNil) (i := 3) (fe := fOp gIx (fC (.str "01**01001*")) (fCallD 2 D_law_take (fCons (fVar 0) (fCons (fOp gIx (fLst (fCons (fC (.int 4)) (fCons (fC (.int 2)) (fCons (fC (.int 10)) fNil)))) (fVar 2)) fNil)))) (vs := [3])
    (env := [.v (.r n), .v (.d (.int size)), .v (.d (.int p)), .u]) (S := T.set n k1) (n := size)
    (fun i S' => ∃ k', Bx (j + 1 + i) k' ∧ S' = T.set n k') (fun _ y => ∃ c, y = .str ⟨#[c]⟩ ∧ OP.okc c = true) rfl (by omega) ⟨k1, by simpa using h1, rfl⟩ (fun i S' hi ⟨k', hk', eS⟩ => by
      subst eS
      obtain ⟨q, k2, hq, h2, e3⟩ := take_nat (m := M) hk' hn (by omega) hM (by omega)
      have hq' := sgn_at q (by omega)
      have hx : (("01**01001*" : Str)).cps.toList[q]? = some ((("01**01001*" : Str)).cps.toList.getD q 0) := by
        rw [List.getD, List.getElem?_eq_getElem (show q < 10 by omega)]; rfl
      refine ⟨T.set n k2, .str ⟨#[(("01**01001*" : Str)).cps.toList.getD q 0]⟩, ?_, ⟨k2, h2, rfl⟩, ⟨_, rfl, hq'⟩⟩
      simp (config := { dsimp := false }) only [↓reduceIte, DN.bindV_val, DN.bindV_lst, DN.bindV_ob, DN.bindV_dc, DN.bindV_no, DN.bindV_ex, DN.bind_ok, DN.bind_no, DN.bind_ex, DN.sV_val, DN.sV_lst, DN.sV_ob, DN.sV_dc, DN.sV_ex, DN.sB_ok, DN.sB_ex, DN.kSeq_, DN.seqR_nx, DN.seqR_rt, DN.seqR_ex, DN.seqR_no, DN.kRet_, DN.retR_ok, DN.retR_ex, DN.kRetN_, DN.kNext_, DN.loopR_nx, DN.loopR_ct, DN.loopR_bk, DN.loopR_rt, DN.forGo_c, DN.forO_, DN.forGo_n, DN.iVal_, DN.itOf_lst, DN.itOf_tup, DN.kIf_, DN.kExpr_, DN.kSet_, DN.kSetC_, DN.setC_val, DN.setC_new, DN.kAsg_, DN.asgR_d, DN.asgO_, DN.tgN_, DN.tgNil_, DN.tgCons_, DN.tgO_, DN.tgT_, DN.kPar_, DN.parR_, DN.kSub_, DN.kFld_, DN.fVar_, DN.varR_, DN.fC_, DN.fOp_, DN.g2_, DN.g2o_, DN.fUn_, DN.g1_, DN.g1o_, DN.of_some, DN.snap_d, DN.snap_r, DN.snapC_lst, DN.snapC_ob, DN.fNil_, DN.fCons_, DN.fTup_, DN.fLst_, DN.allD_n, DN.allD_c, DN.allC_, DN.gTupD_, DN.gLstD_, DN.tupO_0, DN.lstO_0, DN.tupO_1, DN.lstO_1, DN.tupO_2, DN.lstO_2, DN.tupO_3, DN.lstO_3, DN.tupO_4, DN.lstO_4, DN.tupO_5, DN.lstO_5, DN.tupO_6, DN.lstO_6, DN.tupO_7, DN.lstO_7, DN.fAnd_, DN.fOr_, DN.fNot_, DN.fIf_, DN.onB_, DN.kVal_, DN.kAnd_, DN.kOr_, DN.kNot_, DN.kYes_, DN.fCall_, DN.gA_, DN.gAo_, DN.snaps_n, DN.snaps_c, DN.snapsC_, DN.arg1_, DN.arg12_1, DN.arg12_2, DN.arg2_, DN.onlyIf_t, DN.fCallD_, DN.fMeth_, DN.onT_, DN.onTo_, DN.gM_, DN.gMo_, DN.clsV_r, DN.clsC_lst, DN.clsC_ob, DN.clsV_obj, DN.clsV_int, DN.clsV_bl, DN.clsV_str, DN.clsV_non, DN.clsV_lst, DN.clsV_tup, DN.clsV_scr, DN.fLenD_, DN.lenR_, DN.lenC_n, DN.lenC_s, DN.fIxD_, DN.ixR_, DN.ixC_n, DN.ixC_s, DN.okR_ok, DN.fEqD_, DN.fMethD_, DN.fPropD_, DN.fMakeD_, DN.isi_int_int, DN.isi_int_bool, DN.isi_int_str, DN.isi_str_str, DN.isi_str_int, DN.isi_lst_lst, DN.isi_lst_str, DN.isi_tup_str, DN.isi_tup_tup, DN.isi_lst_lt, DN.isi_tup_lt, DN.isi_str_lt, DN.methR_, DN.methP_, DN.askT_, DN.askP_, DN.fAsk1_, DN.ask1R_, DN.ask1P_, DN.at_cons, beq_self_eq_true, DN.eqR_int, DN.eqR_bl, DN.eqR_str, DN.eqR_lst, DN.eqR_tup, DN.eqR_non, DN.onlyV_bl, DN.onlyV_str, DN.fStrD_, DN.strR_, DN.strC_n, DN.strC_s, DN.fChain_, DN.fSl_, DN.fNoPart_, DN.fPart_, DN.partR_, DN.fDisp_, DN.gSl_lst, DN.gSl_tup, DN.fMut_, DN.gMu_, DN.muC_, DN.muP_, DN.isT_str, DN.isT_lst, DN.gClear_, DN.fCMeth_, DN.cmR_, DN.fMakeL_, DN.mkLR_, DN.makeR_ok, List.append_nil, DN.vB_, DN.vI_, DN.vS_, DN.vT_, DN.nL_, DN.vD_, DN.startE_, DN.outS_nx, DN.outS_rt, DN.outS_ex, List.map, List.nil_append, List.cons_append, List.length_cons, List.length_nil, List.replicate, List.getElem?_cons_zero, List.getElem?_cons_succ, List.getElem?_nil, List.set_cons_zero, List.set_cons_succ, if_true, if_false, ite_true, ite_false, Bool.not_true, Bool.not_false, Bool.false_eq_true, Bool.and_true, Bool.true_and, Bool.or_false, Bool.false_or, Nat.add_sub_cancel, Nat.zero_add, Nat.reduceSub, Nat.reduceAdd, wipeE, eM, e3, gIx_str (show (("01**01001*" : Str)).length ≤ 100000 by decide) hx]
      exact got_val)
  subst hS'
  obtain ⟨cs, rfl, hcs⟩ := of_signs (all_of_ix e5)
  have hl : cs.length = size := by simpa using e4
  refine ⟨⟨cs.toArray⟩, k2, ⟨by simpa using hl, hs, fun c hc => hcs c (by simpa using hc)⟩, hk2.le (by omega), def_set ?_⟩
  have hj : gJoin (.str "") [.lst ((cs.map fun c => (⟨#[c]⟩ : Str)).map .str)] = vS ⟨cs.toArray⟩ := by
    show (match strs? ((cs.map fun c => (⟨#[c]⟩ : Str)).map .str) with | some ss => (if (ss.map fun s : Str => s.length).sum + ss.length * ("" : Str).length ≤ 100000 then vS (Txt.join "" ss) else none) | none => none) = _
    rw [strs_map]
    have : (((cs.map fun c => (⟨#[c]⟩ : Str))).map fun s : Str => s.length).sum = cs.length := by
      rw [List.map_map]
      clear hl hcs e4 e5 e2
      induction cs with
      | nil => rfl
      | cons c cs ih => rw [List.map_cons, List.sum_cons, ih, List.length_cons]; show 1 + cs.length = _; omega
    show (if (((cs.map fun c => (⟨#[c]⟩ : Str))).map fun s : Str => s.length).sum + _ * 0 ≤ 100000 then vS (Txt.join "" _) else none) = _
    rw [this, if_pos (by omega), OP.join_signs]
  simp (config := { dsimp := false }) only [↓reduceIte, DN.bindV_val, DN.bindV_lst, DN.bindV_ob, DN.bindV_dc, DN.bindV_no, DN.bindV_ex, DN.bind_ok, DN.bind_no, DN.bind_ex, DN.sV_val, DN.sV_lst, DN.sV_ob, DN.sV_dc, DN.sV_ex, DN.sB_ok, DN.sB_ex, DN.kSeq_, DN.seqR_nx, DN.seqR_rt, DN.seqR_ex, DN.seqR_no, DN.kRet_, DN.retR_ok, DN.retR_ex, DN.kRetN_, DN.kNext_, DN.loopR_nx, DN.loopR_ct, DN.loopR_bk, DN.loopR_rt, DN.forGo_c, DN.forO_, DN.forGo_n, DN.iVal_, DN.itOf_lst, DN.itOf_tup, DN.kIf_, DN.kExpr_, DN.kSet_, DN.kSetC_, DN.setC_val, DN.setC_new, DN.kAsg_, DN.asgR_d, DN.asgO_, DN.tgN_, DN.tgNil_, DN.tgCons_, DN.tgO_, DN.tgT_, DN.kPar_, DN.parR_, DN.kSub_, DN.kFld_, DN.fVar_, DN.varR_, DN.fC_, DN.fOp_, DN.g2_, DN.g2o_, DN.fUn_, DN.g1_, DN.g1o_, DN.of_some, DN.snap_d, DN.snap_r, DN.snapC_lst, DN.snapC_ob, DN.fNil_, DN.fCons_, DN.fTup_, DN.fLst_, DN.allD_n, DN.allD_c, DN.allC_, DN.gTupD_, DN.gLstD_, DN.tupO_0, DN.lstO_0, DN.tupO_1, DN.lstO_1, DN.tupO_2, DN.lstO_2, DN.tupO_3, DN.lstO_3, DN.tupO_4, DN.lstO_4, DN.tupO_5, DN.lstO_5, DN.tupO_6, DN.lstO_6, DN.tupO_7, DN.lstO_7, DN.fAnd_, DN.fOr_, DN.fNot_, DN.fIf_, DN.onB_, DN.kVal_, DN.kAnd_, DN.kOr_, DN.kNot_, DN.kYes_, DN.fCall_, DN.gA_, DN.gAo_, DN.snaps_n, DN.snaps_c, DN.snapsC_, DN.arg1_, DN.arg12_1, DN.arg12_2, DN.arg2_, DN.onlyIf_t, DN.fCallD_, DN.fMeth_, DN.onT_, DN.onTo_, DN.gM_, DN.gMo_, DN.clsV_r, DN.clsC_lst, DN.clsC_ob, DN.clsV_obj, DN.clsV_int, DN.clsV_bl, DN.clsV_str, DN.clsV_non, DN.clsV_lst, DN.clsV_tup, DN.clsV_scr, DN.fLenD_, DN.lenR_, DN.lenC_n, DN.lenC_s, DN.fIxD_, DN.ixR_, DN.ixC_n, DN.ixC_s, DN.okR_ok, DN.fEqD_, DN.fMethD_, DN.fPropD_, DN.fMakeD_, DN.isi_int_int, DN.isi_int_bool, DN.isi_int_str, DN.isi_str_str, DN.isi_str_int, DN.isi_lst_lst, DN.isi_lst_str, DN.isi_tup_str, DN.isi_tup_tup, DN.isi_lst_lt, DN.isi_tup_lt, DN.isi_str_lt, DN.methR_, DN.methP_, DN.askT_, DN.askP_, DN.fAsk1_, DN.ask1R_, DN.ask1P_, DN.at_cons, beq_self_eq_true, DN.eqR_int, DN.eqR_bl, DN.eqR_str, DN.eqR_lst, DN.eqR_tup, DN.eqR_non, DN.onlyV_bl, DN.onlyV_str, DN.fStrD_, DN.strR_, DN.strC_n, DN.strC_s, DN.fChain_, DN.fSl_, DN.fNoPart_, DN.fPart_, DN.partR_, DN.fDisp_, DN.gSl_lst, DN.gSl_tup, DN.fMut_, DN.gMu_, DN.muC_, DN.muP_, DN.isT_str, DN.isT_lst, DN.gClear_, DN.fCMeth_, DN.cmR_, DN.fMakeL_, DN.mkLR_, DN.makeR_ok, List.append_nil, DN.vB_, DN.vI_, DN.vS_, DN.vT_, DN.nL_, DN.vD_, DN.startE_, DN.outS_nx, DN.outS_rt, DN.outS_ex, List.map, List.nil_append, List.cons_append, List.length_cons, List.length_nil, List.replicate, List.getElem?_cons_zero, List.getElem?_cons_succ, List.getElem?_nil, List.set_cons_zero, List.set_cons_succ, if_true, if_false, ite_true, ite_false, Bool.not_true, Bool.not_false, Bool.false_eq_true, Bool.and_true, Bool.true_and, Bool.or_false, Bool.false_or, Nat.add_sub_cancel, Nat.zero_add, Nat.reduceSub, Nat.reduceAdd, show (3 : Int) = ((3 : Nat) : Int) from rfl, e1, e2, hj]
end Q12

namespace Q12
open DN PySem
theorem take_lit {k : Cell} {n j : Nat} (m : Int) {T : Sto} (h : Bx j k) (hn : n < T.length) (hj : j < 1000000000) (hm : 0 < m) (hm2 : m < 1073741824) : ∃ (d : Nat) (k' : Cell), (d : Int) < m ∧ Bx (j + 1) k' ∧
    D_law_take [.r n, .d (.int m)] (T.set n k) = .ok (T.set n k') (.val (.d (.int d))) := by
  obtain ⟨d, k', h1, h2, h3, h4⟩ := take_ok h hn hj hm hm2
  exact ⟨d.toNat, k', by omega, h3, by rw [h4, Int.toNat_of_nonneg h1]⟩
theorem words_drawn {k : Cell} {c j n m : Nat} {T : Sto} (h : Bx j k) (hc : c < T.length) (hj : j + 3000 < 1000000000) (hn : n ≤ 59) (hm : 1 ≤ m) (hm2 : m ≤ 40) : ∃ (ws : List Str) (k' : Cell), Ws n ws ∧ Bx (j + 2800) k' ∧
    fLc (iRange1 (fCons (fVar 2) fNil)) (tgN 3) kYes (fCallD 2 D_law_signs (fCons (fVar 0) (fCons (fVar 1) fNil))) [3] [.v (.r c), .v (.d (.int n)), .v (.d (.int m)), .u] (T.set c k) = .ok (T.set c k') (.new (.lst (ws.map .str))) := by
  obtain ⟨S', ys, e2, ⟨k2, hk2, hS'⟩, e4, e5⟩ := fLc_draw (fl := fCons (fVar 2) fNil) (i := 3) (fe := fCallD 2 D_law_signs (fCons (fVar 0) (fCons (fVar 1) fNil))) (vs := [3])
    (env := [.v (.r c), .v (.d (.int n)), .v (.d (.int m)), .u]) (S := T.set c k) (n := m)
    (fun i S' => ∃ k', Bx (j + 61 * i) k' ∧ S' = T.set c k') (fun _ y => ∃ s, y = .str s ∧ Wd n s) rfl (by omega) ⟨k, by simpa using h, rfl⟩ (fun i S' hi ⟨k', hk', eS⟩ => by
      subst eS
      obtain ⟨s, k2, hs, h2, e3⟩ := signs_ok (size := n) hk' hc (by omega) (by omega)
      refine ⟨T.set c k2, .str s, ?_, ⟨k2, h2.le (by omega), rfl⟩, ⟨_, rfl, hs⟩⟩
      simp (config := { dsimp := false }) only [↓reduceIte, DN.bindV_val, DN.bindV_lst, DN.bindV_ob, DN.bindV_dc, DN.bindV_no, DN.bindV_ex, DN.bind_ok, DN.bind_no, DN.bind_ex, DN.sV_val, DN.sV_lst, DN.sV_ob, DN.sV_dc, DN.sV_ex, DN.sB_ok, DN.sB_ex, DN.kSeq_, DN.seqR_nx, DN.seqR_rt, DN.seqR_ex, DN.seqR_no, DN.kRet_, DN.retR_ok, DN.retR_ex, DN.kRetN_, DN.kNext_, DN.loopR_nx, DN.loopR_ct, DN.loopR_bk, DN.loopR_rt, DN.forGo_c, DN.forO_, DN.forGo_n, DN.iVal_, DN.itOf_lst, DN.itOf_tup, DN.kIf_, DN.kExpr_, DN.kSet_, DN.kSetC_, DN.setC_val, DN.setC_new, DN.kAsg_, DN.asgR_d, DN.asgO_, DN.tgN_, DN.tgNil_, DN.tgCons_, DN.tgO_, DN.tgT_, DN.kPar_, DN.parR_, DN.kSub_, DN.kFld_, DN.fVar_, DN.varR_, DN.fC_, DN.fOp_, DN.g2_, DN.g2o_, DN.fUn_, DN.g1_, DN.g1o_, DN.of_some, DN.snap_d, DN.snap_r, DN.snapC_lst, DN.snapC_ob, DN.fNil_, DN.fCons_, DN.fTup_, DN.fLst_, DN.allD_n, DN.allD_c, DN.allC_, DN.gTupD_, DN.gLstD_, DN.tupO_0, DN.lstO_0, DN.tupO_1, DN.lstO_1, DN.tupO_2, DN.lstO_2, DN.tupO_3, DN.lstO_3, DN.tupO_4, DN.lstO_4, DN.tupO_5, DN.lstO_5, DN.tupO_6, DN.lstO_6, DN.tupO_7, DN.lstO_7, DN.fAnd_, DN.fOr_, DN.fNot_, DN.fIf_, DN.onB_, DN.kVal_, DN.kAnd_, DN.kOr_, DN.kNot_, DN.kYes_, DN.fCall_, DN.gA_, DN.gAo_, DN.snaps_n, DN.snaps_c, DN.snapsC_, DN.arg1_, DN.arg12_1, DN.arg12_2, DN.arg2_, DN.onlyIf_t, DN.fCallD_, DN.fMeth_, DN.onT_, DN.onTo_, DN.gM_, DN.gMo_, DN.clsV_r, DN.clsC_lst, DN.clsC_ob, DN.clsV_obj, DN.clsV_int, DN.clsV_bl, DN.clsV_str, DN.clsV_non, DN.clsV_lst, DN.clsV_tup, DN.clsV_scr, DN.fLenD_, DN.lenR_, DN.lenC_n, DN.lenC_s, DN.fIxD_, DN.ixR_, DN.ixC_n, DN.ixC_s, DN.okR_ok, DN.fEqD_, DN.fMethD_, DN.fPropD_, DN.fMakeD_, DN.isi_int_int, DN.isi_int_bool, DN.isi_int_str, DN.isi_str_str, DN.isi_str_int, DN.isi_lst_lst, DN.isi_lst_str, DN.isi_tup_str, DN.isi_tup_tup, DN.isi_lst_lt, DN.isi_tup_lt, DN.isi_str_lt, DN.methR_, DN.methP_, DN.askT_, DN.askP_, DN.fAsk1_, DN.ask1R_, DN.ask1P_, DN.at_cons, beq_self_eq_true, DN.eqR_int, DN.eqR_bl, DN.eqR_str, DN.eqR_lst, DN.eqR_tup, DN.eqR_non, DN.onlyV_bl, DN.onlyV_str, DN.fStrD_, DN.strR_, DN.strC_n, DN.strC_s, DN.fChain_, DN.fSl_, DN.fNoPart_, DN.fPart_, DN.partR_, DN.fDisp_, DN.gSl_lst, DN.gSl_tup, DN.fMut_, DN.gMu_, DN.muC_, DN.muP_, DN.isT_str, DN.isT_lst, DN.gClear_, DN.fCMeth_, DN.cmR_, DN.fMakeL_, DN.mkLR_, DN.makeR_ok, List.append_nil, DN.vB_, DN.vI_, DN.vS_, DN.vT_, DN.nL_, DN.vD_, DN.startE_, DN.outS_nx, DN.outS_rt, DN.outS_ex, List.map, List.nil_append, List.cons_append, List.length_cons, List.length_nil, List.replicate, List.getElem?_cons_zero, List.getElem?_cons_succ, List.getElem?_nil, List.set_cons_zero, List.set_cons_succ, if_true, if_false, ite_true, ite_false, Bool.not_true, Bool.not_false, Bool.false_eq_true, Bool.and_true, Bool.true_and, Bool.or_false, Bool.false_or, Nat.add_sub_cancel, Nat.zero_add, Nat.reduceSub, Nat.reduceAdd, wipeE, e3]
      exact got_val)
  subst hS'
  obtain ⟨ws, rfl, hw⟩ := of_strs (all_of_ix e5)
  have e4' : ws.length = m := by simpa using e4
  exact ⟨ws, k2, ⟨hw, by omega, by omega⟩, hk2.le (by omega), e2⟩
theorem law_words_ok {k : Cell} {c j : Nat} {T : Sto} (h : Bx j k) (hc : c < T.length) (hj : j + 3100 < 1000000000) : ∃ (n : Nat) (ws : List Str) (k' : Cell), n ≤ 59 ∧ Ws n ws ∧ Bx (j + 2900) k' ∧
    D_law_words [.r c] (T.set c k) = .ok (T.set c k') (.new (.lst (ws.map .str))) := by
  obtain ⟨d1, k1, hd1, h1, e1⟩ := take_lit 13 h hc (by omega) (by omega) (by omega)
  obtain ⟨d2, k2, hd2, h2, e2⟩ := take_lit 8 h1 hc (by omega) (by omega) (by omega)
  obtain ⟨M, hM, hM2, eM⟩ : ∃ M : Int, 0 < M ∧ M ≤ 40 ∧ gIx (.lst [.int 10, .int 40]) (.int (if decide ((d2 : Int) = 0) = true then 1 else 0)) = vI M := by
    by_cases q : (d2 : Int) = 0
    · exact ⟨40, by omega, by omega, by rw [decide_eq_true q]; rfl⟩
    · exact ⟨10, by omega, by omega, by rw [decide_eq_false q]; rfl⟩
  obtain ⟨d3, k3, hd3, h3, e3⟩ := take_lit M h2 hc (by omega) (by omega) (by omega)
  obtain ⟨d4, k4, hd4, h4, e4⟩ := take_lit 12 h3 hc (by omega) (by omega) (by omega)
  have cast1 : (1 : Int) + (d3 : Int) = ((1 + d3 : Nat) : Int) := by omega
  by_cases q : (d4 : Int) = 0
  · obtain ⟨d5, k5, hd5, h5, e5⟩ := take_lit 12 h4 hc (by omega) (by omega) (by omega)
    obtain ⟨ws, k6, hw, h6, e6⟩ := words_drawn (n := 48 + d5) (m := 1 + d3) h5 hc (by omega) (by omega) (by omega) (by omega)
    refine ⟨48 + d5, ws, k6, by omega, hw, h6.le (by omega), def_setN ?_⟩
    have cast2 : (48 : Int) + (d5 : Int) = ((48 + d5 : Nat) : Int) := by omega
    simp (config := { dsimp := false }) only [↓reduceIte, DN.bindV_val, DN.bindV_lst, DN.bindV_ob, DN.bindV_dc, DN.bindV_no, DN.bindV_ex, DN.bind_ok, DN.bind_no, DN.bind_ex, DN.sV_val, DN.sV_lst, DN.sV_ob, DN.sV_dc, DN.sV_ex, DN.sB_ok, DN.sB_ex, DN.kSeq_, DN.seqR_nx, DN.seqR_rt, DN.seqR_ex, DN.seqR_no, DN.kRet_, DN.retR_ok, DN.retR_ex, DN.kRetN_, DN.kNext_, DN.loopR_nx, DN.loopR_ct, DN.loopR_bk, DN.loopR_rt, DN.forGo_c, DN.forO_, DN.forGo_n, DN.iVal_, DN.itOf_lst, DN.itOf_tup, DN.kIf_, DN.kExpr_, DN.kSet_, DN.kSetC_, DN.setC_val, DN.setC_new, DN.kAsg_, DN.asgR_d, DN.asgO_, DN.tgN_, DN.tgNil_, DN.tgCons_, DN.tgO_, DN.tgT_, DN.kPar_, DN.parR_, DN.kSub_, DN.kFld_, DN.fVar_, DN.varR_, DN.fC_, DN.fOp_, DN.g2_, DN.g2o_, DN.fUn_, DN.g1_, DN.g1o_, DN.of_some, DN.snap_d, DN.snap_r, DN.snapC_lst, DN.snapC_ob, DN.fNil_, DN.fCons_, DN.fTup_, DN.fLst_, DN.allD_n, DN.allD_c, DN.allC_, DN.gTupD_, DN.gLstD_, DN.tupO_0, DN.lstO_0, DN.tupO_1, DN.lstO_1, DN.tupO_2, DN.lstO_2, DN.tupO_3, DN.lstO_3, DN.tupO_4, DN.lstO_4, DN.tupO_5, DN.lstO_5, DN.tupO_6, DN.lstO_6, DN.tupO_7, DN.lstO_7, DN.fAnd_, DN.fOr_, DN.fNot_, DN.fIf_, DN.onB_, DN.kVal_, DN.kAnd_, DN.kOr_, DN.kNot_, DN.kYes_, DN.fCall_, DN.gA_, DN.gAo_, DN.snaps_n, DN.snaps_c, DN.snapsC_, DN.arg1_, DN.arg12_1, DN.arg12_2, DN.arg2_, DN.onlyIf_t, DN.fCallD_, DN.fMeth_, DN.onT_, DN.onTo_, DN.gM_, DN.gMo_, DN.clsV_r, DN.clsC_lst, DN.clsC_ob, DN.clsV_obj, DN.clsV_int, DN.clsV_bl, DN.clsV_str, DN.clsV_non, DN.clsV_lst, DN.clsV_tup, DN.clsV_scr, DN.fLenD_, DN.lenR_, DN.lenC_n, DN.lenC_s, DN.fIxD_, DN.ixR_, DN.ixC_n, DN.ixC_s, DN.okR_ok, DN.fEqD_, DN.fMethD_, DN.fPropD_, DN.fMakeD_, DN.isi_int_int, DN.isi_int_bool, DN.isi_int_str, DN.isi_str_str, DN.isi_str_int, DN.isi_lst_lst, DN.isi_lst_str, DN.isi_tup_str, DN.isi_tup_tup, DN.isi_lst_lt, DN.isi_tup_lt, DN.isi_str_lt, DN.methR_, DN.methP_, DN.askT_, DN.askP_, DN.fAsk1_, DN.ask1R_, DN.ask1P_, DN.at_cons, beq_self_eq_true, DN.eqR_int, DN.eqR_bl, DN.eqR_str, DN.eqR_lst, DN.eqR_tup, DN.eqR_non, DN.onlyV_bl, DN.onlyV_str, DN.fStrD_, DN.strR_, DN.strC_n, DN.strC_s, DN.fChain_, DN.fSl_, DN.fNoPart_, DN.fPart_, DN.partR_, DN.fDisp_, DN.gSl_lst, DN.gSl_tup, DN.fMut_, DN.gMu_, DN.muC_, DN.muP_, DN.isT_str, DN.isT_lst, DN.gClear_, DN.fCMeth_, DN.cmR_, DN.fMakeL_, DN.mkLR_, DN.makeR_ok, List.append_nil, DN.vB_, DN.vI_, DN.vS_, DN.vT_, DN.nL_, DN.vD_, DN.startE_, DN.outS_nx, DN.outS_rt, DN.outS_ex, List.map, List.nil_append, List.cons_append, List.length_cons, List.length_nil, List.replicate, List.getElem?_cons_zero, List.getElem?_cons_succ, List.getElem?_nil, List.set_cons_zero, List.set_cons_succ, if_true, if_false, ite_true, ite_false, Bool.not_true, Bool.not_false, Bool.false_eq_true, Bool.and_true, Bool.true_and, Bool.or_false, Bool.false_or, Nat.add_sub_cancel, Nat.zero_add, Nat.reduceSub, Nat.reduceAdd, e1, e2, gEq_int, gInt_b, eM, e3, gAdd_, e4, decide_eq_true q, e5, cast1, cast2, e6]
  · obtain ⟨ws, k6, hw, h6, e6⟩ := words_drawn (n := d1) (m := 1 + d3) h4 hc (by omega) (by omega) (by omega) (by omega)
    refine ⟨d1, ws, k6, by omega, hw, h6.le (by omega), def_setN ?_⟩
    simp (config := { dsimp := false }) only [↓reduceIte, DN.bindV_val, DN.bindV_lst, DN.bindV_ob, DN.bindV_dc, DN.bindV_no, DN.bindV_ex, DN.bind_ok, DN.bind_no, DN.bind_ex, DN.sV_val, DN.sV_lst, DN.sV_ob, DN.sV_dc, DN.sV_ex, DN.sB_ok, DN.sB_ex, DN.kSeq_, DN.seqR_nx, DN.seqR_rt, DN.seqR_ex, DN.seqR_no, DN.kRet_, DN.retR_ok, DN.retR_ex, DN.kRetN_, DN.kNext_, DN.loopR_nx, DN.loopR_ct, DN.loopR_bk, DN.loopR_rt, DN.forGo_c, DN.forO_, DN.forGo_n, DN.iVal_, DN.itOf_lst, DN.itOf_tup, DN.kIf_, DN.kExpr_, DN.kSet_, DN.kSetC_, DN.setC_val, DN.setC_new, DN.kAsg_, DN.asgR_d, DN.asgO_, DN.tgN_, DN.tgNil_, DN.tgCons_, DN.tgO_, DN.tgT_, DN.kPar_, DN.parR_, DN.kSub_, DN.kFld_, DN.fVar_, DN.varR_, DN.fC_, DN.fOp_, DN.g2_, DN.g2o_, DN.fUn_, DN.g1_, DN.g1o_, DN.of_some, DN.snap_d, DN.snap_r, DN.snapC_lst, DN.snapC_ob, DN.fNil_, DN.fCons_, DN.fTup_, DN.fLst_, DN.allD_n, DN.allD_c, DN.allC_, DN.gTupD_, DN.gLstD_, DN.tupO_0, DN.lstO_0, DN.tupO_1, DN.lstO_1, DN.tupO_2, DN.lstO_2, DN.tupO_3, DN.lstO_3, DN.tupO_4, DN.lstO_4, DN.tupO_5, DN.lstO_5, DN.tupO_6, DN.lstO_6, DN.tupO_7, DN.lstO_7, DN.fAnd_, DN.fOr_, DN.fNot_, DN.fIf_, DN.onB_, DN.kVal_, DN.kAnd_, DN.kOr_, DN.kNot_, DN.kYes_, DN.fCall_, DN.gA_, DN.gAo_, DN.snaps_n, DN.snaps_c, DN.snapsC_, DN.arg1_, DN.arg12_1, DN.arg12_2, DN.arg2_, DN.onlyIf_t, DN.fCallD_, DN.fMeth_, DN.onT_, DN.onTo_, DN.gM_, DN.gMo_, DN.clsV_r, DN.clsC_lst, DN.clsC_ob, DN.clsV_obj, DN.clsV_int, DN.clsV_bl, DN.clsV_str, DN.clsV_non, DN.clsV_lst, DN.clsV_tup, DN.clsV_scr, DN.fLenD_, DN.lenR_, DN.lenC_n, DN.lenC_s, DN.fIxD_, DN.ixR_, DN.ixC_n, DN.ixC_s, DN.okR_ok, DN.fEqD_, DN.fMethD_, DN.fPropD_, DN.fMakeD_, DN.isi_int_int, DN.isi_int_bool, DN.isi_int_str, DN.isi_str_str, DN.isi_str_int, DN.isi_lst_lst, DN.isi_lst_str, DN.isi_tup_str, DN.isi_tup_tup, DN.isi_lst_lt, DN.isi_tup_lt, DN.isi_str_lt, DN.methR_, DN.methP_, DN.askT_, DN.askP_, DN.fAsk1_, DN.ask1R_, DN.ask1P_, DN.at_cons, beq_self_eq_true, DN.eqR_int, DN.eqR_bl, DN.eqR_str, DN.eqR_lst, DN.eqR_tup, DN.eqR_non, DN.onlyV_bl, DN.onlyV_str, DN.fStrD_, DN.strR_, DN.strC_n, DN.strC_s, DN.fChain_, DN.fSl_, DN.fNoPart_, DN.fPart_, DN.partR_, DN.fDisp_, DN.gSl_lst, DN.gSl_tup, DN.fMut_, DN.gMu_, DN.muC_, DN.muP_, DN.isT_str, DN.isT_lst, DN.gClear_, DN.fCMeth_, DN.cmR_, DN.fMakeL_, DN.mkLR_, DN.makeR_ok, List.append_nil, DN.vB_, DN.vI_, DN.vS_, DN.vT_, DN.nL_, DN.vD_, DN.startE_, DN.outS_nx, DN.outS_rt, DN.outS_ex, List.map, List.nil_append, List.cons_append, List.length_cons, List.length_nil, List.replicate, List.getElem?_cons_zero, List.getElem?_cons_succ, List.getElem?_nil, List.set_cons_zero, List.set_cons_succ, if_true, if_false, ite_true, ite_false, Bool.not_true, Bool.not_false, Bool.false_eq_true, Bool.and_true, Bool.true_and, Bool.or_false, Bool.false_or, Nat.add_sub_cancel, Nat.zero_add, Nat.reduceSub, Nat.reduceAdd, e1, e2, gEq_int, gInt_b, eM, e3, gAdd_, e4, decide_eq_false q, cast1, e6]
end Q12

namespace Q12
open DN PySem
theorem next_sign {c : Nat} (h : OP.okc c = true) : ∃ d, OP.okc d = true ∧ d ≠ c ∧ gIx (.dic false [.str "0", .str "1", .str "*"] [.str "1", .str "*", .str "0"]) (.str ⟨#[c]⟩) = vS ⟨#[d]⟩ := by
  have : c = 48 ∨ c = 49 ∨ c = 42 := by
    have := of_decide_eq_true h
    simpa [show (("01*" : Str)).cps.toList = [48, 49, 42] from rfl] using this
  rcases this with rfl | rfl | rfl
  · exact ⟨49, by decide, by decide, rfl⟩
  · exact ⟨42, by decide, by decide, rfl⟩
  · exact ⟨48, by decide, by decide, rfl⟩
theorem other_ok {k : Cell} {c j n : Nat} {ws : List Str} {T : Sto} (h : Ws n ws) (h59 : n ≤ 59) (hb : Bx j k) (hc : c < T.length) (hj : j + 10 < 1000000000) : ∃ (m : Nat) (vs : List Str) (k' : Cell), Ws m vs ∧ vs ≠ ws ∧ Bx (j + 3) k' ∧
    D_law_other_words [.r c, .d (.lst (ws.map .str))] (T.set c k) = .ok (T.set c k') (.new (.lst (vs.map .str))) := by
  have hp := h.pos
  have hl := h.le
  obtain ⟨p, k1, hp1, h1, e1⟩ := take_lit (ws.length : Int) hb hc (by omega) (by omega) (by omega)
  obtain ⟨w, hw⟩ : ∃ w, ws[p]? = some w := ⟨ws[p], List.getElem?_eq_getElem (by omega)⟩
  have gw := h.all w (List.mem_of_getElem? hw)
  have ip : gIx (.lst (ws.map .str)) (.int p) = vD (.str w) := gIx_lst (by simp [List.getElem?_map, hw])
  obtain ⟨y, k2, hy, h2, e2⟩ := take_lit 3 h1 hc (by omega) (by omega) (by omega)
  have hne : gNe (.str w) (.str "") = vB (!decide (w = "")) := gNe_str gw.lay (OP.strOk_of fun c hc => by simp [show (("" : Str)).cps.toList = [] from rfl] at hc)
  have more : ∃ (m : Nat) (vs : List Str), Ws m vs ∧ vs ≠ ws ∧ fLc (iVal (fVar 1)) (tgN 8) kYes (fOp gAdd (fVar 8) (fC (.str "1"))) [8] [.v (.r c), .v (.d (.lst (ws.map .str))), .v (.d (.int p)), .v (.d (.str w)), .v (.d (.int y)), .u, .u, .u, .u] (T.set c k2) = .ok (T.set c k2) (.new (.lst (vs.map .str))) := by
    have e := fLc_strs (fa := fVar 1) (fe := fOp gAdd (fVar 8) (fC (.str "1"))) (vs := [8]) (env := [.v (.r c), .v (.d (.lst (ws.map .str))), .v (.d (.int p)), .v (.d (.str w)), .v (.d (.int y)), .u, .u, .u, .u]) (S := T.set c k2) (i := 8) (ws := ws) (fun w => .str (w ++ "1")) (d := .lst (ws.map .str)) rfl rfl (by omega) (fun w hw => by
      have := (h.all w hw).length
      simp (config := { dsimp := false }) only [↓reduceIte, DN.bindV_val, DN.bindV_lst, DN.bindV_ob, DN.bindV_dc, DN.bindV_no, DN.bindV_ex, DN.bind_ok, DN.bind_no, DN.bind_ex, DN.sV_val, DN.sV_lst, DN.sV_ob, DN.sV_dc, DN.sV_ex, DN.sB_ok, DN.sB_ex, DN.kSeq_, DN.seqR_nx, DN.seqR_rt, DN.seqR_ex, DN.seqR_no, DN.kRet_, DN.retR_ok, DN.retR_ex, DN.kRetN_, DN.kNext_, DN.loopR_nx, DN.loopR_ct, DN.loopR_bk, DN.loopR_rt, DN.forGo_c, DN.forO_, DN.forGo_n, DN.iVal_, DN.itOf_lst, DN.itOf_tup, DN.kIf_, DN.kExpr_, DN.kSet_, DN.kSetC_, DN.setC_val, DN.setC_new, DN.kAsg_, DN.asgR_d, DN.asgO_, DN.tgN_, DN.tgNil_, DN.tgCons_, DN.tgO_, DN.tgT_, DN.kPar_, DN.parR_, DN.kSub_, DN.kFld_, DN.fVar_, DN.varR_, DN.fC_, DN.fOp_, DN.g2_, DN.g2o_, DN.fUn_, DN.g1_, DN.g1o_, DN.of_some, DN.snap_d, DN.snap_r, DN.snapC_lst, DN.snapC_ob, DN.fNil_, DN.fCons_, DN.fTup_, DN.fLst_, DN.allD_n, DN.allD_c, DN.allC_, DN.gTupD_, DN.gLstD_, DN.tupO_0, DN.lstO_0, DN.tupO_1, DN.lstO_1, DN.tupO_2, DN.lstO_2, DN.tupO_3, DN.lstO_3, DN.tupO_4, DN.lstO_4, DN.tupO_5, DN.lstO_5, DN.tupO_6, DN.lstO_6, DN.tupO_7, DN.lstO_7, DN.fAnd_, DN.fOr_, DN.fNot_, DN.fIf_, DN.onB_, DN.kVal_, DN.kAnd_, DN.kOr_, DN.kNot_, DN.kYes_, DN.fCall_, DN.gA_, DN.gAo_, DN.snaps_n, DN.snaps_c, DN.snapsC_, DN.arg1_, DN.arg12_1, DN.arg12_2, DN.arg2_, DN.onlyIf_t, DN.fCallD_, DN.fMeth_, DN.onT_, DN.onTo_, DN.gM_, DN.gMo_, DN.clsV_r, DN.clsC_lst, DN.clsC_ob, DN.clsV_obj, DN.clsV_int, DN.clsV_bl, DN.clsV_str, DN.clsV_non, DN.clsV_lst, DN.clsV_tup, DN.clsV_scr, DN.fLenD_, DN.lenR_, DN.lenC_n, DN.lenC_s, DN.fIxD_, DN.ixR_, DN.ixC_n, DN.ixC_s, DN.okR_ok, DN.fEqD_, DN.fMethD_, DN.fPropD_, DN.fMakeD_, DN.isi_int_int, DN.isi_int_bool, DN.isi_int_str, DN.isi_str_str, DN.isi_str_int, DN.isi_lst_lst, DN.isi_lst_str, DN.isi_tup_str, DN.isi_tup_tup, DN.isi_lst_lt, DN.isi_tup_lt, DN.isi_str_lt, DN.methR_, DN.methP_, DN.askT_, DN.askP_, DN.fAsk1_, DN.ask1R_, DN.ask1P_, DN.at_cons, beq_self_eq_true, DN.eqR_int, DN.eqR_bl, DN.eqR_str, DN.eqR_lst, DN.eqR_tup, DN.eqR_non, DN.onlyV_bl, DN.onlyV_str, DN.fStrD_, DN.strR_, DN.strC_n, DN.strC_s, DN.fChain_, DN.fSl_, DN.fNoPart_, DN.fPart_, DN.partR_, DN.fDisp_, DN.gSl_lst, DN.gSl_tup, DN.fMut_, DN.gMu_, DN.muC_, DN.muP_, DN.isT_str, DN.isT_lst, DN.gClear_, DN.fCMeth_, DN.cmR_, DN.fMakeL_, DN.mkLR_, DN.makeR_ok, List.append_nil, DN.vB_, DN.vI_, DN.vS_, DN.vT_, DN.nL_, DN.vD_, DN.startE_, DN.outS_nx, DN.outS_rt, DN.outS_ex, List.map, List.nil_append, List.cons_append, List.length_cons, List.length_nil, List.replicate, List.getElem?_cons_zero, List.getElem?_cons_succ, List.getElem?_nil, List.set_cons_zero, List.set_cons_succ, if_true, if_false, ite_true, ite_false, Bool.not_true, Bool.not_false, Bool.false_eq_true, Bool.and_true, Bool.true_and, Bool.or_false, Bool.false_or, Nat.add_sub_cancel, Nat.zero_add, Nat.reduceSub, Nat.reduceAdd, wipeE, gAdd_str (a := w) (b := "1") (by rw [this]; show n + 1 ≤ 100000; omega)]
      exact got_val)
    refine ⟨n + 1, ws.map fun w => w ++ "1", ⟨fun v hv => ?_, by simpa using hp, by simpa using hl⟩, fun q => ?_, by rw [e, List.map_map]; rfl⟩
    · obtain ⟨w, hw, rfl⟩ := List.mem_map.mp hv
      have g := h.all w hw
      refine ⟨by rw [app_tl, List.length_append, g.len]; rfl, by omega, fun c hc => ?_⟩
      rw [app_tl] at hc
      rcases List.mem_append.mp hc with hc | hc
      · exact g.ok c hc
      · have : c = 49 := by simpa [show (("1" : Str)).cps.toList = [49] from rfl] using hc
        subst this; decide
    · have := congrArg (fun l => l[p]?) q
      simp only [List.getElem?_map, hw, Option.map_some] at this
      have := congrArg (fun s : Str => s.cps.toList.length) (Option.some.inj this)
      simp only [app_tl, List.length_append] at this
      have : (("1" : Str)).cps.toList.length = 1 := rfl
      omega
  have less : 1 < ws.length → Ws n ws.dropLast ∧ ws.dropLast ≠ ws := fun h1 => ⟨⟨fun v hv => h.all v ((List.dropLast_sublist ws).subset hv), by simp; omega, by simp; omega⟩, fun q => by
    have := congrArg List.length q
    simp at this
    omega⟩
  by_cases q1 : (y : Int) = 0 ∧ w ≠ ""
  · obtain ⟨q0, qw⟩ := q1
    have hn0 : n ≠ 0 := fun e => qw (str_ext (by
      have := gw.len
      rw [e] at this
      rw [List.length_eq_zero_iff.mp this]; rfl))
    obtain ⟨s, k3, hs, h3, e3⟩ := take_lit (n : Int) h2 hc (by omega) (by omega) (by have := h59; omega)
    have hs' : s < w.cps.toList.length := by rw [gw.len]; omega
    have is : gIx (.str w) (.int s) = vS ⟨#[w.cps.toList[s]]⟩ := gIx_str gw.sz (List.getElem?_eq_getElem hs')
    obtain ⟨d, hd, hd2, ed⟩ := next_sign (gw.ok _ (List.getElem_mem hs'))
    have la : (⟨(w.cps.toList.take s).toArray⟩ : Str).length = s := by
      show (w.cps.toList.take s).toArray.size = s
      simp [-Array.length_toList]; omega
    have lb : (⟨(w.cps.toList.drop (s + 1)).toArray⟩ : Str).length = n - (s + 1) := by
      show (w.cps.toList.drop (s + 1)).toArray.size = _
      simp only [List.size_toArray, List.length_drop, gw.len]
    have wl := gw.length
    have a1 : gAdd (.str ⟨(w.cps.toList.take s).toArray⟩) (.str ⟨#[d]⟩) = vS ((⟨(w.cps.toList.take s).toArray⟩ : Str) ++ (⟨#[d]⟩ : Str)) := gAdd_str (by rw [la]; show s + 1 ≤ 100000; omega)
    have tl1 : ((⟨(w.cps.toList.take s).toArray⟩ : Str) ++ (⟨#[d]⟩ : Str)).cps.toList = w.cps.toList.take s ++ [d] := by rw [app_tl]
    have a2 : gAdd (.str ((⟨(w.cps.toList.take s).toArray⟩ : Str) ++ (⟨#[d]⟩ : Str))) (.str ⟨(w.cps.toList.drop (s + 1)).toArray⟩) = vS (((⟨(w.cps.toList.take s).toArray⟩ : Str) ++ (⟨#[d]⟩ : Str)) ++ (⟨(w.cps.toList.drop (s + 1)).toArray⟩ : Str)) := gAdd_str (by
      rw [lb, str_len, tl1, List.length_append, List.length_take]; simp only [List.length_singleton]; omega)
    generalize hv : ((⟨(w.cps.toList.take s).toArray⟩ : Str) ++ (⟨#[d]⟩ : Str)) ++ (⟨(w.cps.toList.drop (s + 1)).toArray⟩ : Str) = v at a2
    have tlv : v.cps.toList = w.cps.toList.take s ++ [d] ++ w.cps.toList.drop (s + 1) := by rw [← hv, app_tl, tl1]
    have gv : Wd n v := by
      refine ⟨?_, by omega, fun x hx => ?_⟩
      · rw [tlv]
        simp only [List.length_append, List.length_take, List.length_drop, List.length_singleton, gw.len]
        omega
      · rw [tlv] at hx
        rcases List.mem_append.mp hx with hx | hx
        · rcases List.mem_append.mp hx with hx | hx
          · exact gw.ok x (List.mem_of_mem_take hx)
          · rw [List.mem_singleton.mp hx]; exact hd
        · exact gw.ok x (List.mem_of_mem_drop hx)
    have nv : v ≠ w := fun e => by
      rw [e] at tlv
      have := congrArg (fun l => l[s]?) tlv
      simp only [List.getElem?_eq_getElem hs'] at this
      rw [List.append_assoc, List.getElem?_append_right (by simp; omega), List.length_take, Nat.min_eq_left (by omega), Nat.sub_self] at this
      simp at this
      exact hd2 this.symm
    refine ⟨n, ws.take p ++ [v] ++ ws.drop (p + 1), k3, ⟨fun x hx => ?_, by simp; omega, by simp; omega⟩, fun q => ?_, h3, def_setN ?_⟩
    · rcases List.mem_append.mp hx with hx | hx
      · rcases List.mem_append.mp hx with hx | hx
        · exact h.all x (List.mem_of_mem_take hx)
        · rw [List.mem_singleton.mp hx]; exact gv
      · exact h.all x (List.mem_of_mem_drop hx)
    · have := congrArg (fun l => l[p]?) q
      simp only [hw] at this
      rw [List.append_assoc, List.getElem?_append_right (by simp; omega), List.length_take, Nat.min_eq_left (by omega), Nat.sub_self] at this
      simp at this
      exact nv this
    · have cl1 : cutL (ws.map Dv.str) none (some (p : Int)) = (ws.map Dv.str).take p := cutL_to (by simp; omega)
      have cl2 : cutL (ws.map Dv.str) (some ((p + 1 : Nat) : Int)) none = (ws.map Dv.str).drop (p + 1) := cutL_from (by simp; omega)
      have b1 : gAdd (.lst ((ws.map Dv.str).take p)) (.lst [.str v]) = nL ((ws.map Dv.str).take p ++ [.str v]) := gAdd_lst (by simp; omega)
      have b2 : gAdd (.lst ((ws.map Dv.str).take p ++ [.str v])) (.lst ((ws.map Dv.str).drop (p + 1))) = nL ((ws.map Dv.str).take p ++ [.str v] ++ (ws.map Dv.str).drop (p + 1)) := gAdd_lst (by simp; omega)
      simp (config := { dsimp := false }) only [↓reduceIte, DN.bindV_val, DN.bindV_lst, DN.bindV_ob, DN.bindV_dc, DN.bindV_no, DN.bindV_ex, DN.bind_ok, DN.bind_no, DN.bind_ex, DN.sV_val, DN.sV_lst, DN.sV_ob, DN.sV_dc, DN.sV_ex, DN.sB_ok, DN.sB_ex, DN.kSeq_, DN.seqR_nx, DN.seqR_rt, DN.seqR_ex, DN.seqR_no, DN.kRet_, DN.retR_ok, DN.retR_ex, DN.kRetN_, DN.kNext_, DN.loopR_nx, DN.loopR_ct, DN.loopR_bk, DN.loopR_rt, DN.forGo_c, DN.forO_, DN.forGo_n, DN.iVal_, DN.itOf_lst, DN.itOf_tup, DN.kIf_, DN.kExpr_, DN.kSet_, DN.kSetC_, DN.setC_val, DN.setC_new, DN.kAsg_, DN.asgR_d, DN.asgO_, DN.tgN_, DN.tgNil_, DN.tgCons_, DN.tgO_, DN.tgT_, DN.kPar_, DN.parR_, DN.kSub_, DN.kFld_, DN.fVar_, DN.varR_, DN.fC_, DN.fOp_, DN.g2_, DN.g2o_, DN.fUn_, DN.g1_, DN.g1o_, DN.of_some, DN.snap_d, DN.snap_r, DN.snapC_lst, DN.snapC_ob, DN.fNil_, DN.fCons_, DN.fTup_, DN.fLst_, DN.allD_n, DN.allD_c, DN.allC_, DN.gTupD_, DN.gLstD_, DN.tupO_0, DN.lstO_0, DN.tupO_1, DN.lstO_1, DN.tupO_2, DN.lstO_2, DN.tupO_3, DN.lstO_3, DN.tupO_4, DN.lstO_4, DN.tupO_5, DN.lstO_5, DN.tupO_6, DN.lstO_6, DN.tupO_7, DN.lstO_7, DN.fAnd_, DN.fOr_, DN.fNot_, DN.fIf_, DN.onB_, DN.kVal_, DN.kAnd_, DN.kOr_, DN.kNot_, DN.kYes_, DN.fCall_, DN.gA_, DN.gAo_, DN.snaps_n, DN.snaps_c, DN.snapsC_, DN.arg1_, DN.arg12_1, DN.arg12_2, DN.arg2_, DN.onlyIf_t, DN.fCallD_, DN.fMeth_, DN.onT_, DN.onTo_, DN.gM_, DN.gMo_, DN.clsV_r, DN.clsC_lst, DN.clsC_ob, DN.clsV_obj, DN.clsV_int, DN.clsV_bl, DN.clsV_str, DN.clsV_non, DN.clsV_lst, DN.clsV_tup, DN.clsV_scr, DN.fLenD_, DN.lenR_, DN.lenC_n, DN.lenC_s, DN.fIxD_, DN.ixR_, DN.ixC_n, DN.ixC_s, DN.okR_ok, DN.fEqD_, DN.fMethD_, DN.fPropD_, DN.fMakeD_, DN.isi_int_int, DN.isi_int_bool, DN.isi_int_str, DN.isi_str_str, DN.isi_str_int, DN.isi_lst_lst, DN.isi_lst_str, DN.isi_tup_str, DN.isi_tup_tup, DN.isi_lst_lt, DN.isi_tup_lt, DN.isi_str_lt, DN.methR_, DN.methP_, DN.askT_, DN.askP_, DN.fAsk1_, DN.ask1R_, DN.ask1P_, DN.at_cons, beq_self_eq_true, DN.eqR_int, DN.eqR_bl, DN.eqR_str, DN.eqR_lst, DN.eqR_tup, DN.eqR_non, DN.onlyV_bl, DN.onlyV_str, DN.fStrD_, DN.strR_, DN.strC_n, DN.strC_s, DN.fChain_, DN.fSl_, DN.fNoPart_, DN.fPart_, DN.partR_, DN.fDisp_, DN.gSl_lst, DN.gSl_tup, DN.fMut_, DN.gMu_, DN.muC_, DN.muP_, DN.isT_str, DN.isT_lst, DN.gClear_, DN.fCMeth_, DN.cmR_, DN.fMakeL_, DN.mkLR_, DN.makeR_ok, List.append_nil, DN.vB_, DN.vI_, DN.vS_, DN.vT_, DN.nL_, DN.vD_, DN.startE_, DN.outS_nx, DN.outS_rt, DN.outS_ex, List.map, List.nil_append, List.cons_append, List.length_cons, List.length_nil, List.replicate, List.getElem?_cons_zero, List.getElem?_cons_succ, List.getElem?_nil, List.set_cons_zero, List.set_cons_succ, if_true, if_false, ite_true, ite_false, Bool.not_true, Bool.not_false, Bool.false_eq_true, Bool.and_true, Bool.true_and, Bool.or_false, Bool.false_or, Nat.add_sub_cancel, Nat.zero_add, Nat.reduceSub, Nat.reduceAdd, gLen_lst, List.length_map, e1, ip, e2, gEq_int, decide_eq_true q0, hne, decide_eq_false qw, gLen_str gw.sz, wl, e3, is, ed, gSl_str gw.sz, cutS_to (s := w) (k := s) (by omega), gAdd_, castS, cutS_from (s := w) (k := s + 1) (by omega), a1, a2, cl1, cl2, b1, b2]
      congr 3
      simp [List.map_take, List.map_drop]
  · have q1' : gEq (.int y) (.int 0) = vB (decide ((y : Int) = 0)) := gEq_int
    have q2' : gEq (.int y) (.int 1) = vB (decide ((y : Int) = 1)) := gEq_int
    by_cases q3 : (y : Int) = 1 ∧ 1 < ws.length
    · obtain ⟨g1, g2⟩ := less q3.2
      have q0 : ¬ (y : Int) = 0 := by omega
      refine ⟨n, ws.dropLast, k2, g1, g2, h2.le (by omega), def_setN ?_⟩
      simp (config := { dsimp := false }) only [↓reduceIte, DN.bindV_val, DN.bindV_lst, DN.bindV_ob, DN.bindV_dc, DN.bindV_no, DN.bindV_ex, DN.bind_ok, DN.bind_no, DN.bind_ex, DN.sV_val, DN.sV_lst, DN.sV_ob, DN.sV_dc, DN.sV_ex, DN.sB_ok, DN.sB_ex, DN.kSeq_, DN.seqR_nx, DN.seqR_rt, DN.seqR_ex, DN.seqR_no, DN.kRet_, DN.retR_ok, DN.retR_ex, DN.kRetN_, DN.kNext_, DN.loopR_nx, DN.loopR_ct, DN.loopR_bk, DN.loopR_rt, DN.forGo_c, DN.forO_, DN.forGo_n, DN.iVal_, DN.itOf_lst, DN.itOf_tup, DN.kIf_, DN.kExpr_, DN.kSet_, DN.kSetC_, DN.setC_val, DN.setC_new, DN.kAsg_, DN.asgR_d, DN.asgO_, DN.tgN_, DN.tgNil_, DN.tgCons_, DN.tgO_, DN.tgT_, DN.kPar_, DN.parR_, DN.kSub_, DN.kFld_, DN.fVar_, DN.varR_, DN.fC_, DN.fOp_, DN.g2_, DN.g2o_, DN.fUn_, DN.g1_, DN.g1o_, DN.of_some, DN.snap_d, DN.snap_r, DN.snapC_lst, DN.snapC_ob, DN.fNil_, DN.fCons_, DN.fTup_, DN.fLst_, DN.allD_n, DN.allD_c, DN.allC_, DN.gTupD_, DN.gLstD_, DN.tupO_0, DN.lstO_0, DN.tupO_1, DN.lstO_1, DN.tupO_2, DN.lstO_2, DN.tupO_3, DN.lstO_3, DN.tupO_4, DN.lstO_4, DN.tupO_5, DN.lstO_5, DN.tupO_6, DN.lstO_6, DN.tupO_7, DN.lstO_7, DN.fAnd_, DN.fOr_, DN.fNot_, DN.fIf_, DN.onB_, DN.kVal_, DN.kAnd_, DN.kOr_, DN.kNot_, DN.kYes_, DN.fCall_, DN.gA_, DN.gAo_, DN.snaps_n, DN.snaps_c, DN.snapsC_, DN.arg1_, DN.arg12_1, DN.arg12_2, DN.arg2_, DN.onlyIf_t, DN.fCallD_, DN.fMeth_, DN.onT_, DN.onTo_, DN.gM_, DN.gMo_, DN.clsV_r, DN.clsC_lst, DN.clsC_ob, DN.clsV_obj, DN.clsV_int, DN.clsV_bl, DN.clsV_str, DN.clsV_non, DN.clsV_lst, DN.clsV_tup, DN.clsV_scr, DN.fLenD_, DN.lenR_, DN.lenC_n, DN.lenC_s, DN.fIxD_, DN.ixR_, DN.ixC_n, DN.ixC_s, DN.okR_ok, DN.fEqD_, DN.fMethD_, DN.fPropD_, DN.fMakeD_, DN.isi_int_int, DN.isi_int_bool, DN.isi_int_str, DN.isi_str_str, DN.isi_str_int, DN.isi_lst_lst, DN.isi_lst_str, DN.isi_tup_str, DN.isi_tup_tup, DN.isi_lst_lt, DN.isi_tup_lt, DN.isi_str_lt, DN.methR_, DN.methP_, DN.askT_, DN.askP_, DN.fAsk1_, DN.ask1R_, DN.ask1P_, DN.at_cons, beq_self_eq_true, DN.eqR_int, DN.eqR_bl, DN.eqR_str, DN.eqR_lst, DN.eqR_tup, DN.eqR_non, DN.onlyV_bl, DN.onlyV_str, DN.fStrD_, DN.strR_, DN.strC_n, DN.strC_s, DN.fChain_, DN.fSl_, DN.fNoPart_, DN.fPart_, DN.partR_, DN.fDisp_, DN.gSl_lst, DN.gSl_tup, DN.fMut_, DN.gMu_, DN.muC_, DN.muP_, DN.isT_str, DN.isT_lst, DN.gClear_, DN.fCMeth_, DN.cmR_, DN.fMakeL_, DN.mkLR_, DN.makeR_ok, List.append_nil, DN.vB_, DN.vI_, DN.vS_, DN.vT_, DN.nL_, DN.vD_, DN.startE_, DN.outS_nx, DN.outS_rt, DN.outS_ex, List.map, List.nil_append, List.cons_append, List.length_cons, List.length_nil, List.replicate, List.getElem?_cons_zero, List.getElem?_cons_succ, List.getElem?_nil, List.set_cons_zero, List.set_cons_succ, if_true, if_false, ite_true, ite_false, Bool.not_true, Bool.not_false, Bool.false_eq_true, Bool.and_true, Bool.true_and, Bool.or_false, Bool.false_or, Nat.add_sub_cancel, Nat.zero_add, Nat.reduceSub, Nat.reduceAdd, gLen_lst, List.length_map, e1, ip, e2, q1', q2', decide_eq_false q0, decide_eq_true q3.1, gGt_, gt_iff_lt, decide_eq_true (show (1 : Int) < (ws.length : Int) by omega), show gNeg (.int 1) = vI (-1) from rfl, cutL_last]
      congr 3
      rw [List.map_dropLast]
    · obtain ⟨m, vs, g1, g2, g3⟩ := more
      refine ⟨m, vs, k2, g1, g2, h2.le (by omega), def_setN ?_⟩
      by_cases q0 : (y : Int) = 0
      · have qw : w = "" := by
          by_cases e : w = ""
          · exact e
          · exact absurd ⟨q0, e⟩ q1
        have q4 : ¬ (y : Int) = 1 := by omega
        simp (config := { dsimp := false }) only [↓reduceIte, DN.bindV_val, DN.bindV_lst, DN.bindV_ob, DN.bindV_dc, DN.bindV_no, DN.bindV_ex, DN.bind_ok, DN.bind_no, DN.bind_ex, DN.sV_val, DN.sV_lst, DN.sV_ob, DN.sV_dc, DN.sV_ex, DN.sB_ok, DN.sB_ex, DN.kSeq_, DN.seqR_nx, DN.seqR_rt, DN.seqR_ex, DN.seqR_no, DN.kRet_, DN.retR_ok, DN.retR_ex, DN.kRetN_, DN.kNext_, DN.loopR_nx, DN.loopR_ct, DN.loopR_bk, DN.loopR_rt, DN.forGo_c, DN.forO_, DN.forGo_n, DN.iVal_, DN.itOf_lst, DN.itOf_tup, DN.kIf_, DN.kExpr_, DN.kSet_, DN.kSetC_, DN.setC_val, DN.setC_new, DN.kAsg_, DN.asgR_d, DN.asgO_, DN.tgN_, DN.tgNil_, DN.tgCons_, DN.tgO_, DN.tgT_, DN.kPar_, DN.parR_, DN.kSub_, DN.kFld_, DN.fVar_, DN.varR_, DN.fC_, DN.fOp_, DN.g2_, DN.g2o_, DN.fUn_, DN.g1_, DN.g1o_, DN.of_some, DN.snap_d, DN.snap_r, DN.snapC_lst, DN.snapC_ob, DN.fNil_, DN.fCons_, DN.fTup_, DN.fLst_, DN.allD_n, DN.allD_c, DN.allC_, DN.gTupD_, DN.gLstD_, DN.tupO_0, DN.lstO_0, DN.tupO_1, DN.lstO_1, DN.tupO_2, DN.lstO_2, DN.tupO_3, DN.lstO_3, DN.tupO_4, DN.lstO_4, DN.tupO_5, DN.lstO_5, DN.tupO_6, DN.lstO_6, DN.tupO_7, DN.lstO_7, DN.fAnd_, DN.fOr_, DN.fNot_, DN.fIf_, DN.onB_, DN.kVal_, DN.kAnd_, DN.kOr_, DN.kNot_, DN.kYes_, DN.fCall_, DN.gA_, DN.gAo_, DN.snaps_n, DN.snaps_c, DN.snapsC_, DN.arg1_, DN.arg12_1, DN.arg12_2, DN.arg2_, DN.onlyIf_t, DN.fCallD_, DN.fMeth_, DN.onT_, DN.onTo_, DN.gM_, DN.gMo_, DN.clsV_r, DN.clsC_lst, DN.clsC_ob, DN.clsV_obj, DN.clsV_int, DN.clsV_bl, DN.clsV_str, DN.clsV_non, DN.clsV_lst, DN.clsV_tup, DN.clsV_scr, DN.fLenD_, DN.lenR_, DN.lenC_n, DN.lenC_s, DN.fIxD_, DN.ixR_, DN.ixC_n, DN.ixC_s, DN.okR_ok, DN.fEqD_, DN.fMethD_, DN.fPropD_, DN.fMakeD_, DN.isi_int_int, DN.isi_int_bool, DN.isi_int_str, DN.isi_str_str, DN.isi_str_int, DN.isi_lst_lst, DN.isi_lst_str, DN.isi_tup_str, DN.isi_tup_tup, DN.isi_lst_lt, DN.isi_tup_lt, DN.isi_str_lt, DN.methR_, DN.methP_, DN.askT_, DN.askP_, DN.fAsk1_, DN.ask1R_, DN.ask1P_, DN.at_cons, beq_self_eq_true, DN.eqR_int, DN.eqR_bl, DN.eqR_str, DN.eqR_lst, DN.eqR_tup, DN.eqR_non, DN.onlyV_bl, DN.onlyV_str, DN.fStrD_, DN.strR_, DN.strC_n, DN.strC_s, DN.fChain_, DN.fSl_, DN.fNoPart_, DN.fPart_, DN.partR_, DN.fDisp_, DN.gSl_lst, DN.gSl_tup, DN.fMut_, DN.gMu_, DN.muC_, DN.muP_, DN.isT_str, DN.isT_lst, DN.gClear_, DN.fCMeth_, DN.cmR_, DN.fMakeL_, DN.mkLR_, DN.makeR_ok, List.append_nil, DN.vB_, DN.vI_, DN.vS_, DN.vT_, DN.nL_, DN.vD_, DN.startE_, DN.outS_nx, DN.outS_rt, DN.outS_ex, List.map, List.nil_append, List.cons_append, List.length_cons, List.length_nil, List.replicate, List.getElem?_cons_zero, List.getElem?_cons_succ, List.getElem?_nil, List.set_cons_zero, List.set_cons_succ, if_true, if_false, ite_true, ite_false, Bool.not_true, Bool.not_false, Bool.false_eq_true, Bool.and_true, Bool.true_and, Bool.or_false, Bool.false_or, Nat.add_sub_cancel, Nat.zero_add, Nat.reduceSub, Nat.reduceAdd, gLen_lst, List.length_map, e1, ip, e2, q1', q2', decide_eq_true q0, decide_eq_false q4, hne, decide_eq_true qw, g3]
      · by_cases q4 : (y : Int) = 1
        · have q5 : ¬ (1 : Int) < (ws.length : Int) := fun e => q3 ⟨q4, by omega⟩
          simp (config := { dsimp := false }) only [↓reduceIte, DN.bindV_val, DN.bindV_lst, DN.bindV_ob, DN.bindV_dc, DN.bindV_no, DN.bindV_ex, DN.bind_ok, DN.bind_no, DN.bind_ex, DN.sV_val, DN.sV_lst, DN.sV_ob, DN.sV_dc, DN.sV_ex, DN.sB_ok, DN.sB_ex, DN.kSeq_, DN.seqR_nx, DN.seqR_rt, DN.seqR_ex, DN.seqR_no, DN.kRet_, DN.retR_ok, DN.retR_ex, DN.kRetN_, DN.kNext_, DN.loopR_nx, DN.loopR_ct, DN.loopR_bk, DN.loopR_rt, DN.forGo_c, DN.forO_, DN.forGo_n, DN.iVal_, DN.itOf_lst, DN.itOf_tup, DN.kIf_, DN.kExpr_, DN.kSet_, DN.kSetC_, DN.setC_val, DN.setC_new, DN.kAsg_, DN.asgR_d, DN.asgO_, DN.tgN_, DN.tgNil_, DN.tgCons_, DN.tgO_, DN.tgT_, DN.kPar_, DN.parR_, DN.kSub_, DN.kFld_, DN.fVar_, DN.varR_, DN.fC_, DN.fOp_, DN.g2_, DN.g2o_, DN.fUn_, DN.g1_, DN.g1o_, DN.of_some, DN.snap_d, DN.snap_r, DN.snapC_lst, DN.snapC_ob, DN.fNil_, DN.fCons_, DN.fTup_, DN.fLst_, DN.allD_n, DN.allD_c, DN.allC_, DN.gTupD_, DN.gLstD_, DN.tupO_0, DN.lstO_0, DN.tupO_1, DN.lstO_1, DN.tupO_2, DN.lstO_2, DN.tupO_3, DN.lstO_3, DN.tupO_4, DN.lstO_4, DN.tupO_5, DN.lstO_5, DN.tupO_6, DN.lstO_6, DN.tupO_7, DN.lstO_7, DN.fAnd_, DN.fOr_, DN.fNot_, DN.fIf_, DN.onB_, DN.kVal_, DN.kAnd_, DN.kOr_, DN.kNot_, DN.kYes_, DN.fCall_, DN.gA_, DN.gAo_, DN.snaps_n, DN.snaps_c, DN.snapsC_, DN.arg1_, DN.arg12_1, DN.arg12_2, DN.arg2_, DN.onlyIf_t, DN.fCallD_, DN.fMeth_, DN.onT_, DN.onTo_, DN.gM_, DN.gMo_, DN.clsV_r, DN.clsC_lst, DN.clsC_ob, DN.clsV_obj, DN.clsV_int, DN.clsV_bl, DN.clsV_str, DN.clsV_non, DN.clsV_lst, DN.clsV_tup, DN.clsV_scr, DN.fLenD_, DN.lenR_, DN.lenC_n, DN.lenC_s, DN.fIxD_, DN.ixR_, DN.ixC_n, DN.ixC_s, DN.okR_ok, DN.fEqD_, DN.fMethD_, DN.fPropD_, DN.fMakeD_, DN.isi_int_int, DN.isi_int_bool, DN.isi_int_str, DN.isi_str_str, DN.isi_str_int, DN.isi_lst_lst, DN.isi_lst_str, DN.isi_tup_str, DN.isi_tup_tup, DN.isi_lst_lt, DN.isi_tup_lt, DN.isi_str_lt, DN.methR_, DN.methP_, DN.askT_, DN.askP_, DN.fAsk1_, DN.ask1R_, DN.ask1P_, DN.at_cons, beq_self_eq_true, DN.eqR_int, DN.eqR_bl, DN.eqR_str, DN.eqR_lst, DN.eqR_tup, DN.eqR_non, DN.onlyV_bl, DN.onlyV_str, DN.fStrD_, DN.strR_, DN.strC_n, DN.strC_s, DN.fChain_, DN.fSl_, DN.fNoPart_, DN.fPart_, DN.partR_, DN.fDisp_, DN.gSl_lst, DN.gSl_tup, DN.fMut_, DN.gMu_, DN.muC_, DN.muP_, DN.isT_str, DN.isT_lst, DN.gClear_, DN.fCMeth_, DN.cmR_, DN.fMakeL_, DN.mkLR_, DN.makeR_ok, List.append_nil, DN.vB_, DN.vI_, DN.vS_, DN.vT_, DN.nL_, DN.vD_, DN.startE_, DN.outS_nx, DN.outS_rt, DN.outS_ex, List.map, List.nil_append, List.cons_append, List.length_cons, List.length_nil, List.replicate, List.getElem?_cons_zero, List.getElem?_cons_succ, List.getElem?_nil, List.set_cons_zero, List.set_cons_succ, if_true, if_false, ite_true, ite_false, Bool.not_true, Bool.not_false, Bool.false_eq_true, Bool.and_true, Bool.true_and, Bool.or_false, Bool.false_or, Nat.add_sub_cancel, Nat.zero_add, Nat.reduceSub, Nat.reduceAdd, gLen_lst, List.length_map, e1, ip, e2, q1', q2', decide_eq_false q0, decide_eq_true q4, gGt_, gt_iff_lt, decide_eq_false q5, g3]
        · simp (config := { dsimp := false }) only [↓reduceIte, DN.bindV_val, DN.bindV_lst, DN.bindV_ob, DN.bindV_dc, DN.bindV_no, DN.bindV_ex, DN.bind_ok, DN.bind_no, DN.bind_ex, DN.sV_val, DN.sV_lst, DN.sV_ob, DN.sV_dc, DN.sV_ex, DN.sB_ok, DN.sB_ex, DN.kSeq_, DN.seqR_nx, DN.seqR_rt, DN.seqR_ex, DN.seqR_no, DN.kRet_, DN.retR_ok, DN.retR_ex, DN.kRetN_, DN.kNext_, DN.loopR_nx, DN.loopR_ct, DN.loopR_bk, DN.loopR_rt, DN.forGo_c, DN.forO_, DN.forGo_n, DN.iVal_, DN.itOf_lst, DN.itOf_tup, DN.kIf_, DN.kExpr_, DN.kSet_, DN.kSetC_, DN.setC_val, DN.setC_new, DN.kAsg_, DN.asgR_d, DN.asgO_, DN.tgN_, DN.tgNil_, DN.tgCons_, DN.tgO_, DN.tgT_, DN.kPar_, DN.parR_, DN.kSub_, DN.kFld_, DN.fVar_, DN.varR_, DN.fC_, DN.fOp_, DN.g2_, DN.g2o_, DN.fUn_, DN.g1_, DN.g1o_, DN.of_some, DN.snap_d, DN.snap_r, DN.snapC_lst, DN.snapC_ob, DN.fNil_, DN.fCons_, DN.fTup_, DN.fLst_, DN.allD_n, DN.allD_c, DN.allC_, DN.gTupD_, DN.gLstD_, DN.tupO_0, DN.lstO_0, DN.tupO_1, DN.lstO_1, DN.tupO_2, DN.lstO_2, DN.tupO_3, DN.lstO_3, DN.tupO_4, DN.lstO_4, DN.tupO_5, DN.lstO_5, DN.tupO_6, DN.lstO_6, DN.tupO_7, DN.lstO_7, DN.fAnd_, DN.fOr_, DN.fNot_, DN.fIf_, DN.onB_, DN.kVal_, DN.kAnd_, DN.kOr_, DN.kNot_, DN.kYes_, DN.fCall_, DN.gA_, DN.gAo_, DN.snaps_n, DN.snaps_c, DN.snapsC_, DN.arg1_, DN.arg12_1, DN.arg12_2, DN.arg2_, DN.onlyIf_t, DN.fCallD_, DN.fMeth_, DN.onT_, DN.onTo_, DN.gM_, DN.gMo_, DN.clsV_r, DN.clsC_lst, DN.clsC_ob, DN.clsV_obj, DN.clsV_int, DN.clsV_bl, DN.clsV_str, DN.clsV_non, DN.clsV_lst, DN.clsV_tup, DN.clsV_scr, DN.fLenD_, DN.lenR_, DN.lenC_n, DN.lenC_s, DN.fIxD_, DN.ixR_, DN.ixC_n, DN.ixC_s, DN.okR_ok, DN.fEqD_, DN.fMethD_, DN.fPropD_, DN.fMakeD_, DN.isi_int_int, DN.isi_int_bool, DN.isi_int_str, DN.isi_str_str, DN.isi_str_int, DN.isi_lst_lst, DN.isi_lst_str, DN.isi_tup_str, DN.isi_tup_tup, DN.isi_lst_lt, DN.isi_tup_lt, DN.isi_str_lt, DN.methR_, DN.methP_, DN.askT_, DN.askP_, DN.fAsk1_, DN.ask1R_, DN.ask1P_, DN.at_cons, beq_self_eq_true, DN.eqR_int, DN.eqR_bl, DN.eqR_str, DN.eqR_lst, DN.eqR_tup, DN.eqR_non, DN.onlyV_bl, DN.onlyV_str, DN.fStrD_, DN.strR_, DN.strC_n, DN.strC_s, DN.fChain_, DN.fSl_, DN.fNoPart_, DN.fPart_, DN.partR_, DN.fDisp_, DN.gSl_lst, DN.gSl_tup, DN.fMut_, DN.gMu_, DN.muC_, DN.muP_, DN.isT_str, DN.isT_lst, DN.gClear_, DN.fCMeth_, DN.cmR_, DN.fMakeL_, DN.mkLR_, DN.makeR_ok, List.append_nil, DN.vB_, DN.vI_, DN.vS_, DN.vT_, DN.nL_, DN.vD_, DN.startE_, DN.outS_nx, DN.outS_rt, DN.outS_ex, List.map, List.nil_append, List.cons_append, List.length_cons, List.length_nil, List.replicate, List.getElem?_cons_zero, List.getElem?_cons_succ, List.getElem?_nil, List.set_cons_zero, List.set_cons_succ, if_true, if_false, ite_true, ite_false, Bool.not_true, Bool.not_false, Bool.false_eq_true, Bool.and_true, Bool.true_and, Bool.or_false, Bool.false_or, Nat.add_sub_cancel, Nat.zero_add, Nat.reduceSub, Nat.reduceAdd, gLen_lst, List.length_map, e1, ip, e2, q1', q2', decide_eq_false q0, decide_eq_false q4, g3]
end Q12

namespace Q12
open DN PySem
theorem joinL_mem (S : List Nat) (c : Nat) : ∀ l : List (List Nat), c ∈ TL.joinL S l → c ∈ S ∨ ∃ p ∈ l, c ∈ p
  | [], h => by simp [TL.joinL] at h
  | [p], h => .inr ⟨p, List.mem_singleton.mpr rfl, h⟩
  | p :: q :: r, h => by
    have h : c ∈ p ++ (S ++ TL.joinL S (q :: r)) := h
    rcases List.mem_append.mp h with h | h
    · exact .inr ⟨p, List.mem_cons_self, h⟩
    · rcases List.mem_append.mp h with h | h
      · exact .inl h
      · rcases joinL_mem S c (q :: r) h with h | ⟨x, h1, h2⟩
        · exact .inl h
        · exact .inr ⟨x, List.mem_cons_of_mem _ h1, h2⟩
theorem join_lay {n : Nat} {ws : List Str} (h : Ws n ws) : PyData.strOk (Txt.join " " ws) = true := OP.strOk_of fun c hc => by
  have hc : c ∈ TL.tl (Txt.join " " ws) := hc
  rw [TL.join_eq, TL.tl_join] at hc
  rcases joinL_mem _ _ _ hc with h1 | ⟨p, h1, h2⟩
  · have : c = 32 := by simpa [show TL.tl (" " : Str) = [32] from rfl] using h1
    omega
  · obtain ⟨w, hw, rfl⟩ := List.mem_map.mp h1
    exact OP.okc_lt ((h.all w hw).ok c h2)
theorem row_ok {m : Nat} {ws : List Str} {a : Str} : okN (m + 1) (rowD ws a) = true := by
  show okNs m (ws.map fun b => Dv.int (dif a b).length) = true
  exact okNs_all fun d hd => by
    obtain ⟨b, _, rfl⟩ := List.mem_map.mp hd
    exact okN_int
theorem tab_ok {ws : List Str} : okN 60 (.lst (tabD ws)) = true := by
  show okNs 59 (tabD ws) = true
  exact okNs_all fun d hd => by
    obtain ⟨b, _, rfl⟩ := List.mem_map.mp hd
    exact row_ok
theorem right_ok {n : Nat} {ws : List Str} {S : Sto} (h : Ws n ws) : D_law_right [.d (.lst (ws.map .str)), .d (A ws)] S = .ok S (.val (.d (.bl true))) := by
  have hp := h.pos
  have hl := h.le
  obtain ⟨w0, h0, g0⟩ := h.head
  have i0 : gIx (.lst (ws.map .str)) (.int 0) = vD (.str w0) := gIx_lst (i := 0) (by simp [List.getElem?_map, h0])
  have e1 := fLc_strs (fa := fVar 0) (fe := fCall gTuple (fCons (fLc (iVal (fVar 0)) (tgN 3) kYes (fCallD 2 D_law_apart (fCons (fVar 4) (fCons (fVar 3) fNil))) [3]) fNil)) (vs := [4]) (env := [.v (.d (.lst (ws.map .str))), .v (.d (A ws)), .u, .u, .u, .u, .u, .u, .u]) (S := S) (i := 4) (ws := ws) (rowD ws) (d := .lst (ws.map .str))
    rfl rfl (by omega) (fun a ha => by
      have e2 := fLc_strs (fa := fVar 0) (fe := fCallD 2 D_law_apart (fCons (fVar 4) (fCons (fVar 3) fNil))) (vs := [3]) (env := [.v (.d (.lst (ws.map .str))), .v (.d (A ws)), .u, .u, .v (.d (.str a)), .u, .u, .u, .u]) (S := S) (i := 3) (ws := ws) (fun b => Dv.int (dif a b).length) (d := .lst (ws.map .str))
        rfl rfl (by omega) (fun b hb => by
          simp (config := { dsimp := false }) only [↓reduceIte, DN.bindV_val, DN.bindV_lst, DN.bindV_ob, DN.bindV_dc, DN.bindV_no, DN.bindV_ex, DN.bind_ok, DN.bind_no, DN.bind_ex, DN.sV_val, DN.sV_lst, DN.sV_ob, DN.sV_dc, DN.sV_ex, DN.sB_ok, DN.sB_ex, DN.kSeq_, DN.seqR_nx, DN.seqR_rt, DN.seqR_ex, DN.seqR_no, DN.kRet_, DN.retR_ok, DN.retR_ex, DN.kRetN_, DN.kNext_, DN.loopR_nx, DN.loopR_ct, DN.loopR_bk, DN.loopR_rt, DN.forGo_c, DN.forO_, DN.forGo_n, DN.iVal_, DN.itOf_lst, DN.itOf_tup, DN.kIf_, DN.kExpr_, DN.kSet_, DN.kSetC_, DN.setC_val, DN.setC_new, DN.kAsg_, DN.asgR_d, DN.asgO_, DN.tgN_, DN.tgNil_, DN.tgCons_, DN.tgO_, DN.tgT_, DN.kPar_, DN.parR_, DN.kSub_, DN.kFld_, DN.fVar_, DN.varR_, DN.fC_, DN.fOp_, DN.g2_, DN.g2o_, DN.fUn_, DN.g1_, DN.g1o_, DN.of_some, DN.snap_d, DN.snap_r, DN.snapC_lst, DN.snapC_ob, DN.fNil_, DN.fCons_, DN.fTup_, DN.fLst_, DN.allD_n, DN.allD_c, DN.allC_, DN.gTupD_, DN.gLstD_, DN.tupO_0, DN.lstO_0, DN.tupO_1, DN.lstO_1, DN.tupO_2, DN.lstO_2, DN.tupO_3, DN.lstO_3, DN.tupO_4, DN.lstO_4, DN.tupO_5, DN.lstO_5, DN.tupO_6, DN.lstO_6, DN.tupO_7, DN.lstO_7, DN.fAnd_, DN.fOr_, DN.fNot_, DN.fIf_, DN.onB_, DN.kVal_, DN.kAnd_, DN.kOr_, DN.kNot_, DN.kYes_, DN.fCall_, DN.gA_, DN.gAo_, DN.snaps_n, DN.snaps_c, DN.snapsC_, DN.arg1_, DN.arg12_1, DN.arg12_2, DN.arg2_, DN.onlyIf_t, DN.fCallD_, DN.fMeth_, DN.onT_, DN.onTo_, DN.gM_, DN.gMo_, DN.clsV_r, DN.clsC_lst, DN.clsC_ob, DN.clsV_obj, DN.clsV_int, DN.clsV_bl, DN.clsV_str, DN.clsV_non, DN.clsV_lst, DN.clsV_tup, DN.clsV_scr, DN.fLenD_, DN.lenR_, DN.lenC_n, DN.lenC_s, DN.fIxD_, DN.ixR_, DN.ixC_n, DN.ixC_s, DN.okR_ok, DN.fEqD_, DN.fMethD_, DN.fPropD_, DN.fMakeD_, DN.isi_int_int, DN.isi_int_bool, DN.isi_int_str, DN.isi_str_str, DN.isi_str_int, DN.isi_lst_lst, DN.isi_lst_str, DN.isi_tup_str, DN.isi_tup_tup, DN.isi_lst_lt, DN.isi_tup_lt, DN.isi_str_lt, DN.methR_, DN.methP_, DN.askT_, DN.askP_, DN.fAsk1_, DN.ask1R_, DN.ask1P_, DN.at_cons, beq_self_eq_true, DN.eqR_int, DN.eqR_bl, DN.eqR_str, DN.eqR_lst, DN.eqR_tup, DN.eqR_non, DN.onlyV_bl, DN.onlyV_str, DN.fStrD_, DN.strR_, DN.strC_n, DN.strC_s, DN.fChain_, DN.fSl_, DN.fNoPart_, DN.fPart_, DN.partR_, DN.fDisp_, DN.gSl_lst, DN.gSl_tup, DN.fMut_, DN.gMu_, DN.muC_, DN.muP_, DN.isT_str, DN.isT_lst, DN.gClear_, DN.fCMeth_, DN.cmR_, DN.fMakeL_, DN.mkLR_, DN.makeR_ok, List.append_nil, DN.vB_, DN.vI_, DN.vS_, DN.vT_, DN.nL_, DN.vD_, DN.startE_, DN.outS_nx, DN.outS_rt, DN.outS_ex, List.map, List.nil_append, List.cons_append, List.length_cons, List.length_nil, List.replicate, List.getElem?_cons_zero, List.getElem?_cons_succ, List.getElem?_nil, List.set_cons_zero, List.set_cons_succ, if_true, if_false, ite_true, ite_false, Bool.not_true, Bool.not_false, Bool.false_eq_true, Bool.and_true, Bool.true_and, Bool.or_false, Bool.false_or, Nat.add_sub_cancel, Nat.zero_add, Nat.reduceSub, Nat.reduceAdd, wipeE, law_apart_ok (h.all a ha) (h.all b hb)]
          exact got_val)
      simp (config := { dsimp := false }) only [↓reduceIte, DN.bindV_val, DN.bindV_lst, DN.bindV_ob, DN.bindV_dc, DN.bindV_no, DN.bindV_ex, DN.bind_ok, DN.bind_no, DN.bind_ex, DN.sV_val, DN.sV_lst, DN.sV_ob, DN.sV_dc, DN.sV_ex, DN.sB_ok, DN.sB_ex, DN.kSeq_, DN.seqR_nx, DN.seqR_rt, DN.seqR_ex, DN.seqR_no, DN.kRet_, DN.retR_ok, DN.retR_ex, DN.kRetN_, DN.kNext_, DN.loopR_nx, DN.loopR_ct, DN.loopR_bk, DN.loopR_rt, DN.forGo_c, DN.forO_, DN.forGo_n, DN.iVal_, DN.itOf_lst, DN.itOf_tup, DN.kIf_, DN.kExpr_, DN.kSet_, DN.kSetC_, DN.setC_val, DN.setC_new, DN.kAsg_, DN.asgR_d, DN.asgO_, DN.tgN_, DN.tgNil_, DN.tgCons_, DN.tgO_, DN.tgT_, DN.kPar_, DN.parR_, DN.kSub_, DN.kFld_, DN.fVar_, DN.varR_, DN.fC_, DN.fOp_, DN.g2_, DN.g2o_, DN.fUn_, DN.g1_, DN.g1o_, DN.of_some, DN.snap_d, DN.snap_r, DN.snapC_lst, DN.snapC_ob, DN.fNil_, DN.fCons_, DN.fTup_, DN.fLst_, DN.allD_n, DN.allD_c, DN.allC_, DN.gTupD_, DN.gLstD_, DN.tupO_0, DN.lstO_0, DN.tupO_1, DN.lstO_1, DN.tupO_2, DN.lstO_2, DN.tupO_3, DN.lstO_3, DN.tupO_4, DN.lstO_4, DN.tupO_5, DN.lstO_5, DN.tupO_6, DN.lstO_6, DN.tupO_7, DN.lstO_7, DN.fAnd_, DN.fOr_, DN.fNot_, DN.fIf_, DN.onB_, DN.kVal_, DN.kAnd_, DN.kOr_, DN.kNot_, DN.kYes_, DN.fCall_, DN.gA_, DN.gAo_, DN.snaps_n, DN.snaps_c, DN.snapsC_, DN.arg1_, DN.arg12_1, DN.arg12_2, DN.arg2_, DN.onlyIf_t, DN.fCallD_, DN.fMeth_, DN.onT_, DN.onTo_, DN.gM_, DN.gMo_, DN.clsV_r, DN.clsC_lst, DN.clsC_ob, DN.clsV_obj, DN.clsV_int, DN.clsV_bl, DN.clsV_str, DN.clsV_non, DN.clsV_lst, DN.clsV_tup, DN.clsV_scr, DN.fLenD_, DN.lenR_, DN.lenC_n, DN.lenC_s, DN.fIxD_, DN.ixR_, DN.ixC_n, DN.ixC_s, DN.okR_ok, DN.fEqD_, DN.fMethD_, DN.fPropD_, DN.fMakeD_, DN.isi_int_int, DN.isi_int_bool, DN.isi_int_str, DN.isi_str_str, DN.isi_str_int, DN.isi_lst_lst, DN.isi_lst_str, DN.isi_tup_str, DN.isi_tup_tup, DN.isi_lst_lt, DN.isi_tup_lt, DN.isi_str_lt, DN.methR_, DN.methP_, DN.askT_, DN.askP_, DN.fAsk1_, DN.ask1R_, DN.ask1P_, DN.at_cons, beq_self_eq_true, DN.eqR_int, DN.eqR_bl, DN.eqR_str, DN.eqR_lst, DN.eqR_tup, DN.eqR_non, DN.onlyV_bl, DN.onlyV_str, DN.fStrD_, DN.strR_, DN.strC_n, DN.strC_s, DN.fChain_, DN.fSl_, DN.fNoPart_, DN.fPart_, DN.partR_, DN.fDisp_, DN.gSl_lst, DN.gSl_tup, DN.fMut_, DN.gMu_, DN.muC_, DN.muP_, DN.isT_str, DN.isT_lst, DN.gClear_, DN.fCMeth_, DN.cmR_, DN.fMakeL_, DN.mkLR_, DN.makeR_ok, List.append_nil, DN.vB_, DN.vI_, DN.vS_, DN.vT_, DN.nL_, DN.vD_, DN.startE_, DN.outS_nx, DN.outS_rt, DN.outS_ex, List.map, List.nil_append, List.cons_append, List.length_cons, List.length_nil, List.replicate, List.getElem?_cons_zero, List.getElem?_cons_succ, List.getElem?_nil, List.set_cons_zero, List.set_cons_succ, if_true, if_false, ite_true, ite_false, Bool.not_true, Bool.not_false, Bool.false_eq_true, Bool.and_true, Bool.true_and, Bool.or_false, Bool.false_or, Nat.add_sub_cancel, Nat.zero_add, Nat.reduceSub, Nat.reduceAdd, wipeE, e2, gTuple_lst]
      exact got_val)
  rw [show ws.map (rowD ws) = tabD ws from rfl] at e1
  have n1 : gNe (.tup (ws.map .str)) (.tup (ws.map .str)) = vB false := gNe_refl (h.ok 59)
  have n2 : gNe (.lst (ws.map .str)) (.lst (ws.map .str)) = vB false := gNe_refl (h.ok 59)
  have n3 : gNe (.lst (tabD ws)) (.lst (tabD ws)) = vB false := gNe_refl tab_ok
  have n4 : gEq (.lst (tabD ws)) (.lst (tabD ws)) = vB true := gEq_refl tab_ok
  have n5 : gEq (.str (Txt.join " " ws)) (.str (Txt.join " " ws)) = vB true := gEq_refl (by rw [okN_str]; exact join_lay h)
  have n6 : gNe (.int n) (.int n) = vB false := by rw [gNe_int]; simp
  have hq : eqR ["Addresses"] [("Addresses", 2, D_Addresses_eq)] true (S ++ [.lst (tabD ws)]) (.r S.length) (.d (.lst (tabD ws))) = g2 (S ++ [.lst (tabD ws)]) (.r S.length) (.d (.lst (tabD ws))) gNe := eqR_n (by simp [clsV])
  have e3 := fLc_rg (fl := fCons (fLenD [("Addresses", 1, D_Addresses_len)] (fCons (fVar 0) fNil)) fNil) (fe := fIxD [("Addresses", 2, D_Addresses_getitem)] (fVar 1) (fVar 6)) (vs := [6]) (env := [.v (.d (.lst (ws.map .str))), .v (.d (A ws)), .v (.d (.lst (tabD ws))), .u, .u, .v (.r S.length), .u, .u, .u]) (S := S ++ [.lst (tabD ws)]) (i := 6) (n := ws.length) (fun k => .str (ws.getD k ""))
    (by simp (config := { dsimp := false }) only [↓reduceIte, DN.bindV_val, DN.bindV_lst, DN.bindV_ob, DN.bindV_dc, DN.bindV_no, DN.bindV_ex, DN.bind_ok, DN.bind_no, DN.bind_ex, DN.sV_val, DN.sV_lst, DN.sV_ob, DN.sV_dc, DN.sV_ex, DN.sB_ok, DN.sB_ex, DN.kSeq_, DN.seqR_nx, DN.seqR_rt, DN.seqR_ex, DN.seqR_no, DN.kRet_, DN.retR_ok, DN.retR_ex, DN.kRetN_, DN.kNext_, DN.loopR_nx, DN.loopR_ct, DN.loopR_bk, DN.loopR_rt, DN.forGo_c, DN.forO_, DN.forGo_n, DN.iVal_, DN.itOf_lst, DN.itOf_tup, DN.kIf_, DN.kExpr_, DN.kSet_, DN.kSetC_, DN.setC_val, DN.setC_new, DN.kAsg_, DN.asgR_d, DN.asgO_, DN.tgN_, DN.tgNil_, DN.tgCons_, DN.tgO_, DN.tgT_, DN.kPar_, DN.parR_, DN.kSub_, DN.kFld_, DN.fVar_, DN.varR_, DN.fC_, DN.fOp_, DN.g2_, DN.g2o_, DN.fUn_, DN.g1_, DN.g1o_, DN.of_some, DN.snap_d, DN.snap_r, DN.snapC_lst, DN.snapC_ob, DN.fNil_, DN.fCons_, DN.fTup_, DN.fLst_, DN.allD_n, DN.allD_c, DN.allC_, DN.gTupD_, DN.gLstD_, DN.tupO_0, DN.lstO_0, DN.tupO_1, DN.lstO_1, DN.tupO_2, DN.lstO_2, DN.tupO_3, DN.lstO_3, DN.tupO_4, DN.lstO_4, DN.tupO_5, DN.lstO_5, DN.tupO_6, DN.lstO_6, DN.tupO_7, DN.lstO_7, DN.fAnd_, DN.fOr_, DN.fNot_, DN.fIf_, DN.onB_, DN.kVal_, DN.kAnd_, DN.kOr_, DN.kNot_, DN.kYes_, DN.fCall_, DN.gA_, DN.gAo_, DN.snaps_n, DN.snaps_c, DN.snapsC_, DN.arg1_, DN.arg12_1, DN.arg12_2, DN.arg2_, DN.onlyIf_t, DN.fCallD_, DN.fMeth_, DN.onT_, DN.onTo_, DN.gM_, DN.gMo_, DN.clsV_r, DN.clsC_lst, DN.clsC_ob, DN.clsV_obj, DN.clsV_int, DN.clsV_bl, DN.clsV_str, DN.clsV_non, DN.clsV_lst, DN.clsV_tup, DN.clsV_scr, DN.fLenD_, DN.lenR_, DN.lenC_n, DN.lenC_s, DN.fIxD_, DN.ixR_, DN.ixC_n, DN.ixC_s, DN.okR_ok, DN.fEqD_, DN.fMethD_, DN.fPropD_, DN.fMakeD_, DN.isi_int_int, DN.isi_int_bool, DN.isi_int_str, DN.isi_str_str, DN.isi_str_int, DN.isi_lst_lst, DN.isi_lst_str, DN.isi_tup_str, DN.isi_tup_tup, DN.isi_lst_lt, DN.isi_tup_lt, DN.isi_str_lt, DN.methR_, DN.methP_, DN.askT_, DN.askP_, DN.fAsk1_, DN.ask1R_, DN.ask1P_, DN.at_cons, beq_self_eq_true, DN.eqR_int, DN.eqR_bl, DN.eqR_str, DN.eqR_lst, DN.eqR_tup, DN.eqR_non, DN.onlyV_bl, DN.onlyV_str, DN.fStrD_, DN.strR_, DN.strC_n, DN.strC_s, DN.fChain_, DN.fSl_, DN.fNoPart_, DN.fPart_, DN.partR_, DN.fDisp_, DN.gSl_lst, DN.gSl_tup, DN.fMut_, DN.gMu_, DN.muC_, DN.muP_, DN.isT_str, DN.isT_lst, DN.gClear_, DN.fCMeth_, DN.cmR_, DN.fMakeL_, DN.mkLR_, DN.makeR_ok, List.append_nil, DN.vB_, DN.vI_, DN.vS_, DN.vT_, DN.nL_, DN.vD_, DN.startE_, DN.outS_nx, DN.outS_rt, DN.outS_ex, List.map, List.nil_append, List.cons_append, List.length_cons, List.length_nil, List.replicate, List.getElem?_cons_zero, List.getElem?_cons_succ, List.getElem?_nil, List.set_cons_zero, List.set_cons_succ, if_true, if_false, ite_true, ite_false, Bool.not_true, Bool.not_false, Bool.false_eq_true, Bool.and_true, Bool.true_and, Bool.or_false, Bool.false_or, Nat.add_sub_cancel, Nat.zero_add, Nat.reduceSub, Nat.reduceAdd, gLen_lst, List.length_map]) (by omega) (fun k hk => by
      have hk' : ws[k]? = some (ws.getD k "") := by rw [List.getD, List.getElem?_eq_getElem hk]; rfl
      simp (config := { dsimp := false }) only [↓reduceIte, DN.bindV_val, DN.bindV_lst, DN.bindV_ob, DN.bindV_dc, DN.bindV_no, DN.bindV_ex, DN.bind_ok, DN.bind_no, DN.bind_ex, DN.sV_val, DN.sV_lst, DN.sV_ob, DN.sV_dc, DN.sV_ex, DN.sB_ok, DN.sB_ex, DN.kSeq_, DN.seqR_nx, DN.seqR_rt, DN.seqR_ex, DN.seqR_no, DN.kRet_, DN.retR_ok, DN.retR_ex, DN.kRetN_, DN.kNext_, DN.loopR_nx, DN.loopR_ct, DN.loopR_bk, DN.loopR_rt, DN.forGo_c, DN.forO_, DN.forGo_n, DN.iVal_, DN.itOf_lst, DN.itOf_tup, DN.kIf_, DN.kExpr_, DN.kSet_, DN.kSetC_, DN.setC_val, DN.setC_new, DN.kAsg_, DN.asgR_d, DN.asgO_, DN.tgN_, DN.tgNil_, DN.tgCons_, DN.tgO_, DN.tgT_, DN.kPar_, DN.parR_, DN.kSub_, DN.kFld_, DN.fVar_, DN.varR_, DN.fC_, DN.fOp_, DN.g2_, DN.g2o_, DN.fUn_, DN.g1_, DN.g1o_, DN.of_some, DN.snap_d, DN.snap_r, DN.snapC_lst, DN.snapC_ob, DN.fNil_, DN.fCons_, DN.fTup_, DN.fLst_, DN.allD_n, DN.allD_c, DN.allC_, DN.gTupD_, DN.gLstD_, DN.tupO_0, DN.lstO_0, DN.tupO_1, DN.lstO_1, DN.tupO_2, DN.lstO_2, DN.tupO_3, DN.lstO_3, DN.tupO_4, DN.lstO_4, DN.tupO_5, DN.lstO_5, DN.tupO_6, DN.lstO_6, DN.tupO_7, DN.lstO_7, DN.fAnd_, DN.fOr_, DN.fNot_, DN.fIf_, DN.onB_, DN.kVal_, DN.kAnd_, DN.kOr_, DN.kNot_, DN.kYes_, DN.fCall_, DN.gA_, DN.gAo_, DN.snaps_n, DN.snaps_c, DN.snapsC_, DN.arg1_, DN.arg12_1, DN.arg12_2, DN.arg2_, DN.onlyIf_t, DN.fCallD_, DN.fMeth_, DN.onT_, DN.onTo_, DN.gM_, DN.gMo_, DN.clsV_r, DN.clsC_lst, DN.clsC_ob, DN.clsV_obj, DN.clsV_int, DN.clsV_bl, DN.clsV_str, DN.clsV_non, DN.clsV_lst, DN.clsV_tup, DN.clsV_scr, DN.fLenD_, DN.lenR_, DN.lenC_n, DN.lenC_s, DN.fIxD_, DN.ixR_, DN.ixC_n, DN.ixC_s, DN.okR_ok, DN.fEqD_, DN.fMethD_, DN.fPropD_, DN.fMakeD_, DN.isi_int_int, DN.isi_int_bool, DN.isi_int_str, DN.isi_str_str, DN.isi_str_int, DN.isi_lst_lst, DN.isi_lst_str, DN.isi_tup_str, DN.isi_tup_tup, DN.isi_lst_lt, DN.isi_tup_lt, DN.isi_str_lt, DN.methR_, DN.methP_, DN.askT_, DN.askP_, DN.fAsk1_, DN.ask1R_, DN.ask1P_, DN.at_cons, beq_self_eq_true, DN.eqR_int, DN.eqR_bl, DN.eqR_str, DN.eqR_lst, DN.eqR_tup, DN.eqR_non, DN.onlyV_bl, DN.onlyV_str, DN.fStrD_, DN.strR_, DN.strC_n, DN.strC_s, DN.fChain_, DN.fSl_, DN.fNoPart_, DN.fPart_, DN.partR_, DN.fDisp_, DN.gSl_lst, DN.gSl_tup, DN.fMut_, DN.gMu_, DN.muC_, DN.muP_, DN.isT_str, DN.isT_lst, DN.gClear_, DN.fCMeth_, DN.cmR_, DN.fMakeL_, DN.mkLR_, DN.makeR_ok, List.append_nil, DN.vB_, DN.vI_, DN.vS_, DN.vT_, DN.nL_, DN.vD_, DN.startE_, DN.outS_nx, DN.outS_rt, DN.outS_ex, List.map, List.nil_append, List.cons_append, List.length_cons, List.length_nil, List.replicate, List.getElem?_cons_zero, List.getElem?_cons_succ, List.getElem?_nil, List.set_cons_zero, List.set_cons_succ, if_true, if_false, ite_true, ite_false, Bool.not_true, Bool.not_false, Bool.false_eq_true, Bool.and_true, Bool.true_and, Bool.or_false, Bool.false_or, Nat.add_sub_cancel, Nat.zero_add, Nat.reduceSub, Nat.reduceAdd, wipeE, getitem_ok hk', okR_ok']
      exact got_val)
  have e3' : (List.range ws.length).map (fun k => Dv.str (ws.getD k "")) = ws.map .str := by
    apply List.ext_getElem?
    intro k
    by_cases hk : k < ws.length
    · simp [List.getElem?_map, List.getElem?_range hk, List.getD, List.getElem?_eq_getElem hk]
    · rw [List.getElem?_eq_none, List.getElem?_eq_none] <;> simp <;> omega
  rw [e3'] at e3
  refine def_val (S' := S ++ [.lst []]) ?_ (by simp)
  simp (config := { dsimp := false }) only [↓reduceIte, DN.bindV_val, DN.bindV_lst, DN.bindV_ob, DN.bindV_dc, DN.bindV_no, DN.bindV_ex, DN.bind_ok, DN.bind_no, DN.bind_ex, DN.sV_val, DN.sV_lst, DN.sV_ob, DN.sV_dc, DN.sV_ex, DN.sB_ok, DN.sB_ex, DN.kSeq_, DN.seqR_nx, DN.seqR_rt, DN.seqR_ex, DN.seqR_no, DN.kRet_, DN.retR_ok, DN.retR_ex, DN.kRetN_, DN.kNext_, DN.loopR_nx, DN.loopR_ct, DN.loopR_bk, DN.loopR_rt, DN.forGo_c, DN.forO_, DN.forGo_n, DN.iVal_, DN.itOf_lst, DN.itOf_tup, DN.kIf_, DN.kExpr_, DN.kSet_, DN.kSetC_, DN.setC_val, DN.setC_new, DN.kAsg_, DN.asgR_d, DN.asgO_, DN.tgN_, DN.tgNil_, DN.tgCons_, DN.tgO_, DN.tgT_, DN.kPar_, DN.parR_, DN.kSub_, DN.kFld_, DN.fVar_, DN.varR_, DN.fC_, DN.fOp_, DN.g2_, DN.g2o_, DN.fUn_, DN.g1_, DN.g1o_, DN.of_some, DN.snap_d, DN.snap_r, DN.snapC_lst, DN.snapC_ob, DN.fNil_, DN.fCons_, DN.fTup_, DN.fLst_, DN.allD_n, DN.allD_c, DN.allC_, DN.gTupD_, DN.gLstD_, DN.tupO_0, DN.lstO_0, DN.tupO_1, DN.lstO_1, DN.tupO_2, DN.lstO_2, DN.tupO_3, DN.lstO_3, DN.tupO_4, DN.lstO_4, DN.tupO_5, DN.lstO_5, DN.tupO_6, DN.lstO_6, DN.tupO_7, DN.lstO_7, DN.fAnd_, DN.fOr_, DN.fNot_, DN.fIf_, DN.onB_, DN.kVal_, DN.kAnd_, DN.kOr_, DN.kNot_, DN.kYes_, DN.fCall_, DN.gA_, DN.gAo_, DN.snaps_n, DN.snaps_c, DN.snapsC_, DN.arg1_, DN.arg12_1, DN.arg12_2, DN.arg2_, DN.onlyIf_t, DN.fCallD_, DN.fMeth_, DN.onT_, DN.onTo_, DN.gM_, DN.gMo_, DN.clsV_r, DN.clsC_lst, DN.clsC_ob, DN.clsV_obj, DN.clsV_int, DN.clsV_bl, DN.clsV_str, DN.clsV_non, DN.clsV_lst, DN.clsV_tup, DN.clsV_scr, DN.fLenD_, DN.lenR_, DN.lenC_n, DN.lenC_s, DN.fIxD_, DN.ixR_, DN.ixC_n, DN.ixC_s, DN.okR_ok, DN.fEqD_, DN.fMethD_, DN.fPropD_, DN.fMakeD_, DN.isi_int_int, DN.isi_int_bool, DN.isi_int_str, DN.isi_str_str, DN.isi_str_int, DN.isi_lst_lst, DN.isi_lst_str, DN.isi_tup_str, DN.isi_tup_tup, DN.isi_lst_lt, DN.isi_tup_lt, DN.isi_str_lt, DN.methR_, DN.methP_, DN.askT_, DN.askP_, DN.fAsk1_, DN.ask1R_, DN.ask1P_, DN.at_cons, beq_self_eq_true, DN.eqR_int, DN.eqR_bl, DN.eqR_str, DN.eqR_lst, DN.eqR_tup, DN.eqR_non, DN.onlyV_bl, DN.onlyV_str, DN.fStrD_, DN.strR_, DN.strC_n, DN.strC_s, DN.fChain_, DN.fSl_, DN.fNoPart_, DN.fPart_, DN.partR_, DN.fDisp_, DN.gSl_lst, DN.gSl_tup, DN.fMut_, DN.gMu_, DN.muC_, DN.muP_, DN.isT_str, DN.isT_lst, DN.gClear_, DN.fCMeth_, DN.cmR_, DN.fMakeL_, DN.mkLR_, DN.makeR_ok, List.append_nil, DN.vB_, DN.vI_, DN.vS_, DN.vT_, DN.nL_, DN.vD_, DN.startE_, DN.outS_nx, DN.outS_rt, DN.outS_ex, List.map, List.nil_append, List.cons_append, List.length_cons, List.length_nil, List.replicate, List.getElem?_cons_zero, List.getElem?_cons_succ, List.getElem?_nil, List.set_cons_zero, List.set_cons_succ, if_true, if_false, ite_true, ite_false, Bool.not_true, Bool.not_false, Bool.false_eq_true, Bool.and_true, Bool.true_and, Bool.or_false, Bool.false_or, Nat.add_sub_cancel, Nat.zero_add, Nat.reduceSub, Nat.reduceAdd, e1, words_ok, okR_ok', gTuple_lst, n1, length_ok h, i0, gLen_str g0.sz, g0.length, n6, table_ok h, get_last, hq, n3, e3, n2, set_last]
  refine for_then (F := fun r => outS r = _) (n := ws.length) (fun k env T => (∃ u v : Sl, env = [.v (.d (.lst (ws.map .str))), .v (.d (A ws)), .v (.d (.lst (tabD ws))), .u, .u, .v (.r S.length), u, v, .u]) ∧ T = S ++ [.lst []]) ?_ (by omega) ⟨⟨_, _, rfl⟩, rfl⟩ ?_ ?_
  · simp (config := { dsimp := false }) only [↓reduceIte, DN.bindV_val, DN.bindV_lst, DN.bindV_ob, DN.bindV_dc, DN.bindV_no, DN.bindV_ex, DN.bind_ok, DN.bind_no, DN.bind_ex, DN.sV_val, DN.sV_lst, DN.sV_ob, DN.sV_dc, DN.sV_ex, DN.sB_ok, DN.sB_ex, DN.kSeq_, DN.seqR_nx, DN.seqR_rt, DN.seqR_ex, DN.seqR_no, DN.kRet_, DN.retR_ok, DN.retR_ex, DN.kRetN_, DN.kNext_, DN.loopR_nx, DN.loopR_ct, DN.loopR_bk, DN.loopR_rt, DN.forGo_c, DN.forO_, DN.forGo_n, DN.iVal_, DN.itOf_lst, DN.itOf_tup, DN.kIf_, DN.kExpr_, DN.kSet_, DN.kSetC_, DN.setC_val, DN.setC_new, DN.kAsg_, DN.asgR_d, DN.asgO_, DN.tgN_, DN.tgNil_, DN.tgCons_, DN.tgO_, DN.tgT_, DN.kPar_, DN.parR_, DN.kSub_, DN.kFld_, DN.fVar_, DN.varR_, DN.fC_, DN.fOp_, DN.g2_, DN.g2o_, DN.fUn_, DN.g1_, DN.g1o_, DN.of_some, DN.snap_d, DN.snap_r, DN.snapC_lst, DN.snapC_ob, DN.fNil_, DN.fCons_, DN.fTup_, DN.fLst_, DN.allD_n, DN.allD_c, DN.allC_, DN.gTupD_, DN.gLstD_, DN.tupO_0, DN.lstO_0, DN.tupO_1, DN.lstO_1, DN.tupO_2, DN.lstO_2, DN.tupO_3, DN.lstO_3, DN.tupO_4, DN.lstO_4, DN.tupO_5, DN.lstO_5, DN.tupO_6, DN.lstO_6, DN.tupO_7, DN.lstO_7, DN.fAnd_, DN.fOr_, DN.fNot_, DN.fIf_, DN.onB_, DN.kVal_, DN.kAnd_, DN.kOr_, DN.kNot_, DN.kYes_, DN.fCall_, DN.gA_, DN.gAo_, DN.snaps_n, DN.snaps_c, DN.snapsC_, DN.arg1_, DN.arg12_1, DN.arg12_2, DN.arg2_, DN.onlyIf_t, DN.fCallD_, DN.fMeth_, DN.onT_, DN.onTo_, DN.gM_, DN.gMo_, DN.clsV_r, DN.clsC_lst, DN.clsC_ob, DN.clsV_obj, DN.clsV_int, DN.clsV_bl, DN.clsV_str, DN.clsV_non, DN.clsV_lst, DN.clsV_tup, DN.clsV_scr, DN.fLenD_, DN.lenR_, DN.lenC_n, DN.lenC_s, DN.fIxD_, DN.ixR_, DN.ixC_n, DN.ixC_s, DN.okR_ok, DN.fEqD_, DN.fMethD_, DN.fPropD_, DN.fMakeD_, DN.isi_int_int, DN.isi_int_bool, DN.isi_int_str, DN.isi_str_str, DN.isi_str_int, DN.isi_lst_lst, DN.isi_lst_str, DN.isi_tup_str, DN.isi_tup_tup, DN.isi_lst_lt, DN.isi_tup_lt, DN.isi_str_lt, DN.methR_, DN.methP_, DN.askT_, DN.askP_, DN.fAsk1_, DN.ask1R_, DN.ask1P_, DN.at_cons, beq_self_eq_true, DN.eqR_int, DN.eqR_bl, DN.eqR_str, DN.eqR_lst, DN.eqR_tup, DN.eqR_non, DN.onlyV_bl, DN.onlyV_str, DN.fStrD_, DN.strR_, DN.strC_n, DN.strC_s, DN.fChain_, DN.fSl_, DN.fNoPart_, DN.fPart_, DN.partR_, DN.fDisp_, DN.gSl_lst, DN.gSl_tup, DN.fMut_, DN.gMu_, DN.muC_, DN.muP_, DN.isT_str, DN.isT_lst, DN.gClear_, DN.fCMeth_, DN.cmR_, DN.fMakeL_, DN.mkLR_, DN.makeR_ok, List.append_nil, DN.vB_, DN.vI_, DN.vS_, DN.vT_, DN.nL_, DN.vD_, DN.startE_, DN.outS_nx, DN.outS_rt, DN.outS_ex, List.map, List.nil_append, List.cons_append, List.length_cons, List.length_nil, List.replicate, List.getElem?_cons_zero, List.getElem?_cons_succ, List.getElem?_nil, List.set_cons_zero, List.set_cons_succ, if_true, if_false, ite_true, ite_false, Bool.not_true, Bool.not_false, Bool.false_eq_true, Bool.and_true, Bool.true_and, Bool.or_false, Bool.false_or, Nat.add_sub_cancel, Nat.zero_add, Nat.reduceSub, Nat.reduceAdd, gLen_lst, List.length_map]
  · rintro k env T hk ⟨⟨u, v, rfl⟩, rfl⟩
    refine ⟨[.v (.d (.lst (ws.map .str))), .v (.d (A ws)), .v (.d (.lst (tabD ws))), .u, .u, .v (.r S.length), .v (.d (.int k)), .v (.d (.int ((ws.length - 12 : Nat) : Int))), .u], S ++ [.lst []], ?_, ⟨⟨_, _, rfl⟩, rfl⟩⟩
    have hk' : ws[k]? = some (ws.getD k "") := by rw [List.getD, List.getElem?_eq_getElem hk]; rfl
    have m1 : gMax [.int 0, .int ((ws.length : Int) - 12)] = vI ((ws.length - 12 : Nat) : Int) := by
      show vI _ = vI _
      congr 1
      by_cases q : (ws.length : Int) - 12 > 0
      · rw [if_pos q]; omega
      · rw [if_neg q]; omega
    have r1 : gIx (.lst (tabD ws)) (.int k) = vD (rowD ws (ws.getD k "")) := gIx_lst (by unfold tabD; rw [List.getElem?_map, hk']; rfl)
    have e5 := fLc_rg2 (fl := fCons (fVar 7) (fCons (fLenD [("Addresses", 1, D_Addresses_len)] (fCons (fVar 0) fNil)) fNil)) (fe := fMethD [("Addresses", 3, D_Addresses_apart)] (fVar 1) (fCons (fVar 6) (fCons (fVar 8) fNil))) (vs := [8]) (env := [.v (.d (.lst (ws.map .str))), .v (.d (A ws)), .v (.d (.lst (tabD ws))), .u, .u, .v (.r S.length), .v (.d (.int k)), .v (.d (.int ((ws.length - 12 : Nat) : Int))), .u]) (S := S ++ [.lst []]) (i := 8) (a := ws.length - 12) (b := ws.length) (fun j => .int (dif (ws.getD k "") (ws.getD j "")).length)
      (by simp (config := { dsimp := false }) only [↓reduceIte, DN.bindV_val, DN.bindV_lst, DN.bindV_ob, DN.bindV_dc, DN.bindV_no, DN.bindV_ex, DN.bind_ok, DN.bind_no, DN.bind_ex, DN.sV_val, DN.sV_lst, DN.sV_ob, DN.sV_dc, DN.sV_ex, DN.sB_ok, DN.sB_ex, DN.kSeq_, DN.seqR_nx, DN.seqR_rt, DN.seqR_ex, DN.seqR_no, DN.kRet_, DN.retR_ok, DN.retR_ex, DN.kRetN_, DN.kNext_, DN.loopR_nx, DN.loopR_ct, DN.loopR_bk, DN.loopR_rt, DN.forGo_c, DN.forO_, DN.forGo_n, DN.iVal_, DN.itOf_lst, DN.itOf_tup, DN.kIf_, DN.kExpr_, DN.kSet_, DN.kSetC_, DN.setC_val, DN.setC_new, DN.kAsg_, DN.asgR_d, DN.asgO_, DN.tgN_, DN.tgNil_, DN.tgCons_, DN.tgO_, DN.tgT_, DN.kPar_, DN.parR_, DN.kSub_, DN.kFld_, DN.fVar_, DN.varR_, DN.fC_, DN.fOp_, DN.g2_, DN.g2o_, DN.fUn_, DN.g1_, DN.g1o_, DN.of_some, DN.snap_d, DN.snap_r, DN.snapC_lst, DN.snapC_ob, DN.fNil_, DN.fCons_, DN.fTup_, DN.fLst_, DN.allD_n, DN.allD_c, DN.allC_, DN.gTupD_, DN.gLstD_, DN.tupO_0, DN.lstO_0, DN.tupO_1, DN.lstO_1, DN.tupO_2, DN.lstO_2, DN.tupO_3, DN.lstO_3, DN.tupO_4, DN.lstO_4, DN.tupO_5, DN.lstO_5, DN.tupO_6, DN.lstO_6, DN.tupO_7, DN.lstO_7, DN.fAnd_, DN.fOr_, DN.fNot_, DN.fIf_, DN.onB_, DN.kVal_, DN.kAnd_, DN.kOr_, DN.kNot_, DN.kYes_, DN.fCall_, DN.gA_, DN.gAo_, DN.snaps_n, DN.snaps_c, DN.snapsC_, DN.arg1_, DN.arg12_1, DN.arg12_2, DN.arg2_, DN.onlyIf_t, DN.fCallD_, DN.fMeth_, DN.onT_, DN.onTo_, DN.gM_, DN.gMo_, DN.clsV_r, DN.clsC_lst, DN.clsC_ob, DN.clsV_obj, DN.clsV_int, DN.clsV_bl, DN.clsV_str, DN.clsV_non, DN.clsV_lst, DN.clsV_tup, DN.clsV_scr, DN.fLenD_, DN.lenR_, DN.lenC_n, DN.lenC_s, DN.fIxD_, DN.ixR_, DN.ixC_n, DN.ixC_s, DN.okR_ok, DN.fEqD_, DN.fMethD_, DN.fPropD_, DN.fMakeD_, DN.isi_int_int, DN.isi_int_bool, DN.isi_int_str, DN.isi_str_str, DN.isi_str_int, DN.isi_lst_lst, DN.isi_lst_str, DN.isi_tup_str, DN.isi_tup_tup, DN.isi_lst_lt, DN.isi_tup_lt, DN.isi_str_lt, DN.methR_, DN.methP_, DN.askT_, DN.askP_, DN.fAsk1_, DN.ask1R_, DN.ask1P_, DN.at_cons, beq_self_eq_true, DN.eqR_int, DN.eqR_bl, DN.eqR_str, DN.eqR_lst, DN.eqR_tup, DN.eqR_non, DN.onlyV_bl, DN.onlyV_str, DN.fStrD_, DN.strR_, DN.strC_n, DN.strC_s, DN.fChain_, DN.fSl_, DN.fNoPart_, DN.fPart_, DN.partR_, DN.fDisp_, DN.gSl_lst, DN.gSl_tup, DN.fMut_, DN.gMu_, DN.muC_, DN.muP_, DN.isT_str, DN.isT_lst, DN.gClear_, DN.fCMeth_, DN.cmR_, DN.fMakeL_, DN.mkLR_, DN.makeR_ok, List.append_nil, DN.vB_, DN.vI_, DN.vS_, DN.vT_, DN.nL_, DN.vD_, DN.startE_, DN.outS_nx, DN.outS_rt, DN.outS_ex, List.map, List.nil_append, List.cons_append, List.length_cons, List.length_nil, List.replicate, List.getElem?_cons_zero, List.getElem?_cons_succ, List.getElem?_nil, List.set_cons_zero, List.set_cons_succ, if_true, if_false, ite_true, ite_false, Bool.not_true, Bool.not_false, Bool.false_eq_true, Bool.and_true, Bool.true_and, Bool.or_false, Bool.false_or, Nat.add_sub_cancel, Nat.zero_add, Nat.reduceSub, Nat.reduceAdd, gLen_lst, List.length_map]) (by omega) (by omega) (fun j _ hj => by
        have hj' : ws[j]? = some (ws.getD j "") := by rw [List.getD, List.getElem?_eq_getElem hj]; rfl
        simp (config := { dsimp := false }) only [↓reduceIte, DN.bindV_val, DN.bindV_lst, DN.bindV_ob, DN.bindV_dc, DN.bindV_no, DN.bindV_ex, DN.bind_ok, DN.bind_no, DN.bind_ex, DN.sV_val, DN.sV_lst, DN.sV_ob, DN.sV_dc, DN.sV_ex, DN.sB_ok, DN.sB_ex, DN.kSeq_, DN.seqR_nx, DN.seqR_rt, DN.seqR_ex, DN.seqR_no, DN.kRet_, DN.retR_ok, DN.retR_ex, DN.kRetN_, DN.kNext_, DN.loopR_nx, DN.loopR_ct, DN.loopR_bk, DN.loopR_rt, DN.forGo_c, DN.forO_, DN.forGo_n, DN.iVal_, DN.itOf_lst, DN.itOf_tup, DN.kIf_, DN.kExpr_, DN.kSet_, DN.kSetC_, DN.setC_val, DN.setC_new, DN.kAsg_, DN.asgR_d, DN.asgO_, DN.tgN_, DN.tgNil_, DN.tgCons_, DN.tgO_, DN.tgT_, DN.kPar_, DN.parR_, DN.kSub_, DN.kFld_, DN.fVar_, DN.varR_, DN.fC_, DN.fOp_, DN.g2_, DN.g2o_, DN.fUn_, DN.g1_, DN.g1o_, DN.of_some, DN.snap_d, DN.snap_r, DN.snapC_lst, DN.snapC_ob, DN.fNil_, DN.fCons_, DN.fTup_, DN.fLst_, DN.allD_n, DN.allD_c, DN.allC_, DN.gTupD_, DN.gLstD_, DN.tupO_0, DN.lstO_0, DN.tupO_1, DN.lstO_1, DN.tupO_2, DN.lstO_2, DN.tupO_3, DN.lstO_3, DN.tupO_4, DN.lstO_4, DN.tupO_5, DN.lstO_5, DN.tupO_6, DN.lstO_6, DN.tupO_7, DN.lstO_7, DN.fAnd_, DN.fOr_, DN.fNot_, DN.fIf_, DN.onB_, DN.kVal_, DN.kAnd_, DN.kOr_, DN.kNot_, DN.kYes_, DN.fCall_, DN.gA_, DN.gAo_, DN.snaps_n, DN.snaps_c, DN.snapsC_, DN.arg1_, DN.arg12_1, DN.arg12_2, DN.arg2_, DN.onlyIf_t, DN.fCallD_, DN.fMeth_, DN.onT_, DN.onTo_, DN.gM_, DN.gMo_, DN.clsV_r, DN.clsC_lst, DN.clsC_ob, DN.clsV_obj, DN.clsV_int, DN.clsV_bl, DN.clsV_str, DN.clsV_non, DN.clsV_lst, DN.clsV_tup, DN.clsV_scr, DN.fLenD_, DN.lenR_, DN.lenC_n, DN.lenC_s, DN.fIxD_, DN.ixR_, DN.ixC_n, DN.ixC_s, DN.okR_ok, DN.fEqD_, DN.fMethD_, DN.fPropD_, DN.fMakeD_, DN.isi_int_int, DN.isi_int_bool, DN.isi_int_str, DN.isi_str_str, DN.isi_str_int, DN.isi_lst_lst, DN.isi_lst_str, DN.isi_tup_str, DN.isi_tup_tup, DN.isi_lst_lt, DN.isi_tup_lt, DN.isi_str_lt, DN.methR_, DN.methP_, DN.askT_, DN.askP_, DN.fAsk1_, DN.ask1R_, DN.ask1P_, DN.at_cons, beq_self_eq_true, DN.eqR_int, DN.eqR_bl, DN.eqR_str, DN.eqR_lst, DN.eqR_tup, DN.eqR_non, DN.onlyV_bl, DN.onlyV_str, DN.fStrD_, DN.strR_, DN.strC_n, DN.strC_s, DN.fChain_, DN.fSl_, DN.fNoPart_, DN.fPart_, DN.partR_, DN.fDisp_, DN.gSl_lst, DN.gSl_tup, DN.fMut_, DN.gMu_, DN.muC_, DN.muP_, DN.isT_str, DN.isT_lst, DN.gClear_, DN.fCMeth_, DN.cmR_, DN.fMakeL_, DN.mkLR_, DN.makeR_ok, List.append_nil, DN.vB_, DN.vI_, DN.vS_, DN.vT_, DN.nL_, DN.vD_, DN.startE_, DN.outS_nx, DN.outS_rt, DN.outS_ex, List.map, List.nil_append, List.cons_append, List.length_cons, List.length_nil, List.replicate, List.getElem?_cons_zero, List.getElem?_cons_succ, List.getElem?_nil, List.set_cons_zero, List.set_cons_succ, if_true, if_false, ite_true, ite_false, Bool.not_true, Bool.not_false, Bool.false_eq_true, Bool.and_true, Bool.true_and, Bool.or_false, Bool.false_or, Nat.add_sub_cancel, Nat.zero_add, Nat.reduceSub, Nat.reduceAdd, wipeE, meth_apart_ok h hk' hj']
        exact got_val)
    have e6 : (List.range (ws.length - (ws.length - 12))).map (fun j => Dv.int (dif (ws.getD k "") (ws.getD (ws.length - 12 + j) "")).length) = (ws.map fun b => Dv.int (dif (ws.getD k "") b).length).drop (ws.length - 12) := by
      apply List.ext_getElem?
      intro j
      by_cases hj : j < ws.length - (ws.length - 12)
      · have : ws.length - 12 + j < ws.length := by omega
        simp [List.getElem?_map, List.getElem?_range hj, List.getD, List.getElem?_eq_getElem this]
      · rw [List.getElem?_eq_none, List.getElem?_eq_none] <;> simp <;> omega
    rw [e6] at e5
    have c1 : cutL (ws.map fun b => Dv.int (dif (ws.getD k "") b).length) (some ((ws.length - 12 : Nat) : Int)) none = (ws.map fun b => Dv.int (dif (ws.getD k "") b).length).drop (ws.length - 12) := cutL_from (by simp)
    have n7 : gNe (.lst ((ws.map fun b => Dv.int (dif (ws.getD k "") b).length).drop (ws.length - 12))) (.lst ((ws.map fun b => Dv.int (dif (ws.getD k "") b).length).drop (ws.length - 12))) = vB false := gNe_refl (okNs_all fun d hd => by
      obtain ⟨b, _, rfl⟩ := List.mem_map.mp (List.mem_of_mem_drop hd)
      exact okN_int)
    simp (config := { dsimp := false }) only [↓reduceIte, DN.bindV_val, DN.bindV_lst, DN.bindV_ob, DN.bindV_dc, DN.bindV_no, DN.bindV_ex, DN.bind_ok, DN.bind_no, DN.bind_ex, DN.sV_val, DN.sV_lst, DN.sV_ob, DN.sV_dc, DN.sV_ex, DN.sB_ok, DN.sB_ex, DN.kSeq_, DN.seqR_nx, DN.seqR_rt, DN.seqR_ex, DN.seqR_no, DN.kRet_, DN.retR_ok, DN.retR_ex, DN.kRetN_, DN.kNext_, DN.loopR_nx, DN.loopR_ct, DN.loopR_bk, DN.loopR_rt, DN.forGo_c, DN.forO_, DN.forGo_n, DN.iVal_, DN.itOf_lst, DN.itOf_tup, DN.kIf_, DN.kExpr_, DN.kSet_, DN.kSetC_, DN.setC_val, DN.setC_new, DN.kAsg_, DN.asgR_d, DN.asgO_, DN.tgN_, DN.tgNil_, DN.tgCons_, DN.tgO_, DN.tgT_, DN.kPar_, DN.parR_, DN.kSub_, DN.kFld_, DN.fVar_, DN.varR_, DN.fC_, DN.fOp_, DN.g2_, DN.g2o_, DN.fUn_, DN.g1_, DN.g1o_, DN.of_some, DN.snap_d, DN.snap_r, DN.snapC_lst, DN.snapC_ob, DN.fNil_, DN.fCons_, DN.fTup_, DN.fLst_, DN.allD_n, DN.allD_c, DN.allC_, DN.gTupD_, DN.gLstD_, DN.tupO_0, DN.lstO_0, DN.tupO_1, DN.lstO_1, DN.tupO_2, DN.lstO_2, DN.tupO_3, DN.lstO_3, DN.tupO_4, DN.lstO_4, DN.tupO_5, DN.lstO_5, DN.tupO_6, DN.lstO_6, DN.tupO_7, DN.lstO_7, DN.fAnd_, DN.fOr_, DN.fNot_, DN.fIf_, DN.onB_, DN.kVal_, DN.kAnd_, DN.kOr_, DN.kNot_, DN.kYes_, DN.fCall_, DN.gA_, DN.gAo_, DN.snaps_n, DN.snaps_c, DN.snapsC_, DN.arg1_, DN.arg12_1, DN.arg12_2, DN.arg2_, DN.onlyIf_t, DN.fCallD_, DN.fMeth_, DN.onT_, DN.onTo_, DN.gM_, DN.gMo_, DN.clsV_r, DN.clsC_lst, DN.clsC_ob, DN.clsV_obj, DN.clsV_int, DN.clsV_bl, DN.clsV_str, DN.clsV_non, DN.clsV_lst, DN.clsV_tup, DN.clsV_scr, DN.fLenD_, DN.lenR_, DN.lenC_n, DN.lenC_s, DN.fIxD_, DN.ixR_, DN.ixC_n, DN.ixC_s, DN.okR_ok, DN.fEqD_, DN.fMethD_, DN.fPropD_, DN.fMakeD_, DN.isi_int_int, DN.isi_int_bool, DN.isi_int_str, DN.isi_str_str, DN.isi_str_int, DN.isi_lst_lst, DN.isi_lst_str, DN.isi_tup_str, DN.isi_tup_tup, DN.isi_lst_lt, DN.isi_tup_lt, DN.isi_str_lt, DN.methR_, DN.methP_, DN.askT_, DN.askP_, DN.fAsk1_, DN.ask1R_, DN.ask1P_, DN.at_cons, beq_self_eq_true, DN.eqR_int, DN.eqR_bl, DN.eqR_str, DN.eqR_lst, DN.eqR_tup, DN.eqR_non, DN.onlyV_bl, DN.onlyV_str, DN.fStrD_, DN.strR_, DN.strC_n, DN.strC_s, DN.fChain_, DN.fSl_, DN.fNoPart_, DN.fPart_, DN.partR_, DN.fDisp_, DN.gSl_lst, DN.gSl_tup, DN.fMut_, DN.gMu_, DN.muC_, DN.muP_, DN.isT_str, DN.isT_lst, DN.gClear_, DN.fCMeth_, DN.cmR_, DN.fMakeL_, DN.mkLR_, DN.makeR_ok, List.append_nil, DN.vB_, DN.vI_, DN.vS_, DN.vT_, DN.nL_, DN.vD_, DN.startE_, DN.outS_nx, DN.outS_rt, DN.outS_ex, List.map, List.nil_append, List.cons_append, List.length_cons, List.length_nil, List.replicate, List.getElem?_cons_zero, List.getElem?_cons_succ, List.getElem?_nil, List.set_cons_zero, List.set_cons_succ, if_true, if_false, ite_true, ite_false, Bool.not_true, Bool.not_false, Bool.false_eq_true, Bool.and_true, Bool.true_and, Bool.or_false, Bool.false_or, Nat.add_sub_cancel, Nat.zero_add, Nat.reduceSub, Nat.reduceAdd, gLen_lst, List.length_map, gSub_, m1, e5, r1, rowD, c1, gList_tup, n7]
  · rintro env' S' ⟨⟨u, v, rfl⟩, rfl⟩
    simp (config := { dsimp := false }) only [↓reduceIte, DN.bindV_val, DN.bindV_lst, DN.bindV_ob, DN.bindV_dc, DN.bindV_no, DN.bindV_ex, DN.bind_ok, DN.bind_no, DN.bind_ex, DN.sV_val, DN.sV_lst, DN.sV_ob, DN.sV_dc, DN.sV_ex, DN.sB_ok, DN.sB_ex, DN.kSeq_, DN.seqR_nx, DN.seqR_rt, DN.seqR_ex, DN.seqR_no, DN.kRet_, DN.retR_ok, DN.retR_ex, DN.kRetN_, DN.kNext_, DN.loopR_nx, DN.loopR_ct, DN.loopR_bk, DN.loopR_rt, DN.forGo_c, DN.forO_, DN.forGo_n, DN.iVal_, DN.itOf_lst, DN.itOf_tup, DN.kIf_, DN.kExpr_, DN.kSet_, DN.kSetC_, DN.setC_val, DN.setC_new, DN.kAsg_, DN.asgR_d, DN.asgO_, DN.tgN_, DN.tgNil_, DN.tgCons_, DN.tgO_, DN.tgT_, DN.kPar_, DN.parR_, DN.kSub_, DN.kFld_, DN.fVar_, DN.varR_, DN.fC_, DN.fOp_, DN.g2_, DN.g2o_, DN.fUn_, DN.g1_, DN.g1o_, DN.of_some, DN.snap_d, DN.snap_r, DN.snapC_lst, DN.snapC_ob, DN.fNil_, DN.fCons_, DN.fTup_, DN.fLst_, DN.allD_n, DN.allD_c, DN.allC_, DN.gTupD_, DN.gLstD_, DN.tupO_0, DN.lstO_0, DN.tupO_1, DN.lstO_1, DN.tupO_2, DN.lstO_2, DN.tupO_3, DN.lstO_3, DN.tupO_4, DN.lstO_4, DN.tupO_5, DN.lstO_5, DN.tupO_6, DN.lstO_6, DN.tupO_7, DN.lstO_7, DN.fAnd_, DN.fOr_, DN.fNot_, DN.fIf_, DN.onB_, DN.kVal_, DN.kAnd_, DN.kOr_, DN.kNot_, DN.kYes_, DN.fCall_, DN.gA_, DN.gAo_, DN.snaps_n, DN.snaps_c, DN.snapsC_, DN.arg1_, DN.arg12_1, DN.arg12_2, DN.arg2_, DN.onlyIf_t, DN.fCallD_, DN.fMeth_, DN.onT_, DN.onTo_, DN.gM_, DN.gMo_, DN.clsV_r, DN.clsC_lst, DN.clsC_ob, DN.clsV_obj, DN.clsV_int, DN.clsV_bl, DN.clsV_str, DN.clsV_non, DN.clsV_lst, DN.clsV_tup, DN.clsV_scr, DN.fLenD_, DN.lenR_, DN.lenC_n, DN.lenC_s, DN.fIxD_, DN.ixR_, DN.ixC_n, DN.ixC_s, DN.okR_ok, DN.fEqD_, DN.fMethD_, DN.fPropD_, DN.fMakeD_, DN.isi_int_int, DN.isi_int_bool, DN.isi_int_str, DN.isi_str_str, DN.isi_str_int, DN.isi_lst_lst, DN.isi_lst_str, DN.isi_tup_str, DN.isi_tup_tup, DN.isi_lst_lt, DN.isi_tup_lt, DN.isi_str_lt, DN.methR_, DN.methP_, DN.askT_, DN.askP_, DN.fAsk1_, DN.ask1R_, DN.ask1P_, DN.at_cons, beq_self_eq_true, DN.eqR_int, DN.eqR_bl, DN.eqR_str, DN.eqR_lst, DN.eqR_tup, DN.eqR_non, DN.onlyV_bl, DN.onlyV_str, DN.fStrD_, DN.strR_, DN.strC_n, DN.strC_s, DN.fChain_, DN.fSl_, DN.fNoPart_, DN.fPart_, DN.partR_, DN.fDisp_, DN.gSl_lst, DN.gSl_tup, DN.fMut_, DN.gMu_, DN.muC_, DN.muP_, DN.isT_str, DN.isT_lst, DN.gClear_, DN.fCMeth_, DN.cmR_, DN.fMakeL_, DN.mkLR_, DN.makeR_ok, List.append_nil, DN.vB_, DN.vI_, DN.vS_, DN.vT_, DN.nL_, DN.vD_, DN.startE_, DN.outS_nx, DN.outS_rt, DN.outS_ex, List.map, List.nil_append, List.cons_append, List.length_cons, List.length_nil, List.replicate, List.getElem?_cons_zero, List.getElem?_cons_succ, List.getElem?_nil, List.set_cons_zero, List.set_cons_succ, if_true, if_false, ite_true, ite_false, Bool.not_true, Bool.not_false, Bool.false_eq_true, Bool.and_true, Bool.true_and, Bool.or_false, Bool.false_or, Nat.add_sub_cancel, Nat.zero_add, Nat.reduceSub, Nat.reduceAdd, table_ok h, n4, str_ok h, join_lst h, n5]
end Q12

namespace Q12
open DN PySem
theorem eq_lst {ws : List Str} {l : List Dv} {S : Sto} : D_Addresses_eq [.d (A ws), .d (.lst l)] S = .ok S (.val (.d (.bl false))) := by
  refine def_pure ?_
  simp (config := { dsimp := false }) only [↓reduceIte, DN.bindV_val, DN.bindV_lst, DN.bindV_ob, DN.bindV_dc, DN.bindV_no, DN.bindV_ex, DN.bind_ok, DN.bind_no, DN.bind_ex, DN.sV_val, DN.sV_lst, DN.sV_ob, DN.sV_dc, DN.sV_ex, DN.sB_ok, DN.sB_ex, DN.kSeq_, DN.seqR_nx, DN.seqR_rt, DN.seqR_ex, DN.seqR_no, DN.kRet_, DN.retR_ok, DN.retR_ex, DN.kRetN_, DN.kNext_, DN.loopR_nx, DN.loopR_ct, DN.loopR_bk, DN.loopR_rt, DN.forGo_c, DN.forO_, DN.forGo_n, DN.iVal_, DN.itOf_lst, DN.itOf_tup, DN.kIf_, DN.kExpr_, DN.kSet_, DN.kSetC_, DN.setC_val, DN.setC_new, DN.kAsg_, DN.asgR_d, DN.asgO_, DN.tgN_, DN.tgNil_, DN.tgCons_, DN.tgO_, DN.tgT_, DN.kPar_, DN.parR_, DN.kSub_, DN.kFld_, DN.fVar_, DN.varR_, DN.fC_, DN.fOp_, DN.g2_, DN.g2o_, DN.fUn_, DN.g1_, DN.g1o_, DN.of_some, DN.snap_d, DN.snap_r, DN.snapC_lst, DN.snapC_ob, DN.fNil_, DN.fCons_, DN.fTup_, DN.fLst_, DN.allD_n, DN.allD_c, DN.allC_, DN.gTupD_, DN.gLstD_, DN.tupO_0, DN.lstO_0, DN.tupO_1, DN.lstO_1, DN.tupO_2, DN.lstO_2, DN.tupO_3, DN.lstO_3, DN.tupO_4, DN.lstO_4, DN.tupO_5, DN.lstO_5, DN.tupO_6, DN.lstO_6, DN.tupO_7, DN.lstO_7, DN.fAnd_, DN.fOr_, DN.fNot_, DN.fIf_, DN.onB_, DN.kVal_, DN.kAnd_, DN.kOr_, DN.kNot_, DN.kYes_, DN.fCall_, DN.gA_, DN.gAo_, DN.snaps_n, DN.snaps_c, DN.snapsC_, DN.arg1_, DN.arg12_1, DN.arg12_2, DN.arg2_, DN.onlyIf_t, DN.fCallD_, DN.fMeth_, DN.onT_, DN.onTo_, DN.gM_, DN.gMo_, DN.clsV_r, DN.clsC_lst, DN.clsC_ob, DN.clsV_obj, DN.clsV_int, DN.clsV_bl, DN.clsV_str, DN.clsV_non, DN.clsV_lst, DN.clsV_tup, DN.clsV_scr, DN.fLenD_, DN.lenR_, DN.lenC_n, DN.lenC_s, DN.fIxD_, DN.ixR_, DN.ixC_n, DN.ixC_s, DN.okR_ok, DN.fEqD_, DN.fMethD_, DN.fPropD_, DN.fMakeD_, DN.isi_int_int, DN.isi_int_bool, DN.isi_int_str, DN.isi_str_str, DN.isi_str_int, DN.isi_lst_lst, DN.isi_lst_str, DN.isi_tup_str, DN.isi_tup_tup, DN.isi_lst_lt, DN.isi_tup_lt, DN.isi_str_lt, DN.methR_, DN.methP_, DN.askT_, DN.askP_, DN.fAsk1_, DN.ask1R_, DN.ask1P_, DN.at_cons, beq_self_eq_true, DN.eqR_int, DN.eqR_bl, DN.eqR_str, DN.eqR_lst, DN.eqR_tup, DN.eqR_non, DN.onlyV_bl, DN.onlyV_str, DN.fStrD_, DN.strR_, DN.strC_n, DN.strC_s, DN.fChain_, DN.fSl_, DN.fNoPart_, DN.fPart_, DN.partR_, DN.fDisp_, DN.gSl_lst, DN.gSl_tup, DN.fMut_, DN.gMu_, DN.muC_, DN.muP_, DN.isT_str, DN.isT_lst, DN.gClear_, DN.fCMeth_, DN.cmR_, DN.fMakeL_, DN.mkLR_, DN.makeR_ok, List.append_nil, DN.vB_, DN.vI_, DN.vS_, DN.vT_, DN.nL_, DN.vD_, DN.startE_, DN.outS_nx, DN.outS_rt, DN.outS_ex, List.map, List.nil_append, List.cons_append, List.length_cons, List.length_nil, List.replicate, List.getElem?_cons_zero, List.getElem?_cons_succ, List.getElem?_nil, List.set_cons_zero, List.set_cons_succ, if_true, if_false, ite_true, ite_false, Bool.not_true, Bool.not_false, Bool.false_eq_true, Bool.and_true, Bool.true_and, Bool.or_false, Bool.false_or, Nat.add_sub_cancel, Nat.zero_add, Nat.reduceSub, Nat.reduceAdd, show gIsi ["Addresses"] (.lst l) (.cls "Addresses") = vB false from rfl]
theorem eq_tup {ws : List Str} {l : List Dv} {S : Sto} : D_Addresses_eq [.d (A ws), .d (.tup l)] S = .ok S (.val (.d (.bl false))) := by
  refine def_pure ?_
  simp (config := { dsimp := false }) only [↓reduceIte, DN.bindV_val, DN.bindV_lst, DN.bindV_ob, DN.bindV_dc, DN.bindV_no, DN.bindV_ex, DN.bind_ok, DN.bind_no, DN.bind_ex, DN.sV_val, DN.sV_lst, DN.sV_ob, DN.sV_dc, DN.sV_ex, DN.sB_ok, DN.sB_ex, DN.kSeq_, DN.seqR_nx, DN.seqR_rt, DN.seqR_ex, DN.seqR_no, DN.kRet_, DN.retR_ok, DN.retR_ex, DN.kRetN_, DN.kNext_, DN.loopR_nx, DN.loopR_ct, DN.loopR_bk, DN.loopR_rt, DN.forGo_c, DN.forO_, DN.forGo_n, DN.iVal_, DN.itOf_lst, DN.itOf_tup, DN.kIf_, DN.kExpr_, DN.kSet_, DN.kSetC_, DN.setC_val, DN.setC_new, DN.kAsg_, DN.asgR_d, DN.asgO_, DN.tgN_, DN.tgNil_, DN.tgCons_, DN.tgO_, DN.tgT_, DN.kPar_, DN.parR_, DN.kSub_, DN.kFld_, DN.fVar_, DN.varR_, DN.fC_, DN.fOp_, DN.g2_, DN.g2o_, DN.fUn_, DN.g1_, DN.g1o_, DN.of_some, DN.snap_d, DN.snap_r, DN.snapC_lst, DN.snapC_ob, DN.fNil_, DN.fCons_, DN.fTup_, DN.fLst_, DN.allD_n, DN.allD_c, DN.allC_, DN.gTupD_, DN.gLstD_, DN.tupO_0, DN.lstO_0, DN.tupO_1, DN.lstO_1, DN.tupO_2, DN.lstO_2, DN.tupO_3, DN.lstO_3, DN.tupO_4, DN.lstO_4, DN.tupO_5, DN.lstO_5, DN.tupO_6, DN.lstO_6, DN.tupO_7, DN.lstO_7, DN.fAnd_, DN.fOr_, DN.fNot_, DN.fIf_, DN.onB_, DN.kVal_, DN.kAnd_, DN.kOr_, DN.kNot_, DN.kYes_, DN.fCall_, DN.gA_, DN.gAo_, DN.snaps_n, DN.snaps_c, DN.snapsC_, DN.arg1_, DN.arg12_1, DN.arg12_2, DN.arg2_, DN.onlyIf_t, DN.fCallD_, DN.fMeth_, DN.onT_, DN.onTo_, DN.gM_, DN.gMo_, DN.clsV_r, DN.clsC_lst, DN.clsC_ob, DN.clsV_obj, DN.clsV_int, DN.clsV_bl, DN.clsV_str, DN.clsV_non, DN.clsV_lst, DN.clsV_tup, DN.clsV_scr, DN.fLenD_, DN.lenR_, DN.lenC_n, DN.lenC_s, DN.fIxD_, DN.ixR_, DN.ixC_n, DN.ixC_s, DN.okR_ok, DN.fEqD_, DN.fMethD_, DN.fPropD_, DN.fMakeD_, DN.isi_int_int, DN.isi_int_bool, DN.isi_int_str, DN.isi_str_str, DN.isi_str_int, DN.isi_lst_lst, DN.isi_lst_str, DN.isi_tup_str, DN.isi_tup_tup, DN.isi_lst_lt, DN.isi_tup_lt, DN.isi_str_lt, DN.methR_, DN.methP_, DN.askT_, DN.askP_, DN.fAsk1_, DN.ask1R_, DN.ask1P_, DN.at_cons, beq_self_eq_true, DN.eqR_int, DN.eqR_bl, DN.eqR_str, DN.eqR_lst, DN.eqR_tup, DN.eqR_non, DN.onlyV_bl, DN.onlyV_str, DN.fStrD_, DN.strR_, DN.strC_n, DN.strC_s, DN.fChain_, DN.fSl_, DN.fNoPart_, DN.fPart_, DN.partR_, DN.fDisp_, DN.gSl_lst, DN.gSl_tup, DN.fMut_, DN.gMu_, DN.muC_, DN.muP_, DN.isT_str, DN.isT_lst, DN.gClear_, DN.fCMeth_, DN.cmR_, DN.fMakeL_, DN.mkLR_, DN.makeR_ok, List.append_nil, DN.vB_, DN.vI_, DN.vS_, DN.vT_, DN.nL_, DN.vD_, DN.startE_, DN.outS_nx, DN.outS_rt, DN.outS_ex, List.map, List.nil_append, List.cons_append, List.length_cons, List.length_nil, List.replicate, List.getElem?_cons_zero, List.getElem?_cons_succ, List.getElem?_nil, List.set_cons_zero, List.set_cons_succ, if_true, if_false, ite_true, ite_false, Bool.not_true, Bool.not_false, Bool.false_eq_true, Bool.and_true, Bool.true_and, Bool.or_false, Bool.false_or, Nat.add_sub_cancel, Nat.zero_add, Nat.reduceSub, Nat.reduceAdd, show gIsi ["Addresses"] (.tup l) (.cls "Addresses") = vB false from rfl]
theorem eq_str {ws : List Str} {l : Str} {S : Sto} : D_Addresses_eq [.d (A ws), .d (.str l)] S = .ok S (.val (.d (.bl false))) := by
  refine def_pure ?_
  simp (config := { dsimp := false }) only [↓reduceIte, DN.bindV_val, DN.bindV_lst, DN.bindV_ob, DN.bindV_dc, DN.bindV_no, DN.bindV_ex, DN.bind_ok, DN.bind_no, DN.bind_ex, DN.sV_val, DN.sV_lst, DN.sV_ob, DN.sV_dc, DN.sV_ex, DN.sB_ok, DN.sB_ex, DN.kSeq_, DN.seqR_nx, DN.seqR_rt, DN.seqR_ex, DN.seqR_no, DN.kRet_, DN.retR_ok, DN.retR_ex, DN.kRetN_, DN.kNext_, DN.loopR_nx, DN.loopR_ct, DN.loopR_bk, DN.loopR_rt, DN.forGo_c, DN.forO_, DN.forGo_n, DN.iVal_, DN.itOf_lst, DN.itOf_tup, DN.kIf_, DN.kExpr_, DN.kSet_, DN.kSetC_, DN.setC_val, DN.setC_new, DN.kAsg_, DN.asgR_d, DN.asgO_, DN.tgN_, DN.tgNil_, DN.tgCons_, DN.tgO_, DN.tgT_, DN.kPar_, DN.parR_, DN.kSub_, DN.kFld_, DN.fVar_, DN.varR_, DN.fC_, DN.fOp_, DN.g2_, DN.g2o_, DN.fUn_, DN.g1_, DN.g1o_, DN.of_some, DN.snap_d, DN.snap_r, DN.snapC_lst, DN.snapC_ob, DN.fNil_, DN.fCons_, DN.fTup_, DN.fLst_, DN.allD_n, DN.allD_c, DN.allC_, DN.gTupD_, DN.gLstD_, DN.tupO_0, DN.lstO_0, DN.tupO_1, DN.lstO_1, DN.tupO_2, DN.lstO_2, DN.tupO_3, DN.lstO_3, DN.tupO_4, DN.lstO_4, DN.tupO_5, DN.lstO_5, DN.tupO_6, DN.lstO_6, DN.tupO_7, DN.lstO_7, DN.fAnd_, DN.fOr_, DN.fNot_, DN.fIf_, DN.onB_, DN.kVal_, DN.kAnd_, DN.kOr_, DN.kNot_, DN.kYes_, DN.fCall_, DN.gA_, DN.gAo_, DN.snaps_n, DN.snaps_c, DN.snapsC_, DN.arg1_, DN.arg12_1, DN.arg12_2, DN.arg2_, DN.onlyIf_t, DN.fCallD_, DN.fMeth_, DN.onT_, DN.onTo_, DN.gM_, DN.gMo_, DN.clsV_r, DN.clsC_lst, DN.clsC_ob, DN.clsV_obj, DN.clsV_int, DN.clsV_bl, DN.clsV_str, DN.clsV_non, DN.clsV_lst, DN.clsV_tup, DN.clsV_scr, DN.fLenD_, DN.lenR_, DN.lenC_n, DN.lenC_s, DN.fIxD_, DN.ixR_, DN.ixC_n, DN.ixC_s, DN.okR_ok, DN.fEqD_, DN.fMethD_, DN.fPropD_, DN.fMakeD_, DN.isi_int_int, DN.isi_int_bool, DN.isi_int_str, DN.isi_str_str, DN.isi_str_int, DN.isi_lst_lst, DN.isi_lst_str, DN.isi_tup_str, DN.isi_tup_tup, DN.isi_lst_lt, DN.isi_tup_lt, DN.isi_str_lt, DN.methR_, DN.methP_, DN.askT_, DN.askP_, DN.fAsk1_, DN.ask1R_, DN.ask1P_, DN.at_cons, beq_self_eq_true, DN.eqR_int, DN.eqR_bl, DN.eqR_str, DN.eqR_lst, DN.eqR_tup, DN.eqR_non, DN.onlyV_bl, DN.onlyV_str, DN.fStrD_, DN.strR_, DN.strC_n, DN.strC_s, DN.fChain_, DN.fSl_, DN.fNoPart_, DN.fPart_, DN.partR_, DN.fDisp_, DN.gSl_lst, DN.gSl_tup, DN.fMut_, DN.gMu_, DN.muC_, DN.muP_, DN.isT_str, DN.isT_lst, DN.gClear_, DN.fCMeth_, DN.cmR_, DN.fMakeL_, DN.mkLR_, DN.makeR_ok, List.append_nil, DN.vB_, DN.vI_, DN.vS_, DN.vT_, DN.nL_, DN.vD_, DN.startE_, DN.outS_nx, DN.outS_rt, DN.outS_ex, List.map, List.nil_append, List.cons_append, List.length_cons, List.length_nil, List.replicate, List.getElem?_cons_zero, List.getElem?_cons_succ, List.getElem?_nil, List.set_cons_zero, List.set_cons_succ, if_true, if_false, ite_true, ite_false, Bool.not_true, Bool.not_false, Bool.false_eq_true, Bool.and_true, Bool.true_and, Bool.or_false, Bool.false_or, Nat.add_sub_cancel, Nat.zero_add, Nat.reduceSub, Nat.reduceAdd, show gIsi ["Addresses"] (.str l) (.cls "Addresses") = vB false from rfl]
theorem law_true (ns : List Int) (hn : ns.length ≤ 63) : ∃ S, D_law [.d (.scr ns)] [] = .ok S (.val (.d (.bl true))) := by
  obtain ⟨m, hm, em⟩ : ∃ m : Nat, m ≤ 6 ∧ gMax [.int 2, .int (if (ns.length : Int) < 6 then (ns.length : Int) else 6)] = vI m := by
    refine ⟨max 2 (min 6 ns.length), by omega, ?_⟩
    show vI _ = vI _
    congr 1
    split <;> split <;> omega
  have em2 : gMin [.int 6, .int (ns.length : Int)] = vI (if (ns.length : Int) < 6 then (ns.length : Int) else 6) := rfl
  unfold D_law defD
  simp (config := { dsimp := false }) only [↓reduceIte, DN.bindV_val, DN.bindV_lst, DN.bindV_ob, DN.bindV_dc, DN.bindV_no, DN.bindV_ex, DN.bind_ok, DN.bind_no, DN.bind_ex, DN.sV_val, DN.sV_lst, DN.sV_ob, DN.sV_dc, DN.sV_ex, DN.sB_ok, DN.sB_ex, DN.kSeq_, DN.seqR_nx, DN.seqR_rt, DN.seqR_ex, DN.seqR_no, DN.kRet_, DN.retR_ok, DN.retR_ex, DN.kRetN_, DN.kNext_, DN.loopR_nx, DN.loopR_ct, DN.loopR_bk, DN.loopR_rt, DN.forGo_c, DN.forO_, DN.forGo_n, DN.iVal_, DN.itOf_lst, DN.itOf_tup, DN.kIf_, DN.kExpr_, DN.kSet_, DN.kSetC_, DN.setC_val, DN.setC_new, DN.kAsg_, DN.asgR_d, DN.asgO_, DN.tgN_, DN.tgNil_, DN.tgCons_, DN.tgO_, DN.tgT_, DN.kPar_, DN.parR_, DN.kSub_, DN.kFld_, DN.fVar_, DN.varR_, DN.fC_, DN.fOp_, DN.g2_, DN.g2o_, DN.fUn_, DN.g1_, DN.g1o_, DN.of_some, DN.snap_d, DN.snap_r, DN.snapC_lst, DN.snapC_ob, DN.fNil_, DN.fCons_, DN.fTup_, DN.fLst_, DN.allD_n, DN.allD_c, DN.allC_, DN.gTupD_, DN.gLstD_, DN.tupO_0, DN.lstO_0, DN.tupO_1, DN.lstO_1, DN.tupO_2, DN.lstO_2, DN.tupO_3, DN.lstO_3, DN.tupO_4, DN.lstO_4, DN.tupO_5, DN.lstO_5, DN.tupO_6, DN.lstO_6, DN.tupO_7, DN.lstO_7, DN.fAnd_, DN.fOr_, DN.fNot_, DN.fIf_, DN.onB_, DN.kVal_, DN.kAnd_, DN.kOr_, DN.kNot_, DN.kYes_, DN.fCall_, DN.gA_, DN.gAo_, DN.snaps_n, DN.snaps_c, DN.snapsC_, DN.arg1_, DN.arg12_1, DN.arg12_2, DN.arg2_, DN.onlyIf_t, DN.fCallD_, DN.fMeth_, DN.onT_, DN.onTo_, DN.gM_, DN.gMo_, DN.clsV_r, DN.clsC_lst, DN.clsC_ob, DN.clsV_obj, DN.clsV_int, DN.clsV_bl, DN.clsV_str, DN.clsV_non, DN.clsV_lst, DN.clsV_tup, DN.clsV_scr, DN.fLenD_, DN.lenR_, DN.lenC_n, DN.lenC_s, DN.fIxD_, DN.ixR_, DN.ixC_n, DN.ixC_s, DN.okR_ok, DN.fEqD_, DN.fMethD_, DN.fPropD_, DN.fMakeD_, DN.isi_int_int, DN.isi_int_bool, DN.isi_int_str, DN.isi_str_str, DN.isi_str_int, DN.isi_lst_lst, DN.isi_lst_str, DN.isi_tup_str, DN.isi_tup_tup, DN.isi_lst_lt, DN.isi_tup_lt, DN.isi_str_lt, DN.methR_, DN.methP_, DN.askT_, DN.askP_, DN.fAsk1_, DN.ask1R_, DN.ask1P_, DN.at_cons, beq_self_eq_true, DN.eqR_int, DN.eqR_bl, DN.eqR_str, DN.eqR_lst, DN.eqR_tup, DN.eqR_non, DN.onlyV_bl, DN.onlyV_str, DN.fStrD_, DN.strR_, DN.strC_n, DN.strC_s, DN.fChain_, DN.fSl_, DN.fNoPart_, DN.fPart_, DN.partR_, DN.fDisp_, DN.gSl_lst, DN.gSl_tup, DN.fMut_, DN.gMu_, DN.muC_, DN.muP_, DN.isT_str, DN.isT_lst, DN.gClear_, DN.fCMeth_, DN.cmR_, DN.fMakeL_, DN.mkLR_, DN.makeR_ok, List.append_nil, DN.vB_, DN.vI_, DN.vS_, DN.vT_, DN.nL_, DN.vD_, DN.startE_, DN.outS_nx, DN.outS_rt, DN.outS_ex, List.map, List.nil_append, List.cons_append, List.length_cons, List.length_nil, List.replicate, List.getElem?_cons_zero, List.getElem?_cons_succ, List.getElem?_nil, List.set_cons_zero, List.set_cons_succ, if_true, if_false, ite_true, ite_false, Bool.not_true, Bool.not_false, Bool.false_eq_true, Bool.and_true, Bool.true_and, Bool.or_false, Bool.false_or, Nat.add_sub_cancel, Nat.zero_add, Nat.reduceSub, Nat.reduceAdd]
  refine for_then (F := fun r => ∃ S', exitR 0 (outS r) = .ok S' _) (n := m) (fun k env T => ∃ u1 u2 u3 u4 u5 u6 u7 u8 u9 u10 u11 : Sl, env = [.v (.d (.scr ns)), u1, u2, u3, u4, u5, u6, u7, u8, u9, u10, u11]) ?_ (by omega) ⟨_, _, _, _, _, _, _, _, _, _, _, rfl⟩ ?_ ?_
  · simp (config := { dsimp := false }) only [↓reduceIte, DN.bindV_val, DN.bindV_lst, DN.bindV_ob, DN.bindV_dc, DN.bindV_no, DN.bindV_ex, DN.bind_ok, DN.bind_no, DN.bind_ex, DN.sV_val, DN.sV_lst, DN.sV_ob, DN.sV_dc, DN.sV_ex, DN.sB_ok, DN.sB_ex, DN.kSeq_, DN.seqR_nx, DN.seqR_rt, DN.seqR_ex, DN.seqR_no, DN.kRet_, DN.retR_ok, DN.retR_ex, DN.kRetN_, DN.kNext_, DN.loopR_nx, DN.loopR_ct, DN.loopR_bk, DN.loopR_rt, DN.forGo_c, DN.forO_, DN.forGo_n, DN.iVal_, DN.itOf_lst, DN.itOf_tup, DN.kIf_, DN.kExpr_, DN.kSet_, DN.kSetC_, DN.setC_val, DN.setC_new, DN.kAsg_, DN.asgR_d, DN.asgO_, DN.tgN_, DN.tgNil_, DN.tgCons_, DN.tgO_, DN.tgT_, DN.kPar_, DN.parR_, DN.kSub_, DN.kFld_, DN.fVar_, DN.varR_, DN.fC_, DN.fOp_, DN.g2_, DN.g2o_, DN.fUn_, DN.g1_, DN.g1o_, DN.of_some, DN.snap_d, DN.snap_r, DN.snapC_lst, DN.snapC_ob, DN.fNil_, DN.fCons_, DN.fTup_, DN.fLst_, DN.allD_n, DN.allD_c, DN.allC_, DN.gTupD_, DN.gLstD_, DN.tupO_0, DN.lstO_0, DN.tupO_1, DN.lstO_1, DN.tupO_2, DN.lstO_2, DN.tupO_3, DN.lstO_3, DN.tupO_4, DN.lstO_4, DN.tupO_5, DN.lstO_5, DN.tupO_6, DN.lstO_6, DN.tupO_7, DN.lstO_7, DN.fAnd_, DN.fOr_, DN.fNot_, DN.fIf_, DN.onB_, DN.kVal_, DN.kAnd_, DN.kOr_, DN.kNot_, DN.kYes_, DN.fCall_, DN.gA_, DN.gAo_, DN.snaps_n, DN.snaps_c, DN.snapsC_, DN.arg1_, DN.arg12_1, DN.arg12_2, DN.arg2_, DN.onlyIf_t, DN.fCallD_, DN.fMeth_, DN.onT_, DN.onTo_, DN.gM_, DN.gMo_, DN.clsV_r, DN.clsC_lst, DN.clsC_ob, DN.clsV_obj, DN.clsV_int, DN.clsV_bl, DN.clsV_str, DN.clsV_non, DN.clsV_lst, DN.clsV_tup, DN.clsV_scr, DN.fLenD_, DN.lenR_, DN.lenC_n, DN.lenC_s, DN.fIxD_, DN.ixR_, DN.ixC_n, DN.ixC_s, DN.okR_ok, DN.fEqD_, DN.fMethD_, DN.fPropD_, DN.fMakeD_, DN.isi_int_int, DN.isi_int_bool, DN.isi_int_str, DN.isi_str_str, DN.isi_str_int, DN.isi_lst_lst, DN.isi_lst_str, DN.isi_tup_str, DN.isi_tup_tup, DN.isi_lst_lt, DN.isi_tup_lt, DN.isi_str_lt, DN.methR_, DN.methP_, DN.askT_, DN.askP_, DN.fAsk1_, DN.ask1R_, DN.ask1P_, DN.at_cons, beq_self_eq_true, DN.eqR_int, DN.eqR_bl, DN.eqR_str, DN.eqR_lst, DN.eqR_tup, DN.eqR_non, DN.onlyV_bl, DN.onlyV_str, DN.fStrD_, DN.strR_, DN.strC_n, DN.strC_s, DN.fChain_, DN.fSl_, DN.fNoPart_, DN.fPart_, DN.partR_, DN.fDisp_, DN.gSl_lst, DN.gSl_tup, DN.fMut_, DN.gMu_, DN.muC_, DN.muP_, DN.isT_str, DN.isT_lst, DN.gClear_, DN.fCMeth_, DN.cmR_, DN.fMakeL_, DN.mkLR_, DN.makeR_ok, List.append_nil, DN.vB_, DN.vI_, DN.vS_, DN.vT_, DN.nL_, DN.vD_, DN.startE_, DN.outS_nx, DN.outS_rt, DN.outS_ex, List.map, List.nil_append, List.cons_append, List.length_cons, List.length_nil, List.replicate, List.getElem?_cons_zero, List.getElem?_cons_succ, List.getElem?_nil, List.set_cons_zero, List.set_cons_succ, if_true, if_false, ite_true, ite_false, Bool.not_true, Bool.not_false, Bool.false_eq_true, Bool.and_true, Bool.true_and, Bool.or_false, Bool.false_or, Nat.add_sub_cancel, Nat.zero_add, Nat.reduceSub, Nat.reduceAdd, gLen_scr, em2, em]
  · rintro k env T hk ⟨u1, u2, u3, u4, u5, u6, u7, u8, u9, u10, u11, rfl⟩
    obtain ⟨v, e1⟩ := cell_at_ok (k := k) (S := T) hn
    obtain ⟨k0, h0, e2⟩ := box_ok (v := v) (S := T)
    obtain ⟨n, ws, k1, h59, hw, h1, e3⟩ := law_words_ok (T := T ++ [k0]) (c := List.length T) h0 (by simp) (by omega)
    rw [set_last, set_last] at e3
    have e4 := init_ok hw (Sq.cell (get_last (S := T ++ [k1]) (c := .lst (ws.map .str))))
    have e5 := init_ok (S := (T ++ [k1]) ++ [.lst (ws.map .str)]) hw Sq.tup
    obtain ⟨g, e6⟩ : ∃ g, ∀ env, setIx env ((T ++ [k1]) ++ [.lst (ws.map .str)]) (.r (List.length (T ++ [k1]))) (.d (.int 0)) (.d (.str "11111111111111")) = .nx env ((T ++ [k1]) ++ [.lst g]) := ⟨_, fun env => by
      have := set_ix (env := env) (k := 0) (v := .str "11111111111111") (get_last (S := T ++ [k1]) (c := .lst (ws.map .str))) (by have := hw.pos; simp; omega)
      rw [set_last] at this
      exact this⟩
    obtain ⟨m', vs, k2, hv, hne, h2, e7⟩ := other_ok (T := (T ++ [k1]) ++ [.lst g]) (c := List.length T) hw h59 h1 (by simp) (by omega)
    rw [set_mid, set_mid] at e7
    have e8 := init_ok (S := (T ++ [k2]) ++ [.lst g]) hv Sq.lst
    simp (config := { dsimp := false }) only [↓reduceIte, DN.bindV_val, DN.bindV_lst, DN.bindV_ob, DN.bindV_dc, DN.bindV_no, DN.bindV_ex, DN.bind_ok, DN.bind_no, DN.bind_ex, DN.sV_val, DN.sV_lst, DN.sV_ob, DN.sV_dc, DN.sV_ex, DN.sB_ok, DN.sB_ex, DN.kSeq_, DN.seqR_nx, DN.seqR_rt, DN.seqR_ex, DN.seqR_no, DN.kRet_, DN.retR_ok, DN.retR_ex, DN.kRetN_, DN.kNext_, DN.loopR_nx, DN.loopR_ct, DN.loopR_bk, DN.loopR_rt, DN.forGo_c, DN.forO_, DN.forGo_n, DN.iVal_, DN.itOf_lst, DN.itOf_tup, DN.kIf_, DN.kExpr_, DN.kSet_, DN.kSetC_, DN.setC_val, DN.setC_new, DN.kAsg_, DN.asgR_d, DN.asgO_, DN.tgN_, DN.tgNil_, DN.tgCons_, DN.tgO_, DN.tgT_, DN.kPar_, DN.parR_, DN.kSub_, DN.kFld_, DN.fVar_, DN.varR_, DN.fC_, DN.fOp_, DN.g2_, DN.g2o_, DN.fUn_, DN.g1_, DN.g1o_, DN.of_some, DN.snap_d, DN.snap_r, DN.snapC_lst, DN.snapC_ob, DN.fNil_, DN.fCons_, DN.fTup_, DN.fLst_, DN.allD_n, DN.allD_c, DN.allC_, DN.gTupD_, DN.gLstD_, DN.tupO_0, DN.lstO_0, DN.tupO_1, DN.lstO_1, DN.tupO_2, DN.lstO_2, DN.tupO_3, DN.lstO_3, DN.tupO_4, DN.lstO_4, DN.tupO_5, DN.lstO_5, DN.tupO_6, DN.lstO_6, DN.tupO_7, DN.lstO_7, DN.fAnd_, DN.fOr_, DN.fNot_, DN.fIf_, DN.onB_, DN.kVal_, DN.kAnd_, DN.kOr_, DN.kNot_, DN.kYes_, DN.fCall_, DN.gA_, DN.gAo_, DN.snaps_n, DN.snaps_c, DN.snapsC_, DN.arg1_, DN.arg12_1, DN.arg12_2, DN.arg2_, DN.onlyIf_t, DN.fCallD_, DN.fMeth_, DN.onT_, DN.onTo_, DN.gM_, DN.gMo_, DN.clsV_r, DN.clsC_lst, DN.clsC_ob, DN.clsV_obj, DN.clsV_int, DN.clsV_bl, DN.clsV_str, DN.clsV_non, DN.clsV_lst, DN.clsV_tup, DN.clsV_scr, DN.fLenD_, DN.lenR_, DN.lenC_n, DN.lenC_s, DN.fIxD_, DN.ixR_, DN.ixC_n, DN.ixC_s, DN.okR_ok, DN.fEqD_, DN.fMethD_, DN.fPropD_, DN.fMakeD_, DN.isi_int_int, DN.isi_int_bool, DN.isi_int_str, DN.isi_str_str, DN.isi_str_int, DN.isi_lst_lst, DN.isi_lst_str, DN.isi_tup_str, DN.isi_tup_tup, DN.isi_lst_lt, DN.isi_tup_lt, DN.isi_str_lt, DN.methR_, DN.methP_, DN.askT_, DN.askP_, DN.fAsk1_, DN.ask1R_, DN.ask1P_, DN.at_cons, beq_self_eq_true, DN.eqR_int, DN.eqR_bl, DN.eqR_str, DN.eqR_lst, DN.eqR_tup, DN.eqR_non, DN.onlyV_bl, DN.onlyV_str, DN.fStrD_, DN.strR_, DN.strC_n, DN.strC_s, DN.fChain_, DN.fSl_, DN.fNoPart_, DN.fPart_, DN.partR_, DN.fDisp_, DN.gSl_lst, DN.gSl_tup, DN.fMut_, DN.gMu_, DN.muC_, DN.muP_, DN.isT_str, DN.isT_lst, DN.gClear_, DN.fCMeth_, DN.cmR_, DN.fMakeL_, DN.mkLR_, DN.makeR_ok, List.append_nil, DN.vB_, DN.vI_, DN.vS_, DN.vT_, DN.nL_, DN.vD_, DN.startE_, DN.outS_nx, DN.outS_rt, DN.outS_ex, List.map, List.nil_append, List.cons_append, List.length_cons, List.length_nil, List.replicate, List.getElem?_cons_zero, List.getElem?_cons_succ, List.getElem?_nil, List.set_cons_zero, List.set_cons_succ, if_true, if_false, ite_true, ite_false, Bool.not_true, Bool.not_false, Bool.false_eq_true, Bool.and_true, Bool.true_and, Bool.or_false, Bool.false_or, Nat.add_sub_cancel, Nat.zero_add, Nat.reduceSub, Nat.reduceAdd, e1, e2, e3, gList_lst, e4, gTuple_lst, e5, e6, e7, e8]
    have hA : List.contains ["Addresses"] "Addresses" = true := rfl
    have hne' : ¬ ws = vs := fun e => hne e.symm
    have x1 : ∀ S, D_Addresses_eq [.d (.obj "Addresses" [.tup (ws.map .str)]), .d (.obj "Addresses" [.tup (ws.map .str)])] S = .ok S (.val (.d (.bl true))) := fun S => by rw [eq_ok hw hw, decide_eq_true rfl]
    have x2 : ∀ S, D_Addresses_eq [.d (.obj "Addresses" [.tup (ws.map .str)]), .d (.obj "Addresses" [.tup (vs.map .str)])] S = .ok S (.val (.d (.bl false))) := fun S => by rw [eq_ok hw hv, decide_eq_false hne']
    have x3 : ∀ S, D_Addresses_eq [.d (.obj "Addresses" [.tup (vs.map .str)]), .d (.obj "Addresses" [.tup (ws.map .str)])] S = .ok S (.val (.d (.bl false))) := fun S => by rw [eq_ok hv hw, decide_eq_false hne]
    have x4 : ∀ S, D_Addresses_eq [.d (.obj "Addresses" [.tup (vs.map .str)]), .d (.obj "Addresses" [.tup (vs.map .str)])] S = .ok S (.val (.d (.bl true))) := fun S => by rw [eq_ok hv hv, decide_eq_true rfl]
    refine for_then (F := fun r => ∃ env' S', r = .nx env' S' ∧ ∃ u1 u2 u3 u4 u5 u6 u7 u8 u9 u10 u11 : Sl, env' = [.v (.d (.scr ns)), u1, u2, u3, u4, u5, u6, u7, u8, u9, u10, u11]) (n := 2) (fun i env S => S = (T ++ [k2]) ++ [.lst g] ∧ ∃ w9 : Sl, env = [.v (.d (.scr ns)), .v (.d (.int k)), .v (.r (List.length T)), .v (.d (.lst (ws.map .str))), .v (.r (List.length (T ++ [k1]))), .v (.d (A ws)), .v (.d (A ws)), .v (.d (.lst (vs.map .str))), .v (.d (A vs)), w9, u10, u11]) ?_ (by omega) ⟨rfl, _, rfl⟩ ?_ ?_
    · rfl
    · rintro i env S hi ⟨rfl, w9, rfl⟩
      refine ⟨_, _, ?_, rfl, .v (.d (.int i)), rfl⟩
      simp (config := { dsimp := false }) only [↓reduceIte, DN.bindV_val, DN.bindV_lst, DN.bindV_ob, DN.bindV_dc, DN.bindV_no, DN.bindV_ex, DN.bind_ok, DN.bind_no, DN.bind_ex, DN.sV_val, DN.sV_lst, DN.sV_ob, DN.sV_dc, DN.sV_ex, DN.sB_ok, DN.sB_ex, DN.kSeq_, DN.seqR_nx, DN.seqR_rt, DN.seqR_ex, DN.seqR_no, DN.kRet_, DN.retR_ok, DN.retR_ex, DN.kRetN_, DN.kNext_, DN.loopR_nx, DN.loopR_ct, DN.loopR_bk, DN.loopR_rt, DN.forGo_c, DN.forO_, DN.forGo_n, DN.iVal_, DN.itOf_lst, DN.itOf_tup, DN.kIf_, DN.kExpr_, DN.kSet_, DN.kSetC_, DN.setC_val, DN.setC_new, DN.kAsg_, DN.asgR_d, DN.asgO_, DN.tgN_, DN.tgNil_, DN.tgCons_, DN.tgO_, DN.tgT_, DN.kPar_, DN.parR_, DN.kSub_, DN.kFld_, DN.fVar_, DN.varR_, DN.fC_, DN.fOp_, DN.g2_, DN.g2o_, DN.fUn_, DN.g1_, DN.g1o_, DN.of_some, DN.snap_d, DN.snap_r, DN.snapC_lst, DN.snapC_ob, DN.fNil_, DN.fCons_, DN.fTup_, DN.fLst_, DN.allD_n, DN.allD_c, DN.allC_, DN.gTupD_, DN.gLstD_, DN.tupO_0, DN.lstO_0, DN.tupO_1, DN.lstO_1, DN.tupO_2, DN.lstO_2, DN.tupO_3, DN.lstO_3, DN.tupO_4, DN.lstO_4, DN.tupO_5, DN.lstO_5, DN.tupO_6, DN.lstO_6, DN.tupO_7, DN.lstO_7, DN.fAnd_, DN.fOr_, DN.fNot_, DN.fIf_, DN.onB_, DN.kVal_, DN.kAnd_, DN.kOr_, DN.kNot_, DN.kYes_, DN.fCall_, DN.gA_, DN.gAo_, DN.snaps_n, DN.snaps_c, DN.snapsC_, DN.arg1_, DN.arg12_1, DN.arg12_2, DN.arg2_, DN.onlyIf_t, DN.fCallD_, DN.fMeth_, DN.onT_, DN.onTo_, DN.gM_, DN.gMo_, DN.clsV_r, DN.clsC_lst, DN.clsC_ob, DN.clsV_obj, DN.clsV_int, DN.clsV_bl, DN.clsV_str, DN.clsV_non, DN.clsV_lst, DN.clsV_tup, DN.clsV_scr, DN.fLenD_, DN.lenR_, DN.lenC_n, DN.lenC_s, DN.fIxD_, DN.ixR_, DN.ixC_n, DN.ixC_s, DN.okR_ok, DN.fEqD_, DN.fMethD_, DN.fPropD_, DN.fMakeD_, DN.isi_int_int, DN.isi_int_bool, DN.isi_int_str, DN.isi_str_str, DN.isi_str_int, DN.isi_lst_lst, DN.isi_lst_str, DN.isi_tup_str, DN.isi_tup_tup, DN.isi_lst_lt, DN.isi_tup_lt, DN.isi_str_lt, DN.methR_, DN.methP_, DN.askT_, DN.askP_, DN.fAsk1_, DN.ask1R_, DN.ask1P_, DN.at_cons, beq_self_eq_true, DN.eqR_int, DN.eqR_bl, DN.eqR_str, DN.eqR_lst, DN.eqR_tup, DN.eqR_non, DN.onlyV_bl, DN.onlyV_str, DN.fStrD_, DN.strR_, DN.strC_n, DN.strC_s, DN.fChain_, DN.fSl_, DN.fNoPart_, DN.fPart_, DN.partR_, DN.fDisp_, DN.gSl_lst, DN.gSl_tup, DN.fMut_, DN.gMu_, DN.muC_, DN.muP_, DN.isT_str, DN.isT_lst, DN.gClear_, DN.fCMeth_, DN.cmR_, DN.fMakeL_, DN.mkLR_, DN.makeR_ok, List.append_nil, DN.vB_, DN.vI_, DN.vS_, DN.vT_, DN.nL_, DN.vD_, DN.startE_, DN.outS_nx, DN.outS_rt, DN.outS_ex, List.map, List.nil_append, List.cons_append, List.length_cons, List.length_nil, List.replicate, List.getElem?_cons_zero, List.getElem?_cons_succ, List.getElem?_nil, List.set_cons_zero, List.set_cons_succ, if_true, if_false, ite_true, ite_false, Bool.not_true, Bool.not_false, Bool.false_eq_true, Bool.and_true, Bool.true_and, Bool.or_false, Bool.false_or, Nat.add_sub_cancel, Nat.zero_add, Nat.reduceSub, Nat.reduceAdd, right_ok hw, right_ok hv, eqR_oo hA, x1, x2, x3, eqR_ol hA, eqR_ot hA, eqR_os hA, eq_lst, eq_tup, eq_str, str_ok hw, gTuple_lst]
    · rintro env S ⟨rfl, w9, rfl⟩
      simp (config := { dsimp := false }) only [↓reduceIte, DN.bindV_val, DN.bindV_lst, DN.bindV_ob, DN.bindV_dc, DN.bindV_no, DN.bindV_ex, DN.bind_ok, DN.bind_no, DN.bind_ex, DN.sV_val, DN.sV_lst, DN.sV_ob, DN.sV_dc, DN.sV_ex, DN.sB_ok, DN.sB_ex, DN.kSeq_, DN.seqR_nx, DN.seqR_rt, DN.seqR_ex, DN.seqR_no, DN.kRet_, DN.retR_ok, DN.retR_ex, DN.kRetN_, DN.kNext_, DN.loopR_nx, DN.loopR_ct, DN.loopR_bk, DN.loopR_rt, DN.forGo_c, DN.forO_, DN.forGo_n, DN.iVal_, DN.itOf_lst, DN.itOf_tup, DN.kIf_, DN.kExpr_, DN.kSet_, DN.kSetC_, DN.setC_val, DN.setC_new, DN.kAsg_, DN.asgR_d, DN.asgO_, DN.tgN_, DN.tgNil_, DN.tgCons_, DN.tgO_, DN.tgT_, DN.kPar_, DN.parR_, DN.kSub_, DN.kFld_, DN.fVar_, DN.varR_, DN.fC_, DN.fOp_, DN.g2_, DN.g2o_, DN.fUn_, DN.g1_, DN.g1o_, DN.of_some, DN.snap_d, DN.snap_r, DN.snapC_lst, DN.snapC_ob, DN.fNil_, DN.fCons_, DN.fTup_, DN.fLst_, DN.allD_n, DN.allD_c, DN.allC_, DN.gTupD_, DN.gLstD_, DN.tupO_0, DN.lstO_0, DN.tupO_1, DN.lstO_1, DN.tupO_2, DN.lstO_2, DN.tupO_3, DN.lstO_3, DN.tupO_4, DN.lstO_4, DN.tupO_5, DN.lstO_5, DN.tupO_6, DN.lstO_6, DN.tupO_7, DN.lstO_7, DN.fAnd_, DN.fOr_, DN.fNot_, DN.fIf_, DN.onB_, DN.kVal_, DN.kAnd_, DN.kOr_, DN.kNot_, DN.kYes_, DN.fCall_, DN.gA_, DN.gAo_, DN.snaps_n, DN.snaps_c, DN.snapsC_, DN.arg1_, DN.arg12_1, DN.arg12_2, DN.arg2_, DN.onlyIf_t, DN.fCallD_, DN.fMeth_, DN.onT_, DN.onTo_, DN.gM_, DN.gMo_, DN.clsV_r, DN.clsC_lst, DN.clsC_ob, DN.clsV_obj, DN.clsV_int, DN.clsV_bl, DN.clsV_str, DN.clsV_non, DN.clsV_lst, DN.clsV_tup, DN.clsV_scr, DN.fLenD_, DN.lenR_, DN.lenC_n, DN.lenC_s, DN.fIxD_, DN.ixR_, DN.ixC_n, DN.ixC_s, DN.okR_ok, DN.fEqD_, DN.fMethD_, DN.fPropD_, DN.fMakeD_, DN.isi_int_int, DN.isi_int_bool, DN.isi_int_str, DN.isi_str_str, DN.isi_str_int, DN.isi_lst_lst, DN.isi_lst_str, DN.isi_tup_str, DN.isi_tup_tup, DN.isi_lst_lt, DN.isi_tup_lt, DN.isi_str_lt, DN.methR_, DN.methP_, DN.askT_, DN.askP_, DN.fAsk1_, DN.ask1R_, DN.ask1P_, DN.at_cons, beq_self_eq_true, DN.eqR_int, DN.eqR_bl, DN.eqR_str, DN.eqR_lst, DN.eqR_tup, DN.eqR_non, DN.onlyV_bl, DN.onlyV_str, DN.fStrD_, DN.strR_, DN.strC_n, DN.strC_s, DN.fChain_, DN.fSl_, DN.fNoPart_, DN.fPart_, DN.partR_, DN.fDisp_, DN.gSl_lst, DN.gSl_tup, DN.fMut_, DN.gMu_, DN.muC_, DN.muP_, DN.isT_str, DN.isT_lst, DN.gClear_, DN.fCMeth_, DN.cmR_, DN.fMakeL_, DN.mkLR_, DN.makeR_ok, List.append_nil, DN.vB_, DN.vI_, DN.vS_, DN.vT_, DN.nL_, DN.vD_, DN.startE_, DN.outS_nx, DN.outS_rt, DN.outS_ex, List.map, List.nil_append, List.cons_append, List.length_cons, List.length_nil, List.replicate, List.getElem?_cons_zero, List.getElem?_cons_succ, List.getElem?_nil, List.set_cons_zero, List.set_cons_succ, if_true, if_false, ite_true, ite_false, Bool.not_true, Bool.not_false, Bool.false_eq_true, Bool.and_true, Bool.true_and, Bool.or_false, Bool.false_or, Nat.add_sub_cancel, Nat.zero_add, Nat.reduceSub, Nat.reduceAdd, kFor_, join_lst hw, join_lst hv, read_ok hw, read_ok hv, eqR_oo hA, x1, x4]
      exact ⟨_, _, rfl, _, _, _, _, _, _, _, _, _, _, _, rfl⟩
  · rintro env' S' ⟨u1, u2, u3, u4, u5, u6, u7, u8, u9, u10, u11, rfl⟩
    exact ⟨_, rfl⟩
end Q12

namespace Q12
open PySem PySem.Spec PyProof.Rows L2 OP Evl DN
theorem all_mk {w : World} {K : PySem.W.Frag} {h : Heap} {mg : Str → Option Value} {fa : Addr} (X : K.In h) (G : h.Ns mainGlobals mg) (hfa : mg "law" = some (.ref fa))
    {C_Addresses : Addr}
    {f1 : Addr} {od1 an1 : Option Addr} {sl1 : Array (Option Value)} {oc1 kV1 dc1 pm1 cd1 ct1 : Value}
    {f2 : Addr} {od2 an2 : Option Addr} {sl2 : Array (Option Value)} {oc2 kV2 dc2 pm2 cd2 ct2 : Value}
    {f3 : Addr} {od3 an3 : Option Addr} {sl3 : Array (Option Value)} {oc3 kV3 dc3 pm3 cd3 ct3 : Value}
    {f4 : Addr} {od4 an4 : Option Addr} {sl4 : Array (Option Value)} {oc4 kV4 dc4 pm4 cd4 ct4 : Value}
    {f5 : Addr} {od5 an5 : Option Addr} {sl5 : Array (Option Value)} {oc5 kV5 dc5 pm5 cd5 ct5 : Value}
    {f6 : Addr} {od6 an6 : Option Addr} {sl6 : Array (Option Value)} {oc6 kV6 dc6 pm6 cd6 ct6 : Value}
    {f7 : Addr} {od7 an7 : Option Addr} {sl7 : Array (Option Value)} {oc7 kV7 dc7 pm7 cd7 ct7 : Value}
    {f8 : Addr} {od8 an8 : Option Addr} {sl8 : Array (Option Value)} {oc8 kV8 dc8 pm8 cd8 ct8 : Value}
    {f9 : Addr} {od9 an9 : Option Addr} {sl9 : Array (Option Value)} {oc9 kV9 dc9 pm9 cd9 ct9 : Value}
    {f10 : Addr} {od10 an10 : Option Addr} {sl10 : Array (Option Value)} {oc10 kV10 dc10 pm10 cd10 ct10 : Value}
    {en10 eq10 : Str} {eN10 : Addr} {eb10 es10 : List Value} {eh10 ea10 : Bool} {esn10 : List Str} {ec10 : Option Bool} {ed10 : Option Addr} {e010 e110 e210 e310 e510 : Option Value} {ei10 : String} {ox10 : Value} {oy10 : Option Addr} {oz10 : Array DictEntry} {ow10 : Nat} {ov10 : Array (Option Value)}
    {f11 : Addr} {od11 an11 : Option Addr} {sl11 : Array (Option Value)} {oc11 kV11 dc11 pm11 cd11 ct11 : Value}
    {f12 : Addr} {od12 an12 : Option Addr} {sl12 : Array (Option Value)} {oc12 kV12 dc12 pm12 cd12 ct12 : Value}
    {f13 : Addr} {od13 an13 : Option Addr} {sl13 : Array (Option Value)} {oc13 kV13 dc13 pm13 cd13 ct13 : Value}
    {f14 : Addr} {od14 an14 : Option Addr} {sl14 : Array (Option Value)} {oc14 kV14 dc14 pm14 cd14 ct14 : Value}
    {f15 : Addr} {od15 an15 : Option Addr} {sl15 : Array (Option Value)} {oc15 kV15 dc15 pm15 cd15 ct15 : Value}
    {f16 : Addr} {od16 an16 : Option Addr} {sl16 : Array (Option Value)} {oc16 kV16 dc16 pm16 cd16 ct16 : Value}
    {q16 : Addr} {rs16 : List Value}
    {f17 : Addr} {od17 an17 : Option Addr} {sl17 : Array (Option Value)} {oc17 kV17 dc17 pm17 cd17 ct17 : Value}
    {f18 : Addr} {od18 an18 : Option Addr} {sl18 : Array (Option Value)} {oc18 kV18 dc18 pm18 cd18 ct18 : Value}
    {q18 : Addr} {rs18 : List Value}
    {f19 : Addr} {od19 an19 : Option Addr} {sl19 : Array (Option Value)} {oc19 kV19 dc19 pm19 cd19 ct19 : Value}
    {q19 : Addr} {rs19 : List Value}
    {f20 : Addr} {od20 an20 : Option Addr} {sl20 : Array (Option Value)} {oc20 kV20 dc20 pm20 cd20 ct20 : Value}
    {f21 : Addr} {od21 an21 : Option Addr} {sl21 : Array (Option Value)} {oc21 kV21 dc21 pm21 cd21 ct21 : Value}
    {f22 : Addr} {od22 an22 : Option Addr} {sl22 : Array (Option Value)} {oc22 kV22 dc22 pm22 cd22 ct22 : Value}
    {f23 : Addr} {od23 an23 : Option Addr} {sl23 : Array (Option Value)} {oc23 kV23 dc23 pm23 cd23 ct23 : Value}
    {f24 : Addr} {od24 an24 : Option Addr} {sl24 : Array (Option Value)} {oc24 kV24 dc24 pm24 cd24 ct24 : Value}
    {f25 : Addr} {od25 an25 : Option Addr} {sl25 : Array (Option Value)} {oc25 kV25 dc25 pm25 cd25 ct25 : Value}
    {f26 : Addr} {od26 an26 : Option Addr} {sl26 : Array (Option Value)} {oc26 kV26 dc26 pm26 cd26 ct26 : Value}
    {t0 : Tok}
    {t1 : Tok}
    {t2 : Tok} 
    (cg_Addresses : PySem.W.nsIn K mainGlobals "Addresses" = some (some (.ref C_Addresses)))
    (c1_Addresses : PySem.W.plainGet K C_Addresses Str.empty = true)
    (c2_Addresses : PySem.W.hasDictIn K C_Addresses = true)
    (c3_Addresses : PySem.W.plainOver K C_Addresses = true)
    (c4_Addresses : PySem.W.findIn K (.ref C_Addresses) "__setattr__" = some (some (.builtin "object.__setattr__")))
    (i1_Addresses : PySem.W.findIn K (.ref C_Addresses) "__class__" = some (some (.builtin "object.__class__")))
    (i2_Addresses : PySem.W.specialIn K (.builtin "object.__class__") "__get__" = some (some (.builtin "getset_descriptor.__get__")))
    (i3_Addresses : PySem.W.takesIn K (.builtin "object.__class__") = some true)
    (i4_Addresses : PySem.W.mroIn K C_Addresses (.type "object") = some true)
    (kk_Addresses : PySem.W.kitOne K (.ref C_Addresses) (.ref C_Addresses) = some true)
    (na_Addresses_kept : PySem.W.findIn K (.ref C_Addresses) "kept" = some none)
    (a1 : PySem.W.findIn K (.ref C_Addresses) "__len__" = some (some (.ref f1)))
    (fn1 : PySem.W.isFn K (.ref f1) = true)
    (fi1 : PySem.W.fnIn K f1 = true)
    (l1 : K.lookup f1 = some ⟨oc1, od1, .func (PySem.W.fnOf "__len__" "Addresses.__len__" (defArgs s_Addresses_len) (defBody s_Addresses_len) (defScope s_Addresses_len) .none kV1 dc1 pm1 an1 cd1 ct1), sl1⟩)
    (c1 : PySem.W.codeIn K cd1 "Addresses.__len__" = true)
    (k1 : PySem.W.keepIn K (.ref f1) = true)
    (a2 : PySem.W.nsIn K mainGlobals "is_word" = some (some (.ref f2)))
    (l2 : K.lookup f2 = some ⟨oc2, od2, .func (PySem.W.fnOf "is_word" "is_word" (defArgs s_is_word) (defBody s_is_word) (defScope s_is_word) .none kV2 dc2 pm2 an2 cd2 ct2), sl2⟩)
    (c2 : PySem.W.codeIn K cd2 "is_word" = true)
    (k2 : PySem.W.keepIn K (.ref f2) = true)
    (a3 : PySem.W.nsIn K mainGlobals "is_integer" = some (some (.ref f3)))
    (l3 : K.lookup f3 = some ⟨oc3, od3, .func (PySem.W.fnOf "is_integer" "is_integer" (defArgs s_is_integer) (defBody s_is_integer) (defScope s_is_integer) .none kV3 dc3 pm3 an3 cd3 ct3), sl3⟩)
    (c3 : PySem.W.codeIn K cd3 "is_integer" = true)
    (k3 : PySem.W.keepIn K (.ref f3) = true)
    (a4 : PySem.W.findIn K (.ref C_Addresses) "check_house" = some (some (.ref f4)))
    (fn4 : PySem.W.isFn K (.ref f4) = true)
    (l4 : K.lookup f4 = some ⟨oc4, od4, .func (PySem.W.fnOf "check_house" "Addresses.check_house" (defArgs s_Addresses_check_house) (defBody s_Addresses_check_house) (defScope s_Addresses_check_house) .none kV4 dc4 pm4 an4 cd4 ct4), sl4⟩)
    (c4 : PySem.W.codeIn K cd4 "Addresses.check_house" = true)
    (k4 : PySem.W.keepIn K (.ref f4) = true)
    (a5 : PySem.W.findIn K (.ref C_Addresses) "__getitem__" = some (some (.ref f5)))
    (fn5 : PySem.W.isFn K (.ref f5) = true)
    (fi5 : PySem.W.fnIn K f5 = true)
    (l5 : K.lookup f5 = some ⟨oc5, od5, .func (PySem.W.fnOf "__getitem__" "Addresses.__getitem__" (defArgs s_Addresses_getitem) (defBody s_Addresses_getitem) (defScope s_Addresses_getitem) .none kV5 dc5 pm5 an5 cd5 ct5), sl5⟩)
    (c5 : PySem.W.codeIn K cd5 "Addresses.__getitem__" = true)
    (k5 : PySem.W.keepIn K (.ref f5) = true)
    (a6 : PySem.W.nsIn K mainGlobals "are_words" = some (some (.ref f6)))
    (l6 : K.lookup f6 = some ⟨oc6, od6, .func (PySem.W.fnOf "are_words" "are_words" (defArgs s_are_words) (defBody s_are_words) (defScope s_are_words) .none kV6 dc6 pm6 an6 cd6 ct6), sl6⟩)
    (c6 : PySem.W.codeIn K cd6 "are_words" = true)
    (k6 : PySem.W.keepIn K (.ref f6) = true)
    (a7 : PySem.W.findIn K (.ref C_Addresses) "__init__" = some (some (.ref f7)))
    (fn7 : PySem.W.isFn K (.ref f7) = true)
    (mm7 : PySem.W.makesIn K C_Addresses = true)
    (mk7 : PySem.W.keepIn K (.ref C_Addresses) = true)
    (l7 : K.lookup f7 = some ⟨oc7, od7, .func (PySem.W.fnOf "__init__" "Addresses.__init__" (defArgs s_Addresses_init) (defBody s_Addresses_init) (defScope s_Addresses_init) .none kV7 dc7 pm7 an7 cd7 ct7), sl7⟩)
    (c7 : PySem.W.codeIn K cd7 "Addresses.__init__" = true)
    (k7 : PySem.W.keepIn K (.ref f7) = true)
    (a8 : PySem.W.nsIn K mainGlobals "_law_box" = some (some (.ref f8)))
    (l8 : K.lookup f8 = some ⟨oc8, od8, .func (PySem.W.fnOf "_law_box" "_law_box" (defArgs s_law_box) (defBody s_law_box) (defScope s_law_box) .none kV8 dc8 pm8 an8 cd8 ct8), sl8⟩)
    (c8 : PySem.W.codeIn K cd8 "_law_box" = true)
    (k8 : PySem.W.keepIn K (.ref f8) = true)
    (a9 : PySem.W.nsIn K mainGlobals "_law_take" = some (some (.ref f9)))
    (l9 : K.lookup f9 = some ⟨oc9, od9, .func (PySem.W.fnOf "_law_take" "_law_take" (defArgs s_law_take) (defBody s_law_take) (defScope s_law_take) .none kV9 dc9 pm9 an9 cd9 ct9), sl9⟩)
    (c9 : PySem.W.codeIn K cd9 "_law_take" = true)
    (k9 : PySem.W.keepIn K (.ref f9) = true)
    (a10 : PySem.W.findIn K (.ref C_Addresses) "__eq__" = some (some (.ref f10)))
    (fn10 : PySem.W.isFn K (.ref f10) = true)
    (oa10 : K.lookup C_Addresses = some (excClassObj en10 eq10 C_Addresses eN10 eb10 [.type "object"] eh10 esn10 es10 ea10 ec10 ed10 e010 e110 e210 e310 e510 ei10))
    (ob10 : K.lookup eN10 = some ⟨ox10, oy10, .dict oz10 ow10, ov10⟩)
    (ok10 : keysOk oz10 = true)
    (oc10_ : PySem.W.nsIn K eN10 "__eq__" = some (some (.ref f10)))
    (od10_ : PySem.W.nsIn K eN10 "__ne__" = some none)
    (l10 : K.lookup f10 = some ⟨oc10, od10, .func (PySem.W.fnOf "__eq__" "Addresses.__eq__" (defArgs s_Addresses_eq) (defBody s_Addresses_eq) (defScope s_Addresses_eq) .none kV10 dc10 pm10 an10 cd10 ct10), sl10⟩)
    (oo10 : oc10 = .type "function")
    (c10 : PySem.W.codeIn K cd10 "Addresses.__eq__" = true)
    (k10 : PySem.W.keepIn K (.ref f10) = true)
    (a11 : PySem.W.nsIn K mainGlobals "_law_signs" = some (some (.ref f11)))
    (l11 : K.lookup f11 = some ⟨oc11, od11, .func (PySem.W.fnOf "_law_signs" "_law_signs" (defArgs s_law_signs) (defBody s_law_signs) (defScope s_law_signs) .none kV11 dc11 pm11 an11 cd11 ct11), sl11⟩)
    (c11 : PySem.W.codeIn K cd11 "_law_signs" = true)
    (k11 : PySem.W.keepIn K (.ref f11) = true)
    (a12 : PySem.W.nsIn K mainGlobals "_law_words" = some (some (.ref f12)))
    (l12 : K.lookup f12 = some ⟨oc12, od12, .func (PySem.W.fnOf "_law_words" "_law_words" (defArgs s_law_words) (defBody s_law_words) (defScope s_law_words) .none kV12 dc12 pm12 an12 cd12 ct12), sl12⟩)
    (c12 : PySem.W.codeIn K cd12 "_law_words" = true)
    (k12 : PySem.W.keepIn K (.ref f12) = true)
    (a13 : PySem.W.nsIn K mainGlobals "_law_other_words" = some (some (.ref f13)))
    (l13 : K.lookup f13 = some ⟨oc13, od13, .func (PySem.W.fnOf "_law_other_words" "_law_other_words" (defArgs s_law_other_words) (defBody s_law_other_words) (defScope s_law_other_words) .none kV13 dc13 pm13 an13 cd13 ct13), sl13⟩)
    (c13 : PySem.W.codeIn K cd13 "_law_other_words" = true)
    (k13 : PySem.W.keepIn K (.ref f13) = true)
    (a14 : PySem.W.nsIn K mainGlobals "_law_cell_at" = some (some (.ref f14)))
    (l14 : K.lookup f14 = some ⟨oc14, od14, .func (PySem.W.fnOf "_law_cell_at" "_law_cell_at" (defArgs s_law_cell_at) (defBody s_law_cell_at) (defScope s_law_cell_at) .none kV14 dc14 pm14 an14 cd14 ct14), sl14⟩)
    (c14 : PySem.W.codeIn K cd14 "_law_cell_at" = true)
    (k14 : PySem.W.keepIn K (.ref f14) = true)
    (a15 : PySem.W.findIn K (.ref C_Addresses) "__str__" = some (some (.ref f15)))
    (fn15 : PySem.W.isFn K (.ref f15) = true)
    (fi15 : PySem.W.fnIn K f15 = true)
    (l15 : K.lookup f15 = some ⟨oc15, od15, .func (PySem.W.fnOf "__str__" "Addresses.__str__" (defArgs s_Addresses_str) (defBody s_Addresses_str) (defScope s_Addresses_str) .none kV15 dc15 pm15 an15 cd15 ct15), sl15⟩)
    (c15 : PySem.W.codeIn K cd15 "Addresses.__str__" = true)
    (k15 : PySem.W.keepIn K (.ref f15) = true)
    (a16 : PySem.W.findIn K (.ref C_Addresses) "read" = some (some (.ref q16)))
    (pr16 : PySem.W.recIn K q16 "classmethod" = some (.ref f16 :: rs16))
    (cr16 : PySem.W.readsIn K C_Addresses (.type "type") = true)
    (cs16 : PySem.W.specialIn K (.ref C_Addresses) "__getattribute__" = some (some (.builtin "type.__getattribute__")))
    (ca16 : PySem.W.findCls K (.ref C_Addresses) (.type "type") "read" = some (.get (.builtin "classmethod.__get__") (.ref q16) .none (.ref C_Addresses)))
    (fi16 : PySem.W.fnIn K f16 = true)
    (l16 : K.lookup f16 = some ⟨oc16, od16, .func (PySem.W.fnOf "read" "Addresses.read" (defArgs s_Addresses_read) (defBody s_Addresses_read) (defScope s_Addresses_read) .none kV16 dc16 pm16 an16 cd16 ct16), sl16⟩)
    (c16 : PySem.W.codeIn K cd16 "Addresses.read" = true)
    (k16 : PySem.W.keepIn K (.ref f16) = true)
    (a17 : PySem.W.nsIn K mainGlobals "_law_apart" = some (some (.ref f17)))
    (l17 : K.lookup f17 = some ⟨oc17, od17, .func (PySem.W.fnOf "_law_apart" "_law_apart" (defArgs s_law_apart) (defBody s_law_apart) (defScope s_law_apart) .none kV17 dc17 pm17 an17 cd17 ct17), sl17⟩)
    (c17 : PySem.W.codeIn K cd17 "_law_apart" = true)
    (k17 : PySem.W.keepIn K (.ref f17) = true)
    (a18 : PySem.W.findIn K (.ref C_Addresses) "words" = some (some (.ref q18)))
    (pr18 : PySem.W.recIn K q18 "property" = some (.ref f18 :: rs18))
    (pg18 : PySem.W.specialIn K (.ref q18) "__get__" = some (some (.builtin "property.__get__")))
    (pt18 : PySem.W.takesIn K (.ref q18) = some true)
    (l18 : K.lookup f18 = some ⟨oc18, od18, .func (PySem.W.fnOf "words" "Addresses.words" (defArgs s_Addresses_words) (defBody s_Addresses_words) (defScope s_Addresses_words) .none kV18 dc18 pm18 an18 cd18 ct18), sl18⟩)
    (c18 : PySem.W.codeIn K cd18 "Addresses.words" = true)
    (k18 : PySem.W.keepIn K (.ref f18) = true)
    (a19 : PySem.W.findIn K (.ref C_Addresses) "length" = some (some (.ref q19)))
    (pr19 : PySem.W.recIn K q19 "property" = some (.ref f19 :: rs19))
    (pg19 : PySem.W.specialIn K (.ref q19) "__get__" = some (some (.builtin "property.__get__")))
    (pt19 : PySem.W.takesIn K (.ref q19) = some true)
    (l19 : K.lookup f19 = some ⟨oc19, od19, .func (PySem.W.fnOf "length" "Addresses.length" (defArgs s_Addresses_length) (defBody s_Addresses_length) (defScope s_Addresses_length) .none kV19 dc19 pm19 an19 cd19 ct19), sl19⟩)
    (c19 : PySem.W.codeIn K cd19 "Addresses.length" = true)
    (k19 : PySem.W.keepIn K (.ref f19) = true)
    (a20 : PySem.W.nsIn K mainGlobals "check_word" = some (some (.ref f20)))
    (l20 : K.lookup f20 = some ⟨oc20, od20, .func (PySem.W.fnOf "check_word" "check_word" (defArgs s_check_word) (defBody s_check_word) (defScope s_check_word) .none kV20 dc20 pm20 an20 cd20 ct20), sl20⟩)
    (c20 : PySem.W.codeIn K cd20 "check_word" = true)
    (k20 : PySem.W.keepIn K (.ref f20) = true)
    (a21 : PySem.W.nsIn K mainGlobals "differing" = some (some (.ref f21)))
    (l21 : K.lookup f21 = some ⟨oc21, od21, .func (PySem.W.fnOf "differing" "differing" (defArgs s_differing) (defBody s_differing) (defScope s_differing) .none kV21 dc21 pm21 an21 cd21 ct21), sl21⟩)
    (c21 : PySem.W.codeIn K cd21 "differing" = true)
    (k21 : PySem.W.keepIn K (.ref f21) = true)
    (a22 : PySem.W.nsIn K mainGlobals "apart" = some (some (.ref f22)))
    (l22 : K.lookup f22 = some ⟨oc22, od22, .func (PySem.W.fnOf "apart" "apart" (defArgs s_apart) (defBody s_apart) (defScope s_apart) .none kV22 dc22 pm22 an22 cd22 ct22), sl22⟩)
    (c22 : PySem.W.codeIn K cd22 "apart" = true)
    (k22 : PySem.W.keepIn K (.ref f22) = true)
    (a23 : PySem.W.findIn K (.ref C_Addresses) "table" = some (some (.ref f23)))
    (fn23 : PySem.W.isFn K (.ref f23) = true)
    (l23 : K.lookup f23 = some ⟨oc23, od23, .func (PySem.W.fnOf "table" "Addresses.table" (defArgs s_Addresses_table) (defBody s_Addresses_table) (defScope s_Addresses_table) .none kV23 dc23 pm23 an23 cd23 ct23), sl23⟩)
    (c23 : PySem.W.codeIn K cd23 "Addresses.table" = true)
    (k23 : PySem.W.keepIn K (.ref f23) = true)
    (a24 : PySem.W.findIn K (.ref C_Addresses) "apart" = some (some (.ref f24)))
    (fn24 : PySem.W.isFn K (.ref f24) = true)
    (l24 : K.lookup f24 = some ⟨oc24, od24, .func (PySem.W.fnOf "apart" "Addresses.apart" (defArgs s_Addresses_apart) (defBody s_Addresses_apart) (defScope s_Addresses_apart) .none kV24 dc24 pm24 an24 cd24 ct24), sl24⟩)
    (c24 : PySem.W.codeIn K cd24 "Addresses.apart" = true)
    (k24 : PySem.W.keepIn K (.ref f24) = true)
    (a25 : PySem.W.nsIn K mainGlobals "_law_right" = some (some (.ref f25)))
    (l25 : K.lookup f25 = some ⟨oc25, od25, .func (PySem.W.fnOf "_law_right" "_law_right" (defArgs s_law_right) (defBody s_law_right) (defScope s_law_right) .none kV25 dc25 pm25 an25 cd25 ct25), sl25⟩)
    (c25 : PySem.W.codeIn K cd25 "_law_right" = true)
    (k25 : PySem.W.keepIn K (.ref f25) = true)
    (a26 : PySem.W.nsIn K mainGlobals "law" = some (some (.ref f26)))
    (l26 : K.lookup f26 = some ⟨oc26, od26, .func (PySem.W.fnOf "law" "law" (defArgs s_law) (defBody s_law) (defScope s_law) .none kV26 dc26 pm26 an26 cd26 ct26), sl26⟩)
    (c26 : PySem.W.codeIn K cd26 "law" = true)
    (k26 : PySem.W.keepIn K (.ref f26) = true)
    (al0 : PySem.W.nsIn K mainGlobals "apart_words" = some (some (.ref f22)))
    (z0 : PySem.W.nsIn K mainGlobals "len" = some none)
    (z1 : PySem.W.nsIn K mainGlobals "isinstance" = some none)
    (z2 : PySem.W.nsIn K mainGlobals "str" = some none)
    (z3 : PySem.W.nsIn K mainGlobals "all" = some none)
    (z4 : PySem.W.nsIn K mainGlobals "int" = some none)
    (z5 : PySem.W.nsIn K mainGlobals "bool" = some none)
    (z6 : PySem.W.nsIn K mainGlobals "list" = some none)
    (z7 : PySem.W.nsIn K mainGlobals "tuple" = some none)
    (z8 : PySem.W.nsIn K mainGlobals "max" = some none)
    (z9 : PySem.W.nsIn K mainGlobals "range" = some none)
    (z10 : PySem.W.nsIn K mainGlobals "enumerate" = some none)
    (z11 : PySem.W.nsIn K mainGlobals "zip" = some none)
    (z12 : PySem.W.nsIn K mainGlobals "min" = some none)
    (q0 : PySem.W.nsIn K mainGlobals "MOST_SIGNS" = some (some (.int 60 t0)))
    (q1 : PySem.W.nsIn K mainGlobals "SIGNS" = some (some (.str "01*" t1)))
    (q2 : PySem.W.nsIn K mainGlobals "MOST_HOUSES" = some (some (.int 40 t2)))
    (kc_Addresses : PySem.W.kitOne K (.type "int") (.ref C_Addresses) = some false)
    (kb_Addresses_bool : PySem.W.kitOne K (.ref C_Addresses) (.type "bool") = some false)
    (kb_Addresses_int : PySem.W.kitOne K (.ref C_Addresses) (.type "int") = some false)
    (kb_Addresses_str : PySem.W.kitOne K (.ref C_Addresses) (.type "str") = some false)
    (kb_Addresses_list : PySem.W.kitOne K (.ref C_Addresses) (.type "list") = some false)
    (kb_Addresses_tuple : PySem.W.kitOne K (.ref C_Addresses) (.type "tuple") = some false)
    (kb_Addresses_dict : PySem.W.kitOne K (.ref C_Addresses) (.type "dict") = some false)  :
    ∃ fd : FuncData, (∀ (s : Shared) (v : Value), BindsTo s fd ⟨[v], []⟩ [("_law_script", v)]) ∧ ∀ base : Heap, K.In base → base.Ns mainGlobals mg → FnOk PP w K mg base (L2.CX PP w) 10 fa fd ["_law_script"] (DN.spLaw K) := by
  have e := hfa.symm.trans (PySem.W.mg_of X G a26)
  cases e
  have F1 := fun_mk (st := s_Addresses_len) l1 c1 k1
  have b1 := F1.binds (ps := ["self"]) fun _ _ _ _ _ _ us hl => match us, hl with | [_], _ => rfl
  have F2 := fun_mk (st := s_is_word) l2 c2 k2
  have b2 := F2.binds (ps := ["value"]) fun _ _ _ _ _ _ us hl => match us, hl with | [_], _ => rfl
  have F3 := fun_mk (st := s_is_integer) l3 c3 k3
  have b3 := F3.binds (ps := ["value"]) fun _ _ _ _ _ _ us hl => match us, hl with | [_], _ => rfl
  have F4 := fun_mk (st := s_Addresses_check_house) l4 c4 k4
  have b4 := F4.binds (ps := ["self", "house"]) fun _ _ _ _ _ _ us hl => match us, hl with | [_, _], _ => rfl
  have F5 := fun_mk (st := s_Addresses_getitem) l5 c5 k5
  have b5 := F5.binds (ps := ["self", "house"]) fun _ _ _ _ _ _ us hl => match us, hl with | [_, _], _ => rfl
  have F6 := fun_mk (st := s_are_words) l6 c6 k6
  have b6 := F6.binds (ps := ["value"]) fun _ _ _ _ _ _ us hl => match us, hl with | [_], _ => rfl
  have F7 := fun_mk (st := s_Addresses_init) l7 c7 k7
  have b7 := F7.binds (ps := ["self", "words"]) fun _ _ _ _ _ _ us hl => match us, hl with | [_, _], _ => rfl
  have F8 := fun_mk (st := s_law_box) l8 c8 k8
  have b8 := F8.binds (ps := ["_law_cell"]) fun _ _ _ _ _ _ us hl => match us, hl with | [_], _ => rfl
  have F9 := fun_mk (st := s_law_take) l9 c9 k9
  have b9 := F9.binds (ps := ["_law_box_here", "_law_many"]) fun _ _ _ _ _ _ us hl => match us, hl with | [_, _], _ => rfl
  have F10 := fun_mk (st := s_Addresses_eq) l10 c10 k10
  have b10 := F10.binds (ps := ["self", "other"]) fun _ _ _ _ _ _ us hl => match us, hl with | [_, _], _ => rfl
  have F11 := fun_mk (st := s_law_signs) l11 c11 k11
  have b11 := F11.binds (ps := ["_law_box_here", "_law_size"]) fun _ _ _ _ _ _ us hl => match us, hl with | [_, _], _ => rfl
  have F12 := fun_mk (st := s_law_words) l12 c12 k12
  have b12 := F12.binds (ps := ["_law_box_here"]) fun _ _ _ _ _ _ us hl => match us, hl with | [_], _ => rfl
  have F13 := fun_mk (st := s_law_other_words) l13 c13 k13
  have b13 := F13.binds (ps := ["_law_box_here", "_law_words_here"]) fun _ _ _ _ _ _ us hl => match us, hl with | [_, _], _ => rfl
  have F14 := fun_mk (st := s_law_cell_at) l14 c14 k14
  have b14 := F14.binds (ps := ["_law_script", "_law_k"]) fun _ _ _ _ _ _ us hl => match us, hl with | [_, _], _ => rfl
  have F15 := fun_mk (st := s_Addresses_str) l15 c15 k15
  have b15 := F15.binds (ps := ["self"]) fun _ _ _ _ _ _ us hl => match us, hl with | [_], _ => rfl
  have F16 := fun_mk (st := s_Addresses_read) l16 c16 k16
  have b16 := F16.binds (ps := ["cls", "text"]) fun _ _ _ _ _ _ us hl => match us, hl with | [_, _], _ => rfl
  have F17 := fun_mk (st := s_law_apart) l17 c17 k17
  have b17 := F17.binds (ps := ["_law_one", "_law_other"]) fun _ _ _ _ _ _ us hl => match us, hl with | [_, _], _ => rfl
  have F18 := fun_mk (st := s_Addresses_words) l18 c18 k18
  have b18 := F18.binds (ps := ["self"]) fun _ _ _ _ _ _ us hl => match us, hl with | [_], _ => rfl
  have F19 := fun_mk (st := s_Addresses_length) l19 c19 k19
  have b19 := F19.binds (ps := ["self"]) fun _ _ _ _ _ _ us hl => match us, hl with | [_], _ => rfl
  have F20 := fun_mk (st := s_check_word) l20 c20 k20
  have b20 := F20.binds (ps := ["value"]) fun _ _ _ _ _ _ us hl => match us, hl with | [_], _ => rfl
  have F21 := fun_mk (st := s_differing) l21 c21 k21
  have b21 := F21.binds (ps := ["one", "other"]) fun _ _ _ _ _ _ us hl => match us, hl with | [_, _], _ => rfl
  have F22 := fun_mk (st := s_apart) l22 c22 k22
  have b22 := F22.binds (ps := ["one", "other"]) fun _ _ _ _ _ _ us hl => match us, hl with | [_, _], _ => rfl
  have F23 := fun_mk (st := s_Addresses_table) l23 c23 k23
  have b23 := F23.binds (ps := ["self"]) fun _ _ _ _ _ _ us hl => match us, hl with | [_], _ => rfl
  have F24 := fun_mk (st := s_Addresses_apart) l24 c24 k24
  have b24 := F24.binds (ps := ["self", "one", "other"]) fun _ _ _ _ _ _ us hl => match us, hl with | [_, _, _], _ => rfl
  have F25 := fun_mk (st := s_law_right) l25 c25 k25
  have b25 := F25.binds (ps := ["_law_words_here", "_law_book"]) fun _ _ _ _ _ _ us hl => match us, hl with | [_, _], _ => rfl
  have F26 := fun_mk (st := s_law) l26 c26 k26
  have b26 := F26.binds (ps := ["_law_script"]) fun _ _ _ _ _ _ us hl => match us, hl with | [_], _ => rfl
  have T : TX K mg := ⟨C_Addresses, (PySem.W.mg_of X G cg_Addresses), ⟨c1_Addresses, c2_Addresses, c3_Addresses, c4_Addresses⟩, ⟨i1_Addresses, i2_Addresses, i3_Addresses, i4_Addresses⟩, kk_Addresses, na_Addresses_kept, _, _, F1, b1, ⟨a1, fn1, fi1⟩, _, _, F2, b2, (PySem.W.mg_of X G a2), _, _, F3, b3, (PySem.W.mg_of X G a3), _, _, F4, b4, ⟨a4, fn4, k4⟩, _, _, F5, b5, ⟨a5, fn5, fi5⟩, _, _, F6, b6, (PySem.W.mg_of X G a6), _, _, F7, b7, ⟨mm7, a7, fn7, mk7⟩, _, _, F8, b8, (PySem.W.mg_of X G a8), _, _, F9, b9, (PySem.W.mg_of X G a9), _, _, F10, b10, ⟨⟨_, _, _, _, _, _, _, _, _, _, _, _, _, _, _, _, oa10, nsOk_of ob10 ok10, oc10_, od10_⟩, ⟨_, l10, oo10⟩, a10, fn10⟩, _, _, F11, b11, (PySem.W.mg_of X G a11), _, _, F12, b12, (PySem.W.mg_of X G a12), _, _, F13, b13, (PySem.W.mg_of X G a13), _, _, F14, b14, (PySem.W.mg_of X G a14), _, _, F15, b15, ⟨a15, fn15, fi15⟩, _, _, F16, b16, q16, ⟨cr16, cs16⟩, ⟨ca16, ⟨_, pr16⟩, fi16⟩, _, _, F17, b17, (PySem.W.mg_of X G a17), _, _, F18, b18, q18, ⟨a18, pg18, pt18, ⟨_, pr18⟩⟩, _, _, F19, b19, q19, ⟨a19, pg19, pt19, ⟨_, pr19⟩⟩, _, _, F20, b20, (PySem.W.mg_of X G a20), _, _, F21, b21, (PySem.W.mg_of X G a21), _, _, F22, b22, (PySem.W.mg_of X G a22), _, _, F23, b23, ⟨a23, fn23, k23⟩, _, _, F24, b24, ⟨a24, fn24, k24⟩, _, _, F25, b25, (PySem.W.mg_of X G a25), _, _, F26, b26, (PySem.W.mg_of X G a26), (PySem.W.mg_of X G al0), (PySem.W.mg_none_of X G z0), (PySem.W.mg_none_of X G z1), (PySem.W.mg_none_of X G z2), (PySem.W.mg_none_of X G z3), (PySem.W.mg_none_of X G z4), (PySem.W.mg_none_of X G z5), (PySem.W.mg_none_of X G z6), (PySem.W.mg_none_of X G z7), (PySem.W.mg_none_of X G z8), (PySem.W.mg_none_of X G z9), (PySem.W.mg_none_of X G z10), (PySem.W.mg_none_of X G z11), (PySem.W.mg_none_of X G z12), t0, (PySem.W.mg_of X G q0), t1, (PySem.W.mg_of X G q1), t2, (PySem.W.mg_of X G q2), kc_Addresses, kb_Addresses_bool, kb_Addresses_int, kb_Addresses_str, kb_Addresses_list, kb_Addresses_tuple, kb_Addresses_dict⟩
  exact ⟨PySem.W.fnOf "law" "law" (defArgs s_law) (defBody s_law) (defScope s_law) .none kV26 dc26 pm26 an26 cd26 ct26, fun s v => .of_eq rfl, fun base _ _ => (G_law_end T F26).imp (DN.law_sp (Z := zt T) law_true)⟩
end Q12
open PySem PySem.W PyProof.Rows
set_option maxHeartbeats 0 in
theorem PySem.Challenge.cw_openposts_k12_addresses_told_holds : PySem.Challenge.rw_openposts_k12_addresses_told.Holds := by
  w_on; o_law; k_head; (case hw => w_witness2)
  k_fill
  refine L2.walk_of (l := PySem.Challenge.rw_openposts_k12_addresses_told) (n := 63) (k := 10) (x := "_law_script") (CX := fun w => L2.CX PySem.Challenge.pw_openposts_k12_addresses_told w) (sp := fun w => DN.spLaw _) rfl (by decide) rfl ⟨rfl, by decide, by decide⟩ (fun w h Y => PySem.W.kIn_of Y) ?F (fun _ _ a ns hl _ hS => ⟨a, ns, rfl, hS, hl, fun _ => rfl⟩) (fun _ _ _ _ _ h => DN.cx_no h)
  case F =>
    intro w mg fa h KX G hmg
    refine' Q12.all_mk KX G hmg ?cg_Addresses ?c1_Addresses ?c2_Addresses ?c3_Addresses ?c4_Addresses ?i1_Addresses ?i2_Addresses ?i3_Addresses ?i4_Addresses ?kk_Addresses ?na_Addresses_kept ?a1 ?fn1 ?fi1 ?l1 ?c1 ?k1 ?a2 ?l2 ?c2 ?k2 ?a3 ?l3 ?c3 ?k3 ?a4 ?fn4 ?l4 ?c4 ?k4 ?a5 ?fn5 ?fi5 ?l5 ?c5 ?k5 ?a6 ?l6 ?c6 ?k6 ?a7 ?fn7 ?mm7 ?mk7 ?l7 ?c7 ?k7 ?a8 ?l8 ?c8 ?k8 ?a9 ?l9 ?c9 ?k9 ?a10 ?fn10 ?oa10 ?ob10 ?ok10 ?oc10_ ?od10_ ?l10 ?oo10 ?c10 ?k10 ?a11 ?l11 ?c11 ?k11 ?a12 ?l12 ?c12 ?k12 ?a13 ?l13 ?c13 ?k13 ?a14 ?l14 ?c14 ?k14 ?a15 ?fn15 ?fi15 ?l15 ?c15 ?k15 ?a16 ?pr16 ?cr16 ?cs16 ?ca16 ?fi16 ?l16 ?c16 ?k16 ?a17 ?l17 ?c17 ?k17 ?a18 ?pr18 ?pg18 ?pt18 ?l18 ?c18 ?k18 ?a19 ?pr19 ?pg19 ?pt19 ?l19 ?c19 ?k19 ?a20 ?l20 ?c20 ?k20 ?a21 ?l21 ?c21 ?k21 ?a22 ?l22 ?c22 ?k22 ?a23 ?fn23 ?l23 ?c23 ?k23 ?a24 ?fn24 ?l24 ?c24 ?k24 ?a25 ?l25 ?c25 ?k25 ?a26 ?l26 ?c26 ?k26 ?al0 ?z0 ?z1 ?z2 ?z3 ?z4 ?z5 ?z6 ?z7 ?z8 ?z9 ?z10 ?z11 ?z12 ?q0 ?q1 ?q2 ?kc_Addresses ?kb_Addresses_bool ?kb_Addresses_int ?kb_Addresses_str ?kb_Addresses_list ?kb_Addresses_tuple ?kb_Addresses_dict
    (case cg_Addresses => k_is)
    (case c1_Addresses => k_is)
    (case c2_Addresses => k_is)
    (case c3_Addresses => k_is)
    (case c4_Addresses => k_is)
    (case i1_Addresses => k_is)
    (case i2_Addresses => k_is)
    (case i3_Addresses => k_is)
    (case i4_Addresses => k_is)
    (case kk_Addresses => kit_is)
    (case na_Addresses_kept => k_is)
    (case a1 => k_is)
    (case fn1 => k_is)
    (case fi1 => k_is)
    (case l1 => k_is)
    (case c1 => k_is)
    (case k1 => k_is)
    (case a2 => k_is)
    (case l2 => k_is)
    (case c2 => k_is)
    (case k2 => k_is)
    (case a3 => k_is)
    (case l3 => k_is)
    (case c3 => k_is)
    (case k3 => k_is)
    (case a4 => k_is)
    (case fn4 => k_is)
    (case l4 => k_is)
    (case c4 => k_is)
    (case k4 => k_is)
    (case a5 => k_is)
    (case fn5 => k_is)
    (case fi5 => k_is)
    (case l5 => k_is)
    (case c5 => k_is)
    (case k5 => k_is)
    (case a6 => k_is)
    (case l6 => k_is)
    (case c6 => k_is)
    (case k6 => k_is)
    (case a7 => k_is)
    (case fn7 => k_is)
    (case mm7 => k_is)
    (case mk7 => k_is)
    (case l7 => k_is)
    (case c7 => k_is)
    (case k7 => k_is)
    (case a8 => k_is)
    (case l8 => k_is)
    (case c8 => k_is)
    (case k8 => k_is)
    (case a9 => k_is)
    (case l9 => k_is)
    (case c9 => k_is)
    (case k9 => k_is)
    (case a10 => k_is)
    (case fn10 => k_is)
    (case oa10 => k_is)
    (case ob10 => k_is)
    (case ok10 => first | rfl | decide +kernel)
    (case oc10_ => k_is)
    (case od10_ => k_is)
    (case l10 => k_is)
    (case oo10 => rfl)
    (case c10 => k_is)
    (case k10 => k_is)
    (case a11 => k_is)
    (case l11 => k_is)
    (case c11 => k_is)
    (case k11 => k_is)
    (case a12 => k_is)
    (case l12 => k_is)
    (case c12 => k_is)
    (case k12 => k_is)
    (case a13 => k_is)
    (case l13 => k_is)
    (case c13 => k_is)
    (case k13 => k_is)
    (case a14 => k_is)
    (case l14 => k_is)
    (case c14 => k_is)
    (case k14 => k_is)
    (case a15 => k_is)
    (case fn15 => k_is)
    (case fi15 => k_is)
    (case l15 => k_is)
    (case c15 => k_is)
    (case k15 => k_is)
    (case a16 => k_is)
    (case pr16 => k_is)
    (case cr16 => k_is)
    (case cs16 => k_is)
    (case ca16 => k_is)
    (case fi16 => k_is)
    (case l16 => k_is)
    (case c16 => k_is)
    (case k16 => k_is)
    (case a17 => k_is)
    (case l17 => k_is)
    (case c17 => k_is)
    (case k17 => k_is)
    (case a18 => k_is)
    (case pr18 => k_is)
    (case pg18 => k_is)
    (case pt18 => k_is)
    (case l18 => k_is)
    (case c18 => k_is)
    (case k18 => k_is)
    (case a19 => k_is)
    (case pr19 => k_is)
    (case pg19 => k_is)
    (case pt19 => k_is)
    (case l19 => k_is)
    (case c19 => k_is)
    (case k19 => k_is)
    (case a20 => k_is)
    (case l20 => k_is)
    (case c20 => k_is)
    (case k20 => k_is)
    (case a21 => k_is)
    (case l21 => k_is)
    (case c21 => k_is)
    (case k21 => k_is)
    (case a22 => k_is)
    (case l22 => k_is)
    (case c22 => k_is)
    (case k22 => k_is)
    (case a23 => k_is)
    (case fn23 => k_is)
    (case l23 => k_is)
    (case c23 => k_is)
    (case k23 => k_is)
    (case a24 => k_is)
    (case fn24 => k_is)
    (case l24 => k_is)
    (case c24 => k_is)
    (case k24 => k_is)
    (case a25 => k_is)
    (case l25 => k_is)
    (case c25 => k_is)
    (case k25 => k_is)
    (case a26 => k_is)
    (case l26 => k_is)
    (case c26 => k_is)
    (case k26 => k_is)
    (case al0 => k_is)
    (case z0 => k_is)
    (case z1 => k_is)
    (case z2 => k_is)
    (case z3 => k_is)
    (case z4 => k_is)
    (case z5 => k_is)
    (case z6 => k_is)
    (case z7 => k_is)
    (case z8 => k_is)
    (case z9 => k_is)
    (case z10 => k_is)
    (case z11 => k_is)
    (case z12 => k_is)
    (case q0 => k_is)
    (case q1 => k_is)
    (case q2 => k_is)
    (case kc_Addresses => kit_is)
    (case kb_Addresses_bool => kit_is)
    (case kb_Addresses_int => kit_is)
    (case kb_Addresses_str => kit_is)
    (case kb_Addresses_list => kit_is)
    (case kb_Addresses_tuple => kit_is)
    (case kb_Addresses_dict => kit_is)

