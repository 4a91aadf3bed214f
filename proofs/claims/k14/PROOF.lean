import PyProof.Rows.All
import Wide.All
import OpenK.AllK
import Wide.FinOn
import HandS.ForMost
import HandS.ForExc
import HandS.ExcInit
import HandS.ExcSuper
import KE.KExcSuper
import PyProof.ListStr
import PyProof.StrOps2
import HandS.Evl
import HandS.IsInst
import HandS.RaiseMore
import KE.KExcIs
import HandS.ExcIs
import HandS.Walk
import HandS.TupAny
import KE.GoesEnum
import KE.KDictZip
import HandS.Deep
import HandS.Property
import PyProof.InstNe
import PyProof.Rows.PlainNe
import HandS.ClsMeth
import PyProof.CallStr
import PyProof.Rows.Range3
import OpenK.KOps
import HandS.CallLocal
import HandS.Lambda
import HandS.StrMore
import HandS.SortInts
import HandS.Style
import HandS.WideBits
import HandS.Strs
import PyProof.SeqIndex
import HandS.CallSlots
import HandS.ExcCtx
import HandS.HotCalls
import HandS.ExcInitHot
import HandS.Zip
import HandS.Conv
import HandS.Text
import KE.KIndexOf
import KE.GoesMore
import HandS.TupSets
import HandS.DictComp
import HandS.Defaults
import HandS.Dict
import HandS.SortRule
import KE.KItemsList
import HandS.DictTup
import HandS.ExcField
import PyProof.ReprRoads
import HandS.FStr
import KE.SortData
import HandS.SetBool
import HandS.SetFor
import HandS.More
import PySem.Challenge.RW_openposts_k14_addresses_changed
set_option Elab.async false
set_option linter.all false
set_option maxRecDepth 100000
set_option maxHeartbeats 4000000
namespace OP
open PySem PySem.Spec PyProof.Rows L2
end OP
namespace OP
open PySem PySem.Spec PyProof.Rows L2
section
variable {X : Cx}
/-- the signs of a text as texts of one sign -/
def signsV (z : Str) : List V := z.cps.toList.map fun c => V.str ⟨#[c]⟩
theorem signsV_length (z : Str) : (signsV z).length = z.length := by
  unfold signsV
  rw [List.length_map]
  rfl
theorem call_list_text (hc : X.calm = true) : CallR X (.type "list") (fun xs H Q => ∃ z : Str, xs = [.str z] ∧ z.length ≤ sizeLine ∧ ∀ p, H p = none → Q (.ref p) (upd H p (.lst (signsV z)))) := by
  intro pins s σ H xs us Q I r h
  obtain ⟨z, rfl, hz, q⟩ := h
  obtain ⟨u, rfl, t, rfl⟩ := vals1 r
  refine call_list_str (I.ok.hd hc) z t (fun h' tk acc' c' hk hS hit => ?_) hz
  have hf : H s.heap.objs.size = none := I.hok.fresh (Nat.le_refl _)
  refine ⟨.ref s.heap.objs.size, upd H s.heap.objs.size (.lst (signsV z)), I.laid (t' := tk) hk (Nat.le_refl _) ?_, rfl, q _ hf⟩
  refine ⟨by rw [signsV_length]; exact hz, acc'.toList, c', ?_, by simpa using hS⟩
  obtain ⟨hl, hi⟩ := hit
  have key : ∀ (l : List Nat) (ys : List Value), l.length = ys.length → (∀ (i : Nat) v, ys[i]? = some v → ∃ c u, l[i]? = some c ∧ v = Value.str ⟨#[c]⟩ u) → Vals (l.map fun c => V.str ⟨#[c]⟩) ys := by
    intro l
    induction l with
    | nil =>
      intro ys e _
      cases ys with
      | nil => exact .nil
      | cons y r => cases e
    | cons c l ih =>
      intro ys e hh
      cases ys with
      | nil => cases e
      | cons y r =>
        obtain ⟨c', u, e1, e2⟩ := hh 0 y rfl
        cases e1
        exact .cons ⟨u, e2⟩ (ih r (Nat.succ.inj e) fun i v q => hh (i + 1) v q)
  refine key z.cps.toList acc'.toList (by simpa using hl.symm) fun i v hv => ?_
  obtain ⟨c, u, e1, e2⟩ := hi i v (by simpa using hv)
  exact ⟨c, u, by simpa using e1, e2⟩
/-- a text n times -/
def repS (z : Str) (n : Nat) : Str := ⟨(List.replicate n z.cps.toList).flatten.toArray⟩
theorem repS_fold (z : Str) (n : Nat) : (⟨(List.replicate n z.cps).foldl (· ++ ·) #[]⟩ : Str) = repS z n := by
  have key : ∀ (n : Nat) (a : Array Nat), (List.replicate n z.cps).foldl (· ++ ·) a = a ++ (List.replicate n z.cps.toList).flatten.toArray := by
    intro n
    induction n with
    | zero => intro a; simp
    | succ n ih =>
      intro a
      rw [List.replicate_succ, List.foldl_cons, ih, List.replicate_succ, List.flatten_cons]
      apply Array.ext'
      simp
  unfold repS
  rw [key n #[]]
  simp
theorem repS_length (z : Str) (n : Nat) : (repS z n).length = z.length * n := by
  show (List.replicate n z.cps.toList).flatten.toArray.size = z.cps.size * n
  rw [List.size_toArray, List.length_flatten, List.map_replicate, Array.length_toList]
  induction n with
  | zero => rfl
  | succ n ih =>
    rw [List.replicate_succ, List.sum_cons, ih, Nat.mul_succ, Nat.add_comm]
theorem op_mul_str : OpR X (binaryOp .Mult) (fun x y H Q => ∃ (z : Str) (n : Int), x = .str z ∧ y = .int n ∧ 0 ≤ n ∧ n ≤ 10000 ∧ z.length ≤ 1000 ∧ Q (.str (repS z n.toNat)) H) := by
  intro pins s σ H x y u v Q I rx ry h
  obtain ⟨z, n, rfl, rfl, h0, h1, hz, q⟩ := h
  obtain ⟨t, rfl⟩ := rx
  obtain ⟨t2, rfl⟩ := ry
  have hr : (decide (n < -(2 ^ 63 : Int)) || decide (n ≥ 2 ^ 63)) = false := by
    rw [decide_eq_false (by omega), decide_eq_false (by omega)]
    rfl
  refine PySem.P.mul_str hr (fun hn _ => ?_) (fun hn _ => ?_) ?_
  · have e : (1000 : Int) ≤ (2 ^ 63 - 1) / n := by
      rw [Int.le_ediv_iff_mul_le (by omega)]
      omega
    omega
  · have : z.length * n.toNat ≤ 1000 * 10000 := Nat.mul_le_mul hz (by omega)
    unfold Builtin.Str.tooLong
    have e : ¬ (z.length * n.toNat > sizeLine) := by rw [sizeLine_eq]; omega
    simpa using Nat.le_of_not_gt e
  · by_cases hn : n < 1
    · rw [if_pos hn]
      have e : n.toNat = 0 := by omega
      rw [e] at q
      exact ⟨by decide, .str _, H, I.tok _, ⟨_, rfl⟩, q⟩
    · rw [if_neg hn]
      by_cases h2 : (n == 1 || z.length == 0) = true
      · rw [if_pos h2]
        have e : repS z n.toNat = z := by
          rcases Bool.or_eq_true_iff.mp h2 with e | e
          · have : n = 1 := by simpa using e
            subst this
            show repS z 1 = z
            unfold repS
            simp
          · have e0 : z.cps = #[] := by
              have : z.length = 0 := by simpa using e
              exact Array.eq_empty_of_size_eq_zero this
            obtain ⟨cps⟩ := z
            dsimp only at e0
            subst e0
            unfold repS
            simp
        rw [e] at q
        exact ⟨.str z, H, I, ⟨_, rfl⟩, q⟩
      · rw [if_neg h2]
        refine ⟨?_, .str (repS z n.toNat), H, I.tok _, ⟨s.toks, ?_⟩, q⟩
        · have e := repS_length z n.toNat
          rw [← repS_fold] at e
          have : z.length * n.toNat ≤ 1000 * 10000 := Nat.mul_le_mul hz (by omega)
          rw [e, sizeLine_eq]
          omega
        · rw [← repS_fold]
end
end OP
namespace OP
open PySem PySem.Spec PyProof.Rows L2
/-- a value's type, errors of the package too -/
inductive TyZ (K : PySem.W.Frag) (H : Hp) : V → Value → Prop where
  | x {v : V} {t : Value} (h : TyX K H v t) : TyZ K H v t
  | exc {a C d : Addr} {fs : List (Str × V)} (T : ExcC K C) (e : H a = some (exo a C (some d))) (ed : H d = some (exd d fs)) : TyZ K H (.ref a) (.ref C)
theorem TyZ.mono {K : PySem.W.Frag} {H H' : Hp} {v : V} {t : Value} (e : Evl.Ex H H') (h : TyZ K H v t) : TyZ K H' v t := by
  cases h with
  | exc T h1 h2 => exact .exc T (e _ _ h1) (e _ _ h2)
  | x h =>
    refine .x ?_
    cases h with
    | byt b => exact .byt b
    | set h => exact .set (e _ _ h)
    | kList h c => exact .kList h c
    | kTuple h c => exact .kTuple h c
    | kDict h c => exact .kDict h c
    | fTuple h => exact .fTuple (e _ _ h)
    | fDict h => exact .fDict (e _ _ h)
    | base h =>
      refine .base ?_
      cases h with
      | non => exact .non
      | bl b => exact .bl b
      | int b => exact .int b
      | str b => exact .str b
      | flt b => exact .flt b
      | lst h => exact .lst (e _ _ h)
      | frz h => exact .frz (e _ _ h)
      | tup h => exact .tup (e _ _ h)
      | dK h => exact .dK (e _ _ h)
      | dT h => exact .dT (e _ _ h)
      | ins h a b c d f => exact .ins (e _ _ h) a b c d f
def rIsZ (K : PySem.W.Frag) : List V → Hp → VK → Prop := fun xs H Q => ∃ (x c : V) (t u : Value) (b : Bool), xs = [x, c] ∧ ClsV c u ∧ TyZ K H x t ∧ PySem.W.kitOne K t u = some b ∧ Q (.bl b) H
theorem call_isZ {X : Cx} : CallR X (.builtin "isinstance") (rIsZ X.K) := by
  intro pins s σ H xs us Q I r h
  obtain ⟨x, c, t, u, b, rfl, k, ty, e, q⟩ := h
  cases ty with
  | x ty => exact call_isi pins s σ H _ us Q I r ⟨x, c, t, u, b, rfl, k, ty, e, q⟩
  | @exc a C d fs T ea ed =>
    obtain ⟨u1, u2, rfl, r1, r2⟩ := vals2 r
    obtain rfl : u1 = Value.ref a := r1
    obtain rfl := k.eq r2
    obtain ⟨t1, hx⟩ := exo_at I.hok ea
    obtain ⟨mA, ⟨od, es, ep, hd, _⟩, _⟩ := exd_at I.hok ed
    have hcl : (PySem.W.clsIn X.K C).isSome = true := by
      obtain ⟨cd, hc, _⟩ := PySem.W.any_some T.hd
      rw [hc]
      rfl
    have J : PySem.W.InstAt s.heap a { cls := .ref C, dict := some d, data := .fields #[.ref t1, .none, .none, .none, .bool false, .none] } C (some od) := ⟨hx, rfl, rfl, hd⟩
    exact PySem.W.kia_one (PySem.W.kitx_exc hcl T.hg T.hk T.hs T.ha T.hn T.ht T.hm) I.kIn J e (fun z => nomatch z) fun tk => ⟨.bl b, H, I.tok tk, rfl, q⟩
end OP
namespace OP
open PySem PySem.Spec PyProof.Rows L2
def Box (n : Nat) (o : HO) : Prop := ∃ x y c : Int, o = .lst [.int x, .int y, .int c] ∧ 0 ≤ x ∧ 0 ≤ y ∧ y < 2147483648 ∧ 0 ≤ c ∧ c ≤ n
def BoxAt (H : Hp) (b : Addr) (n : Nat) : Prop := ∃ o, H b = some o ∧ Box n o
/-- all but b stands as it stood -/
def Eb (b : Addr) (H H' : Hp) : Prop := ∀ a o, a ≠ b → H a = some o → H' a = some o
theorem Eb.refl (b : Addr) (H : Hp) : Eb b H H := fun _ _ _ h => h
theorem Eb.trans {b : Addr} {H H1 H2 : Hp} (x : Eb b H H1) (y : Eb b H1 H2) : Eb b H H2 := fun a o n h => y a o n (x a o n h)
theorem Eb.of {b : Addr} {H H' : Hp} (x : Evl.Ex H H') : Eb b H H' := fun a o _ h => x a o h
theorem BoxAt.mono {H : Hp} {b : Addr} {n m : Nat} (h : BoxAt H b n) (l : n ≤ m) : BoxAt H b m := by
  obtain ⟨o, e, x, y, c, h1, h2, h3, h4, h5, h6⟩ := h
  exact ⟨o, e, x, y, c, h1, h2, h3, h4, h5, by omega⟩
theorem BoxAt.ex {H H' : Hp} {b : Addr} {n : Nat} (h : BoxAt H b n) (e : Evl.Ex H H') : BoxAt H' b n := by
  obtain ⟨o, q, r⟩ := h
  exact ⟨o, e _ _ q, r⟩
end OP
namespace OP
open PySem PySem.Spec PyProof.Rows L2 Evl
theorem str_ext {a b : Str} (h : a.cps.toList = b.cps.toList) : a = b := by
  obtain ⟨⟨a⟩⟩ := a
  obtain ⟨⟨b⟩⟩ := b
  dsimp only at h
  rw [h]
theorem join_fold (g : Str) : ∀ (ts : List Str) (a : Array Nat), (ts.foldl (fun acc p => acc ++ g.cps ++ p.cps) a).toList = a.toList ++ (ts.map fun p => g.cps.toList ++ p.cps.toList).flatten
  | [], a => by simp
  | t :: r, a => by
    rw [List.foldl_cons, join_fold g r, List.map_cons, List.flatten_cons]
    simp
theorem join_cons (g t : Str) (r : List Str) : (Txt.join g (t :: r)).cps.toList = t.cps.toList ++ (r.map fun p => g.cps.toList ++ p.cps.toList).flatten := join_fold g r t.cps
theorem flat_signs : ∀ cs : List Nat, (cs.map fun c => ([] : List Nat) ++ [c]).flatten = cs
  | [] => rfl
  | c :: r => by
    rw [List.map_cons, List.flatten_cons, flat_signs r]
    rfl
theorem join_signs : ∀ cs : List Nat, Txt.join "" (cs.map fun c => (⟨#[c]⟩ : Str)) = ⟨cs.toArray⟩
  | [] => rfl
  | c :: r => by
    apply str_ext
    rw [List.map_cons, join_cons, List.map_map]
    have e := flat_signs r
    show [c] ++ (r.map fun c => ([] : List Nat) ++ [c]).flatten = c :: r
    rw [e]
    rfl
end OP
namespace OP
open PySem PySem.Spec PyProof.Rows L2 Evl
section
variable {X : Cx} (K : PySem.W.Frag)
variable {tg o e : Expr} {es : List Expr} {to tl : TE} {t : TA} {name : Str} {apos cpos pos : Pos} {T id : String} {r : V → List V → Hp → VK → Prop}
theorem pi_listK (hl : PE X e tl) (h : X.K = K := by rfl) : PI X tg e (iList K tl) := h ▸ pi_list hl
theorem pi_tupK (hl : PE X e tl) (h : X.K = K := by rfl) : PI X tg e (iTup K tl) := h ▸ pi_tup hl
theorem pe_bmK (pa : PlainAttrs T) (slot : Slot T name id) (hty : typeOf (.builtin id) = pure (.type "method_descriptor")) (hm : MtR X id r) (ho : PE X o to) (ha : PA X (e :: es) t)
    (hbase : attributeBase o name X.env (eval o X.env) = eval o X.env := by rfl)
    (hfew : ((backTo cpos (starEach (e :: es) X.env)).all (fun x => !x.1) && (backToKw cpos (keywordEach [] X.env)).all (fun x => x.1.isSome)
      && decide ((e :: es).length + ([] : List Keyword).length + (if ([] : List Keyword).isEmpty then 0 else 1) < 30)) = true := by rfl)
    (hline : (apos.endLine == cpos.line) = true := by rfl) (hs : starEach (e :: es) X.env = (false, eval e X.env) :: starEach es X.env := by rfl) (hplain : (backTo cpos (starEach es X.env)).any (·.1) = false := by rfl) (hK : X.K = K := by rfl) :
    PE X (.Call (.Attribute o name apos) (e :: es) [] cpos) (tBM K T r to t) := hK ▸ pe_bm pa slot hty hm ho ha hbase hfew hline hs hplain
theorem pe_fldK {f : Str} (he : PE X e tl) (hb : attributeBase e f X.env (eval e X.env) = eval e X.env) (hK : X.K = K := by rfl) : PE X (.Attribute e f pos) (tFld K tl f) := hK ▸ pe_fld he hb
end
end OP
namespace OP
open PySem PySem.Spec PyProof.Rows L2
/-- a zip over two iterators, whatever it knows of the tuple that it gave out -/
abbrev IsZipR (h : Heap) (z TI TO : Addr) (f0 : Value) (f1 : Bool) : Prop :=
  h.get? z = some { cls := .type "zip", dict := none, data := .fields #[f0, .bool f1, .bool false, .ref TI, .ref TO], slots := #[] }
def RawOr (f0 : Value) : Prop := f0 = .none ∨ ∃ T : Nat, f0 = rawInt T
section
variable {prog : Program} {w : World} {A : Around} {E : Value → Shared → Prop} {s : Shared}
theorem alive {a : Addr} {Q : Option Obj → Shared → Prop} (h : Q (s.heap.get? a) s) : wpAny (model prog w) A (loadIfAlive a) Q E s := fun _ _ _ => h
theorem own_free {z TI TO : Addr} {f0 : Value} {f1 : Bool} {Q : Bool → Shared → Prop} (hz : IsZipR s.heap z TI TO f0 f1) (hf : RawOr f0)
    (h : ∀ b h' f1', IsZipR h' z TI TO f0 f1' → Heap.SameBut z s.heap h' → Q b { s with heap := h' }) : wpAny (model prog w) A (Builtin.SmallTypes.ownedTupleIsFree (.ref z)) Q E s := by
  unfold Builtin.SmallTypes.ownedTupleIsFree
  rcases hf with rfl | ⟨T, rfl⟩
  · refine wpAny_bind (wpAny_field hz rfl (x := .none) rfl (wpAny_pure ?_))
    exact h true s.heap f1 hz (Heap.SameBut.refl _ _)
  · refine wpAny_bind (wpAny_field hz rfl (x := rawInt T) rfl ?_)
    show wpAny _ _ (loadIfAlive ((T : Int).toNat) >>= _) _ _ _
    rw [Int.toNat_natCast]
    refine wpAny_bind (alive ?_)
    cases hT : s.heap.get? T with
    | none => exact wpAny_pure (h true s.heap f1 hz (Heap.SameBut.refl _ _))
    | some oT =>
      simp only [Option.isNone_some, Bool.false_eq_true, if_false]
      refine wpAny_bind (wpAny_field hz rfl (x := .bool f1) rfl ?_)
      cases f1 with
      | true =>
        rw [if_neg (show ¬ ((Value.bool true != Value.bool true) = true) from Bool.false_ne_true)]
        exact wpAny_pure (h false s.heap true hz (Heap.SameBut.refl _ _))
      | false =>
        rw [if_pos (show (Value.bool false != Value.bool true) = true from rfl)]
        exact wpAny_bind (wpAny_setField_rec hz (by simp) fun h₁ hz₁ hs₁ => wpAny_pure (h false h₁ true hz₁ hs₁))
theorem upd_tup2 {T : Addr} {a1 a2 x : Value} {k : Nat} {Q : Unit → Shared → Prop} (hT : IsTupOf2 s.heap T a1 a2)
    (h : ∀ h', h'.get? T = some { cls := .type "tuple", data := .seq ((#[a1, a2] : Array Value).setIfInBounds k x) } → Heap.SameBut T s.heap h' → Q () { s with heap := h' }) :
    wpAny (model prog w) A (updateSeq T (·.setIfInBounds k x)) Q E s := updateSeq_IsTupOf2 hT h
variable {z TI TO i1 i2 : Addr} {fp1 fp2 : List Addr} {n i : Nat} {P1 P2 : Nat → Value → Prop} {St1 St2 : Nat → Heap → Prop} {a1 a2 f0 : Value} {f1 : Bool}
/-- the next pair of a zip, whether its own tuple is free or not: a new tuple -/
theorem zip_next_any {Q : Value → Shared → Prop} (S : ZipSep2 z TI TO i1 i2 fp1 fp2) (D1 : Draws prog w A i1 fp1 n P1 St1) (D2 : Draws prog w A i2 fp2 n P2 St2)
    (hz : IsZipR s.heap z TI TO f0 f1) (hf : RawOr f0) (hTI : IsTupOf2 s.heap TI (.ref i1) (.ref i2)) (hTO : IsTupOf2 s.heap TO a1 a2) (st1 : St1 i s.heap) (st2 : St2 i s.heap) (hlt : i < n)
    (hQ : ∀ x1 x2 h' tk g0 g1 b1 b2, P1 i x1 → P2 i x2 → IsZipR h' z TI TO g0 g1 → RawOr g0 → IsTupOf2 h' TO b1 b2 → St1 (i + 1) h' → St2 (i + 1) h' → IsTupOf2 h' s.heap.objs.size x1 x2 → h'.objs.size = s.heap.objs.size + 1 →
      (∀ c o, c ≠ z → c ≠ TO → c ≠ i1 → c ≠ i2 → s.heap.get? c = some o → h'.get? c = some o) → Q (.ref s.heap.objs.size) { s with heap := h', toks := tk }) :
    wpAny (model prog w) A (Builtin.«zip.__next__» ⟨[.ref z], []⟩) (fun fin s' => ∃ v, fin = .done (.ret v) ∧ Q v s') E s := by
  obtain ⟨hp, g, d, tk0, os⟩ := s
  show wpAny _ _ (field (.ref z) 2 >>= _) _ _ _
  refine wpAny_bind (wpAny_field hz rfl (x := .bool false) rfl ?_)
  show wpAny _ _ (field (.ref z) 3 >>= _) _ _ _
  refine wpAny_bind (wpAny_field hz rfl (x := .ref TI) rfl ?_)
  refine wpAny_bind (wpAny_seqItems hTI rfl ?_)
  show wpAny _ _ (Builtin.SmallTypes.ownedTupleIsFree (.ref z) >>= _) _ _ _
  refine wpAny_bind (own_free hz hf fun b hq f1' hzq hsq => ?_)
  replace hsq : Heap.SameBut z hp hq := hsq
  have hTIq : IsTupOf2 hq TI (.ref i1) (.ref i2) := hsq.extBut _ _ S.TIz hTI
  have hTOq : IsTupOf2 hq TO a1 a2 := hsq.extBut _ _ S.TOz hTO
  have st1q := D1.over st1 hsq S.zf1
  have st2q := D2.over st2 hsq S.zf2
  cases b with
  | false =>
    simp only [Bool.false_eq_true, if_false]
    refine wpAny_bind ?_
    simp only [← Array.forIn_toList, List.forIn_cons, List.forIn_nil]
    refine wpAny_bind (wpAny_bind (wpAny_holding ?_))
    show wpAny _ _ (Builtin.SmallTypes.nextOf (.ref i1) >>= _) _ _ ⟨hq, g, d, tk0, os⟩
    refine wpAny_bind (D1.item i _ _ _ hlt st1q fun x1 p1 tk1 hx1 sn1 hp1 => wpAny_pure (wpAny_pure ?_))
    replace hp1 : Heap.SameBut i1 hq p1 := hp1
    refine wpAny_bind (wpAny_bind (wpAny_holding ?_))
    show wpAny _ _ (Builtin.SmallTypes.nextOf (.ref i2) >>= _) _ _ ⟨p1, g, d, tk1, os⟩
    refine wpAny_bind (D2.item i _ _ _ hlt (D2.over st2q hp1 S.sep1_2) fun x2 p2 tk2 hx2 sn2 hp2 => wpAny_pure (wpAny_pure (wpAny_pure ?_)))
    replace hp2 : Heap.SameBut i2 p1 p2 := hp2
    show wpAny _ _ (newTuple [x1, x2] >>= _) _ _ ⟨p2, g, d, tk2, os⟩
    refine wpAny_bind (wpAny_newTuple (wpAny_pure ⟨_, rfl, ?_⟩))
    have hsz : p2.objs.size = hp.objs.size := by rw [hp2.1, hp1.1, hsq.1]
    have hT : IsTupOf2 (p2.push { cls := .type "tuple", data := .seq #[x1, x2] }) hp.objs.size x1 x2 := by
      rw [← hsz]
      exact Heap.get?_push_size _ rfl
    have up : ∀ c o, p2.get? c = some o → (p2.push { cls := .type "tuple", data := .seq #[x1, x2] }).get? c = some o := fun c o e => Heap.get?_push_of_some _ e
    show Q (.ref p2.objs.size) ⟨p2.push { cls := .type "tuple", data := .seq #[x1, x2] }, g, d, tk2, os⟩
    rw [hsz]
    exact hQ x1 x2 _ tk2 _ _ _ _ hx1 hx2 (up _ _ (hp2.extBut _ _ S.zi2 (hp1.extBut _ _ S.zi1 hzq))) hf (up _ _ (hp2.extBut _ _ S.Ti2 (hp1.extBut _ _ S.Ti1 hTOq)))
      (D1.frame _ _ _ (D1.over sn1 hp2 S.sep2_1) fun b hb o e => up b o e) (D2.frame _ _ _ sn2 fun b hb o e => up b o e) hT (by rw [Heap.size_push, hsz])
      fun c o cz cT c1 c2 e => up c o (hp2.extBut _ _ c2 (hp1.extBut _ _ c1 (hsq.extBut _ _ cz e)))
  | true =>
    simp only [if_true]
    refine wpAny_bind (wpAny_rule ?_)
    refine wpAny_bind (wpAny_field (s := ⟨hq, g, d, tk0, os⟩) hzq rfl (x := .ref TO) rfl ?_)
    refine wpAny_bind (wpAny_setField_rec (s := ⟨hq, g, d, tk0, os⟩) hzq (by simp) fun g0 hz0 hs0 => ?_)
    replace hz0 : IsZipR g0 z TI TO .ellipsis f1' := hz0
    replace hs0 : Heap.SameBut z hq g0 := hs0
    refine wpAny_bind ?_
    simp only [List.zipIdx_cons, List.zipIdx_nil, List.forIn_cons, List.forIn_nil]
    refine wpAny_bind (wpAny_bind (wpAny_onRaise ?_))
    show wpAny _ _ (Builtin.SmallTypes.nextOf (.ref i1) >>= _) _ _ ⟨g0, g, d, tk0, os⟩
    refine wpAny_bind (D1.item i _ _ _ hlt (D1.over st1q hs0 S.zf1) fun x1 p1 tk1 hx1 sn1 hp1 => wpAny_pure ?_)
    replace hp1 : Heap.SameBut i1 g0 p1 := hp1
    have hU1 : IsTupOf2 p1 TO a1 a2 := hp1.extBut _ _ S.Ti1 (hs0.extBut _ _ S.TOz hTOq)
    refine wpAny_bind (wpAny_seqItems (s := ⟨p1, g, d, tk1, os⟩) hU1 rfl ?_)
    refine wpAny_bind (upd_tup2 (s := ⟨p1, g, d, tk1, os⟩) hU1 fun g1 hT1 hs1 => ?_)
    replace hT1 : IsTupOf2 g1 TO x1 a2 := hT1
    replace hs1 : Heap.SameBut TO p1 g1 := hs1
    refine wpAny_bind (wpAny_letGo (wpAny_pure ?_))
    refine wpAny_bind (wpAny_bind (wpAny_onRaise ?_))
    show wpAny _ _ (Builtin.SmallTypes.nextOf (.ref i2) >>= _) _ _ ⟨g1, g, d, tk1, os⟩
    refine wpAny_bind (D2.item i _ _ _ hlt (D2.over (D2.over (D2.over st2q hs0 S.zf2) hp1 S.sep1_2) hs1 S.Tf2) fun x2 p2 tk2 hx2 sn2 hp2 => wpAny_pure ?_)
    replace hp2 : Heap.SameBut i2 g1 p2 := hp2
    have hU2 : IsTupOf2 p2 TO x1 a2 := hp2.extBut _ _ S.Ti2 hT1
    refine wpAny_bind (wpAny_seqItems (s := ⟨p2, g, d, tk2, os⟩) hU2 rfl ?_)
    refine wpAny_bind (upd_tup2 (s := ⟨p2, g, d, tk2, os⟩) hU2 fun g2 hT2 hs2 => ?_)
    replace hT2 : IsTupOf2 g2 TO x1 x2 := hT2
    replace hs2 : Heap.SameBut TO p2 g2 := hs2
    refine wpAny_bind (wpAny_letGo (wpAny_pure (wpAny_pure ?_)))
    refine wpAny_bind (wpAny_seqItems (s := ⟨g2, g, d, tk2, os⟩) hT2 rfl ?_)
    refine wpAny_bind (wpAny_newTuple ?_)
    have hsz : g2.objs.size = hp.objs.size := by rw [hs2.1, hp2.1, hs1.1, hp1.1, hs0.1, hsq.1]
    have hzz : IsZipR g2 z TI TO .ellipsis f1' := (hs2.extBut _ _ S.TOz.symm (hp2.extBut _ _ S.zi2 (hs1.extBut _ _ S.TOz.symm (hp1.extBut _ _ S.zi1 hz0))))
    have hkk : ∀ c o, c ≠ z → c ≠ TO → c ≠ i1 → c ≠ i2 → hp.get? c = some o → g2.get? c = some o := fun c o cz cT c1 c2 e =>
      (hs2.extBut _ _ cT (hp2.extBut _ _ c2 (hs1.extBut _ _ cT (hp1.extBut _ _ c1 (hs0.extBut _ _ cz (hsq.extBut _ _ cz e))))))
    have hj1 : St1 (i + 1) g2 := (D1.over (D1.over (D1.over sn1 hs1 S.Tf1) hp2 S.sep2_1) hs2 S.Tf1)
    have hj2 : St2 (i + 1) g2 := (D2.over sn2 hs2 S.Tf2)
    have hzlt : z < g2.objs.size := Heap.lt_size hzz
    show wpAny _ _ (Builtin.SmallTypes.ownedTupleHandOut (.ref z) (.ref g2.objs.size) >>= _) _ _ ⟨g2.push { cls := .type "tuple", data := .seq #[x1, x2] }, g, d, tk2, os⟩
    refine wpAny_bind ?_
    unfold Builtin.SmallTypes.ownedTupleHandOut
    have hz6 : IsZipR (g2.push { cls := .type "tuple", data := .seq #[x1, x2] }) z TI TO .ellipsis f1' := Heap.get?_push_of_some _ hzz
    refine wpAny_bind (wpAny_setField_rec hz6 (by simp) fun h7 hz7 hs7 => ?_)
    replace hz7 : IsZipR h7 z TI TO (rawInt g2.objs.size) f1' := hz7
    refine wpAny_setField_rec hz7 (by simp) fun h8 hz8 hs8 => ?_
    replace hz8 : IsZipR h8 z TI TO (rawInt g2.objs.size) false := hz8
    replace hs7 : Heap.SameBut z (g2.push { cls := .type "tuple", data := .seq #[x1, x2] }) h7 := hs7
    replace hs8 : Heap.SameBut z h7 h8 := hs8
    have up : ∀ c o, c ≠ z → g2.get? c = some o → h8.get? c = some o := fun c o c1 e => hs8.extBut _ _ c1 (hs7.extBut _ _ c1 (Heap.get?_push_of_some _ e))
    have hT8 : IsTupOf2 h8 g2.objs.size x1 x2 := hs8.extBut _ _ (Nat.ne_of_gt hzlt) (hs7.extBut _ _ (Nat.ne_of_gt hzlt) (Heap.get?_push_size _ rfl))
    have hz9 : h8.objs.size = g2.objs.size + 1 := by rw [hs8.1, hs7.1, Heap.size_push]
    rw [hsz] at hz8 hT8 hz9
    refine wpAny_pure ⟨_, rfl, ?_⟩
    show Q (.ref g2.objs.size) ⟨h8, g, d, tk2, os⟩
    rw [hsz]
    exact hQ x1 x2 h8 tk2 _ _ _ _ hx1 hx2 hz8 (.inr ⟨_, rfl⟩) (up _ _ S.TOz hT2) (D1.frame _ _ _ hj1 fun b hb o e => up b o (fun q => S.zf1 (q ▸ hb)) e) (D2.frame _ _ _ hj2 fun b hb o e => up b o (fun q => S.zf2 (q ▸ hb)) e) hT8 hz9 fun c o cz cT c1 c2 e => up c o cz (hkk c o cz cT c1 c2 e)
/-- its end -/
theorem zip_end_any {Q : Fin → Shared → Prop} (S : ZipSep2 z TI TO i1 i2 fp1 fp2) (D1 : Draws prog w A i1 fp1 n P1 St1)
    (hz : IsZipR s.heap z TI TO f0 f1) (hf : RawOr f0) (hTI : IsTupOf2 s.heap TI (.ref i1) (.ref i2)) (st1 : St1 n s.heap)
    (hE : ∀ h' e, (∀ c o, c ≠ z → c ≠ i1 → s.heap.get? c = some o → h'.get? c = some o) → (∃ o, h'.get? e = some o ∧ o.cls = .type "StopIteration") → E (.ref e) { s with heap := h' }) :
    wpAny (model prog w) A (Builtin.«zip.__next__» ⟨[.ref z], []⟩) Q E s := by
  obtain ⟨hp, g, d, tk0, os⟩ := s
  show wpAny _ _ (field (.ref z) 2 >>= _) _ _ _
  refine wpAny_bind (wpAny_field hz rfl (x := .bool false) rfl ?_)
  show wpAny _ _ (field (.ref z) 3 >>= _) _ _ _
  refine wpAny_bind (wpAny_field hz rfl (x := .ref TI) rfl ?_)
  refine wpAny_bind (wpAny_seqItems hTI rfl ?_)
  show wpAny _ _ (Builtin.SmallTypes.ownedTupleIsFree (.ref z) >>= _) _ _ _
  refine wpAny_bind (own_free hz hf fun b hq f1' hzq hsq => ?_)
  replace hsq : Heap.SameBut z hp hq := hsq
  have st1q := D1.over st1 hsq S.zf1
  cases b with
  | false =>
    simp only [Bool.false_eq_true, if_false]
    refine wpAny_bind ?_
    simp only [← Array.forIn_toList, List.forIn_cons, List.forIn_nil]
    refine wpAny_bind (wpAny_bind (wpAny_holding ?_))
    show wpAny _ _ (Builtin.SmallTypes.nextOf (.ref i1) >>= _) _ _ ⟨hq, g, d, tk0, os⟩
    refine wpAny_bind (D1.done _ _ _ st1q fun h' e he ho => ?_)
    exact hE h' e (fun c o cz c1 hc => he c o c1 (hsq.extBut _ _ cz hc)) ho
  | true =>
    simp only [if_true]
    refine wpAny_bind (wpAny_rule ?_)
    refine wpAny_bind (wpAny_field (s := ⟨hq, g, d, tk0, os⟩) hzq rfl (x := .ref TO) rfl ?_)
    refine wpAny_bind (wpAny_setField_rec (s := ⟨hq, g, d, tk0, os⟩) hzq (by simp) fun g0 hz0 hs0 => ?_)
    replace hz0 : IsZipR g0 z TI TO .ellipsis f1' := hz0
    replace hs0 : Heap.SameBut z hq g0 := hs0
    refine wpAny_bind ?_
    simp only [List.zipIdx_cons, List.zipIdx_nil, List.forIn_cons, List.forIn_nil]
    refine wpAny_bind (wpAny_bind (wpAny_onRaise ?_))
    show wpAny _ _ (Builtin.SmallTypes.nextOf (.ref i1) >>= _) _ _ ⟨g0, g, d, tk0, os⟩
    refine wpAny_bind (D1.done _ _ _ (D1.over st1q hs0 S.zf1) fun h' e he ho => ?_)
    replace he : Heap.ExtBut i1 g0 h' := he
    refine wpAny_setField_rec (s := ⟨h', g, d, tk0, os⟩) (he z _ S.zi1 hz0) (by simp) fun h2 hz2 hs2 => ?_
    replace hs2 : Heap.SameBut z h' h2 := hs2
    obtain ⟨oe, ho1, ho2⟩ := ho
    refine hE h2 e (fun c o cz c1 hc => hs2.extBut _ _ cz (he c o c1 (hs0.extBut _ _ cz (hsq.extBut _ _ cz hc)))) ⟨oe, hs2.extBut _ _ (fun q => ?_) ho1, ho2⟩
    have e1 := he z _ S.zi1 hz0
    rw [← q, ho1] at e1
    have e2 := Option.some.inj e1
    rw [e2] at ho2
    simp at ho2
/-- what the zip's own cells say ahead of turn i -/
structure ZipSt (z TI TO i1 i2 : Addr) (St1 St2 : Nat → Heap → Prop) (i : Nat) (h : Heap) : Prop where
  zip : ∃ f0 f1, IsZipR h z TI TO f0 f1 ∧ RawOr f0
  ti : IsTupOf2 h TI (.ref i1) (.ref i2)
  to_ : ∃ a b, IsTupOf2 h TO a b
  s1 : St1 i h
  s2 : St2 i h
theorem nextOf_zip {Q : Value → Shared → Prop} (S : ZipSep2 z TI TO i1 i2 fp1 fp2) (D1 : Draws prog w A.in1 i1 fp1 n P1 St1) (D2 : Draws prog w A.in1 i2 fp2 n P2 St2) (Z : ZipSt z TI TO i1 i2 St1 St2 i s.heap) (hlt : i < n)
    (hQ : ∀ x1 x2 h' tk, P1 i x1 → P2 i x2 → ZipSt z TI TO i1 i2 St1 St2 (i + 1) h' → IsTupOf2 h' s.heap.objs.size x1 x2 → h'.objs.size = s.heap.objs.size + 1 →
      (∀ c o, c ≠ z → c ≠ TO → c ≠ i1 → c ≠ i2 → s.heap.get? c = some o → h'.get? c = some o) → Q (.ref s.heap.objs.size) { s with heap := h', toks := tk }) :
    wpAny (model prog w) A (Builtin.SmallTypes.nextOf (.ref z)) Q E s := by
  obtain ⟨⟨f0, f1, hz, hf⟩, hTI, ⟨a1, a2, hTO⟩, st1, st2⟩ := Z
  have hT : s.TypeIs (.ref z) "zip" := ⟨_, hz, rfl⟩
  unfold Builtin.SmallTypes.nextOf
  refine wpAny_bind (wpAny_callSpecial?_slot (name := Str.ofString "__next__") hT F.slot_zip_next (wpAny_call_entry F.slot_zip_next hT F.entry_zip_next
    (zip_next_any S D1 D2 hz hf hTI hTO st1 st2 hlt fun x1 x2 h' tk g0 g1 b1 b2 y1 y2 c1 c2 c3 c4 c5 c6 c7 c8 => ?_) (F.args_zip_next_1 _)))
  have l1 : TI ≠ z := S.TIz
  have hTI' : IsTupOf2 h' TI (.ref i1) (.ref i2) := c8 TI _ S.TIz S.TITO S.TIi1 S.TIi2 hTI
  exact wpAny_pure (hQ x1 x2 h' tk y1 y2 ⟨⟨g0, g1, c1, c2⟩, hTI', ⟨b1, b2, c3⟩, c4, c5⟩ c6 c7 c8)
theorem nextOf_zip_end {Q : Value → Shared → Prop} (S : ZipSep2 z TI TO i1 i2 fp1 fp2) (D1 : Draws prog w A.in1 i1 fp1 n P1 St1) (Z : ZipSt z TI TO i1 i2 St1 St2 n s.heap)
    (hE : ∀ h' e, (∀ c o, c ≠ z → c ≠ i1 → s.heap.get? c = some o → h'.get? c = some o) → (∃ o, h'.get? e = some o ∧ o.cls = .type "StopIteration") → E (.ref e) { s with heap := h' }) :
    wpAny (model prog w) A (Builtin.SmallTypes.nextOf (.ref z)) Q E s := by
  obtain ⟨⟨f0, f1, hz, hf⟩, hTI, ⟨a1, a2, hTO⟩, st1, st2⟩ := Z
  have hT : s.TypeIs (.ref z) "zip" := ⟨_, hz, rfl⟩
  unfold Builtin.SmallTypes.nextOf
  exact wpAny_bind (wpAny_callSpecial?_slot (name := Str.ofString "__next__") hT F.slot_zip_next (wpAny_call_entry F.slot_zip_next hT F.entry_zip_next (zip_end_any S D1 hz hf hTI st1 hE) (F.args_zip_next_1 _)))
theorem ZipSt.frame {h h' : Heap} (D1 : Draws prog w A i1 fp1 n P1 St1) (D2 : Draws prog w A i2 fp2 n P2 St2) (Z : ZipSt z TI TO i1 i2 St1 St2 i h) (k : ∀ b ∈ z :: TI :: TO :: (fp1 ++ fp2), ∀ o, h.get? b = some o → h'.get? b = some o) : ZipSt z TI TO i1 i2 St1 St2 i h' := by
  obtain ⟨⟨f0, f1, hz, hf⟩, hTI, ⟨a1, a2, hTO⟩, st1, st2⟩ := Z
  exact ⟨⟨f0, f1, k z (by simp) _ hz, hf⟩, k TI (by simp) _ hTI, ⟨a1, a2, k TO (by simp) _ hTO⟩, D1.frame _ _ _ st1 fun b hb o e => k b (by simp [hb]) o e, D2.frame _ _ _ st2 fun b hb o e => k b (by simp [hb]) o e⟩
/-- enumerate(zip(a, b)): the next pair of the count and a new pair -/
theorem enum_zip_next {e : Addr} {old : Value} {Q : Option Value → Shared → Prop} (S : ZipSep2 z TI TO i1 i2 fp1 fp2) (D1 : Draws prog w A.in1.in1 i1 fp1 n P1 St1) (D2 : Draws prog w A.in1.in1 i2 fp2 n P2 St2)
    (he : IsEnum s.heap e z i old) (Z : ZipSt z TI TO i1 i2 St1 St2 i s.heap) (hlt : i < n) (hef : e ∉ z :: TI :: TO :: (fp1 ++ fp2))
    (hQ : ∀ x1 x2 h' tk, P1 i x1 → P2 i x2 → IsEnumOut h' e z ((i : Int) + 1) (.ref s.heap.objs.size) (s.heap.objs.size + 1) → ZipSt z TI TO i1 i2 St1 St2 (i + 1) h' → IsTupOf2 h' s.heap.objs.size x1 x2 →
      h'.get? (s.heap.objs.size + 1) = some { cls := .type "tuple", data := .seq #[.int i tk, .ref s.heap.objs.size] } → h'.objs.size = s.heap.objs.size + 2 →
      (∀ c o, c ≠ e → c ≠ z → c ≠ TO → c ≠ i1 → c ≠ i2 → s.heap.get? c = some o → h'.get? c = some o) → Q (some (.ref (s.heap.objs.size + 1))) { s with heap := h', toks := tk + 1 }) :
    wpAny (model prog w) A (pyNext (.ref e)) Q E s := by
  have hT : s.TypeIs (.ref e) "enumerate" := ⟨_, he, rfl⟩
  unfold pyNext
  refine wpAny_bind (wpAny_attempt (wpAny_callSpecial?_slot (name := Str.ofString "__next__") hT F.slot_enumerate_next
    (wpAny_call_entry F.slot_enumerate_next hT F.entry_enumerate_next ?_ (F.args_enumerate_next_1 _))))
  obtain ⟨hp, g, d, tk0, os⟩ := s
  have nez : e ≠ z := fun q => hef (by simp [q])
  have neTO : e ≠ TO := fun q => hef (by simp [q])
  have ne1 : e ≠ i1 := fun q => hef (by rw [q]; simp [S.mem1])
  have ne2 : e ≠ i2 := fun q => hef (by rw [q]; simp [S.mem2])
  have hel : e < hp.objs.size := Heap.lt_size he
  show wpAny _ _ (field (.ref e) 2 >>= _) _ _ _
  refine wpAny_bind (wpAny_field he rfl (x := .ref z) rfl ?_)
  refine wpAny_bind (nextOf_zip S D1 D2 Z hlt fun x1 x2 h1 tk q1 q2 Z1 hT1 hz1 hk1 => ?_)
  replace hk1 : ∀ c o, c ≠ z → c ≠ TO → c ≠ i1 → c ≠ i2 → hp.get? c = some o → h1.get? c = some o := hk1
  replace hT1 : IsTupOf2 h1 hp.objs.size x1 x2 := hT1
  replace hz1 : h1.objs.size = hp.objs.size + 1 := hz1
  have he1 : IsEnum h1 e z i old := hk1 e _ nez neTO ne1 ne2 he
  show wpAny _ _ (field (.ref e) 3 >>= _) _ _ ⟨h1, g, d, tk, os⟩
  refine wpAny_bind (wpAny_field he1 rfl (x := rawInt i) rfl ?_)
  show wpAny _ _ (field (.ref e) 4 >>= _) _ _ ⟨h1, g, d, tk, os⟩
  refine wpAny_bind (wpAny_field he1 rfl (x := .none) rfl ?_)
  show wpAny _ _ (mkInt i >>= _) _ _ ⟨h1, g, d, tk, os⟩
  refine wpAny_bind (wpAny_mkInt ?_)
  show wpAny _ _ (setField (.ref e) 3 (rawInt ((i : Int) + 1)) >>= _) _ _ ⟨h1, g, d, tk + 1, os⟩
  refine wpAny_bind (wpAny_setField_rec he1 (by simp) fun h2 he2 hs2 => ?_)
  replace hs2 : Heap.SameBut e h1 h2 := hs2
  replace he2 : IsEnum h2 e z ((i : Int) + 1) old := he2
  show wpAny _ _ (setField (.ref e) 4 .none >>= _) _ _ ⟨h2, g, d, tk + 1, os⟩
  refine wpAny_bind (wpAny_setField_rec he2 (by simp) fun h3 he3 hs3 => ?_)
  replace hs3 : Heap.SameBut e h2 h3 := hs3
  replace he3 : IsEnum h3 e z ((i : Int) + 1) old := he3
  show wpAny _ _ (newTuple [.int i tk, .ref hp.objs.size] >>= _) _ _ ⟨h3, g, d, tk + 1, os⟩
  refine wpAny_bind (wpAny_newTuple ?_)
  have hsz : h3.objs.size = hp.objs.size + 1 := by rw [hs3.1, hs2.1, hz1]
  have he4 : IsEnum (h3.push { cls := .type "tuple", data := .seq #[.int i tk, .ref hp.objs.size] }) e z ((i : Int) + 1) old := Heap.get?_push_of_some _ he3
  generalize hh4 : h3.push { cls := .type "tuple", data := .seq #[.int i tk, .ref hp.objs.size] } = h4 at he4
  have ht4 : h4.get? (hp.objs.size + 1) = some { cls := .type "tuple", data := .seq #[.int i tk, .ref hp.objs.size] } := by rw [← hh4, ← hsz]; exact Heap.get?_push_size _ rfl
  have hz4 : h4.objs.size = hp.objs.size + 2 := by rw [← hh4, Heap.size_push, hsz]
  have hk4 : ∀ b o, b ≠ e → h1.get? b = some o → h4.get? b = some o := fun b o hbe hb => by
    rw [← hh4]
    exact Heap.get?_push_of_some _ (hs3.extBut b o hbe (hs2.extBut b o hbe hb))
  show wpAny _ _ (Builtin.SmallTypes.ownedTupleIsFree (.ref e) >>= _) _ _ ⟨h4, g, d, tk + 1, os⟩
  rw [hsz]
  refine wpAny_bind ?_
  unfold Builtin.SmallTypes.ownedTupleIsFree
  refine wpAny_bind (wpAny_field he4 rfl (x := .none) rfl (wpAny_pure ?_))
  simp only [if_true]
  refine wpAny_bind (wpAny_rule ?_)
  refine wpAny_bind (wpAny_field he4 rfl (x := old) rfl ?_)
  refine wpAny_bind (wpAny_setField_rec he4 (by simp) fun h5 he5 hs5 => ?_)
  replace hs5 : Heap.SameBut e h4 h5 := hs5
  replace he5 : IsEnum h5 e z ((i : Int) + 1) (.ref hp.objs.size) := he5
  show wpAny _ _ (Builtin.SmallTypes.ownedTupleHandOut (.ref e) (.ref (hp.objs.size + 1)) >>= _) _ _ ⟨h5, g, d, tk + 1, os⟩
  refine wpAny_bind ?_
  unfold Builtin.SmallTypes.ownedTupleHandOut
  refine wpAny_bind (wpAny_setField_rec he5 (by simp) fun h6 he6 hs6 => ?_)
  replace hs6 : Heap.SameBut e h5 h6 := hs6
  replace he6 : IsEnumOut h6 e z ((i : Int) + 1) (.ref hp.objs.size) (hp.objs.size + 1) := he6
  refine wpAny_setField_rec he6 (by simp) fun h7 he7 hs7 => ?_
  replace hs7 : Heap.SameBut e h6 h7 := hs7
  replace he7 : IsEnumOut h7 e z ((i : Int) + 1) (.ref hp.objs.size) (hp.objs.size + 1) := he7
  have up : ∀ b o, b ≠ e → h4.get? b = some o → h7.get? b = some o := fun b o hb x => hs7.extBut b o hb (hs6.extBut b o hb (hs5.extBut b o hb x))
  have n1 : hp.objs.size ≠ e := Nat.ne_of_gt hel
  have n2 : hp.objs.size + 1 ≠ e := Nat.ne_of_gt (Nat.lt_succ_of_lt hel)
  refine wpAny_bind (wpAny_letGo (wpAny_pure ⟨_, rfl, wpAny_pure (hQ x1 x2 h7 tk q1 q2 he7 ?_ (up _ _ n1 (hk4 _ _ n1 hT1)) (up _ _ n2 ht4) ?_ ?_)⟩))
  · exact Z1.frame D1 D2 fun b hb o x => up b o (fun q => hef (q ▸ hb)) (hk4 b o (fun q => hef (q ▸ hb)) x)
  · rw [hs7.1, hs6.1, hs5.1, hz4]
  · exact fun c o ce cz cT c1 c2 x => up c o ce (hk4 c o ce (hk1 c o cz cT c1 c2 x))
theorem enum_zip_end {e : Addr} {old : Value} {Q : Option Value → Shared → Prop} {j : Int} (S : ZipSep2 z TI TO i1 i2 fp1 fp2) (D1 : Draws prog w A.in1.in1 i1 fp1 n P1 St1)
    (he : IsEnum s.heap e z j old) (Z : ZipSt z TI TO i1 i2 St1 St2 n s.heap)
    (hQ : ∀ h', (∀ c o, c ≠ z → c ≠ i1 → s.heap.get? c = some o → h'.get? c = some o) → Q none { s with heap := h' }) : wpAny (model prog w) A (pyNext (.ref e)) Q E s := by
  have hT : s.TypeIs (.ref e) "enumerate" := ⟨_, he, rfl⟩
  unfold pyNext
  refine wpAny_bind (wpAny_attempt (wpAny_callSpecial?_slot (name := Str.ofString "__next__") hT F.slot_enumerate_next
    (wpAny_call_entry F.slot_enumerate_next hT F.entry_enumerate_next ?_ (F.args_enumerate_next_1 _))))
  show wpAny _ _ (field (.ref e) 2 >>= _) _ _ _
  refine wpAny_bind (wpAny_field he rfl (x := .ref z) rfl ?_)
  refine wpAny_bind (nextOf_zip_end S D1 Z fun h' x hk hx => ?_)
  obtain ⟨o, ho, hc⟩ := hx
  refine wpAny_bind (wpAny_isInstance (T := "StopIteration") (b := true) ⟨o, ho, hc⟩ isSubtype_stop ?_)
  exact wpAny_pure (hQ _ hk)
theorem meets_enum_zip (z TI TO : Addr) (f0 : Value) :
    Meets (Builtin.«enumerate.__new__» ⟨[.type "enumerate", .ref z], []⟩) (fun _ R s => IsZip s.heap z TI TO f0 ∧
      R (.ok (.ret (.ref s.heap.objs.size))) { s with heap := s.heap.push { cls := .type "enumerate", data := .fields #[.none, .bool false, .ref z, rawInt 0, .none, .none] } }) :=
  .of_wp fun prog w A R s h => by
    obtain ⟨hp, g, d, tk, os⟩ := s; obtain ⟨h1, h⟩ := h
    have hsub := sub_enumerate
    have q1 : ∀ {A' : Around} {E : Value → Shared → Prop} {Q : Value → Shared → Prop}, Q (.ref z) ⟨hp, g, d, tk, os⟩ → wpAny (model prog w) A' (pyIter (.ref z)) Q E ⟨hp, g, d, tk, os⟩ :=
      fun q => wpAny_pyIter_zip (s := ⟨hp, g, d, tk, os⟩) h1 q
    wp_walk using q1
    refine wpAny_stack_any fun st => wpAny_pure ?_
    split
    · rename_i c _ _ _ _ _
      cases (c == Value.type "enumerate")
      · wp_walk using q1
        exact ⟨_, rfl, h⟩
      · wp_walk using q1
        exact ⟨_, rfl, h⟩
    · wp_walk using q1
      exact ⟨_, rfl, h⟩
theorem call_enum_zip {Q : Value → Shared → Prop} (hz : IsZip s.heap z TI TO f0)
    (h : ∀ h', IsEnum h' s.heap.objs.size z 0 .none → h'.objs.size = s.heap.objs.size + 1 → (∀ b o, s.heap.get? b = some o → h'.get? b = some o) → Q (.ref s.heap.objs.size) { s with heap := h' }) :
    wpAny (model prog w) A (call (.type "enumerate") [.ref z]) Q E s := by
  refine callType_new F.called_enumerate (by decide) (F.typeCall_enumerate_1 _) (F.newCall_enumerate_1 _) (fun obj => F.args_object_init_2 obj _) F.entry_enumerate_new (meets_enum_zip z TI TO f0) ⟨hz, ?_⟩
  have he : IsEnum (s.heap.push { cls := .type "enumerate", data := .fields #[.none, .bool false, .ref z, rawInt 0, .none, .none] }) s.heap.objs.size z 0 .none := Heap.get?_push_size _ rfl
  exact ⟨⟨_, he, rfl⟩, h _ he (by rw [Heap.size_push]) fun b o x => Heap.get?_push_of_some _ x⟩
end
end OP
namespace OP
open PySem PySem.Spec PyProof.Rows L2
/-- cells of our own have turned, two new objects are laid and tracked -/
theorem turned2 {X : Cx} {pins : List (Addr × Obj)} {σ : L2.St} {H : Hp} {s : Shared} {h' : Heap} {t' : Nat} {ch : List Addr} {T U : Addr} {o1 o2 : HO} (I : Inv X pins σ H s) (k : ∀ b o, b ∉ ch → s.heap.get? b = some o → h'.get? b = some o) (hf : ∀ b ∈ ch, FpOk X pins H b)
    (hT : s.heap.objs.size ≤ T) (hU : s.heap.objs.size ≤ U) (ne : U ≠ T) (n1 : ObjOk X.prog X.w (upd (upd H T o1) U o2) h' T o1) (n2 : ObjOk X.prog X.w (upd (upd H T o1) U o2) h' U o2) :
    Inv X pins σ (upd (upd H T o1) U o2) { s with heap := h', toks := t' } := by
  have hnT : H T = none := I.hok.fresh hT
  have hnU : H U = none := I.hok.fresh hU
  have nit : ∀ b u, H b = some u → b ∉ ch := fun b u e z => by
    have q := (hf b z).1
    rw [q] at e
    cases e
  have same : ∀ b u, H b = some u → upd (upd H T o1) U o2 b = some u := fun b u e => by
    rw [upd_ne (ne_of_none e hnU), upd_ne (ne_of_none e hnT)]
    exact e
  refine I.step (g' := s.gens) (d' := s.drawn) (ch := ch) (fun b hb => ⟨(hf b hb).2.2.2.1, (hf b hb).2.1, (hf b hb).2.2.2.2.1, (hf b hb).2.2.2.2.2⟩) (fun b o _ _ hc e _ => k b o hc e) (fun b o _ _ hc e _ => ⟨o.slots, k b o hc e⟩)
    (fun b o _ e n => ?_) (fun b o hc e => ⟨o, k b o hc e⟩) (fun b xs e => same b _ e) (fun b o u e => same b _ e) (fun b ps e => ⟨#[], by rw [same b _ e]; simp⟩) (fun m hm => ?_) (fun b u e => ?_) I.bare
  · have hl := Heap.lt_size e
    rw [upd_ne (Nat.ne_of_lt (Nat.lt_of_lt_of_le hl hU)), upd_ne (Nat.ne_of_lt (Nat.lt_of_lt_of_le hl hT))]
    exact n
  · obtain ⟨o, es, ep, ho, r⟩ := hm
    exact ⟨o, es, ep, k _ o (fun z => (hf _ z).2.1 rfl) ho, r⟩
  · by_cases hbU : b = U
    · subst hbU
      rw [upd_same] at e
      cases e
      exact n2
    · rw [upd_ne hbU] at e
      by_cases hbT : b = T
      · subst hbT
        rw [upd_same] at e
        cases e
        exact n1
      · rw [upd_ne hbT] at e
        refine (I.hok b u e).stay (fun c v hc q => k c v ?_ q) (fun c q => same c _ q) fun c xs q => same c _ q
        rcases hc with z | z
        · rw [z]
          exact nit b u e
        · exact nit c _ z
/-- enumerate(zip(x, y)) of two texts of one length: the i-th turn gives a new pair of i and a new pair of the signs -/
def Itez (x y : Str) : It :=
  ⟨fun i _ => i < x.cps.size,
    fun i H v H' => ∃ T U c d, v = .ref U ∧ H T = none ∧ H U = none ∧ U ≠ T ∧ H' = upd (upd H T (.tup [.str ⟨#[c]⟩, .str ⟨#[d]⟩])) U (.tup [.int (i : Nat), .ref T]) ∧ x.cps[i]? = some c ∧ y.cps[i]? = some d,
    fun i _ => i = x.cps.size⟩
theorem turn_ez {P : Program} {w : World} {K : PySem.W.Frag} {elts : List Expr} {kk : Nat} {tpos : Pos} {x y : Str} {t u : Tok} {e z TI TO i1 i2 : Addr} (hxy : x.cps.size = y.cps.size) (S : ZipSep2 z TI TO i1 i2 [i1] [i2]) (hef : e ∉ [z, TI, TO, i1, i2]) :
    Turn P w K (.Tuple elts kk tpos) (Itez x y) [e, z, TI, TO, i1, i2] e
      (fun i h => (∃ old, IsEnum h e z i old) ∧ ZipSt z TI TO i1 i2 (fun i h => h.IsStrIter i1 (strIterType x) x t i) (fun i h => h.IsStrIter i2 (strIterType y) y u i) i h) where
  mem := by simp
  obj := fun i h st c hc => by
    obtain ⟨⟨old, he⟩, ⟨f0, f1, hz, _⟩, hTI, ⟨a, b, hTO⟩, ⟨o1, e1, _, d1⟩, ⟨o2, e2, _, d2⟩⟩ := st
    have e' : c = e ∨ c = z ∨ c = TI ∨ c = TO ∨ c = i1 ∨ c = i2 := by simpa using hc
    rcases e' with q | q | q | q | q | q
    · rw [q]; exact ⟨_, he, fun v q => nomatch q⟩
    · rw [q]; exact ⟨_, hz, fun v q => nomatch q⟩
    · rw [q]; exact ⟨_, hTI, fun v q => nomatch q⟩
    · rw [q]; exact ⟨_, hTO, fun v q => nomatch q⟩
    · rw [q]; exact ⟨o1, e1, fun v q => by rw [d1] at q; cases q⟩
    · rw [q]; exact ⟨o2, e2, fun v q => by rw [d2] at q; cases q⟩
  keep := fun i h h' st k => by
    obtain ⟨⟨old, he⟩, ⟨f0, f1, hz, hf⟩, hTI, ⟨a, b, hTO⟩, h1, h2⟩ := st
    exact ⟨⟨old, k e (by simp) _ he⟩, ⟨f0, f1, k z (by simp) _ hz, hf⟩, k TI (by simp) _ hTI, ⟨a, b, k TO (by simp) _ hTO⟩, let ⟨o1, e1, r1⟩ := h1; ⟨o1, k i1 (by simp) _ e1, r1⟩, let ⟨o2, e2, r2⟩ := h2; ⟨o2, k i2 (by simp) _ e2, r2⟩⟩
  item := by
    intro X hP hw hK hc i pins s σ H E I hf st hg
    subst hP hw hK
    obtain ⟨⟨old, he⟩, Z⟩ := st
    have hh : X.A.in1.in1.handled = none := I.ok.hd hc
    have D1 : Draws X.prog X.w X.A.in1.in1 i1 [i1] x.cps.size _ _ := Draws.text hh i1 x t
    have D2 : Draws X.prog X.w X.A.in1.in1 i2 [i2] y.cps.size _ _ := Draws.text hh i2 y u
    rw [← hxy] at D2
    have hel : e < s.heap.objs.size := Heap.lt_size he
    have hlts : ∀ c ∈ [e, z, TI, TO, i1, i2], c < s.heap.objs.size := fun c hcm => by
      obtain ⟨⟨f0, f1, hz, _⟩, hTI, ⟨a, b, hTO⟩, ⟨o1, e1, _⟩, ⟨o2, e2, _⟩⟩ := Z
      have e' : c = e ∨ c = z ∨ c = TI ∨ c = TO ∨ c = i1 ∨ c = i2 := by simpa using hcm
      rcases e' with q | q | q | q | q | q
      · rw [q]; exact hel
      · rw [q]; exact Heap.lt_size hz
      · rw [q]; exact Heap.lt_size hTI
      · rw [q]; exact Heap.lt_size hTO
      · rw [q]; exact Heap.lt_size e1
      · rw [q]; exact Heap.lt_size e2
    refine enum_zip_next S D1 D2 he Z hg hef fun x1 x2 h' tk q1 q2 he' Z' hT hU hsz hk => ?_
    obtain ⟨c, t1, hc1, rfl⟩ := q1
    obtain ⟨d, t2, hd1, rfl⟩ := q2
    refine ⟨_, rfl, wpAny_letOwnedTupleGo_enum (s := { s with heap := h', toks := tk + 1 }) he' fun h'' he'' sb => ?_⟩
    replace sb : Heap.SameBut e h' h'' := sb
    have n1 : s.heap.objs.size ≠ e := Nat.ne_of_gt hel
    have n2 : s.heap.objs.size + 1 ≠ e := Nat.ne_of_gt (Nat.lt_succ_of_lt hel)
    have hT2 : h''.get? s.heap.objs.size = some { cls := .type "tuple", data := .seq #[.str ⟨#[c]⟩ t1, .str ⟨#[d]⟩ t2] } := sb.extBut _ _ n1 hT
    have hU2 : h''.get? (s.heap.objs.size + 1) = some { cls := .type "tuple", data := .seq #[.int i tk, .ref s.heap.objs.size] } := sb.extBut _ _ n2 hU
    have hkk : ∀ b o, b ∉ [e, z, TI, TO, i1, i2] → s.heap.get? b = some o → h''.get? b = some o := fun b o hb q =>
      sb.extBut _ _ (fun r => hb (by simp [r])) (hk b o (fun r => hb (by simp [r])) (fun r => hb (by simp [r])) (fun r => hb (by simp [r])) (fun r => hb (by simp [r])) (fun r => hb (by simp [r])) q)
    have ne : s.heap.objs.size + 1 ≠ s.heap.objs.size := Nat.succ_ne_self _
    have hTT : upd (upd H s.heap.objs.size (.tup [.str ⟨#[c]⟩, .str ⟨#[d]⟩])) (s.heap.objs.size + 1) (.tup [.int (i : Nat), .ref s.heap.objs.size]) s.heap.objs.size = some (.tup [.str ⟨#[c]⟩, .str ⟨#[d]⟩]) := by
      rw [upd_ne ne.symm, upd_same]
    have I1 := turned2 (t' := tk + 1) (T := s.heap.objs.size) (U := s.heap.objs.size + 1) (o1 := .tup [.str ⟨#[c]⟩, .str ⟨#[d]⟩]) (o2 := .tup [.int (i : Nat), .ref s.heap.objs.size]) I hkk hf (Nat.le_refl _) (Nat.le_succ _) ne
      ⟨by show 2 ≤ sizeLine; decide, [.str ⟨#[c]⟩ t1, .str ⟨#[d]⟩ t2], .cons ⟨_, rfl⟩ (.cons ⟨_, rfl⟩ .nil), ⟨_, hT2, rfl, _, rfl⟩⟩
      ⟨by show 2 ≤ sizeLine; decide, [.int i tk, .ref s.heap.objs.size], .cons ⟨_, rfl⟩ (.cons rfl .nil), ⟨_, hU2, rfl, _, rfl⟩⟩
    refine ⟨.ref (s.heap.objs.size + 1), _, I1, rfl, ⟨_, _, c, d, rfl, I.hok.fresh (Nat.le_refl _), I.hok.fresh (Nat.le_succ _), ne, rfl, hc1, hd1⟩, ⟨⟨_, by simpa using he''⟩, Z'.frame D1 D2 fun b hb o q => sb.extBut _ _ (fun r => hef (by rw [← r]; simpa using hb)) q⟩, fun b hb => ?_⟩
    have hl := hlts b hb
    rw [upd_ne (Nat.ne_of_lt (Nat.lt_succ_of_lt hl)), upd_ne (Nat.ne_of_lt hl)]
    exact (hf b hb).1
  done := by
    intro X hP hw hK hc i pins s σ H E I hf st hg
    subst hP hw hK
    obtain ⟨⟨old, he⟩, Z⟩ := st
    have hh : X.A.in1.in1.handled = none := I.ok.hd hc
    have D1 : Draws X.prog X.w X.A.in1.in1 i1 [i1] x.cps.size _ _ := Draws.text hh i1 x t
    have hg' : i = x.cps.size := hg
    subst hg'
    refine enum_zip_end S D1 he Z fun h' hk => ⟨rfl, I.turnedL (t' := s.toks) (ch := [e, z, TI, TO, i1, i2]) (fun b o hb q => hk b o (fun r => hb (by simp [r])) (fun r => hb (by simp [r])) q) hf⟩
  self := fun A i s Q E st h => let ⟨⟨_, he⟩, _⟩ := st; wpAny_pyIter_enum he h
def iEz (ta : TA) : TI := fun σ H R => ta σ H fun vs H1 => ∃ x y : Str, vs = [.str x, .str y] ∧ x.cps.size = y.cps.size ∧ R (Itez x y) H1
theorem pi_ez {X : Cx} {e e2 : Expr} {ta : TA} {p pos p2 pos2 tpos : Pos} {elts : List Expr} {kk : Nat} (hg : Gl X "enumerate") (hm : X.mg "enumerate" = none) (hg2 : Gl X "zip") (hm2 : X.mg "zip" = none) (ha : PA X [e, e2] ta)
    (hs : starEach [.Call (.Name "zip" p2) [e, e2] [] pos2] X.env = [(false, eval (.Call (.Name "zip" p2) [e, e2] [] pos2) X.env)] := by rfl)
    (hs2 : starEach [e, e2] X.env = (false, eval e X.env) :: starEach [e2] X.env := by rfl) (hpl : (backTo pos2 (starEach [e2] X.env)).any (·.1) = false := by rfl) :
    PI X (.Tuple elts kk tpos) (.Call (.Name "enumerate" p) [.Call (.Name "zip" p2) [e, e2] [] pos2] [] pos) (iEz ta) := by
  refine ⟨fun pins s σ H R I h => ?_⟩
  refine Call_ (ld_blt I hg hm boot_enumerate (PyProof.Rows.callWith_type1 ?_ hs rfl))
  rw [hs]
  show wpAny _ _ (spliced [(false, eval (.Call (.Name "zip" p2) [e, e2] [] pos2) X.env)]) _ _ s
  refine Calls.spliced_cons ?_
  refine Call_ (ld_blt I hg2 hm2 PyProof.Rows.boot_zip (PyProof.Rows.callWith_type1 (thn (ha.run pos2 pins s σ H _ I h) fun us s1 ⟨vs, H1, I1, r1, q1⟩ => ?_) hs2 hpl))
  obtain ⟨x, y, rfl, hxy, q⟩ := q1
  obtain ⟨u1, u2, rfl, ⟨t, rfl⟩, ⟨u, rfl⟩⟩ := vals2 r1
  refine zip_begins2 (begins_text x t) (begins_text y u) trivial trivial fun h' hz hTI hTO h1 h2 hsz hk => ?_
  refine Calls.spliced_nil ?_
  refine call_enum_zip (s := { s1 with heap := h' }) hz fun h2' he hsz2 hk2 => wpAny_pyIter_enum he ?_
  have hsz' : h'.objs.size = s1.heap.objs.size + 5 := hsz
  have kall : ∀ b o, s1.heap.get? b = some o → h2'.get? b = some o := fun b o z => hk2 b o (hk b o z)
  have I2 : Inv X pins σ H1 { s1 with heap := h2' } := I1.kept (t' := s1.toks) kall
  have S : ZipSep2 (s1.heap.objs.size + 4) (s1.heap.objs.size + 2) (s1.heap.objs.size + 3) s1.heap.objs.size (s1.heap.objs.size + 1) [s1.heap.objs.size] [s1.heap.objs.size + 1] :=
    zip_sep2 (N := s1.heap.objs.size) (fp1 := []) (fp2 := []) (fun _ h => nomatch h) (fun _ h => nomatch h)
  have hef : h'.objs.size ∉ [s1.heap.objs.size + 4, s1.heap.objs.size + 2, s1.heap.objs.size + 3, s1.heap.objs.size, s1.heap.objs.size + 1] := by
    rw [hsz']
    generalize s1.heap.objs.size = N
    have : ∀ N : Nat, N + 5 ∉ [N + 4, N + 2, N + 3, N, N + 1] := fun N hm => by
      simp at hm
    exact this N
  refine ⟨h'.objs.size, [h'.objs.size, s1.heap.objs.size + 4, s1.heap.objs.size + 2, s1.heap.objs.size + 3, s1.heap.objs.size, s1.heap.objs.size + 1], _, _, H1, rfl, I2, turn_ez (t := t) (u := u) hxy S hef,
    ⟨⟨_, he⟩, ⟨_, _, hk2 _ _ hz, .inl rfl⟩, hk2 _ _ hTI, ⟨_, _, hk2 _ _ hTO⟩, ⟨_, hk2 _ _ h1, rfl, rfl⟩, ⟨_, hk2 _ _ h2, rfl, rfl⟩⟩, fun c hcm => ?_, q⟩
  have hle : s1.heap.objs.size ≤ c := by
    have key : ∀ N M c : Nat, M = N + 5 → c ∈ [M, N + 4, N + 2, N + 3, N, N + 1] → N ≤ c := fun N M c hM hm => by
      simp at hm
      omega
    exact key _ _ c hsz' hcm
  exact I1.fpOk hle (I1.hok.fresh hle)
end OP
namespace OP
open PySem PySem.Spec PyProof.Rows L2 Evl
structure Pr where
  on : Hp → V → Prop
  up : ∀ {H H' : Hp} {v : V}, Ex H H' → on H v → on H' v
def Al (H : Hp) : List Pr → List V → Prop
  | [], [] => True
  | p :: ps, x :: xs => p.on H x ∧ Al H ps xs
  | _, _ => False
theorem Al.up {H H' : Hp} (e : Ex H H') : ∀ {ps : List Pr} {xs : List V}, Al H ps xs → Al H' ps xs
  | [], [], _ => trivial
  | [], _ :: _, h => h.elim
  | _ :: _, [], h => h.elim
  | p :: _, _ :: _, h => ⟨p.up e h.1, Al.up e h.2⟩
theorem Al.len {H : Hp} : ∀ {ps : List Pr} {xs : List V}, Al H ps xs → xs.length = ps.length
  | [], [], _ => rfl
  | [], _ :: _, h => h.elim
  | _ :: _, [], h => h.elim
  | _ :: _, _ :: _, h => by rw [List.length_cons, List.length_cons, Al.len h.2]
theorem Al.get {H : Hp} : ∀ {ps : List Pr} {xs : List V} {i : Nat} {x : V}, Al H ps xs → xs[i]? = some x → ∃ p, ps[i]? = some p ∧ p.on H x
  | [], [], _, _, _, e => by simp at e
  | [], _ :: _, _, _, h, _ => h.elim
  | _ :: _, [], _, _, h, _ => h.elim
  | p :: _, y :: _, 0, x, h, e => by
    simp at e
    subst e
    exact ⟨p, rfl, h.1⟩
  | p :: ps, y :: ys, i + 1, x, h, e => by
    obtain ⟨q, h1, h2⟩ := Al.get (i := i) (x := x) h.2 (by simpa using e)
    exact ⟨q, by simpa using h1, h2⟩
theorem Al.got {H : Hp} : ∀ {ps : List Pr} {xs : List V} {i : Nat} {p : Pr}, Al H ps xs → ps[i]? = some p → ∃ x, xs[i]? = some x ∧ p.on H x
  | [], [], _, _, _, e => by simp at e
  | [], _ :: _, _, _, h, _ => h.elim
  | _ :: _, [], _, _, h, _ => h.elim
  | p :: _, y :: _, 0, x, h, e => by
    simp at e
    subst e
    exact ⟨y, rfl, h.1⟩
  | p :: ps, y :: ys, i + 1, x, h, e => by
    obtain ⟨q, h1, h2⟩ := Al.got (i := i) (p := x) h.2 (by simpa using e)
    exact ⟨q, by simpa using h1, h2⟩
theorem Al.app {H : Hp} : ∀ {ps qs : List Pr} {xs ys : List V}, Al H ps xs → Al H qs ys → Al H (ps ++ qs) (xs ++ ys)
  | [], _, [], _, _, h => h
  | [], _, _ :: _, _, h, _ => h.elim
  | _ :: _, _, [], _, h, _ => h.elim
  | _ :: _, _, _ :: _, _, h, g => ⟨h.1, Al.app h.2 g⟩
def pV (v : V) : Pr := ⟨fun _ x => x = v, fun _ h => h⟩
/-- (the part K is named so that it is found) -/
def lstAt (K : PySem.W.Frag) (H : Hp) (a : Addr) (xs : List V) : Prop := H a = some (.lst xs)
def pLst (K : PySem.W.Frag) (ps : List Pr) : Pr := ⟨fun H v => ∃ a xs, v = .ref a ∧ lstAt K H a xs ∧ Al H ps xs, fun e h => by
  obtain ⟨a, xs, h1, h2, h3⟩ := h
  exact ⟨a, xs, h1, e _ _ h2, h3.up e⟩⟩
def pTup (K : PySem.W.Frag) (ps : List Pr) : Pr := ⟨fun H v => ∃ a xs, v = .ref a ∧ SqT K H a xs ∧ Al H ps xs, fun e h => by
  obtain ⟨a, xs, h1, h2, h3⟩ := h
  exact ⟨a, xs, h1, ex_t e h2, h3.up e⟩⟩
structure Tu (α : Type) where
  l : List α
  deriving DecidableEq
class Enc (K : PySem.W.Frag) (α : Type) where
  rp : α → Pr
  enc : α → PyData
  toD : ∀ {H : Hp} {v : V} {a : α}, (rp a).on H v → Dp K H v (enc a)
  lay : α → Prop
  dep : Nat
  dle : ∀ a : α, (enc a).depth ≤ dep
  can : ∀ a : α, lay a → (enc a).canLay0 = true
  inj : ∀ a b : α, PyData.eqv (enc a) (enc b) = true ↔ a = b
variable {K : PySem.W.Frag}
def en (K : PySem.W.Frag) {α : Type} [Enc K α] (a : α) : Pr := Enc.rp (K := K) a
instance : Enc K Int := ⟨fun i => pV (.int i), .int, fun h => by cases h; exact .int _, fun _ => True, 0, fun _ => Nat.le_refl _, fun _ _ => rfl, fun a b => by simp [PyData.eqv]⟩
instance : Enc K Nat := ⟨fun i => pV (.int i), fun i => .int i, fun h => by cases h; exact .int _, fun _ => True, 0, fun _ => Nat.le_refl _, fun _ _ => rfl, fun a b => by simp [PyData.eqv]; omega⟩
instance : Enc K Bool := ⟨fun i => pV (.bl i), .bool, fun h => by cases h; exact .bl _, fun _ => True, 0, fun _ => Nat.le_refl _, fun _ _ => rfl, fun a b => by cases a <;> cases b <;> simp [PyData.eqv]⟩
instance : Enc K Str := ⟨fun i => pV (.str i), .str, fun h => by cases h; exact .str _, fun s => PyData.strOk s = true, 0, fun _ => Nat.le_refl _, fun _ h => h, fun a b => by simp [PyData.eqv]⟩
instance : Enc K Unit := ⟨fun _ => pV .non, fun _ => .none, fun h => by cases h; exact .non, fun _ => True, 0, fun _ => Nat.le_refl _, fun _ _ => rfl, fun a b => by simp [PyData.eqv]⟩
section
variable {α β γ : Type}
theorem al_toD [E : Enc K α] {H : Hp} : ∀ {l : List α} {xs : List V}, Al H (l.map E.rp) xs → DpAll K H xs (l.map E.enc)
  | [], [], _ => .nil
  | [], _ :: _, h => h.elim
  | _ :: _, [], h => h.elim
  | a :: l, x :: xs, h => .cons (E.toD h.1) (al_toD h.2)
theorem dle_all [E : Enc K α] : ∀ l : List α, PyData.depthAll (l.map E.enc) ≤ E.dep
  | [] => Nat.zero_le _
  | a :: l => by
    show max (PyData.depth (E.enc a)) (PyData.depthAll (l.map E.enc)) ≤ _
    have h1 := E.dle a
    have h2 := dle_all (E := E) l
    omega
theorem can_all [E : Enc K α] : ∀ l : List α, (∀ a ∈ l, E.lay a) → PyData.canLayAll0 (l.map E.enc) = true
  | [], _ => rfl
  | a :: l, h => by
    show (PyData.canLay0 (E.enc a) && PyData.canLayAll0 (l.map E.enc)) = true
    rw [E.can a (h a (List.mem_cons_self ..)), can_all l fun x hx => h x (List.mem_cons_of_mem _ hx)]
    rfl
theorem inj_all [E : Enc K α] : ∀ l m : List α, PyData.eqvAll (l.map E.enc) (m.map E.enc) = true ↔ l = m
  | [], [] => ⟨fun _ => rfl, fun _ => rfl⟩
  | [], _ :: _ => ⟨(fun h => nomatch h), (fun h => nomatch h)⟩
  | _ :: _, [] => ⟨(fun h => nomatch h), (fun h => nomatch h)⟩
  | a :: l, b :: m => by
    show (PyData.eqv (E.enc a) (E.enc b) && PyData.eqvAll (l.map E.enc) (m.map E.enc)) = true ↔ _
    rw [Bool.and_eq_true, E.inj, inj_all l m, List.cons.injEq]
instance [E : Enc K α] : Enc K (List α) := ⟨fun l => pLst K (l.map E.rp), fun l => .list (l.map E.enc), fun h => by
    obtain ⟨a, xs, rfl, h1, h2⟩ := h
    exact .lst (sq_of h1) (al_toD h2), fun l => ∀ a ∈ l, E.lay a, E.dep + 1, fun l => by
    show PyData.depthAll (l.map E.enc) + 1 ≤ _
    have := dle_all (E := E) l
    omega, fun l h => can_all l h, fun l m => inj_all l m⟩
instance [E : Enc K α] : Enc K (Tu α) := ⟨fun l => pTup K (l.l.map E.rp), fun l => .tuple (l.l.map E.enc), fun h => by
    obtain ⟨a, xs, rfl, h1, h2⟩ := h
    exact .tup h1 (al_toD h2), fun l => ∀ a ∈ l.l, E.lay a, E.dep + 1, fun l => by
    show PyData.depthAll (l.l.map E.enc) + 1 ≤ _
    have := dle_all (E := E) l.l
    omega, fun l h => can_all l.l h, fun l m => by
    obtain ⟨l⟩ := l
    obtain ⟨m⟩ := m
    rw [Tu.mk.injEq]
    exact inj_all l m⟩
instance [E : Enc K α] [F : Enc K β] : Enc K (α × β) := ⟨fun x => pTup K [E.rp x.1, F.rp x.2], fun x => .tuple [E.enc x.1, F.enc x.2], fun h => by
    obtain ⟨a, xs, rfl, h1, h2⟩ := h
    match xs, h2 with
    | [_, _], h2 => exact .tup h1 (.cons (E.toD h2.1) (.cons (F.toD h2.2.1) .nil)), fun x => E.lay x.1 ∧ F.lay x.2, max E.dep F.dep + 1, fun x => by
    show max (PyData.depth (E.enc x.1)) (max (PyData.depth (F.enc x.2)) 0) + 1 ≤ _
    have h1 := E.dle x.1
    have h2 := F.dle x.2
    omega, fun x h => by
    show (PyData.canLay0 (E.enc x.1) && (PyData.canLay0 (F.enc x.2) && true)) = true
    rw [E.can _ h.1, F.can _ h.2]
    rfl, fun x y => by
    show (PyData.eqv (E.enc x.1) (E.enc y.1) && (PyData.eqv (F.enc x.2) (F.enc y.2) && true)) = true ↔ _
    rw [Bool.and_true, Bool.and_eq_true, E.inj, F.inj]
    exact ⟨fun h => Prod.ext h.1 h.2, fun h => by rw [h]; exact ⟨rfl, rfl⟩⟩⟩
end
structure Fr (G H G2 H2 : Hp) : Prop where
  g : Ex G G2
  h : Ex H H2
  k : Ex G2 H2
  n : ∀ a, G a = none → H a ≠ none → G2 a = none
theorem Fr.refl {G H : Hp} (e : Ex G H) : Fr G H G H := ⟨Ex.refl G, Ex.refl H, e, fun _ h _ => h⟩
theorem ne_up {H H' : Hp} {a : Addr} (e : Ex H H') (h : H a ≠ none) : H' a ≠ none := by
  cases q : H a with
  | none => exact absurd q h
  | some o => rw [e a o q]; exact fun h => nomatch h
theorem Fr.trans {G H G2 H2 G3 H3 : Hp} (a : Fr G H G2 H2) (b : Fr G2 H2 G3 H3) : Fr G H G3 H3 :=
  ⟨a.g.trans b.g, a.h.trans b.h, b.k, fun x h1 h2 => b.n x (a.n x h1 h2) (ne_up a.h h2)⟩
theorem Fr.same {G H H2 : Hp} (e : Ex G H) (e2 : Ex H H2) : Fr G H G H2 := ⟨Ex.refl G, e2, e.trans e2, fun _ h _ => h⟩
theorem ex_upd {G H : Hp} (e : Ex G H) {p : Addr} {o : HO} : Ex (upd G p o) (upd H p o) := fun a u h => by
  by_cases q : a = p
  · subst q
    rw [upd_same] at h ⊢
    exact h
  · rw [upd_ne q] at h ⊢
    exact e a u h
theorem Fr.new {G H : Hp} (e : Ex G H) {p : Addr} {o : HO} (hp : H p = none) : Fr G H (upd G p o) (upd H p o) :=
  ⟨Ex.new (fresh_back e hp), Ex.new hp, ex_upd e, fun a h1 h2 => by
    have : a ≠ p := fun q => by subst q; exact h2 hp
    rw [upd_ne this]
    exact h1⟩
/-- what H holds at p becomes known -/
theorem Fr.freeze {G H : Hp} {p : Addr} {o : HO} (e : Ex G H) (hG : G p = none) (h : H p = some o) : Ex G (upd G p o) ∧ Ex (upd G p o) H := ⟨Ex.new hG, fun a u q => by
  by_cases c : a = p
  · subst c
    rw [upd_same] at q
    cases q
    exact h
  · rw [upd_ne c] at q
    exact e a u q⟩
/-- a reading from less known, beside more known -/
def beside (G' G2 : Hp) : Hp := fun a => match G' a with | some o => some o | none => G2 a
theorem Fr.beside {G G' H G2 H2 : Hp} (f : Fr G H G2 H2) (e : Ex G G') (e1 : Ex G' H) : Fr G' H (beside G' G2) H2 ∧ Ex G2 (beside G' G2) := by
  refine ⟨⟨fun a o h => by simp only [OP.beside, h], f.h, fun a o h => ?_, fun a h1 h2 => ?_⟩, fun a o h => ?_⟩
  · simp only [OP.beside] at h
    cases q : G' a with
    | some u =>
      rw [q] at h
      cases h
      exact f.h a _ (e1 a _ q)
    | none =>
      rw [q] at h
      exact f.k a o h
  · simp only [OP.beside, h1]
    exact f.n a (fresh_back e h1) h2
  · simp only [OP.beside]
    cases q : G' a with
    | some u =>
      have h1 := f.h a _ (e1 a _ q)
      have h2 := f.k a o h
      rw [h1] at h2
      exact h2
    | none => exact h
def EvP (te : TE) (σ : L2.St) (G : Hp) (p : Pr) : Prop := ∀ H1, Ex G H1 → ∀ Q : VK, (∀ v H2 G2, Fr G H1 G2 H2 → p.on G2 v → Q v H2) → te σ H1 Q
def EvPs (ta : TA) (σ : L2.St) (G : Hp) (ps : List Pr) : Prop := ∀ H1, Ex G H1 → ∀ Q : List V → Hp → Prop, (∀ vs H2 G2, Fr G H1 G2 H2 → Al G2 ps vs → Q vs H2) → ta σ H1 Q
/-- a list made anew, not known yet -/
def EvN (te : TE) (σ : L2.St) (G : Hp) (ps : List Pr) : Prop := ∀ H1, Ex G H1 → ∀ Q : VK, (∀ p xs H2 G2, Fr G H1 G2 H2 → H1 p = none → G2 p = none → H2 p = some (.lst xs) → Al G2 ps xs → Q (.ref p) H2) → te σ H1 Q
section
variable {σ : L2.St} {G G' H H' : Hp} {ta tb te tx ts : TE} {t u : TT} {x y z v : V} {p q : Pr} {ps qs : List Pr}
theorem EvP.mono (e : Ex G G') (h : EvP te σ G p) : EvP te σ G' p := fun H1 a Q k => h H1 (e.trans a) Q fun v H2 G2 f hv =>
  k v H2 _ (f.beside e a).1 (p.up (f.beside e a).2 hv)
theorem EvPs.mono {ta : TA} (e : Ex G G') (h : EvPs ta σ G ps) : EvPs ta σ G' ps := fun H1 a Q k => h H1 (e.trans a) Q fun v H2 G2 f hv =>
  k v H2 _ (f.beside e a).1 (hv.up (f.beside e a).2)
theorem EvP.imp (h : EvP te σ G p) (e : ∀ G v, p.on G v → q.on G v) : EvP te σ G q := fun H1 a Q k => h H1 a Q fun v H2 G2 f hv => k v H2 G2 f (e G2 v hv)
section
variable {α : Type} [E : Enc K α] [DecidableEq α] {a b : α}
theorem any_eqv (l : List α) (a : α) : ((l.map E.enc).any fun z => PyData.eqv z (E.enc a)) = decide (a ∈ l) := by
  rw [Bool.eq_iff_iff, List.any_eq_true, decide_eq_true_eq]
  refine ⟨fun h => ?_, fun h => ⟨E.enc a, List.mem_map.mpr ⟨a, h, rfl⟩, (E.inj a a).mpr rfl⟩⟩
  obtain ⟨z, hz, he⟩ := h
  obtain ⟨b, hb, rfl⟩ := List.mem_map.mp hz
  rw [← (E.inj b a).mp he]
  exact hb
end
end
end OP
namespace OP
open PySem PySem.Spec PyProof.Rows L2 Evl
variable {K : PySem.W.Frag}
section
variable {σ : L2.St} {G G' H H' : Hp} {ta tb te tx ts tl : TE} {t u : TT} {x y z v : V} {p q : Pr} {ps qs : List Pr} {j : Nat} {vs : List Nat}
/-- the list that grows: not known, made of what is known -/
def Cp (G H : Hp) (D : Addr) (ps : List Pr) (H' : Hp) : Prop := ∃ G' xs, Fr G H G' H' ∧ H D = none ∧ G' D = none ∧ H' D = some (.lst xs) ∧ Al G' ps xs
/-- a turn that adds p -/
theorem Cp.turn {D : Addr} {σ2 : L2.St} (h : Cp G H D ps H') (hz : ps.length < 100000) (hp : ∀ G', Ex G G' → EvP te σ2 G' p) : te σ2 H' fun y H4 => ∃ acc, H4 D = some (.lst acc) ∧ acc.length < sizeLine ∧ Cp G H D (ps ++ [p]) (upd H4 D (.lst (acc ++ [y]))) := by
  obtain ⟨G', xs, f, h1, h2, h3, h4⟩ := h
  refine hp G' f.g H' f.k _ fun y H4 G4 f4 hy => ⟨xs, f4.h D _ h3, sz_lt (by rw [h4.len]; exact hz), G4, xs ++ [y], ?_, h1, f4.n D h2 (by rw [h3]; exact fun c => nomatch c), upd_same, (h4.up f4.g).app ⟨hy, trivial⟩⟩
  have g := f.trans f4
  refine ⟨g.g, Ex.mut g.h h1, fun a o ha => ?_, g.n⟩
  have : a ≠ D := fun c => by
    subst c
    rw [f4.n a h2 (by rw [h3]; exact fun c => nomatch c)] at ha
    cases ha
  rw [upd_ne this]
  exact g.k a o ha
theorem Cp.more {D : Addr} {H4 : Hp} {G4 : Hp} (h : Cp G H D ps H') (f : ∀ G', Ex G G' → Ex G' H' → G' D = none → ∃ G4, Fr G' H' G4 H4) : Cp G H D ps H4 := by
  obtain ⟨G', xs, f1, h1, h2, h3, h4⟩ := h
  obtain ⟨G4, f4⟩ := f G' f1.g f1.k h2
  exact ⟨G4, xs, f1.trans f4, h1, f4.n D h2 (by rw [h3]; exact fun c => nomatch c), f4.h D _ h3, h4.up f4.g⟩
/-- a turn with a test -/
theorem Cp.step {D : Addr} {σ2 : L2.St} {b : Bool} (h : Cp G H D ps H') (hz : ps.length < 100000) (ht : ∀ G', Ex G G' → EvT t σ2 G' b) (hp : b = true → ∀ G', Ex G G' → EvP te σ2 G' p) :
    t σ2 H' fun b H3 => if b = true then te σ2 H3 fun y H4 => ∃ acc, H4 D = some (.lst acc) ∧ acc.length < sizeLine ∧ Cp G H D (if b then ps ++ [p] else ps) (upd H4 D (.lst (acc ++ [y]))) else Cp G H D (if b then ps ++ [p] else ps) H3 := by
  have h0 := h
  obtain ⟨G', xs, f, h1, h2, h3, h4⟩ := h
  refine ht G' f.g H' f.k _ fun H3 e3 => ?_
  have h5 : Cp G H D ps H3 := h0.more (G4 := G') fun G1 _ e1 _ => ⟨G1, Fr.same e1 e3⟩
  cases b with
  | true => exact h5.turn hz fun G1 e1 => hp rfl G1 e1
  | false => exact h5
theorem Cp.done {D : Addr} (h : Cp G H D ps H') {Q : VK} (k : ∀ p xs H2 G2, Fr G H G2 H2 → H p = none → G2 p = none → H2 p = some (.lst xs) → Al G2 ps xs → Q (.ref p) H2) : Q (.ref D) H' := by
  obtain ⟨G', xs, f, h1, h2, h3, h4⟩ := h
  exact k D xs H' G' f h1 h2 h3 h4
theorem Al.nil : ∀ {xs : List V}, Al G [] xs → xs = []
  | [], _ => rfl
  | _ :: _, h => h.elim
theorem Al.uncons : ∀ {xs : List V}, Al G (p :: ps) xs → ∃ x r, xs = x :: r ∧ p.on G x ∧ Al G ps r
  | [], h => h.elim
  | x :: r, h => ⟨x, r, rfl, h.1, h.2⟩
theorem Al.one {xs : List V} (h : Al G [p] xs) : ∃ x, xs = [x] ∧ p.on G x := by
  obtain ⟨x, r, rfl, h1, h2⟩ := h.uncons
  obtain rfl := Al.nil h2
  exact ⟨x, rfl, h1⟩
theorem Al.two {xs : List V} (h : Al G [p, q] xs) : ∃ x y, xs = [x, y] ∧ p.on G x ∧ q.on G y := by
  obtain ⟨x, r, rfl, h1, h2⟩ := h.uncons
  obtain ⟨y, rfl, h3⟩ := h2.one
  exact ⟨x, y, rfl, h1, h3⟩
end
end OP
namespace OP
open PySem PySem.Spec PyProof.Rows L2 Evl
variable {K : PySem.W.Frag}
/-- a def that makes a new list -/
def spN (A : List Pr → List Pr → Prop) : Sp := fun vs H Q _ => ∃ G ps qs, A ps qs ∧ Ex G H ∧ Al G ps vs ∧ ∀ p xs H2 G2, Fr G H G2 H2 → H p = none → G2 p = none → H2 p = some (.lst xs) → Al G2 qs xs → Q (.ref p) H2
section
variable {σ : L2.St} {G G' H H' : Hp} {ta tb te tx ts tl : TE} {t u : TT} {x y z v : V} {p q : Pr} {ps qs : List Pr} {i j : Nat} {vs : List Nat} {D : Ends} {tu tz : TS} {E : XK}
theorem en_call {A : List Pr → List Pr → Prop} {ta : TA} (h : EvPs ta σ G ps) (a : A ps qs) : EvN (tCall (spN A) [] E ta) σ G qs := fun H1 e Q k => h H1 e _ fun vs H2 G2 f hvs =>
  ⟨G2, ps, qs, a, f.k, by rw [List.append_nil]; exact hvs, fun p xs H3 G3 f3 hp => k p xs H3 G3 (f.trans f3) (fresh_back f.h hp)⟩
/-- a list of our own, made since (G, H), that may still grow -/
structure Cq (G H : Hp) (a : Addr) (ps : List Pr) (G' H' : Hp) : Prop where
  f : Fr G H G' H'
  new : H a = none
  out : G' a = none
  at_ : ∃ xs, H' a = some (.lst xs) ∧ Al G' ps xs
theorem Cq.of {a : Addr} {xs : List V} (f : Fr G H G' H') (h1 : H a = none) (h2 : G' a = none) (h3 : H' a = some (.lst xs)) (h4 : Al G' ps xs) : Cq G H a ps G' H' := ⟨f, h1, h2, xs, h3, h4⟩
theorem Cq.go {a : Addr} {G2 H2 : Hp} (c : Cq G H a ps G' H') (f : Fr G' H' G2 H2) : Cq G H a ps G2 H2 := by
  obtain ⟨f1, h1, h2, xs, h3, h4⟩ := c
  exact ⟨f1.trans f, h1, f.n a h2 (by rw [h3]; exact fun c => nomatch c), xs, f.h a _ h3, h4.up f.g⟩
theorem Cq.k {a : Addr} (c : Cq G H a ps G' H') : Ex G' H' := c.f.k
end
end OP
namespace OP
open PySem PySem.Spec PyProof.Rows L2 Evl
theorem ns_at {K : PySem.W.Frag} {h : Heap} {N : Addr} {mg : Str → Option Value} {n : Str} {v : Value} (X : K.In h) (G : h.Ns N mg) (e : PySem.W.nsIn K N n = some (some v)) : mg n = some v := by
  obtain ⟨o, es, ep, ho, hd, _, hf⟩ := G
  unfold PySem.W.nsIn at e
  split at e
  · rename_i c d es' n' sl q
    have := X _ _ q
    rw [this] at ho
    cases ho
    cases hd
    split at e
    · rename_i e' he
      cases e
      rw [← hf]
      unfold nsFind findBy
      rw [← Array.find?_toList, he]
      rfl
    · split at e <;> cases e
  · cases e
/-- instances of the class at C: what isinstance asks -/
structure InsT (K : PySem.W.Frag) (C : Addr) : Prop where
  ha : PySem.W.findIn K (.ref C) "__class__" = some (some (.builtin "object.__class__"))
  hn : PySem.W.specialIn K (.builtin "object.__class__") "__get__" = some (some (.builtin "getset_descriptor.__get__"))
  htk : PySem.W.takesIn K (.builtin "object.__class__") = some true
  hm : PySem.W.mroIn K C (.type "object") = some true
def keysOk (es : Array DictEntry) : Bool := es.toList.all fun e => match e.key with | .str _ _ => true | _ => false
theorem nsOk_of {K : PySem.W.Frag} {N : Addr} {c : Value} {d : Option Addr} {es : Array DictEntry} {n : Nat} {sl : Array (Option Value)} (h : K.lookup N = some ⟨c, d, .dict es n, sl⟩) (k : keysOk es = true) : PySem.W.nsOkIn K N = true := by
  unfold PySem.W.nsOkIn
  rw [h]
  unfold keysOk at k
  rw [Array.all_toList] at k
  exact k
/-- the class at C has __eq__ at f, no __ne__, and object alone above it -/
structure OwnE (K : PySem.W.Frag) (C f : Addr) : Prop where
  cls : ∃ (nm q : Str) (N : Addr) (bs : List Value) (hdct : Bool) (sn : List Str) (sub : List Value) (ab : Bool) (col : Option Bool) (dd : Option Addr) (k0 k1 k2 k3 k5 : Option Value) (newId : String),
    K.lookup C = some (excClassObj nm q C N bs [.type "object"] hdct sn sub ab col dd k0 k1 k2 k3 k5 newId) ∧ PySem.W.nsOkIn K N = true ∧ PySem.W.nsIn K N "__eq__" = some (some (.ref f)) ∧ PySem.W.nsIn K N "__ne__" = some none
  fo : ∃ of, K.lookup f = some of ∧ of.cls = .type "function"
  at_ : PySem.W.findIn K (.ref C) "__eq__" = some (some (.ref f))
  fn : PySem.W.isFn K (.ref f) = true
section
variable {X : Cx} {CX : CXT} {n : Nat} {C f : Addr} {fd : FuncData} {ps : List Str} {sp : Sp} {E : XK}
def rOwnE (C : Addr) (sp : Sp) (E : XK) (neg : Bool) : R2 := fun x y H Q => ∃ a dx fs b dy gs, x = .ref a ∧ y = .ref b ∧ H a = some (.ins C dx fs) ∧ H b = some (.ins C dy gs) ∧
  sp [x, y] H (fun v H' => ∃ c, v = .bl c ∧ Q (.bl (if neg then !c else c)) H') E
/-- x in (..), x not in (..), data of any depth -/
def rInT (K : PySem.W.Frag) : R2 := fun x y H Q => ∃ d ds, Dp K H x d ∧ Dp K H y (.tuple ds) ∧ SeqAt.shaped d = true ∧ SeqAt.shaped (.tuple ds) = true ∧ Q (.bl (ds.any fun z => PyData.eqv z d)) H
def rNotInT (K : PySem.W.Frag) : R2 := fun x y H Q => ∃ d ds, Dp K H x d ∧ Dp K H y (.tuple ds) ∧ SeqAt.shaped d = true ∧ SeqAt.shaped (.tuple ds) = true ∧ Q (.bl (!ds.any fun z => PyData.eqv z d)) H
theorem op_inT (hu : X.A.units + 65 < cLine) : OpR X (compareOp .In) (rInT X.K) := by
  intro pins s σ H x y v u Q I rx ry h
  obtain ⟨d, ds, hd, he, sd, se, q⟩ := h
  obtain ⟨as, r1⟩ := Dp.reads I d x v hd rx
  obtain ⟨bs, r2⟩ := Dp.reads I (.tuple ds) y u he ry
  exact SeqAt.in_tuple_reads r2 r1 (SeqAt.canLay_of_shaped se) (SeqAt.canLay_of_shaped sd) (room_in_shaped sd hu) ⟨.bl _, H, I, rfl, q⟩
theorem op_notInT (hu : X.A.units + 65 < cLine) : OpR X (compareOp .NotIn) (rNotInT X.K) := by
  intro pins s σ H x y v u Q I rx ry h
  obtain ⟨d, ds, hd, he, sd, se, q⟩ := h
  obtain ⟨as, r1⟩ := Dp.reads I d x v hd rx
  obtain ⟨bs, r2⟩ := Dp.reads I (.tuple ds) y u he ry
  exact SeqAt.notIn_tuple_reads r2 r1 (SeqAt.canLay_of_shaped se) (SeqAt.canLay_of_shaped sd) (room_in_shaped sd hu) ⟨.bl _, H, I, rfl, q⟩
variable {K : PySem.W.Frag}
end
section
variable {K : PySem.W.Frag} {σ : L2.St} {G G' H H' : Hp} {ta tb te tx ts tl : TE} {t u : TT} {x y z v : V} {p q : Pr} {ps qs : List Pr} {i j : Nat} {vs : List Nat} {D : Ends} {tu tz : TS} {E : XK}
theorem TyX.up {v : V} {t : Value} (e : Ex G G') (h : TyX K G v t) : TyX K G' v t := by
  have h1 := TyZ.mono e (.x h)
  cases h1 with
  | x h => exact h
  | exc T e1 e2 =>
    cases h with
    | base b => cases b with
      | ins e3 => 
        have := e _ _ e3
        rw [e1] at this
        cases this
end
end OP
namespace OP
open PySem PySem.Spec PyProof.Rows L2 Evl
/-- enumerate(text): the i-th turn gives a new pair of i and the sign -/
def Ites (x : Str) : It :=
  ⟨fun i _ => i < x.cps.size, fun i H v H' => ∃ T c, v = .ref T ∧ H T = none ∧ H' = upd H T (.tup [.int (i : Nat), .str ⟨#[c]⟩]) ∧ x.cps[i]? = some c, fun i _ => i = x.cps.size⟩
theorem turn_es {P : Program} {w : World} {K : PySem.W.Frag} {elts : List Expr} {kk : Nat} {tpos : Pos} {x : Str} {t : Tok} {e it : Addr} (hne : e ≠ it) :
    Turn P w K (.Tuple elts kk tpos) (Ites x) [e, it] e (fun i h => (∃ old, IsEnum h e it i old) ∧ h.IsStrIter it (strIterType x) x t i) where
  mem := by simp
  obj := fun i h st b hb => by
    obtain ⟨⟨old, he⟩, o, ho, hc, hd⟩ := st
    have e' : b = e ∨ b = it := by simpa using hb
    rcases e' with z | z
    · rw [z]; exact ⟨_, he, fun v q => nomatch q⟩
    · rw [z]; exact ⟨o, ho, fun v q => by rw [hd] at q; cases q⟩
  keep := fun i h h' st k => let ⟨⟨old, he⟩, o, ho, r⟩ := st; ⟨⟨old, k e (by simp) _ he⟩, o, k it (by simp) _ ho, r⟩
  item := by
    intro X hP hw hK hc i pins s σ H E I hf st hg
    subst hP hw hK
    obtain ⟨⟨old, he⟩, hit⟩ := st
    have hh : X.A.in1.handled = none := I.ok.hd hc
    have D1 : Draws X.prog X.w X.A.in1 it [it] x.cps.size _ _ := Draws.text hh it x t
    have hel : e < s.heap.objs.size := Heap.lt_size he
    have hil : it < s.heap.objs.size := by obtain ⟨_, q, _⟩ := hit; exact Heap.lt_size q
    refine wpAny_pyNext_enum_itemD D1 he hit hg hne (by simpa using hne) fun u h' tk hP ho hit' hT hsz hk => ?_
    obtain ⟨c, t1, hc1, rfl⟩ := hP
    refine ⟨_, rfl, wpAny_letOwnedTupleGo_enum (s := { s with heap := h', toks := tk + 1 }) ho fun h'' he' sb => ?_⟩
    have hT2 : h''.get? s.heap.objs.size = some { cls := .type "tuple", data := .seq #[.int i tk, .str ⟨#[c]⟩ t1] } := (sb.2 _ (Nat.ne_of_gt hel)).trans hT
    have new : ObjOk X.prog X.w (upd H s.heap.objs.size (.tup [.int (i : Nat), .str ⟨#[c]⟩])) h'' s.heap.objs.size (.tup [.int (i : Nat), .str ⟨#[c]⟩]) :=
      ⟨by show 2 ≤ sizeLine; decide, [.int i tk, .str ⟨#[c]⟩ t1], .cons ⟨_, rfl⟩ (.cons ⟨_, rfl⟩ .nil), ⟨_, hT2, rfl, _, rfl⟩⟩
    have I1 : Inv X pins σ (upd H s.heap.objs.size (.tup [.int (i : Nat), .str ⟨#[c]⟩])) { s with heap := h'', toks := tk + 1 } :=
      I.turnedNew (ch := [e, it]) (fun b ob hb q => (sb.2 b (fun z => hb (by simp [z]))).trans (hk b ob (fun z => hb (by simp [z])) (fun z => hb (by simp [z])) q)) hf (Nat.le_refl _) new
    refine ⟨.ref s.heap.objs.size, _, I1, rfl, ⟨_, c, rfl, I.hok.fresh (Nat.le_refl _), rfl, hc1⟩, ⟨⟨.str ⟨#[c]⟩ t1, ?_⟩, D1.frame _ _ _ hit' fun b hb o q => (sb.2 b (fun z => by
        rw [z] at hb
        exact hne (by simpa using hb))).trans q⟩, fun b hb => ?_⟩
    · have e1 : ((i + 1 : Nat) : Int) = (i : Int) + 1 := by omega
      rw [e1]; exact he'
    · have hb' : b < s.heap.objs.size := by
        have e' : b = e ∨ b = it := by simpa using hb
        rcases e' with z | z
        · rw [z]; exact hel
        · rw [z]; exact hil
      rw [upd_ne (Nat.ne_of_lt hb')]
      exact (hf b hb).1
  done := by
    intro X hP hw hK hc i pins s σ H E I hf st hg
    subst hP hw hK
    obtain ⟨⟨old, he⟩, hit⟩ := st
    have hh : X.A.in1.handled = none := I.ok.hd hc
    have D1 : Draws X.prog X.w X.A.in1 it [it] x.cps.size _ _ := Draws.text hh it x t
    have hg' : i = x.cps.size := hg
    subst hg'
    obtain ⟨f0, f1, f2, f3, f4, f5⟩ := hf it (by simp)
    exact wpAny_pyNext_enum_endD D1 he hit fun h' eb => ⟨rfl, I.turned (t' := s.toks) (fun b o hb q => eb b o hb q) f0 f1 f3 f4 f5⟩
  self := fun A i s Q E st h => let ⟨⟨_, he⟩, _⟩ := st; wpAny_pyIter_enum he h
def iEs (te : TE) : TI := fun σ H R => te σ H fun v H1 => ∃ x : Str, v = .str x ∧ R (Ites x) H1
theorem pi_enumS {X : Cx} {e : Expr} {te : TE} {p pos tpos : Pos} {elts : List Expr} {kk : Nat} (hg : Gl X "enumerate") (hm : X.mg "enumerate" = none) (ha : PE X e te) (hs : starEach [e] X.env = [(false, eval e X.env)] := by rfl) :
    PI X (.Tuple elts kk tpos) (.Call (.Name "enumerate" p) [e] [] pos) (iEs te) := by
  refine ⟨fun pins s σ H R I h => ?_⟩
  refine Call_ (ld_blt I hg hm boot_enumerate (PyProof.Rows.callWith_type1 ?_ hs rfl))
  rw [hs]
  show wpAny _ _ (spliced [(false, eval e X.env)]) _ _ s
  refine Calls.spliced_cons (thn (ha.run pins s σ H _ I h) fun u s1 ⟨v, H1, I1, r1, x, ev, q⟩ => Calls.spliced_nil ?_)
  subst ev
  obtain ⟨t, rfl⟩ := r1
  refine call_enumerate_str fun h' he hit hsz hk => wpAny_pyIter_enum he ?_
  have I2 : Inv X pins σ H1 { s1 with heap := h' } := I1.kept (t' := s1.toks) hk
  refine ⟨s1.heap.objs.size + 1, [s1.heap.objs.size + 1, s1.heap.objs.size], _, _, H1, rfl, I2, turn_es (Nat.succ_ne_self _), ⟨⟨.none, he⟩, hit⟩, fun b hb => ?_, q⟩
  have e' : b = s1.heap.objs.size + 1 ∨ b = s1.heap.objs.size := by simpa using hb
  have hle : s1.heap.objs.size ≤ b := by
    rcases e' with z | z
    · rw [z]; exact Nat.le_add_right _ _
    · rw [z]; exact Nat.le_refl _
  exact I1.fpOk hle (I1.hok.fresh hle)
end OP
namespace OP
open PySem PySem.Spec PyProof.Rows L2 Evl
/-- two rules for one expression: either reading will do -/
theorem pe_alt {X : Cx} {e : Expr} {t u : TE} (h1 : PE X e t) (h2 : PE X e u) : PE X e (fun σ H Q => t σ H Q ∨ u σ H Q) := ⟨fun pins s σ H Q I h => h.elim (h1.run pins s σ H Q I) (h2.run pins s σ H Q I)⟩
theorem pi_alt {X : Cx} {tg e : Expr} {t u : TI} (h1 : PI X tg e t) (h2 : PI X tg e u) : PI X tg e (fun σ H Q => t σ H Q ∨ u σ H Q) := ⟨fun pins s σ H Q I h => h.elim (h1.run pins s σ H Q I) (h2.run pins s σ H Q I)⟩
def okc (c : Nat) : Bool := decide (c ∈ (("01*" : Str)).cps.toList)
theorem okc_lt {c : Nat} (h : okc c = true) : c < 1114112 := by
  have h1 : c ∈ [48, 49, 42] := of_decide_eq_true h
  rcases List.mem_cons.mp h1 with h | h
  · omega
  rcases List.mem_cons.mp h with h | h
  · omega
  · rw [List.mem_singleton.mp h]
    omega
theorem strOk_of {z : Str} (h : ∀ c ∈ z.cps.toList, c < 1114112) : PyData.strOk z = true := by
  show (z.cps.all (· < 0x110000)) = true
  rw [Array.all_eq_true']
  intro c hc
  exact decide_eq_true (h c (by simpa using hc))
theorem sgn_lay {c : Nat} (h : okc c = true) : PyData.strOk ⟨#[c]⟩ = true := strOk_of fun x hx => by
  rw [List.mem_singleton.mp (show x ∈ [c] from hx)]
  exact okc_lt h
end OP
namespace OP
open PySem PySem.Spec PyProof.Rows L2 Evl
/-- all is known as G, the box stands at b with k draws left -/
structure Wb (b : Addr) (G H : Hp) (k : Nat) : Prop where
  e : Ex G H
  o : G b = none
  bx : ∃ n, BoxAt H b n ∧ n + k ≤ 1000000000
structure Fb (b : Addr) (G H G2 H2 : Hp) : Prop where
  g : Ex G G2
  h : Eb b H H2
  k : Ex G2 H2
  n : ∀ a, G a = none → H a ≠ none → G2 a = none
theorem ne_upb {b : Addr} {H H' : Hp} {a : Addr} (e : Eb b H H') (hb : H' b ≠ none) (h : H a ≠ none) : H' a ≠ none := by
  by_cases c : a = b
  · rw [c]
    exact hb
  · cases q : H a with
    | none => exact absurd q h
    | some o => rw [e a o c q]; exact fun h => nomatch h
theorem BoxAt.ne {H : Hp} {b : Addr} {n : Nat} (h : BoxAt H b n) : H b ≠ none := by
  obtain ⟨o, h, _⟩ := h
  rw [h]
  exact fun c => nomatch c
theorem Wb.ne {b : Addr} {G H : Hp} {k : Nat} (w : Wb b G H k) : H b ≠ none := by
  obtain ⟨n, h, _⟩ := w.bx
  exact h.ne
theorem Fb.trans {b : Addr} {G H G2 H2 G3 H3 : Hp} (a : Fb b G H G2 H2) (c : Fb b G2 H2 G3 H3) (hb : H2 b ≠ none) : Fb b G H G3 H3 :=
  ⟨a.g.trans c.g, a.h.trans c.h, c.k, fun x h1 h2 => c.n x (a.n x h1 h2) (ne_upb a.h hb h2)⟩
theorem Wb.go {b : Addr} {G H G2 H2 : Hp} {k : Nat} (w : Wb b G H k) (f : Fr G H G2 H2) : Wb b G2 H2 k := by
  obtain ⟨n, h, hk⟩ := w.bx
  exact ⟨f.k, f.n b w.o h.ne, n, h.ex f.h, hk⟩
section
variable {K : PySem.W.Frag} {σ : L2.St} {G G' H H' : Hp} {ta tb te tx ts tl : TE} {t u : TT} {x y z v : V} {p q : Pr} {ps qs : List Pr} {i j k : Nat} {vs : List Nat} {D : Ends} {tu tz : TS} {E : XK} {b : Addr}
/-- one by one -/
def F2 {α β : Type} (R : α → β → Prop) (l : List α) (ys : List β) : Prop := ys.length = l.length ∧ ∀ (i : Nat) (a : α) (y : β), l[i]? = some a → ys[i]? = some y → R a y
theorem F2.mem {α β : Type} {R : α → β → Prop} {l : List α} {ys : List β} (h : F2 R l ys) {y : β} (hy : y ∈ ys) : ∃ a ∈ l, R a y := by
  obtain ⟨i, hi⟩ := List.mem_iff_getElem?.mp hy
  have hl := (List.getElem?_eq_some_iff.mp hi).1
  have h2 : i < l.length := by rw [← h.1]; exact hl
  exact ⟨l[i], List.getElem_mem _, h.2 i _ y (List.getElem?_eq_getElem h2) hi⟩
end
end OP
namespace OP
open PySem PySem.Spec PyProof.Rows L2 Evl
section
variable {X : Cx} {CX : CXT} {n : Nat} {C f : Addr} {fd : FuncData} {ps : List Str} {sp : Sp} {E : XK}
/-- a method that the language calls by itself: its def at f -/
structure OwnM (K : PySem.W.Frag) (C : Addr) (m : Str) (f : Addr) : Prop where
  at_ : PySem.W.findIn K (.ref C) m = some (some (.ref f))
  fn : PySem.W.isFn K (.ref f) = true
  fi : PySem.W.fnIn K f = true
/-- len(o) by an own __len__ -/
def rLenO (C : Addr) (sp : Sp) (E : XK) : List V → Hp → VK → Prop := fun xs H Q => ∃ a dx fs, xs = [.ref a] ∧ H a = some (.ins C dx fs) ∧ sp xs H (fun v H' => ∃ i : Int, v = .int i ∧ 0 ≤ i ∧ i < 2 ^ 63 ∧ Q (.int i) H') E
/-- == of an instance and a value of another type -/
def rOwnX (K : PySem.W.Frag) (C : Addr) (sp : Sp) (E : XK) : R2 := fun x y H Q => ∃ a dx fs t, x = .ref a ∧ H a = some (.ins C dx fs) ∧ TyX K H y t ∧ PySem.W.notFirst K C t = true ∧
  sp [x, y] H (fun v H' => ∃ c, v = .bl c ∧ Q (.bl c) H') E
variable {K : PySem.W.Frag}
end
end OP
namespace OP
open PySem PySem.Spec PyProof.Rows L2 Evl
end OP
namespace OP
open PySem PySem.Spec PyProof.Rows L2 Evl
end OP
namespace DN
open PySem PySem.Spec PyProof.Rows L2 Evl
/-- a value that does not change: a tree -/
inductive Dv where
  | non | bl (b : Bool) | int (i : Int) | str (s : Str) | ty (n : String) | cls (c : String)
  | lst (l : List Dv) | tup (l : List Dv) | obj (c : String) (l : List Dv) | dic (t : Bool) (ks vs : List Dv) | scr (l : List Int) | ktp (l : List Dv)
instance : Inhabited Dv := ⟨.non⟩
/-- what a name may hold: a value, a cell -/
inductive Vr where
  | d (v : Dv) | r (n : Nat)
/-- a list whose items may change: rows that stand in the cells ahead of it, or values and other cells -/
inductive Tb where
  | rows (l : List (List Dv)) | vl (l : List Vr) | vt (l : List Vr) | xv (c : String) (v : Vr) | ctb | ow (c : String) (v : Vr)
/-- a thing that may change; it is made of values that do not -/
inductive Cell where
  | lst (l : List Dv) | ob (c : String) (l : List Dv) | dc (t : Bool) (ks vs : List Dv) | dead | tab (t : Tb)
abbrev Sto := List Cell
/-- a tuple of cells may be known, though it is one -/
def stf : Cell → Cell
  | .tab (.vt _) => .dead
  | c => c
/-- what is fixed: the written part, the classes' addresses, their fields -/
structure Zt where
  K : PySem.W.Frag
  cm : String → Addr
  /-- the tables of code objects of the defs that make a lambda, by their cells, and the lambdas' names -/
  tb : Nat → Addr × Str := fun _ => (0, "")
/-- the fields of the package's classes, in the order in which they are set -/
def flds (c : String) : List Str :=
  if c = "Web" then ["houses", "ties", "known", "beside"]
  else if c = "Addresses" then ["kept"]
  else if c = "Tree" then ["spans", "web", "root", "parents", "lists", "ranks"]
  else if c = "LongWeb" then ["web", "spans", "rows"]
  else if c = "LongTree" then ["long", "row", "parents", "houses", "lists"]
  else if c = "Stand" then ["own_names", "ties"]
  else if c = "Post" then ["past"]
  else if c = "Console" then ["post"]
  else []
def key? : Dv → Option Key
  | .int i => some (.inl i)
  | .str s => some (.inr s)
  | _ => none
def tkey? : Dv → Option (List Key)
  | .tup l => l.mapM key?
  | _ => none
def DicAt (t : Bool) (o : Option HO) (ks : List Dv) (ws : List V) : Prop := match t with
  | false => ∃ kk : List Key, ks.map key? = kk.map some ∧ o = some (.dK (kk.zip ws))
  | true => ∃ kk : List (List Key), ks.map tkey? = kk.map some ∧ o = some (.dT (kk.zip ws))
/-- a tuple whose object is known: of the base, or laid so that it is -/
def KT (K : PySem.W.Frag) (G : Hp) (a : Addr) (xs : List V) : Prop :=
  (SqT K (fun _ => none) a xs ∧ ∃ o, K.lookup a = some o ∧ o.cls = .type "tuple" ∧ o.dict = none) ∨ ∃ o : Obj, o.cls = .type "tuple" ∧ o.dict = none ∧ G a = some (.frz o (.tup xs))
mutual
/-- v stands for d, by the known part G -/
def On (Z : Zt) (G : Hp) : Dv → V → Prop
  | .non, v => v = .non
  | .bl b, v => v = .bl b
  | .int i, v => v = .int i
  | .str s, v => v = .str s
  | .ty s, v => v = .ty s
  | .cls c, v => v = .ref (Z.cm c)
  | .scr l, v => ∃ a, v = .ref a ∧ SqL Z.K G a (l.map V.int)
  | .ktp l, v => ∃ a xs, v = .ref a ∧ KT Z.K G a xs ∧ OnL Z G l xs
  | .lst l, v => ∃ a xs, v = .ref a ∧ G a = some (.lst xs) ∧ OnL Z G l xs
  | .tup l, v => ∃ a xs, v = .ref a ∧ G a = some (.tup xs) ∧ OnL Z G l xs
  | .obj c l, v => ∃ a dx xs, v = .ref a ∧ G a = some (.ins (Z.cm c) dx ((flds c).zip xs)) ∧ l.length ≤ (flds c).length ∧ OnL Z G l xs
  | .dic t ks vs, v => ∃ a ws, v = .ref a ∧ DicAt t (G a) ks ws ∧ ks.length = ws.length ∧ OnL Z G vs ws
def OnL (Z : Zt) (G : Hp) : List Dv → List V → Prop
  | [], xs => xs = []
  | d :: l, xs => ∃ y ys, xs = y :: ys ∧ On Z G d y ∧ OnL Z G l ys
end
theorem KT.up {K : PySem.W.Frag} {G H : Hp} (e : Ex G H) {a : Addr} {xs : List V} (h : KT K G a xs) : KT K H a xs := by
  rcases h with h | ⟨o, h1, h2, h3⟩
  · exact .inl h
  · exact .inr ⟨o, h1, h2, e _ _ h3⟩
theorem KT.sq {K : PySem.W.Frag} {G H : Hp} (e : Ex G H) {a : Addr} {xs : List V} (h : KT K G a xs) : SqT K H a xs := by
  rcases h with ⟨(h | ⟨o, h⟩) | h, _⟩ | ⟨o, _, _, h⟩
  · cases h
  · cases h
  · exact .inr h
  · exact .inl (.inr ⟨o, e _ _ h⟩)
theorem DicAt.up {G H : Hp} (e : Ex G H) {t : Bool} {a : Addr} {ks : List Dv} {ws : List V} (h : DicAt t (G a) ks ws) : DicAt t (H a) ks ws := by
  cases t with
  | false => obtain ⟨kk, h1, h2⟩ := h; exact ⟨kk, h1, e _ _ h2⟩
  | true => obtain ⟨kk, h1, h2⟩ := h; exact ⟨kk, h1, e _ _ h2⟩
def Px (α β : List Addr) : Prop := ∃ γ, β = α ++ γ
theorem Px.refl (α : List Addr) : Px α α := ⟨[], by simp⟩
theorem Px.trans {α β γ : List Addr} (a : Px α β) (b : Px β γ) : Px α γ := by
  obtain ⟨x, rfl⟩ := a
  obtain ⟨y, rfl⟩ := b
  exact ⟨x ++ y, by rw [List.append_assoc]⟩
theorem Px.get {α β : List Addr} (a : Px α β) {n : Nat} {x : Addr} (h : α[n]? = some x) : β[n]? = some x := by
  obtain ⟨y, rfl⟩ := a
  rw [List.getElem?_append_left (List.getElem?_eq_some_iff.mp h).1]
  exact h
theorem Px.mem {α β : List Addr} (a : Px α β) {x : Addr} (h : x ∈ α) : x ∈ β := by
  obtain ⟨y, rfl⟩ := a
  exact List.mem_append_left _ h
section
variable {Z : Zt} {G G' H H' : Hp} {α β : List Addr}
mutual
theorem On.up (e : Ex G G') : ∀ {d : Dv} {v : V}, On Z G d v → On Z G' d v
  | .non, _, h => by unfold On at h ⊢; exact h
  | .bl _, _, h => by unfold On at h ⊢; exact h
  | .int _, _, h => by unfold On at h ⊢; exact h
  | .str _, _, h => by unfold On at h ⊢; exact h
  | .ty _, _, h => by unfold On at h ⊢; exact h
  | .cls _, _, h => by unfold On at h ⊢; exact h
  | .scr l, v, h => by
    unfold On at h ⊢
    obtain ⟨a, h1, h2⟩ := h
    exact ⟨a, h1, ex_l e h2⟩
  | .lst l, v, h => by
    unfold On at h ⊢
    obtain ⟨a, xs, h1, h2, h3⟩ := h
    exact ⟨a, xs, h1, e _ _ h2, OnL.up e h3⟩
  | .ktp l, v, h => by
    unfold On at h ⊢
    obtain ⟨a, xs, h1, h2, h3⟩ := h
    exact ⟨a, xs, h1, h2.up e, OnL.up e h3⟩
  | .tup l, v, h => by
    unfold On at h ⊢
    obtain ⟨a, xs, h1, h2, h3⟩ := h
    exact ⟨a, xs, h1, e _ _ h2, OnL.up e h3⟩
  | .obj c l, v, h => by
    unfold On at h ⊢
    obtain ⟨a, dx, xs, h1, h2, h4, h3⟩ := h
    exact ⟨a, dx, xs, h1, e _ _ h2, h4, OnL.up e h3⟩
  | .dic t ks l, v, h => by
    unfold On at h ⊢
    obtain ⟨a, xs, h1, h2, h4, h3⟩ := h
    exact ⟨a, xs, h1, h2.up e, h4, OnL.up e h3⟩
theorem OnL.up (e : Ex G G') : ∀ {l : List Dv} {xs : List V}, OnL Z G l xs → OnL Z G' l xs
  | [], _, h => by unfold OnL at h ⊢; exact h
  | d :: l, xs, h => by
    unfold OnL at h ⊢
    obtain ⟨y, ys, h1, h2, h3⟩ := h
    exact ⟨y, ys, h1, On.up e h2, OnL.up e h3⟩
end
theorem OnL.nil {xs : List V} : OnL Z G [] xs ↔ xs = [] := by unfold OnL; exact Iff.rfl
theorem OnL.cons {d : Dv} {l : List Dv} {xs : List V} : OnL Z G (d :: l) xs ↔ ∃ y ys, xs = y :: ys ∧ On Z G d y ∧ OnL Z G l ys := by
  constructor
  · intro h; unfold OnL at h; exact h
  · intro h; unfold OnL; exact h
theorem OnL.cons' {d : Dv} {l : List Dv} {y : V} {ys : List V} (h : On Z G d y) (t : OnL Z G l ys) : OnL Z G (d :: l) (y :: ys) := OnL.cons.mpr ⟨y, ys, rfl, h, t⟩
theorem OnL.nil' : OnL Z G [] [] := OnL.nil.mpr rfl
theorem OnL.one {d : Dv} {xs : List V} (h : OnL Z G [d] xs) : ∃ y, xs = [y] ∧ On Z G d y := by
  obtain ⟨y, ys, rfl, h2, h3⟩ := OnL.cons.mp h
  rw [OnL.nil.mp h3]
  exact ⟨y, rfl, h2⟩
theorem OnL.two {d e : Dv} {xs : List V} (h : OnL Z G [d, e] xs) : ∃ y z, xs = [y, z] ∧ On Z G d y ∧ On Z G e z := by
  obtain ⟨y, ys, rfl, h2, h3⟩ := OnL.cons.mp h
  obtain ⟨z, rfl, h4⟩ := h3.one
  exact ⟨y, z, rfl, h2, h4⟩
theorem OnL.len : ∀ {l : List Dv} {xs : List V}, OnL Z G l xs → xs.length = l.length
  | [], _, h => by rw [OnL.nil.mp h]; rfl
  | d :: l, xs, h => by
    obtain ⟨y, ys, rfl, _, h3⟩ := OnL.cons.mp h
    rw [List.length_cons, List.length_cons, OnL.len h3]
theorem OnL.app : ∀ {l m : List Dv} {xs ys : List V}, OnL Z G l xs → OnL Z G m ys → OnL Z G (l ++ m) (xs ++ ys)
  | [], _, _, _, h, g => by rw [OnL.nil.mp h]; exact g
  | d :: l, m, xs, ys, h, g => by
    obtain ⟨y, zs, rfl, h2, h3⟩ := OnL.cons.mp h
    exact OnL.cons' h2 (OnL.app h3 g)
theorem OnL.get : ∀ {l : List Dv} {xs : List V} {i : Nat} {d : Dv}, OnL Z G l xs → l[i]? = some d → ∃ x, xs[i]? = some x ∧ On Z G d x
  | [], _, _, _, _, e => by simp at e
  | c :: l, xs, 0, d, h, e => by
    obtain ⟨y, ys, rfl, h2, h3⟩ := OnL.cons.mp h
    simp at e
    subst e
    exact ⟨y, rfl, h2⟩
  | c :: l, xs, i + 1, d, h, e => by
    obtain ⟨y, ys, rfl, h2, h3⟩ := OnL.cons.mp h
    obtain ⟨x, h4, h5⟩ := OnL.get (i := i) h3 (by simpa using e)
    exact ⟨x, by simpa using h4, h5⟩
theorem OnL.got : ∀ {l : List Dv} {xs : List V} {i : Nat} {x : V}, OnL Z G l xs → xs[i]? = some x → ∃ d, l[i]? = some d ∧ On Z G d x
  | [], xs, i, x, h, e => by rw [OnL.nil.mp h] at e; simp at e
  | c :: l, xs, 0, d, h, e => by
    obtain ⟨y, ys, rfl, h2, h3⟩ := OnL.cons.mp h
    simp at e
    subst e
    exact ⟨c, rfl, h2⟩
  | c :: l, xs, i + 1, d, h, e => by
    obtain ⟨y, ys, rfl, h2, h3⟩ := OnL.cons.mp h
    obtain ⟨x, h4, h5⟩ := OnL.got (i := i) h3 (by simpa using e)
    exact ⟨x, by simpa using h4, h5⟩
theorem OnL.set : ∀ {l : List Dv} {xs : List V} {i : Nat} {d : Dv} {x : V}, OnL Z G l xs → On Z G d x → OnL Z G (l.set i d) (xs.set i x)
  | [], xs, i, d, x, h, e => by rw [OnL.nil.mp h]; exact OnL.nil'
  | c :: l, xs, 0, d, x, h, e => by
    obtain ⟨y, ys, rfl, h2, h3⟩ := OnL.cons.mp h
    exact OnL.cons' e h3
  | c :: l, xs, i + 1, d, x, h, e => by
    obtain ⟨y, ys, rfl, h2, h3⟩ := OnL.cons.mp h
    exact OnL.cons' h2 (OnL.set h3 e)
theorem OnL.take : ∀ {l : List Dv} {xs : List V} (n : Nat), OnL Z G l xs → OnL Z G (l.take n) (xs.take n)
  | _, _, 0, _ => by rw [List.take_zero, List.take_zero]; exact OnL.nil'
  | [], _, n + 1, h => by rw [OnL.nil.mp h]; exact OnL.nil'
  | d :: l, _, n + 1, h => by
    obtain ⟨y, ys, rfl, h2, h3⟩ := OnL.cons.mp h
    exact OnL.cons' h2 (OnL.take n h3)
theorem OnL.drop : ∀ {l : List Dv} {xs : List V} (n : Nat), OnL Z G l xs → OnL Z G (l.drop n) (xs.drop n)
  | _, _, 0, h => h
  | [], _, n + 1, h => by rw [OnL.nil.mp h]; exact OnL.nil'
  | d :: l, _, n + 1, h => by
    obtain ⟨y, ys, rfl, h2, h3⟩ := OnL.cons.mp h
    exact OnL.drop n h3
theorem OnL.rev {l : List Dv} {xs : List V} (h : OnL Z G l xs) : OnL Z G l.reverse xs.reverse := by
  induction l generalizing xs with
  | nil => rw [OnL.nil.mp h]; exact OnL.nil'
  | cons d l ih =>
    obtain ⟨y, ys, rfl, h2, h3⟩ := OnL.cons.mp h
    rw [List.reverse_cons, List.reverse_cons]
    exact (ih h3).app (OnL.cons' h2 OnL.nil')
theorem OnL.erase : ∀ {l : List Dv} {xs : List V} (i : Nat), OnL Z G l xs → OnL Z G (l.eraseIdx i) (xs.eraseIdx i)
  | [], _, _, h => by rw [OnL.nil.mp h]; exact OnL.nil'
  | d :: l, _, 0, h => by
    obtain ⟨y, ys, rfl, h2, h3⟩ := OnL.cons.mp h
    exact h3
  | d :: l, _, i + 1, h => by
    obtain ⟨y, ys, rfl, h2, h3⟩ := OnL.cons.mp h
    exact OnL.cons' h2 (OnL.erase i h3)
/-- what v is at its top, in the heap as it stands; its parts are known -/
def OnH (Z : Zt) (G H : Hp) : Dv → V → Prop
  | .non, v => v = .non
  | .bl b, v => v = .bl b
  | .int i, v => v = .int i
  | .str s, v => v = .str s
  | .ty s, v => v = .ty s
  | .cls c, v => v = .ref (Z.cm c)
  | .scr l, v => ∃ a, v = .ref a ∧ SqL Z.K G a (l.map V.int)
  | .lst l, v => ∃ a xs, v = .ref a ∧ H a = some (.lst xs) ∧ OnL Z G l xs
  | .ktp l, v => ∃ a xs, v = .ref a ∧ KT Z.K G a xs ∧ OnL Z G l xs
  | .tup l, v => ∃ a xs, v = .ref a ∧ G a = some (.tup xs) ∧ OnL Z G l xs
  | .obj c l, v => ∃ a dx xs, v = .ref a ∧ H a = some (.ins (Z.cm c) dx ((flds c).zip xs)) ∧ l.length ≤ (flds c).length ∧ OnL Z G l xs
  | .dic t ks vs, v => ∃ a ws, v = .ref a ∧ DicAt t (H a) ks ws ∧ ks.length = ws.length ∧ OnL Z G vs ws
theorem On.h (e : Ex G H) {d : Dv} {v : V} (h : On Z G d v) : OnH Z G H d v := by
  cases d with
  | scr l => unfold On at h; exact h
  | lst l => unfold On at h; obtain ⟨a, xs, h1, h2, h3⟩ := h; exact ⟨a, xs, h1, e _ _ h2, h3⟩
  | ktp l => unfold On at h; exact h
  | tup l => unfold On at h; exact h
  | obj c l => unfold On at h; obtain ⟨a, dx, xs, h1, h2, h4, h3⟩ := h; exact ⟨a, dx, xs, h1, e _ _ h2, h4, h3⟩
  | dic t ks l => unfold On at h; obtain ⟨a, xs, h1, h2, h4, h3⟩ := h; exact ⟨a, xs, h1, h2.up e, h4, h3⟩
  | _ => unfold On at h; exact h
theorem OnH.on (e : Ex G H) {d : Dv} {v : V} (h : OnH Z G H d v) : On Z H d v := by
  cases d with
  | lst l => obtain ⟨a, xs, h1, h2, h3⟩ := h; unfold On; exact ⟨a, xs, h1, h2, h3.up e⟩
  | scr l => obtain ⟨a, h1, h2⟩ := h; unfold On; exact ⟨a, h1, ex_l e h2⟩
  | ktp l => obtain ⟨a, xs, h1, h2, h3⟩ := h; unfold On; exact ⟨a, xs, h1, h2.up e, h3.up e⟩
  | tup l => obtain ⟨a, xs, h1, h2, h3⟩ := h; unfold On; exact ⟨a, xs, h1, e _ _ h2, h3.up e⟩
  | obj c l => obtain ⟨a, dx, xs, h1, h2, h4, h3⟩ := h; unfold On; exact ⟨a, dx, xs, h1, h2, h4, h3.up e⟩
  | dic t ks l => obtain ⟨a, xs, h1, h2, h4, h3⟩ := h; unfold On; exact ⟨a, xs, h1, h2, h4, h3.up e⟩
  | _ => unfold On; exact h
def CellAt (Z : Zt) (G : Hp) : Cell → Option HO → Prop
  | .lst l, o => ∃ xs, o = some (.lst xs) ∧ OnL Z G l xs
  | .ob c l, o => ∃ dx xs, o = some (.ins (Z.cm c) dx ((flds c).zip xs)) ∧ l.length ≤ (flds c).length ∧ OnL Z G l xs
  | .dc t ks vs, o => ∃ ws, DicAt t o ks ws ∧ ks.length = ws.length ∧ OnL Z G vs ws
  | .dead, o => o ≠ none
  | .tab _, _ => False
theorem CellAt.up {c : Cell} {o : Option HO} (e : Ex G G') (h : CellAt Z G c o) : CellAt Z G' c o := by
  cases c with
  | lst l => obtain ⟨xs, h1, h2⟩ := h; exact ⟨xs, h1, h2.up e⟩
  | ob c l => obtain ⟨dx, xs, h1, h3, h2⟩ := h; exact ⟨dx, xs, h1, h3, h2.up e⟩
  | dc t ks vs => obtain ⟨xs, h1, h3, h2⟩ := h; exact ⟨xs, h1, h3, h2.up e⟩
  | dead => exact h
  | tab rows => exact h.elim
theorem DicAt.ne {t : Bool} {o : Option HO} {ks : List Dv} {ws : List V} (h : DicAt t o ks ws) : o ≠ none := by
  cases t with
  | false => obtain ⟨kk, h1, h2⟩ := h; rw [h2]; exact fun h => nomatch h
  | true => obtain ⟨kk, h1, h2⟩ := h; rw [h2]; exact fun h => nomatch h
theorem CellAt.ne {c : Cell} {o : Option HO} (h : CellAt Z G c o) : o ≠ none := by
  cases c with
  | lst l => obtain ⟨xs, h1, h2⟩ := h; rw [h1]; exact fun h => nomatch h
  | ob c l => obtain ⟨dx, xs, h1, h3, h2⟩ := h; rw [h1]; exact fun h => nomatch h
  | dc t ks vs => obtain ⟨xs, h1, h3, h2⟩ := h; exact h1.ne
  | dead => exact h
  | tab rows => exact h.elim
def OnR (Z : Zt) (G : Hp) (α : List Addr) : Vr → V → Prop
  | .d d, v => On Z G d v
  | .r n, v => ∃ a, v = .ref a ∧ α[n]? = some a
theorem OnR.up {r : Vr} {v : V} (e : Ex G G') (p : Px α β) (h : OnR Z G α r v) : OnR Z G' β r v := by
  cases r with
  | d d => exact On.up e h
  | r n => obtain ⟨a, h1, h2⟩ := h; exact ⟨a, h1, p.get h2⟩
def OnA (Z : Zt) (G : Hp) (α : List Addr) : List Vr → List V → Prop
  | [], xs => xs = []
  | d :: l, xs => ∃ y ys, xs = y :: ys ∧ OnR Z G α d y ∧ OnA Z G α l ys
theorem OnA.up (e : Ex G G') (p : Px α β) : ∀ {l : List Vr} {xs : List V}, OnA Z G α l xs → OnA Z G' β l xs
  | [], _, h => h
  | d :: l, xs, h => by
    obtain ⟨y, ys, h1, h2, h3⟩ := h
    exact ⟨y, ys, h1, h2.up e p, OnA.up e p h3⟩
theorem OnA.len : ∀ {l : List Vr} {xs : List V}, OnA Z G α l xs → xs.length = l.length
  | [], _, h => by rw [show _ = [] from h]; rfl
  | d :: l, xs, h => by
    obtain ⟨y, ys, rfl, _, h3⟩ := h
    rw [List.length_cons, List.length_cons, OnA.len h3]
/-- a list of lists, all of which may change: the rows stand in the cells ahead of it, which are dead for themselves -/
def TabIn (Z : Zt) (G : Hp) (H : Hp) (α : List Addr) (S : Sto) (n : Nat) (a : Addr) (rows : List (List Dv)) : Prop :=
  rows.length ≤ n ∧ ∃ xs, H a = some (.lst xs) ∧ xs.length = rows.length ∧ ∀ i row, rows[i]? = some row → ∃ b ys, α[n - rows.length + i]? = some b ∧ S[n - rows.length + i]? = some .dead ∧ xs[i]? = some (.ref b) ∧ G b = none ∧ H b = some (.lst ys) ∧ OnL Z G row ys
/-- the cells that the items name are such, wherever α is kept -/
theorem OnA.mv (e : Ex G G') : ∀ {l : List Vr} {xs : List V}, (∀ (m : Nat), Vr.r m ∈ l → ∀ b : Addr, α[m]? = some b → β[m]? = some b) → OnA Z G α l xs → OnA Z G' β l xs
  | [], _, _, h => h
  | d :: l, xs, k, h => by
    obtain ⟨y, ys, h1, h2, h3⟩ := h
    refine ⟨y, ys, h1, ?_, OnA.mv e (fun m hm => k m (List.mem_cons_of_mem _ hm)) h3⟩
    cases d with
    | d d => exact On.up e h2
    | r n => obtain ⟨c, q1, q2⟩ := h2; exact ⟨c, q1, k n List.mem_cons_self c q2⟩
/-- a list of values and of cells that stand ahead of it -/
def VlIn (Z : Zt) (G : Hp) (H : Hp) (α : List Addr) (n : Nat) (a : Addr) (l : List Vr) : Prop :=
  (∀ m, Vr.r m ∈ l → m < n) ∧ ∃ xs, H a = some (.lst xs) ∧ OnA Z G α l xs
/-- a tuple of values and of cells that stand ahead of it -/
def VtIn (Z : Zt) (G : Hp) (H : Hp) (α : List Addr) (n : Nat) (a : Addr) (l : List Vr) : Prop :=
  (∀ m, Vr.r m ∈ l → m < n) ∧ ∃ xs, H a = some (.tup xs) ∧ OnA Z G α l xs
/-- an own exception as a value -/
def XvIn (Z : Zt) (G : Hp) (H : Hp) (α : List Addr) (n : Nat) (a : Addr) (c : String) (v : Vr) : Prop :=
  (∀ m, v = Vr.r m → m < n) ∧ ∃ d w, H a = some (exo a (Z.cm c) (some d)) ∧ G d = some (exd d [("value", w)]) ∧ OnR Z G α v w
/-- an instance that holds a thing that may change: its class has one field -/
def OwIn (Z : Zt) (G : Hp) (H : Hp) (α : List Addr) (n : Nat) (a : Addr) (c : String) (v : Vr) : Prop :=
  (∀ m, v = Vr.r m → m < n) ∧ ∃ dx w, H a = some (.ins (Z.cm c) dx ((flds c).zip [w])) ∧ OnR Z G α v w
/-- the table of code objects: each bears the lambda's name, and is known -/
def CtIn (Z : Zt) (G : Hp) (H : Hp) (n : Nat) (a : Addr) : Prop :=
  a = (Z.tb n).1 ∧ ∃ ps : Array Value, H a = some (.tbl ps) ∧ TriplesOk ps.toList ∧ ∀ (pos : Pos) (cv : Value), codeAmong pos ps.toList = some cv → ∃ c, cv = .ref c ∧ G c = some (LamX.CodeO c (Z.tb n).2)
theorem ctIn_up {Z : Zt} {G H G' H' : Hp} {n : Nat} {a : Addr} (h : CtIn Z G H n a) (eG : Ex G G') (ha : H' a = H a) : CtIn Z G' H' n a := by
  obtain ⟨h1, ps, h2, h3, h4⟩ := h
  exact ⟨h1, ps, by rw [ha]; exact h2, h3, fun pos cv hc => by
    obtain ⟨c, e1, e2⟩ := h4 pos cv hc
    exact ⟨c, e1, eG _ _ e2⟩⟩
theorem OnR.mv (e : Ex G G') {v : Vr} {w : V} (k : ∀ (m : Nat), v = Vr.r m → ∀ b : Addr, α[m]? = some b → β[m]? = some b) (h : OnR Z G α v w) : OnR Z G' β v w := by
  cases v with
  | d d => exact On.up e h
  | r n => obtain ⟨c, q1, q2⟩ := h; exact ⟨c, q1, k n rfl c q2⟩
/-- what a cell says of the heap -/
def CellIn (Z : Zt) (G : Hp) (H : Hp) (α : List Addr) (S : Sto) (n : Nat) (a : Addr) : Cell → Prop
  | .tab (.rows rows) => TabIn Z G H α S n a rows
  | .tab (.vl l) => VlIn Z G H α n a l
  | .tab (.vt l) => VtIn Z G H α n a l
  | .tab (.xv c v) => XvIn Z G H α n a c v
  | .tab .ctb => CtIn Z G H n a
  | .tab (.ow c v) => OwIn Z G H α n a c v
  | c => CellAt Z G c (H a)
theorem CellIn.of {n : Nat} {a : Addr} {c : Cell} {S : Sto} (h : CellAt Z G c (H a)) : CellIn Z G H α S n a c := by
  cases c <;> first | exact h | exact h.elim
theorem CellIn.at {n : Nat} {a : Addr} {c : Cell} {S : Sto} (h : CellIn Z G H α S n a c) (ht : ∀ r, c ≠ .tab r) : CellAt Z G c (H a) := by
  cases c with
  | tab rows => exact absurd rfl (ht rows)
  | lst l => exact h
  | ob c l => exact h
  | dc t k l => exact h
  | dead => exact h
theorem CellIn.ne {n : Nat} {a : Addr} {c : Cell} {S : Sto} (h : CellIn Z G H α S n a c) : H a ≠ none := by
  cases c with
  | tab t =>
    cases t with
    | rows rows => obtain ⟨_, xs, h1, _⟩ := h; rw [h1]; exact fun h => nomatch h
    | vl l => obtain ⟨_, xs, h1, _⟩ := h; rw [h1]; exact fun h => nomatch h
    | vt l => obtain ⟨_, xs, h1, _⟩ := h; rw [h1]; exact fun h => nomatch h
    | xv c v => obtain ⟨_, d, w, h1, _⟩ := h; rw [h1]; exact fun h => nomatch h
    | ctb => obtain ⟨_, ps, h1, _⟩ := h; rw [h1]; exact fun h => nomatch h
    | ow c v => obtain ⟨_, dx, w, h1, _⟩ := h; rw [h1]; exact fun h => nomatch h
  | lst l => exact CellAt.ne (show CellAt Z G (.lst l) (H a) from h)
  | ob c l => exact CellAt.ne (show CellAt Z G (.ob c l) (H a) from h)
  | dc t k l => exact CellAt.ne (show CellAt Z G (.dc t k l) (H a) from h)
  | dead => exact CellAt.ne (show CellAt Z G .dead (H a) from h)
/-- all that a cell speaks of stays -/
theorem CellIn.move {n : Nat} {a : Addr} {c : Cell} {S S' : Sto} {G' H' : Hp} {β : List Addr} (h : CellIn Z G H α S n a c) (eG : Ex G G') (ha : H' a = H a) (hα : ∀ (m : Nat) (b : Addr), m < n → α[m]? = some b → β[m]? = some b)
    (hr : ∀ (m : Nat) (b : Addr), m < n → α[m]? = some b → S[m]? = some .dead → G b = none → β[m]? = some b ∧ S'[m]? = some .dead ∧ G' b = none ∧ ∀ o, H b = some o → H' b = some o) : CellIn Z G' H' β S' n a c := by
  cases c with
  | tab t =>
    cases t with
    | rows rows =>
      obtain ⟨h1, xs, h2, h3, h4⟩ := h
      refine ⟨h1, xs, by rw [ha]; exact h2, h3, fun i row hi => ?_⟩
      obtain ⟨b, ys, q1, q2, q3, q4, q5, q6⟩ := h4 i row hi
      have hl := (List.getElem?_eq_some_iff.mp hi).1
      obtain ⟨r1, r2, r3, r4⟩ := hr _ b (by omega) q1 q2 q4
      exact ⟨b, ys, r1, r2, q3, r3, r4 _ q5, q6.up eG⟩
    | vl l =>
      obtain ⟨h1, xs, h2, h3⟩ := h
      exact ⟨h1, xs, by rw [ha]; exact h2, h3.mv eG fun m hm b hb => hα m b (h1 m hm) hb⟩
    | vt l =>
      obtain ⟨h1, xs, h2, h3⟩ := h
      exact ⟨h1, xs, by rw [ha]; exact h2, h3.mv eG fun m hm b hb => hα m b (h1 m hm) hb⟩
    | xv c v =>
      obtain ⟨h1, d, w, h2, h3, h4⟩ := h
      exact ⟨h1, d, w, by rw [ha]; exact h2, eG _ _ h3, h4.mv eG fun m hm b hb => hα m b (h1 m hm) hb⟩
    | ctb => exact ctIn_up h eG ha
    | ow c v =>
      obtain ⟨h1, dx, w, h2, h4⟩ := h
      exact ⟨h1, dx, w, by rw [ha]; exact h2, h4.mv eG fun m hm b hb => hα m b (h1 m hm) hb⟩
  | lst l => show CellAt Z G' (.lst l) (H' a); rw [ha]; exact CellAt.up eG (show CellAt Z G (.lst l) (H a) from h)
  | ob c l => show CellAt Z G' (.ob c l) (H' a); rw [ha]; exact CellAt.up eG (show CellAt Z G (.ob c l) (H a) from h)
  | dc t k l => show CellAt Z G' (.dc t k l) (H' a); rw [ha]; exact CellAt.up eG (show CellAt Z G (.dc t k l) (H a) from h)
  | dead => show CellAt Z G' .dead (H' a); rw [ha]; exact CellAt.up eG (show CellAt Z G .dead (H a) from h)
/-- the cells S stand at α, beside what is known -/
structure Hd (Z : Zt) (G : Hp) (α : List Addr) (S : Sto) (H : Hp) : Prop where
  ex : Ex G H
  len : α.length = S.length
  nd : α.Nodup
  at_ : ∀ (n : Nat) (a : Addr) (c : Cell), α[n]? = some a → S[n]? = some c → (stf c ≠ .dead → G a = none) ∧ CellIn Z G H α S n a c
structure Fr (G : Hp) (α : List Addr) (H : Hp) (G2 : Hp) (α2 : List Addr) (H2 : Hp) : Prop where
  g : Ex G G2
  a : Px α α2
  h : ∀ b o, H b = some o → b ∉ α → H2 b = some o
  n : ∀ b o, G b = none → H b = some o → (∀ xs, o ≠ HO.tup xs) → b ∉ α → G2 b = none
  m : ∀ b, b ∈ α2 → b ∈ α ∨ H b = none
  s : ∀ b, H b ≠ none → H2 b ≠ none
theorem Fr.refl (G : Hp) (α : List Addr) (H : Hp) : Fr G α H G α H := ⟨Ex.refl G, Px.refl α, fun _ _ h _ => h, fun _ _ h _ _ _ => h, fun _ h => .inl h, fun _ h => h⟩
theorem Fr.trans {G H G2 H2 G3 H3 : Hp} {α α2 α3 : List Addr} (x : Fr G α H G2 α2 H2) (y : Fr G2 α2 H2 G3 α3 H3) : Fr G α H G3 α3 H3 := by
  have k : ∀ b, H b ≠ none → b ∉ α → b ∉ α2 := fun b h1 h2 h3 => by
    rcases x.m b h3 with h | h
    · exact h2 h
    · exact h1 h
  refine ⟨x.g.trans y.g, x.a.trans y.a, fun b o h1 h2 => y.h b o (x.h b o h1 h2) (k b (by rw [h1]; exact fun h => nomatch h) h2), fun b o h1 h2 ht h3 => y.n b o (x.n b o h1 h2 ht h3) (x.h b o h2 h3) ht (k b (by rw [h2]; exact fun h => nomatch h) h3), fun b hb => ?_, fun b h => y.s b (x.s b h)⟩
  rcases y.m b hb with h | h
  · exact x.m b h
  · right
    cases q : H b with
    | none => rfl
    | some o => exact absurd h (x.s b (by rw [q]; exact fun h => nomatch h))
theorem Ex.ne {G H : Hp} (e : Ex G H) {a : Addr} (h : G a ≠ none) : H a ≠ none := by
  cases q : G a with
  | none => exact absurd q h
  | some o => rw [e a o q]; exact fun h => nomatch h
variable {S : Sto} {G2 H2 : Hp} {α2 : List Addr}
theorem Fr.back {a : Addr} (f : Fr G α H G2 α2 H2) (h : H2 a = none) : H a = none := by
  cases q : H a with
  | none => rfl
  | some o => exact absurd h (f.s a (by rw [q]; exact fun h => nomatch h))
theorem Hd.live (h : Hd Z G α S H) {a : Addr} (ha : a ∈ α) : H a ≠ none := by
  obtain ⟨n, hn, rfl⟩ := List.mem_iff_getElem.mp ha
  have h1 : α[n]? = some α[n] := List.getElem?_eq_getElem hn
  have h2 : n < S.length := by rw [← h.len]; exact hn
  exact (h.at_ n _ _ h1 (List.getElem?_eq_getElem h2)).2.ne
theorem Hd.cell (h : Hd Z G α S H) {n : Nat} {c : Cell} (hc : S[n]? = some c) : ∃ a, α[n]? = some a ∧ (stf c ≠ .dead → G a = none) ∧ CellIn Z G H α S n a c := by
  have h1 := (List.getElem?_eq_some_iff.mp hc).1
  have h2 : n < α.length := by rw [h.len]; exact h1
  exact ⟨α[n], List.getElem?_eq_getElem h2, h.at_ n _ c (List.getElem?_eq_getElem h2) hc⟩
theorem Hd.cell2 (h : Hd Z G α S H) {n : Nat} {a : Addr} (ha : α[n]? = some a) : ∃ c, S[n]? = some c ∧ (stf c ≠ .dead → G a = none) ∧ CellIn Z G H α S n a c := by
  have h1 := (List.getElem?_eq_some_iff.mp ha).1
  have h2 : n < S.length := by rw [← h.len]; exact h1
  exact ⟨S[n], List.getElem?_eq_getElem h2, h.at_ n a _ ha (List.getElem?_eq_getElem h2)⟩
/-- the heap grows beside -/
theorem Hd.grow {H2 : Hp} (h : Hd Z G α S H) (e : Ex H H2) : Hd Z G α S H2 := ⟨h.ex.trans e, h.len, h.nd, fun n a c h1 h2 => by
  obtain ⟨h3, h4⟩ := h.at_ n a c h1 h2
  refine ⟨h3, h4.move (Ex.refl G) ?_ (fun _ _ _ q => q) fun m b _ q1 q2 q3 => ⟨q1, q2, q3, fun o ho => e b o ho⟩⟩
  cases q : H a with
  | none => exact absurd q h4.ne
  | some o => exact e a o q⟩
theorem Fr.grow {H2 : Hp} (h : Hd Z G α S H) (e : Ex H H2) : Fr G α H G α H2 := ⟨Ex.refl G, Px.refl α, fun b o h1 _ => e b o h1, fun _ _ h _ _ _ => h, fun _ h => .inl h, fun b h => Ex.ne e h⟩
/-- a new thing is known -/
theorem Hd.know {p : Addr} {o : HO} (h : Hd Z G α S H) (hp : H p = none) : Hd Z (upd G p o) α S (upd H p o) ∧ Fr G α H (upd G p o) α (upd H p o) := by
  have hG : G p = none := fresh_back h.ex hp
  have hpa : ∀ a ∈ α, a ≠ p := fun a ha c => h.live ha (c ▸ hp)
  refine ⟨⟨OP.ex_upd h.ex, h.len, h.nd, fun n a c h1 h2 => ?_⟩, ⟨Ex.new hG, Px.refl α, fun b o' h1 _ => Ex.new hp b o' h1, fun b o' h1 h2 _ _ => ?_, fun _ h => .inl h, fun b h => Ex.ne (Ex.new hp) h⟩⟩
  · obtain ⟨h3, h4⟩ := h.at_ n a c h1 h2
    have ne := hpa a (List.mem_of_getElem? h1)
    refine ⟨fun hc => by rw [upd_ne ne]; exact h3 hc, h4.move (Ex.new hG) (upd_ne ne) (fun _ _ _ q => q) fun m b _ q1 q2 q3 => ?_⟩
    have nb := hpa b (List.mem_of_getElem? q1)
    exact ⟨q1, q2, by rw [upd_ne nb]; exact q3, fun o' ho => by rw [upd_ne nb]; exact ho⟩
  · have : b ≠ p := fun c => by subst c; rw [hp] at h2; cases h2
    rw [upd_ne this]
    exact h1
/-- what stands unknown at p, beside the cells, becomes known -/
theorem Hd.freeze {p : Addr} {o : HO} (h : Hd Z G α S H) (hG : G p = none) (ho : H p = some o) (hn : p ∉ α) : Hd Z (upd G p o) α S H := by
  obtain ⟨e1, e2⟩ := OP.Fr.freeze h.ex hG ho
  refine ⟨e2, h.len, h.nd, fun n a c h1 h2 => ?_⟩
  obtain ⟨h3, h4⟩ := h.at_ n a c h1 h2
  have ne : a ≠ p := fun c => hn (c ▸ List.mem_of_getElem? h1)
  refine ⟨fun hc => by rw [upd_ne ne]; exact h3 hc, h4.move e1 rfl (fun _ _ _ q => q) fun m b _ q1 q2 q3 => ?_⟩
  have nb : b ≠ p := fun c => hn (c ▸ List.mem_of_getElem? q1)
  exact ⟨q1, q2, by rw [upd_ne nb]; exact q3, fun o' ho => ho⟩
/-- it becomes a cell -/
theorem Hd.push {p : Addr} {c : Cell} (h : Hd Z G α S H) (hG : G p = none) (hn : p ∉ α) (hc : CellAt Z G c (H p)) : Hd Z G (α ++ [p]) (S ++ [c]) H := by
  refine ⟨h.ex, by rw [List.length_append, List.length_append, h.len]; rfl, ?_, fun n a d h1 h2 => ?_⟩
  · rw [List.nodup_append]
    exact ⟨h.nd, by simp, fun a ha b hb => by rw [List.mem_singleton.mp hb]; exact fun c => hn (c ▸ ha)⟩
  · by_cases hl : n < α.length
    · rw [List.getElem?_append_left hl] at h1
      rw [List.getElem?_append_left (by rw [← h.len]; exact hl)] at h2
      obtain ⟨h3, h4⟩ := h.at_ n a d h1 h2
      refine ⟨h3, h4.move (Ex.refl G) rfl (fun m b hm q => by rw [List.getElem?_append_left (by omega)]; exact q) fun m b hm q1 q2 q3 => ⟨?_, ?_, q3, fun o ho => ho⟩⟩
      · rw [List.getElem?_append_left (by omega)]; exact q1
      · rw [List.getElem?_append_left (by rw [← h.len]; omega)]; exact q2
    · rw [List.getElem?_append_right (by omega)] at h1
      rw [List.getElem?_append_right (by rw [← h.len]; omega)] at h2
      have hn0 : n - α.length = 0 := by
        cases q : n - α.length with
        | zero => rfl
        | succ m => rw [q] at h1; simp at h1
      rw [← h.len] at h2
      rw [hn0] at h1 h2
      simp at h1 h2
      subst h1 h2
      exact ⟨fun _ => hG, CellIn.of hc⟩
theorem Fr.push {p : Addr} (f : Fr G α H G2 α2 H2) (hp : H p = none) : Fr G α H G2 (α2 ++ [p]) H2 :=
  ⟨f.g, f.a.trans ⟨[p], rfl⟩, f.h, f.n, fun b hb => by
    rcases List.mem_append.mp hb with h | h
    · exact f.m b h
    · rw [List.mem_singleton.mp h]; exact .inr hp, f.s⟩
/-- a cell is changed -/
theorem Hd.put {n : Nat} {a : Addr} {c c2 : Cell} {o : HO} (h : Hd Z G α S H) (ha : α[n]? = some a) (hs : S[n]? = some c) (hc : stf c ≠ .dead) (h2 : CellAt Z G c2 (some o)) : Hd Z G α (S.set n c2) (upd H a o) ∧ Fr G α H G α (upd H a o) := by
  obtain ⟨h3, h4⟩ := h.at_ n a c ha hs
  have hG := h3 hc
  have hm := List.mem_of_getElem? ha
  refine ⟨⟨fun b u hb => ?_, by rw [List.length_set]; exact h.len, h.nd, fun m b d h5 h6 => ?_⟩, ⟨Ex.refl G, Px.refl α, fun b u h5 h6 => ?_, fun _ _ h _ _ _ => h, fun _ h => .inl h, fun b hb => ?_⟩⟩
  · have : b ≠ a := fun c => by subst c; rw [hG] at hb; cases hb
    rw [upd_ne this]
    exact h.ex b u hb
  · by_cases q : b = a
    · subst q
      have e : m = n := (List.getElem?_inj (List.getElem?_eq_some_iff.mp h5).1 h.nd).mp (h5.trans ha.symm)
      subst e
      rw [List.getElem?_set_self (List.getElem?_eq_some_iff.mp hs).1] at h6
      cases h6
      exact ⟨fun _ => hG, CellIn.of (by rw [upd_same]; exact h2)⟩
    · have e : n ≠ m := fun c => by subst c; rw [ha] at h5; exact q (Option.some.inj h5).symm
      rw [List.getElem?_set_ne e] at h6
      obtain ⟨h7, h8⟩ := h.at_ m b d h5 h6
      refine ⟨h7, h8.move (Ex.refl G) (upd_ne q) (fun _ _ _ q => q) fun k x _ q1 q2 q3 => ?_⟩
      have nk : n ≠ k := fun z => by subst z; rw [hs] at q2; exact hc (congrArg stf (Option.some.inj q2))
      have nx : x ≠ a := fun z => by
        subst z
        exact nk ((List.getElem?_inj (List.getElem?_eq_some_iff.mp ha).1 h.nd).mp (ha.trans q1.symm))
      exact ⟨q1, by rw [List.getElem?_set_ne nk]; exact q2, q3, fun o' ho => by rw [upd_ne nx]; exact ho⟩
  · have : b ≠ a := fun c => h6 (c ▸ hm)
    rw [upd_ne this]
    exact h5
  · by_cases q : b = a
    · subst q; rw [upd_same]; exact fun h => nomatch h
    · rw [upd_ne q]; exact hb
/-- the cells behind k are forgotten -/
theorem Hd.cut (h : Hd Z G α S H) (k : Nat) : Hd Z G (α.take k) (S.take k) H := by
  refine ⟨h.ex, by rw [List.length_take, List.length_take, h.len], h.nd.sublist (List.take_sublist _ _), fun n a c h1 h2 => ?_⟩
  have hk : n < k := by
    have := (List.getElem?_eq_some_iff.mp h1).1
    rw [List.length_take] at this
    omega
  rw [List.getElem?_take_of_lt hk] at h1 h2
  obtain ⟨h3, h4⟩ := h.at_ n a c h1 h2
  refine ⟨h3, h4.move (Ex.refl G) rfl (fun m b hm q => by rw [List.getElem?_take_of_lt (by omega)]; exact q) fun m b hm q1 q2 q3 => ⟨?_, ?_, q3, fun o ho => ho⟩⟩
  · rw [List.getElem?_take_of_lt (by omega)]; exact q1
  · rw [List.getElem?_take_of_lt (by omega)]; exact q2
theorem Fr.cut (f : Fr G α H G2 α2 H2) : Fr G α H G2 α H2 := ⟨f.g, Px.refl α, f.h, f.n, fun b hb => .inl hb, f.s⟩
theorem Px.cut {α α2 : List Addr} (p : Px α α2) : α2.take α.length = α := by
  obtain ⟨γ, rfl⟩ := p
  rw [List.take_left']
  rfl
/-- what a name's thing is just now -/
def snap (S : Sto) : Vr → Option Dv
  | .d d => some d
  | .r n => match S[n]? with
    | some (.lst l) => some (.lst l)
    | some (.ob c l) => some (.obj c l)
    | some (.dc t ks vs) => some (.dic t ks vs)
    | _ => none
theorem snap_on {r : Vr} {v : V} {d : Dv} (h : Hd Z G α S H) (hr : OnR Z G α r v) (e : snap S r = some d) : OnH Z G H d v := by
  cases r with
  | d x => cases e; exact On.h h.ex hr
  | r n =>
    obtain ⟨a, rfl, ha⟩ := hr
    obtain ⟨c, h1, h2, h3⟩ := h.cell2 ha
    unfold snap at e
    simp only [h1] at e
    cases c with
    | lst l => cases e; obtain ⟨xs, h4, h5⟩ := h3; exact ⟨a, xs, rfl, h4, h5⟩
    | ob c l => cases e; obtain ⟨dx, xs, h4, h6, h5⟩ := h3; exact ⟨a, dx, xs, rfl, h4, h6, h5⟩
    | dc t ks vs => cases e; obtain ⟨ws, h4, h6, h5⟩ := h3; exact ⟨a, ws, rfl, h4, h6, h5⟩
    | dead => cases e
    | tab rows => cases e
end
end DN
namespace DN
open PySem PySem.Spec PyProof.Rows L2 Evl
/-- .. and what is caught: the exception's object, its class, its dict -/
structure Zx extends Zt where
  xc : Option (Addr × Value × Option Addr) := none
  /-- a closure that a name holds: the function, its code object, its qualified name; what was known and the cells where it was made -/
  cl : Option (Addr × Addr × Str × Hp × List Addr) := none
instance : Coe Zx Zt := ⟨Zx.toZt⟩
inductive Xn where
  | own (c : String) (v : Vr) | blt (n : String)
inductive Rt where
  | val (v : Vr) | new (c : Cell)
inductive R (β : Type) where
  | ok (S : Sto) (b : β) | ex (S : Sto) (x : Xn) | no
def frzC : Cell → Option Dv
  | .lst l => some (.lst l)
  | .ob c l => some (.obj c l)
  | .dc t ks vs => some (.dic t ks vs)
  | .dead => none
  | .tab _ => none
def R.bind {β γ : Type} (r : R β) (f : Sto → β → R γ) : R γ := match r with
  | .ok S b => f S b
  | .ex S x => .ex S x
  | .no => .no
/-- a value is wanted: a new thing is known from now on -/
def R.bindV {γ : Type} (r : R Rt) (f : Sto → Vr → R γ) : R γ := match r with
  | .ok S (.val v) => f S v
  | .ok S (.new (.lst l)) => f S (.d (.lst l))
  | .ok S (.new (.ob c l)) => f S (.d (.obj c l))
  | .ok S (.new (.dc t ks vs)) => f S (.d (.dic t ks vs))
  | .ok _ (.new .dead) => .no
  | .ok _ (.new (.tab _)) => .no
  | .ex S x => .ex S x
  | .no => .no
def R.of {β : Type} (S : Sto) : Option β → R β
  | some r => .ok S r
  | none => .no
inductive Sl where
  | u | v (r : Vr) | x (c : String) (r : Vr) | f
abbrev Env := List Sl
abbrev FE := Env → Sto → R Rt
abbrev FT := Env → Sto → R Bool
abbrev FA := Env → Sto → R (List Vr)
/-- at the slot: the closure -/
def CloOk (Z : Zx) (G : Hp) (α : List Addr) (o : Option (Option V)) : Prop :=
  ∃ f c' q G0 α0, Z.cl = some (f, c', q, G0, α0) ∧ o = some (some (.ref f)) ∧ Ex G0 G ∧ Px α0 α ∧ G c' = some (LamX.CodeO c' q)
theorem CloOk.up {Z : Zx} {G G' : Hp} {α β : List Addr} {o : Option (Option V)} (e : Ex G G') (p : Px α β) (h : CloOk Z G α o) : CloOk Z G' β o := by
  obtain ⟨f, c', q, G0, α0, h1, h2, h3, h4, h5⟩ := h
  exact ⟨f, c', q, G0, α0, h1, h2, h3.trans e, h4.trans p, e _ _ h5⟩
structure OnE (Z : Zx) (G : Hp) (α : List Addr) (env : Env) (σ : L2.St) : Prop where
  len : env.length = σ.length
  at_ : ∀ (i : Nat) (d : Vr), env[i]? = some (.v d) → ∃ v, σ[i]? = some (some v) ∧ OnR Z G α d v
  xs : ∀ (i : Nat) (c : String) (r : Vr), env[i]? = some (.x c r) → ∃ a dd w, Z.xc = some (a, .ref (Z.cm c), some dd) ∧ σ[i]? = some (some (.ref a)) ∧ G dd = some (.xd [(("value" : Str), w)]) ∧ OnR Z G α r w
  fs : ∀ (i : Nat), env[i]? = some .f → CloOk Z G α σ[i]?
def OnX (Z : Zx) (G : Hp) (α : List Addr) : Xn → Value → Option Addr → Prop
  | .own c v, cls, d => cls = .ref (Z.cm c) ∧ ∃ dd w, d = some dd ∧ G dd = some (.xd [(("value" : Str), w)]) ∧ OnR Z G α v w
  | .blt n, cls, d => cls = .type n ∧ d = none
section
variable {Z : Zx} {G G2 H H2 : Hp} {α α2 : List Addr} {S : Sto}
theorem OnE.up {G' : Hp} {β : List Addr} {env : Env} {σ : L2.St} (e : Ex G G') (p : Px α β) (h : OnE Z G α env σ) : OnE Z G' β env σ := ⟨h.len, fun i d hd => by
  obtain ⟨v, h1, h2⟩ := h.at_ i d hd
  exact ⟨v, h1, h2.up e p⟩, fun i c r hd => by
  obtain ⟨a, dd, w, h1, h2, h3, h4⟩ := h.xs i c r hd
  exact ⟨a, dd, w, h1, h2, e _ _ h3, h4.up e p⟩, fun i he => (h.fs i he).up e p⟩
theorem OnE.set {env : Env} {σ : L2.St} {d : Vr} {v : V} (i : Nat) (h : OnE Z G α env σ) (hv : OnR Z G α d v) : OnE Z G α (env.set i (.v d)) (σ.set i (some v)) := by
  refine ⟨by rw [List.length_set, List.length_set]; exact h.len, fun j e he => ?_, fun j c r he => ?_, fun j he => ?_⟩
  · by_cases q : i = j
    · subst q
      by_cases hl : i < env.length
      · rw [List.getElem?_set_self hl] at he
        cases he
        exact ⟨v, List.getElem?_set_self (by rw [← h.len]; exact hl), hv⟩
      · rw [List.getElem?_eq_none (by rw [List.length_set]; omega)] at he
        cases he
    · rw [List.getElem?_set_ne q] at he ⊢
      exact h.at_ j e he
  · by_cases q : i = j
    · subst q
      by_cases hl : i < env.length
      · rw [List.getElem?_set_self hl] at he
        cases he
      · rw [List.getElem?_eq_none (by rw [List.length_set]; omega)] at he
        cases he
    · rw [List.getElem?_set_ne q] at he ⊢
      exact h.xs j c r he
  · by_cases q : i = j
    · subst q
      by_cases hl : i < env.length
      · rw [List.getElem?_set_self hl] at he
        cases he
      · rw [List.getElem?_eq_none (by rw [List.length_set]; omega)] at he
        cases he
    · rw [List.getElem?_set_ne q] at he ⊢
      exact h.fs j he
/-- a slot of which nothing is known any more -/
theorem OnE.forget {env : Env} {σ : L2.St} {o : Option V} (i : Nat) (h : OnE Z G α env σ) : OnE Z G α (env.set i .u) (σ.set i o) := by
  refine ⟨by rw [List.length_set, List.length_set]; exact h.len, fun j e he => ?_, fun j c r he => ?_, fun j he => ?_⟩
  · by_cases q : i = j
    · subst q
      by_cases hl : i < env.length
      · rw [List.getElem?_set_self hl] at he
        cases he
      · rw [List.getElem?_eq_none (by rw [List.length_set]; omega)] at he
        cases he
    · rw [List.getElem?_set_ne q] at he ⊢
      exact h.at_ j e he
  · by_cases q : i = j
    · subst q
      by_cases hl : i < env.length
      · rw [List.getElem?_set_self hl] at he
        cases he
      · rw [List.getElem?_eq_none (by rw [List.length_set]; omega)] at he
        cases he
    · rw [List.getElem?_set_ne q] at he ⊢
      exact h.xs j c r he
  · by_cases q : i = j
    · subst q
      by_cases hl : i < env.length
      · rw [List.getElem?_set_self hl] at he
        cases he
      · rw [List.getElem?_eq_none (by rw [List.length_set]; omega)] at he
        cases he
    · rw [List.getElem?_set_ne q] at he ⊢
      exact h.fs j he
def Xp (Z : Zx) (S : Sto) (x : Xn) (G : Hp) (α : List Addr) (H : Hp) (E : XK) : Prop :=
  ∀ cls d H2 G2 α2, Fr G α H G2 α2 H2 → Hd Z G2 α2 S H2 → OnX Z G2 α2 x cls d → E cls d H2
/-- a wish: of the result b, the heap ahead, what is known, the cells and the heap behind -/
structure Pst (β : Type) where
  p : β → Hp → Hp → List Addr → Hp → Prop
  mono : ∀ {b : β} {H H' G2 : Hp} {α2 : List Addr} {H2 : Hp}, (∀ a, H' a = none → H a = none) → p b H G2 α2 H2 → p b H' G2 α2 H2
def Wk {β : Type} (Z : Zx) (r : R β) (G : Hp) (α : List Addr) (H : Hp) (P : Pst β) (E : XK) : Prop := match r with
  | .ok S b => ∀ H2 G2 α2, Fr G α H G2 α2 H2 → Hd Z G2 α2 S H2 → P.p b H G2 α2 H2
  | .ex S x => Xp Z S x G α H E
  | .no => False
/-- p is a new thing c, not known yet -/
structure Nw (Z : Zx) (H G2 : Hp) (α2 : List Addr) (H2 : Hp) (c : Cell) (p : Addr) : Prop where
  h : H p = none
  g : G2 p = none
  a : p ∉ α2
  c : CellAt Z G2 c (H2 p)
def pRt (Z : Zx) (Q : VK) : Pst Rt := ⟨fun b H G2 α2 H2 => match b with
  | .val v => ∀ w, OnR Z G2 α2 v w → Q w H2
  | .new c => ∀ p, Nw Z H G2 α2 H2 c p → Q (.ref p) H2, fun {b H H' G2 α2 H2} h q => by
  cases b with
  | val v => exact q
  | new c => exact fun p n => q p ⟨h p n.h, n.g, n.a, n.c⟩⟩
def pB (Q : Bool → Hp → Prop) : Pst Bool := ⟨fun b _ _ _ H2 => Q b H2, fun _ q => q⟩
def pA (Z : Zx) (Q : List V → Hp → Prop) : Pst (List Vr) := ⟨fun l _ G2 α2 H2 => ∀ vs, OnA Z G2 α2 l vs → Q vs H2, fun _ q => q⟩
variable {E : XK}
theorem Xp.later {x : Xn} (h : Xp Z S x G α H E) (f : Fr G α H G2 α2 H2) : Xp Z S x G2 α2 H2 E := fun cls d H3 G3 α3 f3 => h cls d H3 G3 α3 (f.trans f3)
theorem Wk.later {β : Type} {r : R β} {P : Pst β} (h : Wk Z r G α H P E) (f : Fr G α H G2 α2 H2) : Wk Z r G2 α2 H2 P E := by
  match r, h with
  | .ok S b, h => exact fun H3 G3 α3 f3 hd => P.mono (fun a ha => f.back ha) (h H3 G3 α3 (f.trans f3) hd)
  | .ex S x, h => exact Xp.later h f
theorem Wk.here {β : Type} {b : β} {P : Pst β} (h : Wk Z (.ok S b) G α H P E) (hd : Hd Z G α S H) : P.p b H G α H := h H G α (Fr.refl G α H) hd
theorem Wk.any {β : Type} {r : Option β} {P : Pst β} {E' : XK} (w : Wk Z (R.of S r) G α H P E) : Wk Z (R.of S r) G α H P E' := by
  cases r with
  | some b => exact w
  | none => exact w
/-- a new cell, known from now on -/
theorem On.frz {c : Cell} {p : Addr} {o : HO} {d : Dv} (ho : CellAt Z G c (some o)) (hd : frzC c = some d) (hp : G p = none) : On Z (upd G p o) d (.ref p) := by
  have ex : Ex G (upd G p o) := Ex.new hp
  cases c with
  | lst l =>
    obtain ⟨xs, h1, h2⟩ := ho
    cases h1
    cases hd
    unfold On
    exact ⟨p, xs, rfl, upd_same, h2.up ex⟩
  | ob c l =>
    obtain ⟨dx, xs, h1, h3, h2⟩ := ho
    cases h1
    cases hd
    unfold On
    exact ⟨p, dx, xs, rfl, upd_same, h3, h2.up ex⟩
  | dc t ks vs =>
    obtain ⟨ws, h1, h3, h2⟩ := ho
    cases hd
    unfold On
    exact ⟨p, ws, rfl, by rw [upd_same]; exact h1, h3, h2.up ex⟩
  | dead => cases hd
  | tab rows => cases hd
theorem Fr.freeze {p : Addr} {o : HO} (f : Fr G α H G2 α2 H2) (hp : H p = none) (hG : G2 p = none) : Fr G α H (upd G2 p o) α2 H2 :=
  ⟨f.g.trans (Ex.new hG), f.a, f.h, fun b o' h1 h2 ht h3 => by
    have : b ≠ p := fun c => by subst c; rw [hp] at h2; cases h2
    rw [upd_ne this]
    exact f.n b o' h1 h2 ht h3, f.m, f.s⟩
theorem bindV_new {γ : Type} {S : Sto} {c : Cell} {d : Dv} {f : Sto → Vr → R γ} (h : frzC c = some d) : R.bindV (.ok S (.new c)) f = f S (.d d) := by
  cases c <;> cases h <;> rfl
theorem bindV_dead {γ : Type} {S : Sto} {c : Cell} {f : Sto → Vr → R γ} (h : frzC c = none) : R.bindV (.ok S (.new c)) f = .no := by
  cases c <;> first | rfl | cases h
/-- r gives d -/
inductive Got : R Rt → Sto → Vr → Prop where
  | val (S : Sto) (v : Vr) : Got (.ok S (.val v)) S v
  | new (S : Sto) (c : Cell) (d : Dv) (h : frzC c = some d) : Got (.ok S (.new c)) S (.d d)
theorem Got.bind {γ : Type} {r : R Rt} {S : Sto} {d : Vr} {f : Sto → Vr → R γ} (h : Got r S d) : r.bindV f = f S d := by
  cases h with
  | val => rfl
  | new S c d h => exact bindV_new h
/-- the value, run behind the state that the rest is told from -/
theorem Wk.bind0 {γ : Type} {r : R Rt} {f : Sto → Vr → R γ} {P : Pst γ} {Q' : VK} {G' H' : Hp} {α' : List Addr} (f0 : Fr G α H G' α' H') (w : Wk Z (r.bindV f) G α H P E)
    (k : ∀ S2 d v H2 G2 α2, Got r S2 d → Fr G' α' H' G2 α2 H2 → Hd Z G2 α2 S2 H2 → OnR Z G2 α2 d v → Wk Z (f S2 d) G α H P E → Q' v H2) : Wk Z r G' α' H' (pRt Z Q') E := by
  match r, w with
  | .ok S (.val v), w => exact fun H2 G2 α2 f2 hd2 x ox => k S v x H2 G2 α2 (.val S v) f2 hd2 ox w
  | .ok S (.new c), w =>
    intro H2 G2 α2 f2 hd2 p n
    cases e : frzC c with
    | none => rw [bindV_dead e] at w; exact w.elim
    | some d =>
      rw [bindV_new e] at w
      cases q : H2 p with
      | none => exact absurd q n.c.ne
      | some o =>
        have hc := n.c
        rw [q] at hc
        exact k S (.d d) _ H2 _ α2 (.new S c d e) (f2.freeze (o := o) n.h n.g) (hd2.freeze n.g q n.a) (On.frz hc e n.g) w
  | .ex S x, w => exact Xp.later w f0
/-- the first part of a row of parts: its value, then the rest -/
theorem Wk.bindV {γ : Type} {r : R Rt} {f : Sto → Vr → R γ} {P : Pst γ} {Q' : VK} (w : Wk Z (r.bindV f) G α H P E)
    (k : ∀ S2 d v H2 G2 α2, Fr G α H G2 α2 H2 → Hd Z G2 α2 S2 H2 → OnR Z G2 α2 d v → Wk Z (f S2 d) G2 α2 H2 P E → Q' v H2) : Wk Z r G α H (pRt Z Q') E := by
  match r, w with
  | .ok S (.val v), w => exact fun H2 G2 α2 f2 hd2 x ox => k S v x H2 G2 α2 f2 hd2 ox (w.later f2)
  | .ok S (.new c), w =>
    intro H2 G2 α2 f2 hd2 p n
    cases e : frzC c with
    | none => rw [bindV_dead e] at w; exact w.elim
    | some d =>
      rw [bindV_new e] at w
      cases q : H2 p with
      | none => exact absurd q n.c.ne
      | some o =>
        have hc := n.c
        rw [q] at hc
        have f3 := f2.freeze (o := o) n.h n.g
        exact k S (.d d) _ H2 _ α2 f3 (hd2.freeze n.g q n.a) (On.frz hc e n.g) (w.later f3)
  | .ex S x, w => exact w
theorem Wk.bind {β γ : Type} {r : R β} {f : Sto → β → R γ} {P : Pst γ} {P' : Pst β} (w : Wk Z (r.bind f) G α H P E)
    (k : ∀ S2 b H2 G2 α2, Fr G α H G2 α2 H2 → Hd Z G2 α2 S2 H2 → Wk Z (f S2 b) G2 α2 H2 P E → P'.p b H G2 α2 H2) : Wk Z r G α H P' E := by
  match r, w with
  | .ok S b, w => exact fun H2 G2 α2 f2 hd2 => k S b H2 G2 α2 f2 hd2 (w.later f2)
  | .ex S x, w => exact w
end
def SE (Z : Zx) (Ew : L2.St → XK) (te : TE) (f : FE) : Prop :=
  ∀ env σ G α S H Q, Hd Z G α S H → OnE Z G α env σ → Wk Z (f env S) G α H (pRt Z Q) (Ew σ) → te σ H Q
def ST (Z : Zx) (Ew : L2.St → XK) (tt : TT) (f : FT) : Prop :=
  ∀ env σ G α S H Q, Hd Z G α S H → OnE Z G α env σ → Wk Z (f env S) G α H (pB Q) (Ew σ) → tt σ H Q
def SA (Z : Zx) (Ew : L2.St → XK) (ta : TA) (f : FA) : Prop :=
  ∀ env σ G α S H Q, Hd Z G α S H → OnE Z G α env σ → Wk Z (f env S) G α H (pA Z Q) (Ew σ) → ta σ H Q
structure PF (Z : Zx) (Ew : L2.St → XK) (X : Cx) (e : Expr) (f : FE) : Prop where
  ex : ∃ te, PE X e te ∧ SE Z Ew te f
structure PTF (Z : Zx) (Ew : L2.St → XK) (X : Cx) (e : Expr) (f : FT) : Prop where
  ex : ∃ te, PT X e te ∧ ST Z Ew te f
structure PWF (Z : Zx) (Ew : L2.St → XK) (X : Cx) (e : Expr) (f : FT) : Prop where
  ex : ∃ te, PW X e te ∧ ST Z Ew te f
structure PAF (Z : Zx) (Ew : L2.St → XK) (X : Cx) (es : List Expr) (f : FA) : Prop where
  ex : ∃ te, PA X es te ∧ SA Z Ew te f
def fVar (i : Nat) : FE := fun env S => match env[i]? with
  | some (.v d) => .ok S (.val d)
  | _ => .no
def fC (d : Dv) : FE := fun _ S => .ok S (.val (.d d))
def g2 (S : Sto) (a b : Vr) (g : Dv → Dv → Option Rt) : R Rt := match snap S a, snap S b with
  | some x, some y => R.of S (g x y)
  | _, _ => .no
def fOp (g : Dv → Dv → Option Rt) (fa fb : FE) : FE := fun env S => (fa env S).bindV fun S1 a => (fb env S1).bindV fun S2 b => g2 S2 a b g
def g1 (S : Sto) (a : Vr) (g : Dv → Option Rt) : R Rt := match snap S a with
  | some x => R.of S (g x)
  | none => .no
def fUn (g : Dv → Option Rt) (fa : FE) : FE := fun env S => (fa env S).bindV fun S1 a => g1 S1 a g
def fNil : FA := fun _ S => .ok S []
def fCons (fa : FE) (fr : FA) : FA := fun env S => (fa env S).bindV fun S1 a => (fr env S1).bind fun S2 l => .ok S2 (a :: l)
def allD : List Vr → Option (List Dv)
  | [] => some []
  | .d x :: l => match allD l with
    | some r => some (x :: r)
    | none => none
  | .r _ :: _ => none
def gTupD (l : List Vr) : Option Rt := match allD l with
  | some r => if r.length ≤ 100000 then some (.val (.d (.tup r))) else none
  | none => none
def gLstD (l : List Vr) : Option Rt := match allD l with
  | some r => if r.length ≤ 100000 then some (.new (.lst r)) else none
  | none => none
def fTup (fa : FA) : FE := fun env S => (fa env S).bind fun S1 l => R.of S1 (gTupD l)
def fLst (fa : FA) : FE := fun env S => (fa env S).bind fun S1 l => R.of S1 (gLstD l)
def onB {β : Type} (S : Sto) (a : Vr) (f : Bool → R β) : R β := match a with
  | .d (.bl b) => f b
  | _ => .no
def fAnd (fa fb : FE) : FE := fun env S => (fa env S).bindV fun S1 a => onB S1 a fun b => if b then fb env S1 else .ok S1 (.val (.d (.bl false)))
def fOr (fa fb : FE) : FE := fun env S => (fa env S).bindV fun S1 a => onB S1 a fun b => if b then .ok S1 (.val (.d (.bl true))) else fb env S1
def fNot (fa : FE) : FE := fun env S => (fa env S).bindV fun S1 a => onB S1 a fun b => .ok S1 (.val (.d (.bl (!b))))
def fIf (ft : FT) (fa fb : FE) : FE := fun env S => (ft env S).bind fun S1 b => if b then fa env S1 else fb env S1
/-- tests -/
def kVal (fa : FE) : FT := fun env S => (fa env S).bindV fun S1 a => onB S1 a fun b => .ok S1 b
def kAnd (ta tb : FT) : FT := fun env S => (ta env S).bind fun S1 b => if b then tb env S1 else .ok S1 false
def kOr (ta tb : FT) : FT := fun env S => (ta env S).bind fun S1 b => if b then .ok S1 true else tb env S1
def kNot (ta : FT) : FT := fun env S => (ta env S).bind fun S1 b => .ok S1 (!b)
section
variable {Z : Zx} {Ew : L2.St → XK} {ta tb te : TE} {fa fb : FE} {G H : Hp} {α : List Addr} {S : Sto} {env : Env} {σ : L2.St}
theorem SE.bind {γ : Type} {f : Sto → Vr → R γ} {P : Pst γ} {Q' : VK} (h : SE Z Ew ta fa) (hd : Hd Z G α S H) (oe : OnE Z G α env σ) (w : Wk Z ((fa env S).bindV f) G α H P (Ew σ))
    (k : ∀ S2 d v H2 G2 α2, Fr G α H G2 α2 H2 → Hd Z G2 α2 S2 H2 → OnE Z G2 α2 env σ → OnR Z G2 α2 d v → Wk Z (f S2 d) G2 α2 H2 P (Ew σ) → Q' v H2) : ta σ H Q' :=
  h env σ G α S H Q' hd oe (w.bindV fun S2 d v H2 G2 α2 f2 hd2 ov w2 => k S2 d v H2 G2 α2 f2 hd2 (oe.up f2.g f2.a) ov w2)
theorem SE.bind0 {γ : Type} {f : Sto → Vr → R γ} {P : Pst γ} {Q' : VK} {G' H' : Hp} {α' : List Addr} (h : SE Z Ew ta fa) (f0 : Fr G α H G' α' H') (hd : Hd Z G' α' S H') (oe : OnE Z G' α' env σ) (w : Wk Z ((fa env S).bindV f) G α H P (Ew σ))
    (k : ∀ S2 d v H2 G2 α2, Got (fa env S) S2 d → Fr G' α' H' G2 α2 H2 → Hd Z G2 α2 S2 H2 → OnE Z G2 α2 env σ → OnR Z G2 α2 d v → Wk Z (f S2 d) G α H P (Ew σ) → Q' v H2) : ta σ H' Q' :=
  h env σ G' α' S H' Q' hd oe (w.bind0 f0 fun S2 d v H2 G2 α2 g f2 hd2 ov w2 => k S2 d v H2 G2 α2 g f2 hd2 (oe.up f2.g f2.a) ov w2)
theorem ST.bind0 {tt : TT} {ft : FT} {γ : Type} {f : Sto → Bool → R γ} {P : Pst γ} {Q' : Bool → Hp → Prop} {G' H' : Hp} {α' : List Addr} (h : ST Z Ew tt ft) (f0 : Fr G α H G' α' H') (hd : Hd Z G' α' S H') (oe : OnE Z G' α' env σ) (w : Wk Z ((ft env S).bind f) G α H P (Ew σ))
    (k : ∀ S2 b H2 G2 α2, Fr G' α' H' G2 α2 H2 → Hd Z G2 α2 S2 H2 → OnE Z G2 α2 env σ → Wk Z (f S2 b) G α H P (Ew σ) → Q' b H2) : tt σ H' Q' := by
  refine h env σ G' α' S H' Q' hd oe ?_
  cases e : ft env S with
  | ok S2 b => rw [e] at w; exact fun H2 G2 α2 f2 hd2 => k S2 b H2 G2 α2 f2 hd2 (oe.up f2.g f2.a) w
  | ex S2 x => rw [e] at w; exact Xp.later w f0
  | no => rw [e] at w; exact w.elim
theorem SA.bind {ta : TA} {fa : FA} {γ : Type} {f : Sto → List Vr → R γ} {P : Pst γ} {Q' : List V → Hp → Prop} (h : SA Z Ew ta fa) (hd : Hd Z G α S H) (oe : OnE Z G α env σ) (w : Wk Z ((fa env S).bind f) G α H P (Ew σ))
    (k : ∀ S2 l vs H2 G2 α2, Fr G α H G2 α2 H2 → Hd Z G2 α2 S2 H2 → OnE Z G2 α2 env σ → OnA Z G2 α2 l vs → Wk Z (f S2 l) G2 α2 H2 P (Ew σ) → Q' vs H2) : ta σ H Q' :=
  h env σ G α S H Q' hd oe (w.bind (P' := pA Z Q') fun S2 l H2 G2 α2 f2 hd2 w2 vs ov => k S2 l vs H2 G2 α2 f2 hd2 (oe.up f2.g f2.a) ov w2)
theorem ST.bind {tt : TT} {ft : FT} {γ : Type} {f : Sto → Bool → R γ} {P : Pst γ} {Q' : Bool → Hp → Prop} (h : ST Z Ew tt ft) (hd : Hd Z G α S H) (oe : OnE Z G α env σ) (w : Wk Z ((ft env S).bind f) G α H P (Ew σ))
    (k : ∀ S2 b H2 G2 α2, Fr G α H G2 α2 H2 → Hd Z G2 α2 S2 H2 → OnE Z G2 α2 env σ → Wk Z (f S2 b) G2 α2 H2 P (Ew σ) → Q' b H2) : tt σ H Q' :=
  h env σ G α S H Q' hd oe (w.bind (P' := pB Q') fun S2 b H2 G2 α2 f2 hd2 w2 => k S2 b H2 G2 α2 f2 hd2 (oe.up f2.g f2.a) w2)
theorem Wk.dat {v : Vr} {w : V} {Q : VK} {E : XK} (h : Wk Z (.ok S (.val v)) G α H (pRt Z Q) E) (hd : Hd Z G α S H) (o : OnR Z G α v w) : Q w H := h.here hd w o
theorem Wk.bool {b : Bool} {Q : Bool → Hp → Prop} {E : XK} (h : Wk Z (.ok S b) G α H (pB Q) E) (hd : Hd Z G α S H) : Q b H := h.here hd
theorem on_non : On Z G .non .non := by unfold On; rfl
theorem on_bl {b : Bool} : On Z G (.bl b) (.bl b) := by unfold On; rfl
theorem on_int {b : Int} : On Z G (.int b) (.int b) := by unfold On; rfl
theorem on_str {b : Str} : On Z G (.str b) (.str b) := by unfold On; rfl
theorem on_cls {c : String} : On Z G (.cls c) (.ref (Z.cm c)) := by unfold On; rfl
theorem on_ty {a : String} : On Z G (.ty a) (.ty a) := by unfold On; rfl
theorem or_bl (Z : Zx) (G : Hp) (α : List Addr) (b : Bool) : OnR Z G α (.d (.bl b)) (.bl b) := on_bl (Z := Z) (G := G)
theorem or_int (Z : Zx) (G : Hp) (α : List Addr) (b : Int) : OnR Z G α (.d (.int b)) (.int b) := on_int (Z := Z) (G := G)
theorem or_str (Z : Zx) (G : Hp) (α : List Addr) (b : Str) : OnR Z G α (.d (.str b)) (.str b) := on_str (Z := Z) (G := G)
theorem or_non (Z : Zx) (G : Hp) (α : List Addr) : OnR Z G α (.d .non) .non := on_non (Z := Z) (G := G)
theorem se_var {i : Nat} : SE Z Ew (tVar i) (fVar i) := fun env σ G α S H Q hd oe w => by
  unfold fVar at w
  cases e : env[i]? with
  | none => rw [e] at w; exact w.elim
  | some s =>
    rw [e] at w
    cases s with
    | u => exact w.elim
    | x => exact w.elim
    | f => exact w.elim
    | v d =>
      obtain ⟨v, h1, h2⟩ := oe.at_ i d e
      exact ⟨v, h1, w.dat hd h2⟩
theorem se_c {d : Dv} {v : V} (h : ∀ G, On Z G d v) : SE Z Ew (tC v) (fC d) := fun env σ G α S H Q hd oe w => w.dat hd (h G)
/-- an operation on two values as they stand -/
def rD (Z : Zx) (g : Dv → Dv → Option Rt) : R2 := fun x y H Q => ∃ G α S a b, Hd Z G α S H ∧ OnH Z G H a x ∧ OnH Z G H b y ∧ Wk Z (R.of S (g a b)) G α H (pRt Z Q) E0
theorem g2_ok {G2 H2 : Hp} {α2 : List Addr} {S2 : Sto} {a b : Vr} {x y : V} {g : Dv → Dv → Option Rt} {Q : VK} {E : XK} (hd : Hd Z G2 α2 S2 H2) (ox : OnR Z G2 α2 a x) (oy : OnR Z G2 α2 b y) (w : Wk Z (g2 S2 a b g) G2 α2 H2 (pRt Z Q) E) : rD Z g x y H2 Q := by
  unfold g2 at w
  cases e1 : snap S2 a with
  | none => rw [e1] at w; exact w.elim
  | some u =>
    cases e2 : snap S2 b with
    | none => rw [e1, e2] at w; exact w.elim
    | some v =>
      rw [e1, e2] at w
      exact ⟨G2, α2, S2, u, v, hd, snap_on hd ox e1, snap_on hd oy e2, w.any⟩
theorem se_op {g : Dv → Dv → Option Rt} (ha : SE Z Ew ta fa) (hb : SE Z Ew tb fb) : SE Z Ew (tOp (rD Z g) ta tb) (fOp g fa fb) := fun env σ G α S H Q hd oe w =>
  ha.bind hd oe w fun S2 a x H2 G2 α2 f2 hd2 oe2 ox w2 => hb.bind hd2 oe2 w2 fun S3 b y H3 G3 α3 f3 hd3 oe3 oy w3 => g2_ok hd3 (ox.up f3.g f3.a) oy w3
def rU (Z : Zx) (g : Dv → Option Rt) : V → Hp → VK → Prop := fun x H Q => ∃ G α S a, Hd Z G α S H ∧ OnH Z G H a x ∧ Wk Z (R.of S (g a)) G α H (pRt Z Q) E0
theorem g1_ok {G2 H2 : Hp} {α2 : List Addr} {S2 : Sto} {a : Vr} {x : V} {g : Dv → Option Rt} {Q : VK} {E : XK} (hd : Hd Z G2 α2 S2 H2) (ox : OnR Z G2 α2 a x) (w : Wk Z (g1 S2 a g) G2 α2 H2 (pRt Z Q) E) : rU Z g x H2 Q := by
  unfold g1 at w
  cases e1 : snap S2 a with
  | none => rw [e1] at w; exact w.elim
  | some u =>
    rw [e1] at w
    exact ⟨G2, α2, S2, u, hd, snap_on hd ox e1, w.any⟩
theorem sa_nil : SA Z Ew tNil fNil := fun env σ G α S H Q hd oe w => w.here hd [] rfl
theorem sa_cons {tr : TA} {fr : FA} (ha : SE Z Ew ta fa) (hr : SA Z Ew tr fr) : SA Z Ew (tCons ta tr) (fCons fa fr) := fun env σ G α S H Q hd oe w =>
  ha.bind hd oe w fun S2 a x H2 G2 α2 f2 hd2 oe2 ox w2 => hr.bind hd2 oe2 w2 fun S3 l vs H3 G3 α3 f3 hd3 oe3 ol w3 => w3.here hd3 _ ⟨_, _, rfl, ox.up f3.g f3.a, ol⟩
theorem sz_of {n : Nat} (h : n ≤ 100000) : n ≤ sizeLine := Nat.le_trans h (by decide)
theorem allD_on : ∀ {l : List Vr} {r : List Dv} {vs : List V}, allD l = some r → OnA Z G α l vs → OnL Z G r vs
  | [], r, vs, e, h => by
    cases e
    exact OnL.nil.mpr h
  | .d x :: l, r, vs, e, h => by
    obtain ⟨y, ys, rfl, h2, h3⟩ := h
    unfold allD at e
    cases q : allD l with
    | none => rw [q] at e; cases e
    | some m =>
      rw [q] at e
      cases e
      exact OnL.cons' h2 (allD_on q h3)
  | .r _ :: l, r, vs, e, h => by cases e
theorem se_tup {ta : TA} {fa : FA} (ha : SA Z Ew ta fa) : SE Z Ew (tTup ta) (fTup fa) := fun env σ G α S H Q hd oe w =>
  ha.bind hd oe w fun S2 l vs H2 G2 α2 f2 hd2 oe2 ol w2 => by
    unfold gTupD at w2
    cases e : allD l with
    | none => rw [e] at w2; exact w2.elim
    | some r =>
      rw [e] at w2
      have or := allD_on e ol
      by_cases hl : r.length ≤ 100000
      · simp only [if_pos hl] at w2
        refine ⟨sz_of (by rw [or.len]; exact hl), fun p hp => ?_⟩
        obtain ⟨h3, f3⟩ := hd2.know (o := .tup vs) hp
        exact w2 _ _ _ f3 h3 _ (by show On _ _ _ _; unfold On; exact ⟨p, vs, rfl, upd_same, or.up f3.g⟩)
      · simp only [if_neg hl] at w2
        exact w2.elim
/-- a new object that nobody knows -/
theorem Wk.fresh {S : Sto} {c : Cell} {p : Addr} {o : HO} {Q : VK} {E : XK} (w : Wk Z (.ok S (.new c)) G α H (pRt Z Q) E) (hd : Hd Z G α S H) (hp : H p = none) (hc : CellAt Z G c (some o)) : Q (.ref p) (upd H p o) := by
  have e := Ex.new (o := o) hp
  exact w _ G α (Fr.grow hd e) (hd.grow e) p ⟨hp, fresh_back hd.ex hp, fun h => hd.live h hp, by rw [upd_same]; exact hc⟩
theorem se_lst {ta : TA} {fa : FA} (ha : SA Z Ew ta fa) : SE Z Ew (tLst ta) (fLst fa) := fun env σ G α S H Q hd oe w =>
  ha.bind hd oe w fun S2 l vs H2 G2 α2 f2 hd2 oe2 ol w2 => by
    unfold gLstD at w2
    cases e : allD l with
    | none => rw [e] at w2; exact w2.elim
    | some r =>
      rw [e] at w2
      have or := allD_on e ol
      by_cases hl : r.length ≤ 100000
      · simp only [if_pos hl] at w2
        exact ⟨sz_of (by rw [or.len]; exact hl), fun p hp => w2.fresh hd2 hp ⟨vs, rfl, or⟩⟩
      · simp only [if_neg hl] at w2
        exact w2.elim
theorem onB_ok {β : Type} {a : Vr} {f : Bool → R β} {P : Pst β} {E : XK} {x : V} (w : Wk Z (onB S a f) G α H P E) (ox : OnR Z G α a x) : ∃ b, x = .bl b ∧ Wk Z (f b) G α H P E := by
  match a, w, ox with
  | .d (.bl b), w, ox =>
    have e : On Z G (.bl b) x := ox
    unfold On at e
    exact ⟨b, e, w⟩
theorem se_and (ha : SE Z Ew ta fa) (hb : SE Z Ew tb fb) : SE Z Ew (tAndV ta tb) (fAnd fa fb) := fun env σ G α S H Q hd oe w =>
  ha.bind hd oe w fun S2 a x H2 G2 α2 f2 hd2 oe2 ox w2 => by
    obtain ⟨b, e, w3⟩ := onB_ok w2 ox
    refine ⟨b, e, ?_⟩
    cases b with
    | true => rw [if_pos rfl]; exact hb env σ G2 α2 S2 H2 Q hd2 oe2 w3
    | false => rw [if_neg Bool.false_ne_true]; exact Wk.dat w3 hd2 (or_bl Z G2 α2 _)
theorem se_not (ha : SE Z Ew ta fa) : SE Z Ew (tNotV ta) (fNot fa) := fun env σ G α S H Q hd oe w =>
  ha.bind hd oe w fun S2 a x H2 G2 α2 f2 hd2 oe2 ox w2 => by
    obtain ⟨b, e, w3⟩ := onB_ok w2 ox
    exact ⟨b, e, Wk.dat w3 hd2 (or_bl Z G2 α2 _)⟩
theorem se_if {tt : TT} {ft : FT} (ht : ST Z Ew tt ft) (ha : SE Z Ew ta fa) (hb : SE Z Ew tb fb) : SE Z Ew (tIf tt ta tb) (fIf ft fa fb) := fun env σ G α S H Q hd oe w =>
  ht.bind hd oe w fun S2 b H2 G2 α2 f2 hd2 oe2 w2 => by
    cases b with
    | true => rw [if_pos rfl]; exact ha env σ G2 α2 S2 H2 Q hd2 oe2 w2
    | false => rw [if_neg Bool.false_ne_true]; exact hb env σ G2 α2 S2 H2 Q hd2 oe2 w2
theorem st_val (ha : SE Z Ew ta fa) : ST Z Ew (tB ta) (kVal fa) := fun env σ G α S H Q hd oe w =>
  ha.bind hd oe w fun S2 a x H2 G2 α2 f2 hd2 oe2 ox w2 => by
    obtain ⟨b, e, w3⟩ := onB_ok w2 ox
    exact ⟨b, e, w3.bool hd2⟩
theorem st_or {tt tu : TT} {ft fu : FT} (ha : ST Z Ew tt ft) (hb : ST Z Ew tu fu) : ST Z Ew (tOr tt tu) (kOr ft fu) := fun env σ G α S H Q hd oe w =>
  ha.bind hd oe w fun S2 b H2 G2 α2 f2 hd2 oe2 w2 => by
    cases b with
    | true => rw [if_pos rfl]; exact Wk.bool w2 hd2
    | false => rw [if_neg Bool.false_ne_true]; exact hb env σ G2 α2 S2 H2 Q hd2 oe2 w2
theorem st_not {tt : TT} {ft : FT} (ha : ST Z Ew tt ft) : ST Z Ew (tNot tt) (kNot ft) := fun env σ G α S H Q hd oe w =>
  ha.bind hd oe w fun S2 b H2 G2 α2 f2 hd2 oe2 w2 => Wk.bool w2 hd2
end
section
variable {Z : Zx} {Ew : L2.St → XK} {X : Cx} {a b c : Expr} {fa fb fc : FE} {pos : Pos}
theorem pf_var (i : Nat) {x : Str} (hN : X.N[i]? = some x := by rfl) (hv : Vis X.env.scope x := by first | exact Or.inl rfl | exact Or.inr (Or.inl rfl) | exact Or.inr (Or.inr rfl)) (hd : (x == ("__debug__" : Str)) = false := by decide)
    (hcd : (x == ("__classdict__" : Str)) = false := by decide) : PF Z Ew X (.Name x pos) (fVar i) := ⟨_, pe_var hN hv hd hcd, se_var⟩
theorem pf_int {i : Int} {j pos} : PF Z Ew X (.Constant (.int i) j pos) (fC (.int i)) := ⟨_, pe_int, se_c fun G => on_int (Z := Z) (G := G)⟩
theorem pf_bl {i : Bool} {j pos} : PF Z Ew X (.Constant (.bool i) j pos) (fC (.bl i)) := ⟨_, pe_bl, se_c fun G => on_bl (Z := Z) (G := G)⟩
theorem pf_str {i : Str} {j pos} : PF Z Ew X (.Constant (.str i) j pos) (fC (.str i)) := ⟨_, pe_str, se_c fun G => on_str (Z := Z) (G := G)⟩
theorem pf_non {j pos} : PF Z Ew X (.Constant .none j pos) (fC .non) := ⟨_, pe_non, se_c fun G => on_non (Z := Z) (G := G)⟩
theorem pf_glob {x : Str} {u : Value} {d : Dv} {v : V} (hg : Gl X x) (hm : X.mg x = some u) (r : RelV v u) (h : ∀ G, On Z G d v) (hd : (x == ("__debug__" : Str)) = false := by decide) : PF Z Ew X (.Name x pos) (fC d) := ⟨_, pe_glob hg hm r hd, se_c h⟩
theorem pf_bltn {x : Str} {v : V} {u : Value} {d : Dv} (hg : Gl X x) (hm : X.mg x = none) (hv : bootBuiltins x = some u) (r : RelV v u) (h : ∀ G, On Z G d v) (hn : x ≠ "__name__" := by decide) (hd : (x == ("__debug__" : Str)) = false := by decide) : PF Z Ew X (.Name x pos) (fC d) :=
  ⟨_, pe_bltn hg hm hv r hn hd, se_c h⟩
theorem pf_op {op : Operator} {g : Dv → Dv → Option Rt} (h : OpR X (binaryOp op) (rD Z g)) (ha : PF Z Ew X a fa) (hb : PF Z Ew X b fb) : PF Z Ew X (.BinOp a op b pos) (fOp g fa fb) := by
  obtain ⟨ta, h1, h2⟩ := ha.ex
  obtain ⟨tb, h3, h4⟩ := hb.ex
  exact ⟨_, pe_op h h1 h3, se_op h2 h4⟩
theorem pf_cmp {op : CmpOp} {g : Dv → Dv → Option Rt} (h : OpR X (compareOp op) (rD Z g)) (ha : PF Z Ew X a fa) (hb : PF Z Ew X b fb) (hm : behindInMarks op b = false) : PF Z Ew X (.Compare a [op] [b] pos) (fOp g fa fb) := by
  obtain ⟨ta, h1, h2⟩ := ha.ex
  obtain ⟨tb, h3, h4⟩ := hb.ex
  exact ⟨_, pe_cmpR h h1 h3 hm, se_op h2 h4⟩
theorem ptf_cmp {op : CmpOp} {g : Dv → Dv → Option Rt} (h : OpR X (compareOp op) (rD Z g)) (ha : PF Z Ew X a fa) (hb : PF Z Ew X b fb) (hm : behindInMarks op b = false) : PTF Z Ew X (.Compare a [op] [b] pos) (kVal (fOp g fa fb)) := by
  obtain ⟨ta, h1, h2⟩ := ha.ex
  obtain ⟨tb, h3, h4⟩ := hb.ex
  exact ⟨_, pt_cmpR h h1 h3 hm, st_val (se_op h2 h4)⟩
theorem pf_and {rest : List Expr} (ha : PF Z Ew X a fa) (hb : PF Z Ew X (.BoolOp .And (b :: rest) pos) fb) : PF Z Ew X (.BoolOp .And (a :: b :: rest) pos) (fAnd fa fb) := by
  obtain ⟨ta, h1, h2⟩ := ha.ex
  obtain ⟨tb, h3, h4⟩ := hb.ex
  exact ⟨_, pe_and h1 h3, se_and h2 h4⟩
theorem pf_one {op} (ha : PF Z Ew X a fa) : PF Z Ew X (.BoolOp op [a] pos) fa := by
  obtain ⟨ta, h1, h2⟩ := ha.ex
  exact ⟨_, pe_one h1, h2⟩
theorem pf_not (ha : PF Z Ew X a fa) : PF Z Ew X (.UnaryOp .Not a pos) (fNot fa) := by
  obtain ⟨ta, h1, h2⟩ := ha.ex
  exact ⟨_, pe_not h1, se_not h2⟩
theorem pf_if {ft : FT} (hc : PTF Z Ew X c ft) (ha : PF Z Ew X a fa) (hb : PF Z Ew X b fb) : PF Z Ew X (.IfExp c a b pos) (fIf ft fa fb) := by
  obtain ⟨tt, h5, h6⟩ := hc.ex
  obtain ⟨ta, h1, h2⟩ := ha.ex
  obtain ⟨tb, h3, h4⟩ := hb.ex
  exact ⟨_, pe_ifExp h5 h1 h3, se_if h6 h2 h4⟩
theorem paf_nil : PAF Z Ew X [] fNil := ⟨_, pa_nil, sa_nil⟩
theorem paf_cons {es : List Expr} {fr : FA} (ha : PF Z Ew X a fa) (hr : PAF Z Ew X es fr) (he : starEach (a :: es) X.env = (false, eval a X.env) :: starEach es X.env := by rfl) : PAF Z Ew X (a :: es) (fCons fa fr) := by
  obtain ⟨ta, h1, h2⟩ := ha.ex
  obtain ⟨tb, h3, h4⟩ := hr.ex
  exact ⟨_, pa_cons h1 h3 he, sa_cons h2 h4⟩
theorem pf_tup {es : List Expr} {fr : FA} {k} (h : PAF Z Ew X es fr) : PF Z Ew X (.Tuple es k pos) (fTup fr) := by
  obtain ⟨ta, h1, h2⟩ := h.ex
  exact ⟨_, pe_tup h1, se_tup h2⟩
theorem pf_lst {es : List Expr} {fr : FA} (h : PAF Z Ew X es fr) : PF Z Ew X (.List es pos) (fLst fr) := by
  obtain ⟨ta, h1, h2⟩ := h.ex
  exact ⟨_, pe_lst h1, se_lst h2⟩
theorem ptf_val {e : Expr} {f : FE} (h : PF Z Ew X e f) (he : ∀ whole, isTrue e X.env whole = (do let v ← whole; standAt e.pos; holding [v] (truthy v)) := by intro _; rfl) : PTF Z Ew X e (kVal f) := by
  obtain ⟨ta, h1, h2⟩ := h.ex
  exact ⟨_, pt_val h1 he, st_val h2⟩
theorem pwf_one {op} {ft : FT} (h : PTF Z Ew X a ft) (ho : op = .And ∨ op = .Or := by first | exact .inl rfl | exact .inr rfl) : PWF Z Ew X (.BoolOp op [a] pos) ft := by
  obtain ⟨ta, h1, h2⟩ := h.ex
  rcases ho with rfl | rfl
  · exact ⟨_, pw_and1 h1, h2⟩
  · exact ⟨_, pw_or1 h1, h2⟩
theorem pwf_or {rest : List Expr} {ft fu : FT} (h : PTF Z Ew X a ft) (hb : PWF Z Ew X (.BoolOp .Or (b :: rest) pos) fu) : PWF Z Ew X (.BoolOp .Or (a :: b :: rest) pos) (kOr ft fu) := by
  obtain ⟨ta, h1, h2⟩ := h.ex
  obtain ⟨tb, h3, h4⟩ := hb.ex
  exact ⟨_, pw_or h1 h3, st_or h2 h4⟩
theorem ptf_w {ft : FT} (h : PWF Z Ew X a ft) : PTF Z Ew X a ft := by
  obtain ⟨ta, h1, h2⟩ := h.ex
  exact ⟨_, h1.pt, h2⟩
theorem ptf_not {ft : FT} (h : PTF Z Ew X a ft) : PTF Z Ew X (.UnaryOp .Not a pos) (kNot ft) := by
  obtain ⟨ta, h1, h2⟩ := h.ex
  exact ⟨_, pt_not h1, st_not h2⟩
end
end DN
namespace DN
open PySem PySem.Spec PyProof.Rows L2 Evl
def vI (i : Int) : Option Rt := some (.val (.d (.int i)))
def vB (b : Bool) : Option Rt := some (.val (.d (.bl b)))
def vS (s : Str) : Option Rt := some (.val (.d (.str s)))
def vT (l : List Dv) : Option Rt := some (.val (.d (.tup l)))
def nL (l : List Dv) : Option Rt := some (.new (.lst l))
def onlyIf (b : Bool) (r : Option Rt) : Option Rt := if b then r else none
def gAdd : Dv → Dv → Option Rt
  | .int i, .int j => vI (i + j)
  | .str a, .str b => onlyIf (decide (a.length + b.length ≤ 100000)) (vS (a ++ b))
  | .lst a, .lst b => onlyIf (decide (a.length + b.length ≤ 100000)) (nL (a ++ b))
  | .tup a, .tup b => onlyIf (decide (a.length + b.length ≤ 100000)) (vT (a ++ b))
  | _, _ => none
def gSub : Dv → Dv → Option Rt
  | .int i, .int j => vI (i - j)
  | _, _ => none
def small64 (i : Int) : Bool := decide (-(2 ^ 64) < i) && decide (i < 2 ^ 64)
def gMul : Dv → Dv → Option Rt
  | .int i, .int j => onlyIf (small64 i || small64 j) (vI (i * j))
  | .str a, .int n => onlyIf (decide (0 ≤ n) && decide (n ≤ 10000) && decide (a.length ≤ 1000)) (vS (OP.repS a n.toNat))
  | .lst a, .int n => onlyIf (decide (-100000 ≤ n) && decide (n ≤ 100000) && decide (a.length * n.toNat ≤ 100000)) (nL (List.replicate n.toNat a).flatten)
  | _, _ => none
def gDiv : Dv → Dv → Option Rt
  | .int i, .int j => onlyIf (decide (j ≠ 0) && decide (j.natAbs < 1073741824)) (vI (i.fdiv j))
  | _, _ => none
def gMod : Dv → Dv → Option Rt
  | .int i, .int j => onlyIf (decide (j ≠ 0)) (vI (i.fmod j))
  | _, _ => none
def gPow : Dv → Dv → Option Rt
  | .int i, .int j => onlyIf (decide (0 ≤ j) && decide (j ≤ 1000000) && decide (i.natAbs < 2 ^ 64)) (vI (i ^ j.toNat))
  | _, _ => none
def gLt : Dv → Dv → Option Rt
  | .int i, .int j => vB (decide (i < j))
  | .str a, .str b => vB (decide (a.cps.toList < b.cps.toList))
  | _, _ => none
def gLe : Dv → Dv → Option Rt
  | .int i, .int j => vB (decide (i ≤ j))
  | _, _ => none
def gGt : Dv → Dv → Option Rt
  | .int i, .int j => vB (decide (j < i))
  | _, _ => none
mutual
def okN : Nat → Dv → Bool
  | _, .non => true
  | _, .bl _ => true
  | _, .int _ => true
  | _, .str s => PyData.strOk s
  | n + 1, .lst l => okNs n l
  | n + 1, .tup l => okNs n l
  | _, _ => false
def okNs : Nat → List Dv → Bool
  | _, [] => true
  | n, d :: l => okN n d && okNs n l
end
mutual
def eqD : Dv → Dv → Bool
  | .non, .non => true
  | .bl a, .bl b => a == b
  | .bl a, .int j => (if a then 1 else 0) == j
  | .int i, .bl b => i == (if b then 1 else 0)
  | .int i, .int j => i == j
  | .str a, .str b => a == b
  | .lst a, .lst b => eqDs a b
  | .tup a, .tup b => eqDs a b
  | _, _ => false
def eqDs : List Dv → List Dv → Bool
  | [], [] => true
  | a :: l, b :: m => eqD a b && eqDs l m
  | _, _ => false
end
def gEq (a b : Dv) : Option Rt := onlyIf (okN 60 a && okN 60 b) (vB (eqD a b))
def gNe (a b : Dv) : Option Rt := onlyIf (okN 60 a && okN 60 b) (vB (!eqD a b))
def inD (a : Dv) (l : List Dv) : Bool := l.any fun y => eqD y a
def inS (a z : Str) : Bool := match a.cps.toList with
  | [c] => decide (c ∈ z.cps.toList)
  | _ => !(Builtin.Str.occurrences z a 0 z.length 1).isEmpty
def gIn : Dv → Dv → Option Rt
  | .str a, .str z => vB (inS a z)
  | a, .lst l => onlyIf (okN 60 a && okNs 60 l) (vB (inD a l))
  | a, .tup l => onlyIf (okN 60 a && okNs 60 l) (vB (inD a l))
  | a, .ktp l => onlyIf (okN 60 a && okNs 60 l) (vB (inD a l))
  | _, _ => none
def gNotIn : Dv → Dv → Option Rt
  | .str a, .str z => vB (!inS a z)
  | a, .lst l => onlyIf (okN 60 a && okNs 60 l) (vB (!inD a l))
  | a, .tup l => onlyIf (okN 60 a && okNs 60 l) (vB (!inD a l))
  | a, .ktp l => onlyIf (okN 60 a && okNs 60 l) (vB (!inD a l))
  | _, _ => none
section
variable {Z : Zx} {X : Cx} {G H : Hp} {α : List Addr} {S : Sto} {Q : VK} {E : XK}
theorem onlyIf_ok {b : Bool} {r : Option Rt} {P : Pst Rt} (w : Wk Z (R.of S (onlyIf b r)) G α H P E) : b = true ∧ Wk Z (R.of S r) G α H P E := by
  cases b with
  | true => exact ⟨rfl, w⟩
  | false => exact w.elim
theorem wI {i : Int} (w : Wk Z (R.of S (vI i)) G α H (pRt Z Q) E) (hd : Hd Z G α S H) : Q (.int i) H := Wk.dat (v := .d (.int i)) w hd (or_int Z G α i)
theorem wB {i : Bool} (w : Wk Z (R.of S (vB i)) G α H (pRt Z Q) E) (hd : Hd Z G α S H) : Q (.bl i) H := Wk.dat (v := .d (.bl i)) w hd (or_bl Z G α i)
theorem wS {i : Str} (w : Wk Z (R.of S (vS i)) G α H (pRt Z Q) E) (hd : Hd Z G α S H) : Q (.str i) H := Wk.dat (v := .d (.str i)) w hd (or_str Z G α i)
/-- a new list, of what is known -/
theorem wL {l : List Dv} {xs : List V} (w : Wk Z (R.of S (nL l)) G α H (pRt Z Q) E) (hd : Hd Z G α S H) (o : OnL Z G l xs) {p : Addr} (hp : H p = none) : Q (.ref p) (upd H p (.lst xs)) := Wk.fresh w hd hp ⟨xs, rfl, o⟩
/-- a new tuple -/
theorem wT {l : List Dv} {xs : List V} (w : Wk Z (R.of S (vT l)) G α H (pRt Z Q) E) (hd : Hd Z G α S H) (o : OnL Z G l xs) {p : Addr} (hp : H p = none) : Q (.ref p) (upd H p (.tup xs)) := by
  obtain ⟨h3, f3⟩ := hd.know (o := .tup xs) hp
  exact w _ _ _ f3 h3 _ (by show On _ _ _ _; unfold On; exact ⟨p, xs, rfl, upd_same, o.up f3.g⟩)
/-- a tuple that stands already -/
theorem wkT {l : List Dv} {xs : List V} {a : Addr} (w : Wk Z (R.of S (vT l)) G α H (pRt Z Q) E) (hd : Hd Z G α S H) (h : G a = some (.tup xs)) (o : OnL Z G l xs) : Q (.ref a) H :=
  Wk.dat (v := .d (.tup l)) w hd (by show On _ _ _ _; unfold On; exact ⟨a, xs, rfl, h, o⟩)
theorem onl_rep {l : List Dv} {xs : List V} (h : OnL Z G l xs) : ∀ n : Nat, OnL Z G (List.replicate n l).flatten (List.replicate n xs).flatten
  | 0 => OnL.nil'
  | n + 1 => by
    rw [List.replicate_succ, List.replicate_succ, List.flatten_cons, List.flatten_cons]
    exact h.app (onl_rep h n)
theorem and3 {a b c : Bool} (h : (a && b && c) = true) : a = true ∧ b = true ∧ c = true := by
  cases a <;> cases b <;> cases c <;> simp_all
theorem od_add (hK : X.K = Z.K) : OpR X (binaryOp .Add) (rD Z gAdd) := by
  intro pins s σ H x y v u Q I rx ry h
  obtain ⟨G, α, S, a, b, hd, ha, hb, w⟩ := h
  cases a with
  | int i =>
    cases b with
    | int j => cases ha; cases hb; exact op_add pins s σ H _ _ v u Q I rx ry ⟨i, j, rfl, rfl, wI w hd⟩
    | _ => exact w.elim
  | str i =>
    cases b with
    | str j =>
      cases ha; cases hb
      obtain ⟨h1, w⟩ := onlyIf_ok w
      exact op_add_str pins s σ H _ _ v u Q I rx ry ⟨i, j, rfl, rfl, sz_of (of_decide_eq_true h1), wS w hd⟩
    | _ => exact w.elim
  | lst i =>
    cases b with
    | lst j =>
      obtain ⟨a, xs, rfl, h1, h2⟩ := ha
      obtain ⟨b, ys, rfl, h3, h4⟩ := hb
      obtain ⟨h5, w⟩ := onlyIf_ok w
      exact op_cat pins s σ H _ _ v u Q I rx ry ⟨a, b, xs, ys, rfl, rfl, h1, h3, by rw [h2.len, h4.len]; exact sz_of (of_decide_eq_true h5), fun p hp => wL w hd (h2.app h4) hp⟩
    | _ => exact w.elim
  | tup i =>
    cases b with
    | tup j =>
      obtain ⟨a, xs, rfl, h1, h2⟩ := ha
      obtain ⟨b, ys, rfl, h3, h4⟩ := hb
      obtain ⟨h5, w⟩ := onlyIf_ok w
      refine op_catA pins s σ H _ _ v u Q I rx ry ⟨a, b, xs, ys, rfl, rfl, SqT.of (hd.ex _ _ h1), SqT.of (hd.ex _ _ h3), by rw [h2.len, h4.len]; exact sz_of (of_decide_eq_true h5), fun e => ?_, fun _ e => ?_, fun _ _ p hp => wT w hd (h2.app h4) hp⟩
      · have e2 := h2.len
        rw [e] at e2
        have e3 : i = [] := List.length_eq_zero_iff.mp e2.symm
        subst e3
        exact wkT w hd h3 h4
      · have e2 := h4.len
        rw [e] at e2
        have e3 : j = [] := List.length_eq_zero_iff.mp e2.symm
        subst e3
        rw [List.append_nil] at w
        exact wkT w hd h1 h2
    | _ => exact w.elim
  | _ => cases b <;> exact w.elim
/-- two ints -/
theorem od_ii {f : Value → Value → Sem Value} {g : Dv → Dv → Option Rt} {C : Int → Int → Prop} {k : Int → Int → Int} (h : OpR X f (rI C fun i j => .int (k i j)))
    (hg : ∀ (a b : Dv) {G α S H} {Q : VK} {E : XK}, Wk Z (R.of S (g a b)) G α H (pRt Z Q) E → ∃ i j, a = .int i ∧ b = .int j ∧ C i j ∧ Wk Z (R.of S (vI (k i j))) G α H (pRt Z Q) E) : OpR X f (rD Z g) := by
  intro pins s σ H x y v u Q I rx ry h'
  obtain ⟨G, α, S, a, b, hd, ha, hb, w⟩ := h'
  obtain ⟨i, j, rfl, rfl, hc, w⟩ := hg a b w
  cases ha; cases hb
  exact h pins s σ H _ _ v u Q I rx ry ⟨i, j, rfl, rfl, hc, wI w hd⟩
theorem rI_of0 {f : Value → Value → Sem Value} {g : Int → Int → V} (h : OpR X f (rI0 g)) : OpR X f (rI (fun _ _ => True) g) := fun pins s σ H x y v u Q I rx ry q => by
  obtain ⟨i, j, h1, h2, _, h3⟩ := q
  exact h pins s σ H x y v u Q I rx ry ⟨i, j, h1, h2, h3⟩
theorem od_sub : OpR X (binaryOp .Sub) (rD Z gSub) := od_ii (rI_of0 op_sub) fun a b {G α S H Q E} w => by
  cases a <;> first | (exact w.elim) | skip
  cases b <;> first | (exact w.elim) | exact ⟨_, _, rfl, rfl, trivial, w⟩
theorem od_div : OpR X (binaryOp .FloorDiv) (rD Z gDiv) := od_ii op_fdivN fun a b {G α S H Q E} w => by
  cases a <;> first | (exact w.elim) | skip
  cases b <;> first | (exact w.elim) | skip
  obtain ⟨h1, w⟩ := onlyIf_ok w
  rw [Bool.and_eq_true] at h1
  exact ⟨_, _, rfl, rfl, ⟨of_decide_eq_true h1.1, of_decide_eq_true h1.2⟩, w⟩
theorem od_mod : OpR X (binaryOp .Mod) (rD Z gMod) := od_ii op_modN fun a b {G α S H Q E} w => by
  cases a <;> first | (exact w.elim) | skip
  cases b <;> first | (exact w.elim) | skip
  obtain ⟨h1, w⟩ := onlyIf_ok w
  exact ⟨_, _, rfl, rfl, of_decide_eq_true h1, w⟩
theorem od_pow : OpR X (binaryOp .Pow) (rD Z gPow) := od_ii op_pow fun a b {G α S H Q E} w => by
  cases a <;> first | (exact w.elim) | skip
  cases b <;> first | (exact w.elim) | skip
  obtain ⟨h1, w⟩ := onlyIf_ok w
  obtain ⟨h1, h2, h3⟩ := and3 h1
  exact ⟨_, _, rfl, rfl, ⟨of_decide_eq_true h1, of_decide_eq_true h2, of_decide_eq_true h3⟩, w⟩
theorem small64_ok {i : Int} (h : small64 i = true) : -(2 ^ 64) < i ∧ i < 2 ^ 64 := by
  unfold small64 at h
  rw [Bool.and_eq_true] at h
  exact ⟨of_decide_eq_true h.1, of_decide_eq_true h.2⟩
theorem od_mul : OpR X (binaryOp .Mult) (rD Z gMul) := by
  intro pins s σ H x y v u Q I rx ry h
  obtain ⟨G, α, S, a, b, hd, ha, hb, w⟩ := h
  cases a with
  | int i =>
    cases b with
    | int j =>
      cases ha; cases hb
      obtain ⟨h1, w⟩ := onlyIf_ok w
      rw [Bool.or_eq_true] at h1
      exact op_mul pins s σ H _ _ v u Q I rx ry ⟨i, j, rfl, rfl, h1.imp small64_ok small64_ok, wI w hd⟩
    | _ => exact w.elim
  | str i =>
    cases b with
    | int j =>
      cases ha; cases hb
      obtain ⟨h1, w⟩ := onlyIf_ok w
      obtain ⟨h1, h2, h3⟩ := and3 h1
      exact OP.op_mul_str pins s σ H _ _ v u Q I rx ry ⟨i, j, rfl, rfl, of_decide_eq_true h1, of_decide_eq_true h2, of_decide_eq_true h3, wS w hd⟩
    | _ => exact w.elim
  | lst i =>
    cases b with
    | int j =>
      obtain ⟨a, xs, rfl, h1, h2⟩ := ha
      cases hb
      obtain ⟨h5, w⟩ := onlyIf_ok w
      obtain ⟨h5, h6, h7⟩ := and3 h5
      have h5 := of_decide_eq_true h5
      have h6 := of_decide_eq_true h6
      exact op_rep pins s σ H _ _ v u Q I rx ry ⟨a, j, xs, rfl, rfl, h1, by omega, by omega, by rw [h2.len]; exact sz_of (of_decide_eq_true h7), fun p hp => wL w hd (onl_rep h2 _) hp⟩
    | _ => exact w.elim
  | _ => cases b <;> exact w.elim
/-- comparisons of two ints -/
theorem od_ib {f : Value → Value → Sem Value} {g : Dv → Dv → Option Rt} {k : Int → Int → Bool} (h : OpR X f (rI0 fun i j => .bl (k i j)))
    (hg : ∀ (a b : Dv) {G α S H} {Q : VK} {E : XK}, Wk Z (R.of S (g a b)) G α H (pRt Z Q) E → ∃ i j, a = .int i ∧ b = .int j ∧ Wk Z (R.of S (vB (k i j))) G α H (pRt Z Q) E) : OpR X f (rD Z g) := by
  intro pins s σ H x y v u Q I rx ry h'
  obtain ⟨G, α, S, a, b, hd, ha, hb, w⟩ := h'
  obtain ⟨i, j, e1, e2, w2⟩ := hg a b w
  subst e1; subst e2
  cases ha; cases hb
  exact h pins s σ H _ _ v u Q I rx ry ⟨i, j, rfl, rfl, wB w2 hd⟩
theorem od_le : OpR X (compareOp .LtE) (rD Z gLe) := od_ib op_le fun a b {G α S H Q E} w => by
  cases a <;> first | (exact w.elim) | skip
  cases b <;> first | (exact w.elim) | exact ⟨_, _, rfl, rfl, w⟩
theorem od_gt : OpR X (compareOp .Gt) (rD Z gGt) := od_ib op_gt fun a b {G α S H Q E} w => by
  cases a <;> first | (exact w.elim) | skip
  cases b <;> first | (exact w.elim) | exact ⟨_, _, rfl, rfl, w⟩
theorem od_lt : OpR X (compareOp .Lt) (rD Z gLt) := by
  intro pins s σ H x y v u Q I rx ry h
  obtain ⟨G, α, S, a, b, hd, ha, hb, w⟩ := h
  cases a with
  | int i =>
    cases b with
    | int j => cases ha; cases hb; exact op_lt pins s σ H _ _ v u Q I rx ry ⟨i, j, rfl, rfl, wB w hd⟩
    | _ => exact w.elim
  | str i =>
    cases b with
    | str j => cases ha; cases hb; exact op_lt_str pins s σ H _ _ v u Q I rx ry ⟨i, j, rfl, rfl, wB w hd⟩
    | _ => exact w.elim
  | _ => cases b <;> exact w.elim
end
mutual
def toP : Dv → PyData
  | .non => .none
  | .bl b => .bool b
  | .int i => .int i
  | .str s => .str s
  | .lst l => .list (toPs l)
  | .tup l => .tuple (toPs l)
  | _ => .none
def toPs : List Dv → List PyData
  | [] => []
  | d :: l => toP d :: toPs l
end
section
variable {Z : Zx} {X : Cx} {G H : Hp} {α : List Addr} {S : Sto} {Q : VK} {E : XK}
mutual
theorem on_dp {n : Nat} : ∀ {d : Dv} {v : V}, okN n d = true → On Z G d v → Dp Z.K G v (toP d)
  | .non, _, _, h => by unfold On at h; subst h; unfold toP; exact .non
  | .bl _, _, _, h => by unfold On at h; subst h; unfold toP; exact .bl _
  | .int _, _, _, h => by unfold On at h; subst h; unfold toP; exact .int _
  | .str _, _, _, h => by unfold On at h; subst h; unfold toP; exact .str _
  | .lst l, v, k, h => by
    cases n with
    | zero => simp [okN] at k
    | succ n =>
      unfold On at h
      obtain ⟨a, xs, rfl, h1, h2⟩ := h
      unfold toP
      exact .lst (SqL.of h1) (onl_dp (n := n) (by simpa [okN] using k) h2)
  | .tup l, v, k, h => by
    cases n with
    | zero => simp [okN] at k
    | succ n =>
      unfold On at h
      obtain ⟨a, xs, rfl, h1, h2⟩ := h
      unfold toP
      exact .tup (SqT.of h1) (onl_dp (n := n) (by simpa [okN] using k) h2)
  | .ty _, _, k, _ => by simp [okN] at k
  | .cls _, _, k, _ => by simp [okN] at k
  | .scr _, _, k, _ => by simp [okN] at k
  | .ktp _, _, k, _ => by simp [okN] at k
  | .obj _ _, _, k, _ => by simp [okN] at k
  | .dic _ _ _, _, k, _ => by simp [okN] at k
theorem onl_dp {n : Nat} : ∀ {l : List Dv} {xs : List V}, okNs n l = true → OnL Z G l xs → DpAll Z.K G xs (toPs l)
  | [], xs, _, h => by rw [OnL.nil.mp h]; unfold toPs; exact .nil
  | d :: l, xs, k, h => by
    obtain ⟨y, ys, rfl, h2, h3⟩ := OnL.cons.mp h
    have k' : okN n d = true ∧ okNs n l = true := by simpa [okNs] using k
    unfold toPs
    exact .cons (on_dp k'.1 h2) (onl_dp k'.2 h3)
end
mutual
theorem ok_lay : ∀ {n : Nat} {d : Dv}, okN n d = true → (toP d).canLay0 = true ∧ (toP d).depth ≤ n
  | _, .non, _ => by simp [toP, PyData.canLay0, PyData.depth]
  | _, .bl _, _ => by simp [toP, PyData.canLay0, PyData.depth]
  | _, .int _, _ => by simp [toP, PyData.canLay0, PyData.depth]
  | _, .str s, k => by simp only [okN] at k; simp [toP, PyData.canLay0, PyData.depth, k]
  | 0, .lst l, k => by simp [okN] at k
  | n + 1, .lst l, k => by
    have h := ok_lays (n := n) (l := l) (by simpa [okN] using k)
    simp only [toP, PyData.canLay0, PyData.depth]
    exact ⟨h.1, by omega⟩
  | 0, .tup l, k => by simp [okN] at k
  | n + 1, .tup l, k => by
    have h := ok_lays (n := n) (l := l) (by simpa [okN] using k)
    simp only [toP, PyData.canLay0, PyData.depth]
    exact ⟨h.1, by omega⟩
  | _, .ty _, k => by simp [okN] at k
  | _, .cls _, k => by simp [okN] at k
  | _, .scr _, k => by simp [okN] at k
  | _, .ktp _, k => by simp [okN] at k
  | _, .obj _ _, k => by simp [okN] at k
  | _, .dic _ _ _, k => by simp [okN] at k
theorem ok_lays : ∀ {n : Nat} {l : List Dv}, okNs n l = true → PyData.canLayAll0 (toPs l) = true ∧ PyData.depthAll (toPs l) ≤ n
  | _, [], _ => by simp [toPs, PyData.canLayAll0, PyData.depthAll]
  | n, d :: l, k => by
    have k' : okN n d = true ∧ okNs n l = true := by simpa [okNs] using k
    have h1 := ok_lay k'.1
    have h2 := ok_lays k'.2
    simp only [toPs, PyData.canLayAll0, PyData.depthAll, h1.1, h2.1]
    exact ⟨rfl, by omega⟩
end
mutual
theorem eq_eqv : ∀ {n m : Nat} {a b : Dv}, okN n a = true → okN m b = true → PyData.eqv (toP a) (toP b) = eqD a b
  | n, m, a, b, ha, hb => by
    cases a <;> cases b <;> first
      | (simp [okN] at ha; done)
      | (simp [okN] at hb; done)
      | (simp [toP, PyData.eqv, eqD]; done)
      | skip
    · rename_i l k
      cases n with
      | zero => simp [okN] at ha
      | succ n =>
        cases m with
        | zero => simp [okN] at hb
        | succ m =>
          simp only [toP, PyData.eqv, eqD]
          exact eqs_eqv (by simpa [okN] using ha) (by simpa [okN] using hb)
    · rename_i l k
      cases n with
      | zero => simp [okN] at ha
      | succ n =>
        cases m with
        | zero => simp [okN] at hb
        | succ m =>
          simp only [toP, PyData.eqv, eqD]
          exact eqs_eqv (by simpa [okN] using ha) (by simpa [okN] using hb)
theorem eqs_eqv : ∀ {n m : Nat} {a b : List Dv}, okNs n a = true → okNs m b = true → PyData.eqvAll (toPs a) (toPs b) = eqDs a b
  | _, _, [], [], _, _ => by simp [toPs, PyData.eqvAll, eqDs]
  | _, _, [], _ :: _, _, _ => by simp [toPs, PyData.eqvAll, eqDs]
  | _, _, _ :: _, [], _, _ => by simp [toPs, PyData.eqvAll, eqDs]
  | n, m, a :: l, b :: k, ha, hb => by
    have ha' : okN n a = true ∧ okNs n l = true := by simpa [okNs] using ha
    have hb' : okN m b = true ∧ okNs m k = true := by simpa [okNs] using hb
    simp only [toPs, PyData.eqvAll, eqDs]
    rw [eq_eqv ha'.1 hb'.1, eqs_eqv ha'.2 hb'.2]
end
theorem ok_shaped {a : Dv} (h : okN 60 a = true) : SeqAt.shaped (toP a) = true := by
  obtain ⟨h1, h2⟩ := ok_lay h
  show ((toP a).canLay0 && decide ((toP a).depth ≤ 64)) = true
  rw [h1, decide_eq_true (by omega)]
  rfl
theorem oks_shaped {l : List Dv} (h : okNs 60 l = true) : SeqAt.shaped (.list (toPs l)) = true ∧ SeqAt.shaped (.tuple (toPs l)) = true := by
  obtain ⟨h1, h2⟩ := ok_lays h
  have e1 : (PyData.list (toPs l)).canLay0 = true := by simp only [PyData.canLay0]; exact h1
  have e2 : (PyData.tuple (toPs l)).canLay0 = true := by simp only [PyData.canLay0]; exact h1
  have d1 : (PyData.list (toPs l)).depth ≤ 64 := by simp only [PyData.depth]; omega
  have d2 : (PyData.tuple (toPs l)).depth ≤ 64 := by simp only [PyData.depth]; omega
  constructor
  · show ((PyData.list (toPs l)).canLay0 && decide ((PyData.list (toPs l)).depth ≤ 64)) = true
    rw [e1, decide_eq_true d1]; rfl
  · show ((PyData.tuple (toPs l)).canLay0 && decide ((PyData.tuple (toPs l)).depth ≤ 64)) = true
    rw [e2, decide_eq_true d2]; rfl
theorem and2 {a b : Bool} (h : (a && b) = true) : a = true ∧ b = true := by
  cases a <;> cases b <;> simp_all
theorem od_eq (hu : X.A.units + 64 < cLine) (hK : X.K = Z.K) : OpR X (compareOp .Eq) (rD Z gEq) := by
  intro pins s σ H x y v u Q I rx ry h
  obtain ⟨G, α, S, a, b, hd, ha, hb, w⟩ := h
  obtain ⟨h1, w⟩ := onlyIf_ok w
  obtain ⟨h1, h2⟩ := and2 h1
  refine op_eqD hu pins s σ H _ _ v u Q I rx ry ⟨toP a, toP b, hK ▸ on_dp h1 (ha.on hd.ex), hK ▸ on_dp h2 (hb.on hd.ex), ok_shaped h1, ok_shaped h2, ?_⟩
  rw [eq_eqv h1 h2]
  exact wB w hd
theorem od_ne (hu : X.A.units + 64 < cLine) (hK : X.K = Z.K) : OpR X (compareOp .NotEq) (rD Z gNe) := by
  intro pins s σ H x y v u Q I rx ry h
  obtain ⟨G, α, S, a, b, hd, ha, hb, w⟩ := h
  obtain ⟨h1, w⟩ := onlyIf_ok w
  obtain ⟨h1, h2⟩ := and2 h1
  refine op_neD hu pins s σ H _ _ v u Q I rx ry ⟨toP a, toP b, hK ▸ on_dp h1 (ha.on hd.ex), hK ▸ on_dp h2 (hb.on hd.ex), ok_shaped h1, ok_shaped h2, ?_⟩
  rw [eq_eqv h1 h2]
  exact wB w hd
theorem any_eqv {a : Dv} (ha : okN 60 a = true) : ∀ {l : List Dv}, okNs 60 l = true → ((toPs l).any fun z => PyData.eqv z (toP a)) = inD a l
  | [], _ => rfl
  | d :: l, h => by
    have h' : okN 60 d = true ∧ okNs 60 l = true := by simpa [okNs] using h
    simp only [toPs, inD, List.any_cons]
    rw [eq_eqv h'.1 ha, any_eqv ha h'.2]
    rfl
theorem sg_of {a : Str} {c : Nat} (h : a.cps.toList = [c]) : a = ⟨#[c]⟩ := by
  obtain ⟨⟨l⟩⟩ := a
  simp at h
  subst h
  rfl
theorem in_cases {a b : Dv} {neg : Bool} {g : Dv → Dv → Option Rt} (hg : g = if neg then gNotIn else gIn) (w : Wk Z (R.of S (g a b)) G α H (pRt Z Q) E) :
    (∃ s z, a = .str s ∧ b = .str z ∧ Wk Z (R.of S (vB (if neg then !inS s z else inS s z))) G α H (pRt Z Q) E) ∨
    (∃ l, (b = .lst l ∨ b = .tup l ∨ b = .ktp l) ∧ okN 60 a = true ∧ okNs 60 l = true ∧ Wk Z (R.of S (vB (if neg then !inD a l else inD a l))) G α H (pRt Z Q) E) := by
  subst hg
  cases b with
  | lst l =>
    have w' : Wk Z (R.of S (onlyIf (okN 60 a && okNs 60 l) (vB (if neg then !inD a l else inD a l)))) G α H (pRt Z Q) E := by cases neg <;> cases a <;> exact w
    obtain ⟨h1, w'⟩ := onlyIf_ok w'
    obtain ⟨h1, h2⟩ := and2 h1
    exact .inr ⟨l, .inl rfl, h1, h2, w'⟩
  | tup l =>
    have w' : Wk Z (R.of S (onlyIf (okN 60 a && okNs 60 l) (vB (if neg then !inD a l else inD a l)))) G α H (pRt Z Q) E := by cases neg <;> cases a <;> exact w
    obtain ⟨h1, w'⟩ := onlyIf_ok w'
    obtain ⟨h1, h2⟩ := and2 h1
    exact .inr ⟨l, .inr (.inl rfl), h1, h2, w'⟩
  | ktp l =>
    have w' : Wk Z (R.of S (onlyIf (okN 60 a && okNs 60 l) (vB (if neg then !inD a l else inD a l)))) G α H (pRt Z Q) E := by cases neg <;> cases a <;> exact w
    obtain ⟨h1, w'⟩ := onlyIf_ok w'
    obtain ⟨h1, h2⟩ := and2 h1
    exact .inr ⟨l, .inr (.inr rfl), h1, h2, w'⟩
  | str z =>
    cases a with
    | str s => exact .inl ⟨s, z, rfl, rfl, by cases neg <;> exact w⟩
    | _ => cases neg <;> exact w.elim
  | _ => cases neg <;> cases a <;> exact w.elim
theorem od_in (hu : X.A.units + 65 < cLine) (hK : X.K = Z.K) : OpR X (compareOp .In) (rD Z gIn) := by
  intro pins s σ H x y v u Q I rx ry h
  obtain ⟨G, α, S, a, b, hd, ha, hb, w⟩ := h
  rcases in_cases (neg := false) rfl w with ⟨t, z, rfl, rfl, w2⟩ | ⟨l, e, h1, h2, w2⟩
  · cases ha; cases hb
    unfold inS at w2
    cases e : t.cps.toList with
    | nil => simp only [e] at w2; exact op_in_str pins s σ H _ _ v u Q I rx ry ⟨t, z, rfl, rfl, wB w2 hd⟩
    | cons c r =>
      cases r with
      | nil => simp only [e] at w2; exact op_in_sign pins s σ H _ _ v u Q I rx ry ⟨c, z, by rw [sg_of e], rfl, wB w2 hd⟩
      | cons d r => simp only [e] at w2; exact op_in_str pins s σ H _ _ v u Q I rx ry ⟨t, z, rfl, rfl, wB w2 hd⟩
  · rcases e with rfl | rfl | rfl
    · obtain ⟨b, ys, rfl, h3, h4⟩ := hb
      exact op_inD hu pins s σ H _ _ v u Q I rx ry ⟨toP a, toPs l, hK ▸ on_dp h1 (ha.on hd.ex), hK ▸ .lst (SqL.of h3) (onl_dp h2 (h4.up hd.ex)), ok_shaped h1, (oks_shaped h2).1, by rw [any_eqv h1 h2]; exact wB w2 hd⟩
    · obtain ⟨b, ys, rfl, h3, h4⟩ := hb
      exact OP.op_inT hu pins s σ H _ _ v u Q I rx ry ⟨toP a, toPs l, hK ▸ on_dp h1 (ha.on hd.ex), hK ▸ .tup (SqT.of (hd.ex _ _ h3)) (onl_dp h2 (h4.up hd.ex)), ok_shaped h1, (oks_shaped h2).2, by rw [any_eqv h1 h2]; exact wB w2 hd⟩
    · obtain ⟨b, ys, rfl, h3, h4⟩ := hb
      exact OP.op_inT hu pins s σ H _ _ v u Q I rx ry ⟨toP a, toPs l, hK ▸ on_dp h1 (ha.on hd.ex), hK ▸ .tup (h3.sq hd.ex) (onl_dp h2 (h4.up hd.ex)), ok_shaped h1, (oks_shaped h2).2, by rw [any_eqv h1 h2]; exact wB w2 hd⟩
theorem od_notin (hu : X.A.units + 65 < cLine) (hK : X.K = Z.K) : OpR X (compareOp .NotIn) (rD Z gNotIn) := by
  intro pins s σ H x y v u Q I rx ry h
  obtain ⟨G, α, S, a, b, hd, ha, hb, w⟩ := h
  rcases in_cases (neg := true) rfl w with ⟨t, z, rfl, rfl, w2⟩ | ⟨l, e, h1, h2, w2⟩
  · cases ha; cases hb
    unfold inS at w2
    cases e : t.cps.toList with
    | nil => simp only [e] at w2; exact op_notin_str pins s σ H _ _ v u Q I rx ry ⟨t, z, rfl, rfl, wB w2 hd⟩
    | cons c r =>
      cases r with
      | nil => simp only [e] at w2; exact op_notIn_sign pins s σ H _ _ v u Q I rx ry ⟨c, z, by rw [sg_of e], rfl, wB w2 hd⟩
      | cons d r => simp only [e] at w2; exact op_notin_str pins s σ H _ _ v u Q I rx ry ⟨t, z, rfl, rfl, wB w2 hd⟩
  · rcases e with rfl | rfl | rfl
    · obtain ⟨b, ys, rfl, h3, h4⟩ := hb
      exact op_notInD hu pins s σ H _ _ v u Q I rx ry ⟨toP a, toPs l, hK ▸ on_dp h1 (ha.on hd.ex), hK ▸ .lst (SqL.of h3) (onl_dp h2 (h4.up hd.ex)), ok_shaped h1, (oks_shaped h2).1, by rw [any_eqv h1 h2]; exact wB w2 hd⟩
    · obtain ⟨b, ys, rfl, h3, h4⟩ := hb
      exact OP.op_notInT hu pins s σ H _ _ v u Q I rx ry ⟨toP a, toPs l, hK ▸ on_dp h1 (ha.on hd.ex), hK ▸ .tup (SqT.of (hd.ex _ _ h3)) (onl_dp h2 (h4.up hd.ex)), ok_shaped h1, (oks_shaped h2).2, by rw [any_eqv h1 h2]; exact wB w2 hd⟩
    · obtain ⟨b, ys, rfl, h3, h4⟩ := hb
      exact OP.op_notInT hu pins s σ H _ _ v u Q I rx ry ⟨toP a, toPs l, hK ▸ on_dp h1 (ha.on hd.ex), hK ▸ .tup (h3.sq hd.ex) (onl_dp h2 (h4.up hd.ex)), ok_shaped h1, (oks_shaped h2).2, by rw [any_eqv h1 h2]; exact wB w2 hd⟩
/-- a op1 b op2 c -/
def fChain (g g' : Dv → Dv → Option Rt) (fa fb fc : FE) : FE := fun env S => (fa env S).bindV fun S1 a => (fb env S1).bindV fun S2 b => (g2 S2 a b g).bindV fun S3 k => onB S3 k fun t =>
  if t then (fc env S3).bindV fun S4 c => g2 S4 b c g' else .ok S3 (.val (.d (.bl false)))
variable {Ew : L2.St → XK} {ta tb tc : TE} {fa fb fc : FE}
theorem rD_bind {γ : Type} {g : Dv → Dv → Option Rt} {a b : Vr} {x y : V} {f : Sto → Vr → R γ} {P : Pst γ} {Q' : VK} (hd : Hd Z G α S H) (ox : OnR Z G α a x) (oy : OnR Z G α b y) (w : Wk Z ((g2 S a b g).bindV f) G α H P E)
    (k : ∀ S2 d v H2 G2 α2, Fr G α H G2 α2 H2 → Hd Z G2 α2 S2 H2 → OnR Z G2 α2 d v → Wk Z (f S2 d) G2 α2 H2 P E → Q' v H2) : rD Z g x y H Q' := g2_ok hd ox oy (w.bindV k)
theorem se_chain {g g' : Dv → Dv → Option Rt} (ha : SE Z Ew ta fa) (hb : SE Z Ew tb fb) (hc : SE Z Ew tc fc) : SE Z Ew (tChain (rD Z g) (rD Z g') ta tb tc) (fChain g g' fa fb fc) := fun env σ G α S H Q hd oe w =>
  ha.bind hd oe w fun S2 a x H2 G2 α2 f2 hd2 oe2 ox w2 => hb.bind hd2 oe2 w2 fun S3 b y H3 G3 α3 f3 hd3 oe3 oy w3 =>
    rD_bind hd3 (ox.up f3.g f3.a) oy w3 fun S4 d v H4 G4 α4 f4 hd4 ov w4 => by
      obtain ⟨t, e, w5⟩ := onB_ok w4 ov
      refine ⟨t, e, ?_⟩
      cases t with
      | true => rw [if_pos rfl]; exact hc.bind hd4 (oe3.up f4.g f4.a) w5 fun S5 c z H5 G5 α5 f5 hd5 oe5 oz w6 => g2_ok hd5 ((oy.up f4.g f4.a).up f5.g f5.a) oz w6
      | false => rw [if_neg Bool.false_ne_true]; exact Wk.dat w5 hd4 (or_bl Z G4 α4 false)
variable {a b c : Expr} {pos : Pos}
theorem ptf_chain {op op' : CmpOp} {g g' : Dv → Dv → Option Rt} (h : OpR X (compareOp op) (rD Z g)) (h' : OpR X (compareOp op') (rD Z g')) (ha : PF Z Ew X a fa) (hb : PF Z Ew X b fb) (hc : PF Z Ew X c fc)
    (hm : lastMarks [op, op'] [b, c] = false := by with_unfolding_all rfl) : PTF Z Ew X (.Compare a [op, op'] [b, c] pos) (kVal (fChain g g' fa fb fc)) := by
  obtain ⟨ta, h1, h2⟩ := ha.ex
  obtain ⟨tb, h3, h4⟩ := hb.ex
  obtain ⟨tc, h5, h6⟩ := hc.ex
  exact ⟨_, pt_chain h h' h1 h3 h5 hm, st_val (se_chain h2 h4 h6)⟩
end
end DN
namespace DN
open PySem PySem.Spec PyProof.Rows L2 Evl
def vD (d : Dv) : Option Rt := some (.val (.d d))
def kHit (t : Bool) (a k : Dv) : Bool := match t with
  | false => decide (key? a = key? k)
  | true => decide (tkey? a = tkey? k)
def dLookG (g : Dv → Bool) : List Dv → List Dv → Option Dv
  | a :: ks, v :: vs => if g a then some v else dLookG g ks vs
  | _, _ => none
def dLook (t : Bool) (k : Dv) (ks vs : List Dv) : Option Dv := dLookG (fun a => kHit t a k) ks vs
def isKey (t : Bool) (k : Dv) : Bool := match t with
  | false => (key? k).isSome
  | true => (tkey? k).isSome
def gIx : Dv → Dv → Option Rt
  | .lst l, .int i => match atI l i with
    | some d => vD d
    | none => none
  | .tup l, .int i => match atI l i with
    | some d => vD d
    | none => none
  | .ktp l, .int i => match atI l i with
    | some d => vD d
    | none => none
  | .scr l, .int i => match atI l i with
    | some d => vI d
    | none => none
  | .str s, .int i => if s.length ≤ 100000 then (match atI s.cps.toList i with
    | some c => vS ⟨#[c]⟩
    | none => none) else none
  | .dic t ks vs, k => onlyIf (isKey t k) (match dLook t k ks vs with
    | some d => vD d
    | none => none)
  | _, _ => none
section
variable {Z : Zx} {X : Cx} {G H : Hp} {α : List Addr} {S : Sto} {Q : VK} {E : XK}
theorem wD {d : Dv} {v : V} (w : Wk Z (R.of S (vD d)) G α H (pRt Z Q) E) (hd : Hd Z G α S H) (o : On Z G d v) : Q v H := Wk.dat (v := .d d) w hd o
theorem onl_at {l : List Dv} {xs : List V} {i : Int} {d : Dv} (h : OnL Z G l xs) (e : atI l i = some d) : ∃ v, atI xs i = some v ∧ On Z G d v := by
  unfold atI at e ⊢
  rw [h.len]
  cases q : ixN l.length i with
  | none => rw [q] at e; cases e
  | some j => rw [q] at e; exact h.get e
theorem key_on {k : Dv} {x : V} {κ : Key} (h : OnH Z G H k x) (e : key? k = some κ) : x = kV κ := by
  cases k with
  | int i => cases e; cases h; rfl
  | str i => cases e; cases h; rfl
  | _ => cases e
theorem keys_on : ∀ {l : List Dv} {xs : List V} {kk : List Key}, OnL Z G l xs → l.mapM key? = some kk → xs = kk.map kV
  | [], xs, kk, h, e => by
    simp at e
    subst e
    rw [OnL.nil.mp h]
    rfl
  | d :: l, xs, kk, h, e => by
    obtain ⟨y, ys, rfl, h2, h3⟩ := OnL.cons.mp h
    rw [List.mapM_cons] at e
    cases q : key? d with
    | none => rw [q] at e; cases e
    | some a =>
      rw [q] at e
      cases q2 : l.mapM key? with
      | none => rw [q2] at e; cases e
      | some b =>
        rw [q2] at e
        cases e
        rw [keys_on h3 q2]
        have : y = kV a := key_on (H := G) (On.h (Ex.refl G) h2) q
        rw [this]
        rfl
theorem look_on {κ : Type} [DecidableEq κ] {f : Dv → Option κ} {k' : κ} {g : Dv → Bool} (hg : ∀ a b, f a = some b → g a = decide (b = k')) :
    ∀ {ks vs : List Dv} {kk : List κ} {ws : List V}, ks.map f = kk.map some → OnL Z G vs ws → ks.length = ws.length →
    (∀ d, dLookG g ks vs = some d → ∃ v, valV (kk.zip ws) k' = some v ∧ On Z G d v) ∧ (dLookG g ks vs = none → valV (kk.zip ws) k' = none)
  | [], vs, kk, ws, h1, h2, h3 => by
    have : ws = [] := List.length_eq_zero_iff.mp h3.symm
    subst this
    have e : kk = [] := by cases kk with
      | nil => rfl
      | cons a b => simp at h1
    subst e
    refine ⟨fun d h => ?_, fun _ => rfl⟩
    unfold dLookG at h
    cases h
  | a :: ks, vs, kk, ws, h1, h2, h3 => by
    cases kk with
    | nil => simp at h1
    | cons b kk =>
      simp only [List.map_cons, List.cons.injEq] at h1
      cases ws with
      | nil => simp at h3
      | cons w ws =>
        cases vs with
        | nil => have := OnL.nil.mp h2; cases this
        | cons v vs =>
          obtain ⟨y, ys, e, h4, h5⟩ := OnL.cons.mp h2
          cases e
          have ih := look_on hg (ks := ks) h1.2 h5 (by simpa using h3)
          have hb := hg a b h1.1
          show (∀ d, (if g a then some v else dLookG g ks vs) = some d → _) ∧ ((if g a then some v else dLookG g ks vs) = none → _)
          rw [hb, List.zip_cons_cons]
          by_cases q : b = k'
          · rw [decide_eq_true q, if_pos rfl]
            refine ⟨fun d e => ?_, fun e => ?_⟩
            · cases e
              exact ⟨w, valV_pos q, h4⟩
            · cases e
          · rw [decide_eq_false q, if_neg Bool.false_ne_true]
            rw [show valV ((b, w) :: kk.zip ws) k' = valV (kk.zip ws) k' from valV_neg q]
            exact ih
/-- what a dict tells of a key -/
theorem dic_get {t : Bool} {ks vs : List Dv} {k : Dv} {x y : V} (eG : Ex G H) (hx : OnH Z G H (.dic t ks vs) x) (hy : OnH Z G H k y) (hk : isKey t k = true) :
    ∃ a, x = .ref a ∧ (∀ d, dLook t k ks vs = some d → ∃ v, DGet H a y (some v) ∧ On Z G d v) ∧ (dLook t k ks vs = none → DGet H a y none) := by
  obtain ⟨a, ws, rfl, h1, h2, h3⟩ := hx
  refine ⟨a, rfl, ?_⟩
  cases t with
  | false =>
    obtain ⟨kk, e1, e2⟩ := h1
    cases q : key? k with
    | none => simp [isKey, q] at hk
    | some κ =>
      have ey := key_on hy q
      subst ey
      obtain ⟨p1, p2⟩ := look_on (f := key?) (k' := κ) (g := fun a => kHit false a k) (fun a b e => by
        show decide (key? a = key? k) = decide (b = κ)
        rw [e, q, decide_eq_decide, Option.some.injEq]) e1 h3 h2
      refine ⟨fun d e => ?_, fun e => ?_⟩
      · obtain ⟨v, e3, o⟩ := p1 d e
        exact ⟨v, e3 ▸ DGet.k e2, o⟩
      · exact p2 e ▸ DGet.k e2
  | true =>
    obtain ⟨kk, e1, e2⟩ := h1
    cases k with
    | tup l =>
      cases q : l.mapM key? with
      | none => simp [isKey, tkey?, q] at hk
      | some κ =>
        obtain ⟨b, xs, rfl, h4, h5⟩ := hy
        have ex := keys_on h5 q
        subst ex
        obtain ⟨p1, p2⟩ := look_on (f := tkey?) (k' := κ) (g := fun a => kHit true a (.tup l)) (fun a b e => by
          show decide (tkey? a = tkey? (.tup l)) = decide (b = κ)
          rw [e, show tkey? (.tup l) = some κ from q, decide_eq_decide, Option.some.injEq]) e1 h3 h2
        refine ⟨fun d e => ?_, fun e => ?_⟩
        · obtain ⟨v, e3, o⟩ := p1 d e
          exact ⟨v, e3 ▸ DGet.t e2 (eG _ _ h4), o⟩
        · exact p2 e ▸ DGet.t e2 (eG _ _ h4)
    | _ => simp [isKey, tkey?] at hk
theorem ix_dict (hu : X.A.units + 1 < cLine) : IxR X (fun x y H Q => ∃ a v, x = .ref a ∧ DGet H a y (some v) ∧ Q v H) := by
  intro value slice pins s σ H x y v u Q I rx ry h hs
  obtain ⟨a, r, rfl, g, q⟩ := h
  cases rx
  exact tail_any (dict_typeIs I g) PySem.F.slot_dict_getitem.lookup (d_getItem hu I g ry fun w' s3 I3 rw' => ⟨r, H, I3, rw', q⟩) hs
theorem ix_d (hu : X.A.units + 1 < cLine) (hK : X.K = Z.K) : IxR X (rD Z gIx) := by
  intro value slice pins s σ H x y v u Q I rx ry h hs
  obtain ⟨G, α, S, a, b, hd, ha, hb, w⟩ := h
  cases a with
  | lst l =>
    cases b with
    | int i =>
      cases hb
      obtain ⟨p, xs, rfl, h1, h2⟩ := ha
      have w' : Wk Z (R.of S (match atI l i with | some d => vD d | none => none)) G α H (pRt Z Q) E0 := w
      cases e : atI l i with
      | none => simp only [e] at w'; exact w'.elim
      | some d =>
        simp only [e] at w'
        obtain ⟨r, e2, o⟩ := onl_at h2 e
        exact ix_list value slice pins s σ H _ _ v u Q I rx ry ⟨p, xs, i, r, rfl, rfl, hK ▸ SqL.of h1, e2, wD w' hd o⟩ hs
    | _ => exact w.elim
  | tup l =>
    cases b with
    | int i =>
      cases hb
      obtain ⟨p, xs, rfl, h1, h2⟩ := ha
      have w' : Wk Z (R.of S (match atI l i with | some d => vD d | none => none)) G α H (pRt Z Q) E0 := w
      cases e : atI l i with
      | none => simp only [e] at w'; exact w'.elim
      | some d =>
        simp only [e] at w'
        obtain ⟨r, e2, o⟩ := onl_at h2 e
        exact ix_tup value slice pins s σ H _ _ v u Q I rx ry ⟨p, xs, i, r, rfl, rfl, hK ▸ SqT.of (hd.ex _ _ h1), e2, wD w' hd o⟩ hs
    | _ => exact w.elim
  | ktp l =>
    cases b with
    | int i =>
      cases hb
      obtain ⟨p, xs, rfl, h1, h2⟩ := ha
      have w' : Wk Z (R.of S (match atI l i with | some d => vD d | none => none)) G α H (pRt Z Q) E0 := w
      cases e : atI l i with
      | none => simp only [e] at w'; exact w'.elim
      | some d =>
        simp only [e] at w'
        obtain ⟨r, e2, o⟩ := onl_at h2 e
        exact ix_tup value slice pins s σ H _ _ v u Q I rx ry ⟨p, xs, i, r, rfl, rfl, hK ▸ h1.sq hd.ex, e2, wD w' hd o⟩ hs
    | _ => exact w.elim
  | scr l =>
    cases b with
    | int i =>
      cases hb
      obtain ⟨p, rfl, h1⟩ := ha
      have w' : Wk Z (R.of S (match atI l i with | some d => vI d | none => none)) G α H (pRt Z Q) E0 := w
      cases e : atI l i with
      | none => simp only [e] at w'; exact w'.elim
      | some d =>
        simp only [e] at w'
        refine ix_list value slice pins s σ H _ _ v u Q I rx ry ⟨p, l.map V.int, i, .int d, rfl, rfl, hK ▸ ex_l hd.ex h1, ?_, wI w' hd⟩ hs
        unfold atI at e ⊢
        rw [List.length_map]
        cases q : ixN l.length i with
        | none => rw [q] at e; cases e
        | some j =>
          rw [q] at e
          show (l.map V.int)[j]? = _
          rw [List.getElem?_map, show l[j]? = some d from e]
          rfl
    | _ => exact w.elim
  | str t =>
    cases b with
    | int i =>
      cases hb; cases ha
      have w' : Wk Z (R.of S (if t.length ≤ 100000 then (match atI t.cps.toList i with | some c => vS ⟨#[c]⟩ | none => none) else none)) G α H (pRt Z Q) E0 := w
      by_cases hl : t.length ≤ 100000
      · rw [if_pos hl] at w'
        cases e : atI t.cps.toList i with
        | none => simp only [e] at w'; exact w'.elim
        | some c =>
          simp only [e] at w'
          exact ix_str value slice pins s σ H _ _ v u Q I rx ry ⟨t, i, c, rfl, rfl, sz_of hl, e, wS w' hd⟩ hs
      · rw [if_neg hl] at w'
        exact w'.elim
    | _ => exact w.elim
  | dic t ks vs =>
    have w' : Wk Z (R.of S (onlyIf (isKey t b) (match dLook t b ks vs with | some d => vD d | none => none))) G α H (pRt Z Q) E0 := by cases b <;> exact w
    obtain ⟨hk, w'⟩ := onlyIf_ok w'
    obtain ⟨p, rfl, p1, p2⟩ := dic_get hd.ex ha hb hk
    cases e : dLook t b ks vs with
    | none => simp only [e] at w'; exact w'.elim
    | some d =>
      simp only [e] at w'
      obtain ⟨r, g, o⟩ := p1 d e
      exact ix_dict hu value slice pins s σ H _ _ v u Q I rx ry ⟨p, r, rfl, g, wD w' hd o⟩ hs
  | _ => cases b <;> exact w.elim
variable {Ew : L2.St → XK} {a b c : Expr} {fa fb fc : FE} {pos : Pos}
theorem pf_ix {g : Dv → Dv → Option Rt} (h : IxR X (rD Z g)) (ha : PF Z Ew X a fa) (hb : PF Z Ew X b fb) (hs : PlainIx b := by exact fun _ _ => rfl) : PF Z Ew X (.Subscript a b pos) (fOp g fa fb) := by
  obtain ⟨ta, h1, h2⟩ := ha.ex
  obtain ⟨tb, h3, h4⟩ := hb.ex
  exact ⟨_, pe_ix h h1 h3 hs, se_op h2 h4⟩
abbrev FO := Env → Sto → R (Option Int)
def fNoPart : FO := fun _ S => .ok S none
def fPart (fa : FE) : FO := fun env S => (fa env S).bindV fun S1 a => match a with
  | .d (.int i) => .ok S1 (some i)
  | _ => .no
def pO (Q : Option Int → Hp → Prop) : Pst (Option Int) := ⟨fun b _ _ _ H2 => Q b H2, fun _ q => q⟩
def SO (Z : Zx) (Ew : L2.St → XK) (t : TO) (f : FO) : Prop := ∀ env σ G α S H Q, Hd Z G α S H → OnE Z G α env σ → Wk Z (f env S) G α H (pO Q) (Ew σ) → t σ H Q
structure POF (Z : Zx) (Ew : L2.St → XK) (X : Cx) (e : Option Expr) (f : FO) : Prop where
  ex : ∃ te, PO X e te ∧ SO Z Ew te f
theorem pof_none : POF Z Ew X none fNoPart := ⟨_, po_none, fun env σ G α S H Q hd oe w => w.here hd⟩
theorem pof_some (h : PF Z Ew X a fa) : POF Z Ew X (some a) (fPart fa) := by
  obtain ⟨ta, h1, h2⟩ := h.ex
  refine ⟨_, po_some h1, fun env σ G α S H Q hd oe w => h2.bind hd oe w fun S2 d x H2 G2 α2 f2 hd2 oe2 ox w2 => ?_⟩
  match d, w2, ox with
  | .d (.int i), w2, ox =>
    have e : On Z G2 (.int i) x := ox
    unfold On at e
    exact ⟨i, e, w2.here hd2⟩
def cutL {β : Type} (l : List β) (lo hi : Option Int) : List β := (l.drop (HT.sIx l.length 0 lo)).take (HT.sIx l.length l.length hi - HT.sIx l.length 0 lo)
def gSl (lo hi : Option Int) : Dv → Option Rt
  | .lst l => nL (cutL l lo hi)
  | .tup l => vT (cutL l lo hi)
  | .str s => if s.length ≤ 100000 then vS (cutS s lo hi) else none
  | _ => none
def fSl (fa : FE) (lo hi : FO) : FE := fun env S => (fa env S).bindV fun S1 a => (lo env S1).bind fun S2 l => (hi env S2).bind fun S3 h => g1 S3 a (gSl l h)
theorem onl_cut {l : List Dv} {xs : List V} (h : OnL Z G l xs) (lo hi : Option Int) : OnL Z G (cutL l lo hi) (cutV xs lo hi) := by
  unfold cutL cutV
  rw [h.len]
  exact (h.drop _).take _
theorem cut_all {l : List Dv} {lo hi : Option Int} (h : HT.sIx l.length 0 lo = 0 ∧ HT.sIx l.length l.length hi = l.length) : cutL l lo hi = l := by
  unfold cutL
  rw [h.1, h.2, List.drop_zero, Nat.sub_zero, List.take_length]
def rSl (Z : Zx) : V → Option Int → Option Int → Hp → VK → Prop := fun x lo hi H Q => rU Z (gSl lo hi) x H Q
theorem sl_d (hK : X.K = Z.K) : L2.SlR X (rSl Z) := by
  intro pins s σ H x v vl vu lo hi sl Q I rx hs pl pu h
  obtain ⟨G, α, S, a, hd, ha, w⟩ := h
  cases a with
  | lst l =>
    obtain ⟨p, xs, rfl, h1, h2⟩ := ha
    exact sl_list pins s σ H _ v vl vu lo hi sl Q I rx hs pl pu ⟨p, xs, rfl, hK ▸ SqL.of h1, fun q hq => wL w hd (onl_cut h2 lo hi) hq⟩
  | tup l =>
    obtain ⟨p, xs, rfl, h1, h2⟩ := ha
    refine sl_tupA pins s σ H _ v vl vu lo hi sl Q I rx hs pl pu ⟨p, xs, rfl, SqT.of (hd.ex _ _ h1), fun e => ?_, fun _ q hq => wT w hd (onl_cut h2 lo hi) hq⟩
    rw [h2.len] at e
    have w' : Wk Z (R.of S (vT (cutL l lo hi))) G α H (pRt Z Q) E0 := w
    rw [cut_all e] at w'
    exact wkT w' hd h1 h2
  | str t =>
    cases ha
    have w' : Wk Z (R.of S (if t.length ≤ 100000 then vS (cutS t lo hi) else none)) G α H (pRt Z Q) E0 := w
    by_cases hl : t.length ≤ 100000
    · rw [if_pos hl] at w'
      exact sl_str pins s σ H _ v vl vu lo hi sl Q I rx hs pl pu ⟨t, rfl, sz_of hl, wS w' hd⟩
    · rw [if_neg hl] at w'
      exact w'.elim
  | _ => exact w.elim
theorem pf_slice {lo hi : Option Expr} {fl fh : FO} {p2 : Pos} (hK : X.K = Z.K) (ha : PF Z Ew X a fa) (hl : POF Z Ew X lo fl) (hh : POF Z Ew X hi fh) : PF Z Ew X (.Subscript a (.Slice lo hi none p2) pos) (fSl fa fl fh) := by
  obtain ⟨ta, h1, h2⟩ := ha.ex
  obtain ⟨tl, h3, h4⟩ := hl.ex
  obtain ⟨th, h5, h6⟩ := hh.ex
  refine ⟨_, pe_slice (sl_d hK) h1 h3 h5, fun env σ G α S H Q hd oe w => h2.bind hd oe w fun S2 d x H2 G2 α2 f2 hd2 oe2 ox w2 => ?_⟩
  refine h4 env σ G2 α2 S2 H2 _ hd2 oe2 (w2.bind (P' := pO _) fun S3 l H3 G3 α3 f3 hd3 w3 => ?_)
  refine h6 env σ G3 α3 S3 H3 _ hd3 (oe2.up f3.g f3.a) (w3.bind (P' := pO _) fun S4 u H4 G4 α4 f4 hd4 w4 => ?_)
  exact g1_ok hd4 ((ox.up f3.g f3.a).up f4.g f4.a) w4
end
end DN
namespace DN
open PySem PySem.Spec PyProof.Rows L2 Evl
def OnHA (Z : Zx) (G H : Hp) : List Dv → List V → Prop
  | [], xs => xs = []
  | d :: l, xs => ∃ y ys, xs = y :: ys ∧ OnH Z G H d y ∧ OnHA Z G H l ys
def snaps (S : Sto) : List Vr → Option (List Dv)
  | [] => some []
  | r :: l => match snap S r, snaps S l with
    | some d, some m => some (d :: m)
    | _, _ => none
section
variable {Z : Zx} {X : Cx} {G H : Hp} {α : List Addr} {S : Sto} {Q : VK} {E : XK}
theorem snaps_on : ∀ {l : List Vr} {vs : List V} {ds : List Dv}, Hd Z G α S H → OnA Z G α l vs → snaps S l = some ds → OnHA Z G H ds vs
  | [], vs, ds, hd, h, e => by cases e; exact h
  | r :: l, vs, ds, hd, h, e => by
    obtain ⟨y, ys, rfl, h2, h3⟩ := h
    unfold snaps at e
    cases e1 : snap S r with
    | none => rw [e1] at e; cases e
    | some d =>
      cases e2 : snaps S l with
      | none => rw [e1, e2] at e; cases e
      | some m =>
        rw [e1, e2] at e
        cases e
        exact ⟨y, ys, rfl, snap_on hd h2 e1, snaps_on hd h3 e2⟩
theorem OnHA.one {d : Dv} {xs : List V} (h : OnHA Z G H [d] xs) : ∃ y, xs = [y] ∧ OnH Z G H d y := by
  obtain ⟨y, ys, rfl, h2, h3⟩ := h
  cases (show ys = [] from h3)
  exact ⟨y, rfl, h2⟩
theorem OnHA.two {d e : Dv} {xs : List V} (h : OnHA Z G H [d, e] xs) : ∃ y z, xs = [y, z] ∧ OnH Z G H d y ∧ OnH Z G H e z := by
  obtain ⟨y, ys, rfl, h2, h3⟩ := h
  obtain ⟨z, rfl, h4⟩ := h3.one
  exact ⟨y, z, rfl, h2, h4⟩
def gA (S : Sto) (l : List Vr) (g : List Dv → Option Rt) : R Rt := match snaps S l with
  | some ds => R.of S (g ds)
  | none => .no
def fCall (g : List Dv → Option Rt) (fa : FA) : FE := fun env S => (fa env S).bind fun S1 l => gA S1 l g
def rA (Z : Zx) (g : List Dv → Option Rt) : List V → Hp → VK → Prop := fun xs H Q => ∃ G α S l, Hd Z G α S H ∧ OnHA Z G H l xs ∧ Wk Z (R.of S (g l)) G α H (pRt Z Q) E0
theorem gA_ok {l : List Vr} {vs : List V} {g : List Dv → Option Rt} (hd : Hd Z G α S H) (ol : OnA Z G α l vs) (w : Wk Z (gA S l g) G α H (pRt Z Q) E) : rA Z g vs H Q := by
  unfold gA at w
  cases e : snaps S l with
  | none => rw [e] at w; exact w.elim
  | some ds => rw [e] at w; exact ⟨G, α, S, ds, hd, snaps_on hd ol e, w.any⟩
variable {Ew : L2.St → XK} {ta : TA} {fa : FA}
theorem se_call {g : List Dv → Option Rt} (ha : SA Z Ew ta fa) : SE Z Ew (tCB (rA Z g) ta) (fCall g fa) := fun env σ G α S H Q hd oe w =>
  ha.bind hd oe w fun S2 l vs H2 G2 α2 f2 hd2 oe2 ol w2 => gA_ok hd2 ol w2
variable {x : Str} {p pos : Pos} {e : Expr} {es : List Expr}
theorem pf_callB {id : String} {g : List Dv → Option Rt} (hc : CallR X (.builtin id) (rA Z g)) (hg : Gl X x) (hm : X.mg x = none) (hv : bootBuiltins x = some (.builtin id)) (ha : PAF Z Ew X (e :: es) fa) (hn : x ≠ "__name__" := by decide) (hdb : (x == ("__debug__" : Str)) = false := by decide)
    (he : starEach (e :: es) X.env = (false, eval e X.env) :: starEach es X.env := by rfl) (hpl : (backTo pos (starEach es X.env)).any (·.1) = false := by rfl) : PF Z Ew X (.Call (.Name x p) (e :: es) [] pos) (fCall g fa) := by
  obtain ⟨ta, h1, h2⟩ := ha.ex
  exact ⟨_, pe_callB hc hg hm hv h1 hn hdb he hpl, se_call h2⟩
theorem pf_callT {T : String} {g : List Dv → Option Rt} (hc : CallR X (.type T) (rA Z g)) (hg : Gl X x) (hm : X.mg x = none) (hv : bootBuiltins x = some (.type T)) (ha : PAF Z Ew X (e :: es) fa) (hn : x ≠ "__name__" := by decide) (hdb : (x == ("__debug__" : Str)) = false := by decide)
    (he : starEach (e :: es) X.env = (false, eval e X.env) :: starEach es X.env := by rfl) (hpl : (backTo pos (starEach es X.env)).any (·.1) = false := by rfl) : PF Z Ew X (.Call (.Name x p) (e :: es) [] pos) (fCall g fa) := by
  obtain ⟨ta, h1, h2⟩ := ha.ex
  exact ⟨_, pe_callTy hc hg hm hv h1 hn hdb he hpl, se_call h2⟩
end
def arg1 (f : Dv → Option Rt) : List Dv → Option Rt
  | [x] => f x
  | _ => none
def arg12 (f : Dv → Option Rt) (g : Dv → Dv → Option Rt) : List Dv → Option Rt
  | [x] => f x
  | [x, y] => g x y
  | _ => none
theorem arg1_ok {Z : Zx} {G H : Hp} {α : List Addr} {S : Sto} {P : Pst Rt} {E : XK} {f : Dv → Option Rt} {l : List Dv} {xs : List V} (h : OnHA Z G H l xs) (w : Wk Z (R.of S (arg1 f l)) G α H P E) : ∃ x y, xs = [y] ∧ OnH Z G H x y ∧ Wk Z (R.of S (f x)) G α H P E := by
  cases l with
  | nil => exact w.elim
  | cons a r =>
    cases r with
    | nil =>
      obtain ⟨y, e, o⟩ := h.one
      exact ⟨a, y, e, o, w⟩
    | cons b r => exact w.elim
theorem arg12_ok {Z : Zx} {G H : Hp} {α : List Addr} {S : Sto} {P : Pst Rt} {E : XK} {f : Dv → Option Rt} {g : Dv → Dv → Option Rt} {l : List Dv} {xs : List V} (h : OnHA Z G H l xs) (w : Wk Z (R.of S (arg12 f g l)) G α H P E) :
    (∃ x y, xs = [y] ∧ OnH Z G H x y ∧ Wk Z (R.of S (f x)) G α H P E) ∨ ∃ x x2 y y2, xs = [y, y2] ∧ OnH Z G H x y ∧ OnH Z G H x2 y2 ∧ Wk Z (R.of S (g x x2)) G α H P E := by
  cases l with
  | nil => exact w.elim
  | cons a r =>
    cases r with
    | nil =>
      obtain ⟨y, e, o⟩ := h.one
      exact .inl ⟨a, y, e, o, w⟩
    | cons b r =>
      cases r with
      | nil =>
        obtain ⟨y, z, e, o, o2⟩ := h.two
        exact .inr ⟨a, b, y, z, e, o, o2, w⟩
      | cons c r => exact w.elim
def gLen1 : Dv → Option Rt
  | .lst l => vI l.length
  | .tup l => vI l.length
  | .ktp l => vI l.length
  | .scr l => vI l.length
  | .str s => if s.length ≤ 100000 then vI s.length else none
  | .dic false ks _ => vI ks.length
  | _ => none
def gLen : List Dv → Option Rt := arg1 gLen1
def ints? : List Dv → Option (List Int)
  | [] => some []
  | .int i :: l => match ints? l with
    | some m => some (i :: m)
    | none => none
  | _ => none
def bools? : List Dv → Option (List Bool)
  | [] => some []
  | .bl i :: l => match bools? l with
    | some m => some (i :: m)
    | none => none
  | _ => none
def strs? : List Dv → Option (List Str)
  | [] => some []
  | .str i :: l => match strs? l with
    | some m => some (i :: m)
    | none => none
  | _ => none
def maxI : List Int → Option Int
  | [] => none
  | i :: l => match maxI l with
    | some m => some (if m ≤ i then i else m)
    | none => some i
def minI : List Int → Option Int
  | [] => none
  | i :: l => match minI l with
    | some m => some (if i ≤ m then i else m)
    | none => some i
def onI (o : Option (List Int)) (f : List Int → Option Rt) : Option Rt := match o with
  | some l => f l
  | none => none
def gMax1 : Dv → Option Rt
  | .lst l => onI (ints? l) fun ns => match maxI ns with
    | some m => vI m
    | none => none
  | _ => none
def gMax2 : Dv → Dv → Option Rt
  | .int i, .int j => vI (if j > i then j else i)
  | _, _ => none
def gMax : List Dv → Option Rt := arg12 gMax1 gMax2
def gMin1 : Dv → Option Rt
  | .lst l => onI (ints? l) fun ns => match minI ns with
    | some m => vI m
    | none => none
  | _ => none
def gMin2 : Dv → Dv → Option Rt
  | .int i, .int j => vI (if j < i then j else i)
  | _, _ => none
def gMin : List Dv → Option Rt := arg12 gMin1 gMin2
def gInt1 : Dv → Option Rt
  | .int i => vI i
  | .bl b => vI (if b then 1 else 0)
  | .str s => if s.length ≤ 640 then (match PySem.intText? s with
    | some n => vI n
    | none => none) else none
  | _ => none
def gInt : List Dv → Option Rt := arg1 gInt1
def gAll1 : Dv → Option Rt
  | .lst l => match bools? l with
    | some bs => vB (bs.all id)
    | none => none
  | _ => none
def gAll : List Dv → Option Rt := arg1 gAll1
def gList1 : Dv → Option Rt
  | .lst l => nL l
  | .tup l => nL l
  | .ktp l => nL l
  | .str s => if s.length ≤ 100000 then nL (s.cps.toList.map fun c => .str ⟨#[c]⟩) else none
  | _ => none
def gList : List Dv → Option Rt := arg1 gList1
def gTuple1 : Dv → Option Rt
  | .lst l => vT l
  | .tup l => vT l
  | _ => none
def gTuple : List Dv → Option Rt := arg1 gTuple1
def insI (i : Int) : List Int → List Int
  | [] => [i]
  | j :: l => if i ≤ j then i :: j :: l else j :: insI i l
def sortI : List Int → List Int
  | [] => []
  | i :: l => insI i (sortI l)
def gSorted1 : Dv → Option Rt
  | .lst l => onI (ints? l) fun ns => nL ((sortI ns).map .int)
  | _ => none
def gSorted : List Dv → Option Rt := arg1 gSorted1
def gStr1 : Dv → Option Rt
  | .int i => if i.natAbs.log2 < 1920 then vS (toString i) else none
  | .str s => vS s
  | _ => none
def gStr : List Dv → Option Rt := arg1 gStr1
section
variable {Z : Zx} {X : Cx} {G H : Hp} {α : List Addr} {S : Sto} {Q : VK} {E : XK}
theorem ints_on : ∀ {l : List Dv} {ns : List Int} {xs : List V}, ints? l = some ns → OnL Z G l xs → xs = ns.map V.int
  | [], ns, xs, e, h => by cases e; rw [OnL.nil.mp h]; rfl
  | .int i :: l, ns, xs, e, h => by
    obtain ⟨y, ys, rfl, h2, h3⟩ := OnL.cons.mp h
    unfold ints? at e
    cases q : ints? l with
    | none => rw [q] at e; cases e
    | some m =>
      rw [q] at e
      cases e
      unfold On at h2
      rw [h2, ints_on q h3]
      rfl
theorem bools_on : ∀ {l : List Dv} {ns : List Bool} {xs : List V}, bools? l = some ns → OnL Z G l xs → xs = ns.map V.bl
  | [], ns, xs, e, h => by cases e; rw [OnL.nil.mp h]; rfl
  | .bl i :: l, ns, xs, e, h => by
    obtain ⟨y, ys, rfl, h2, h3⟩ := OnL.cons.mp h
    unfold bools? at e
    cases q : bools? l with
    | none => rw [q] at e; cases e
    | some m =>
      rw [q] at e
      cases e
      unfold On at h2
      rw [h2, bools_on q h3]
      rfl
theorem strs_on : ∀ {l : List Dv} {ns : List Str} {xs : List V}, strs? l = some ns → OnL Z G l xs → xs = ns.map V.str
  | [], ns, xs, e, h => by cases e; rw [OnL.nil.mp h]; rfl
  | .str i :: l, ns, xs, e, h => by
    obtain ⟨y, ys, rfl, h2, h3⟩ := OnL.cons.mp h
    unfold strs? at e
    cases q : strs? l with
    | none => rw [q] at e; cases e
    | some m =>
      rw [q] at e
      cases e
      unfold On at h2
      rw [h2, strs_on q h3]
      rfl
theorem on_ints : ∀ (ns : List Int), OnL Z G (ns.map .int) (ns.map V.int)
  | [] => OnL.nil'
  | i :: l => OnL.cons' on_int (on_ints l)
theorem maxI_ok : ∀ {l : List Int} {m : Int}, maxI l = some m → m ∈ l ∧ ∀ y ∈ l, y ≤ m
  | [], m, e => by cases e
  | i :: l, m, e => by
    unfold maxI at e
    cases q : maxI l with
    | none =>
      rw [q] at e
      cases e
      have : l = [] := by
        cases l with
        | nil => rfl
        | cons a b => unfold maxI at q; cases r : maxI b <;> simp [r] at q
      subst this
      exact ⟨by simp, fun y hy => by simp at hy; omega⟩
    | some k =>
      rw [q] at e
      obtain ⟨h1, h2⟩ := maxI_ok q
      cases e
      by_cases c : k ≤ i
      · rw [if_pos c]
        exact ⟨by simp, fun y hy => by
          rcases List.mem_cons.mp hy with rfl | hy
          · omega
          · have := h2 y hy; omega⟩
      · rw [if_neg c]
        exact ⟨List.mem_cons_of_mem _ h1, fun y hy => by
          rcases List.mem_cons.mp hy with rfl | hy
          · omega
          · exact h2 y hy⟩
theorem minI_ok : ∀ {l : List Int} {m : Int}, minI l = some m → m ∈ l ∧ ∀ y ∈ l, m ≤ y
  | [], m, e => by cases e
  | i :: l, m, e => by
    unfold minI at e
    cases q : minI l with
    | none =>
      rw [q] at e
      cases e
      have : l = [] := by
        cases l with
        | nil => rfl
        | cons a b => unfold minI at q; cases r : minI b <;> simp [r] at q
      subst this
      exact ⟨by simp, fun y hy => by simp at hy; omega⟩
    | some k =>
      rw [q] at e
      obtain ⟨h1, h2⟩ := minI_ok q
      cases e
      by_cases c : i ≤ k
      · rw [if_pos c]
        exact ⟨by simp, fun y hy => by
          rcases List.mem_cons.mp hy with rfl | hy
          · omega
          · have := h2 y hy; omega⟩
      · rw [if_neg c]
        exact ⟨List.mem_cons_of_mem _ h1, fun y hy => by
          rcases List.mem_cons.mp hy with rfl | hy
          · omega
          · exact h2 y hy⟩
theorem insI_perm (i : Int) : ∀ l : List Int, (insI i l).Perm (i :: l)
  | [] => .refl _
  | j :: l => by
    unfold insI
    split
    · exact .refl _
    · exact ((insI_perm i l).cons j).trans (.swap i j l)
theorem sortI_perm : ∀ l : List Int, (sortI l).Perm l
  | [] => .refl _
  | i :: l => (insI_perm i _).trans ((sortI_perm l).cons i)
theorem insI_pw {i : Int} : ∀ {l : List Int}, l.Pairwise (· ≤ ·) → (insI i l).Pairwise (· ≤ ·)
  | [], _ => by unfold insI; exact List.pairwise_singleton _ _
  | j :: l, h => by
    unfold insI
    rw [List.pairwise_cons] at h
    split
    · rename_i c
      rw [List.pairwise_cons]
      exact ⟨fun y hy => by
        rcases List.mem_cons.mp hy with rfl | hy
        · exact c
        · have := h.1 y hy; omega, List.pairwise_cons.mpr h⟩
    · rename_i c
      rw [List.pairwise_cons]
      exact ⟨fun y hy => by
        rcases List.mem_cons.mp ((insI_perm i l).mem_iff.mp hy) with rfl | hy
        · omega
        · exact h.1 y hy, insI_pw h.2⟩
theorem sortI_pw : ∀ l : List Int, (sortI l).Pairwise (· ≤ ·)
  | [] => .nil
  | i :: l => insI_pw (sortI_pw l)
theorem pw_perm_eq : ∀ {a b : List Int}, a.Perm b → a.Pairwise (· ≤ ·) → b.Pairwise (· ≤ ·) → a = b := fun {a b} p h1 h2 => p.eq_of_pairwise (fun x y _ _ h3 h4 => Int.le_antisymm h3 h4) h1 h2
theorem cd_len (hK : X.K = Z.K) : CallR X (.builtin "len") (rA Z gLen) := by
  intro pins s σ H xs us Q I r h
  obtain ⟨G, α, S, l, hd, hl, w⟩ := h
  obtain ⟨x, y, rfl, hx, w⟩ := arg1_ok hl w
  cases x with
  | lst l =>
    obtain ⟨a, xs, rfl, h1, h2⟩ := hx
    have w' := wI w hd
    rw [← h2.len] at w'
    exact call_len_seq pins s σ H _ us Q I r ⟨a, xs, rfl, .inl (SqL.of h1), w'⟩
  | tup l =>
    obtain ⟨a, xs, rfl, h1, h2⟩ := hx
    have w' := wI w hd
    rw [← h2.len] at w'
    exact call_len_seq pins s σ H _ us Q I r ⟨a, xs, rfl, .inr (SqT.of (hd.ex _ _ h1)), w'⟩
  | ktp l =>
    obtain ⟨a, xs, rfl, h1, h2⟩ := hx
    have w' := wI w hd
    rw [← h2.len] at w'
    exact call_len_seq pins s σ H _ us Q I r ⟨a, xs, rfl, .inr (hK ▸ h1.sq hd.ex), w'⟩
  | scr l =>
    obtain ⟨a, rfl, h1⟩ := hx
    have w' := wI w hd
    rw [← List.length_map (f := V.int)] at w'
    exact call_len_seq pins s σ H _ us Q I r ⟨a, _, rfl, .inl (hK ▸ ex_l hd.ex h1), w'⟩
  | str t =>
    cases hx
    have w' : Wk Z (R.of S (if t.length ≤ 100000 then vI t.length else none)) G α H (pRt Z Q) E0 := w
    by_cases c : t.length ≤ 100000
    · rw [if_pos c] at w'
      exact call_len_str pins s σ H _ us Q I r ⟨t, rfl, sz_of c, wI w' hd⟩
    · rw [if_neg c] at w'
      exact w'.elim
  | dic t ks vs =>
    cases t with
    | true => exact w.elim
    | false =>
    obtain ⟨a, ws, rfl, ⟨kk, e1, e2⟩, h2, h3⟩ := hx
    have w' := wI w hd
    have e3 : kk.length = ks.length := by have := congrArg List.length e1; rw [List.length_map, List.length_map] at this; exact this.symm
    refine call_lenD pins s σ H _ us Q I r ⟨a, kk.zip ws, rfl, e2, ?_⟩
    rw [List.length_zip, e3, ← h2, Nat.min_self]
    exact w'
  | _ => exact w.elim
theorem cd_max (hc : X.calm = true) (hK : X.K = Z.K) : CallR X (.builtin "max") (rA Z gMax) := by
  intro pins s σ H xs us Q I r h
  obtain ⟨G, α, S, l, hd, hl, w⟩ := h
  rcases arg12_ok hl w with ⟨x, y, rfl, hx, w⟩ | ⟨x, x2, y, y2, rfl, hx, hx2, w⟩
  · cases x with
    | lst l =>
      obtain ⟨a, xs, rfl, h1, h2⟩ := hx
      have w' : Wk Z (R.of S (onI (ints? l) fun ns => match maxI ns with | some m => vI m | none => none)) G α H (pRt Z Q) E0 := w
      cases q : ints? l with
      | none => rw [q] at w'; exact w'.elim
      | some ns =>
        rw [q] at w'
        have w' : Wk Z (R.of S (match maxI ns with | some m => vI m | none => none)) G α H (pRt Z Q) E0 := w'
        cases q2 : maxI ns with
        | none => simp only [q2] at w'; exact w'.elim
        | some m =>
          simp only [q2] at w'
          obtain ⟨m1, m2⟩ := maxI_ok q2
          have ex := ints_on q h2
          subst ex
          refine cr_max hc pins s σ H _ us Q I r ⟨a, ns, rfl, SqL.of h1, List.length_pos_of_mem m1, fun k k1 k2 => ?_⟩
          have e : k = m := Int.le_antisymm (m2 k k1) (k2 m m1)
          subst e
          exact wI w' hd
    | _ => exact w.elim
  · cases x with
    | int i =>
      cases x2 with
      | int j => cases hx; cases hx2; exact call_max2 hc pins s σ H _ us Q I r ⟨i, j, rfl, wI w hd⟩
      | _ => exact w.elim
    | _ => cases x2 <;> exact w.elim
theorem cd_min (hc : X.calm = true) (hK : X.K = Z.K) : CallR X (.builtin "min") (rA Z gMin) := by
  intro pins s σ H xs us Q I r h
  obtain ⟨G, α, S, l, hd, hl, w⟩ := h
  rcases arg12_ok hl w with ⟨x, y, rfl, hx, w⟩ | ⟨x, x2, y, y2, rfl, hx, hx2, w⟩
  · cases x with
    | lst l =>
      obtain ⟨a, xs, rfl, h1, h2⟩ := hx
      have w' : Wk Z (R.of S (onI (ints? l) fun ns => match minI ns with | some m => vI m | none => none)) G α H (pRt Z Q) E0 := w
      cases q : ints? l with
      | none => rw [q] at w'; exact w'.elim
      | some ns =>
        rw [q] at w'
        have w' : Wk Z (R.of S (match minI ns with | some m => vI m | none => none)) G α H (pRt Z Q) E0 := w'
        cases q2 : minI ns with
        | none => simp only [q2] at w'; exact w'.elim
        | some m =>
          simp only [q2] at w'
          obtain ⟨m1, m2⟩ := minI_ok q2
          have ex := ints_on q h2
          subst ex
          refine cr_min hc pins s σ H _ us Q I r ⟨a, ns, rfl, SqL.of h1, List.length_pos_of_mem m1, fun k k1 k2 => ?_⟩
          have e : k = m := Int.le_antisymm (k2 m m1) (m2 k k1)
          subst e
          exact wI w' hd
    | _ => exact w.elim
  · cases x with
    | int i =>
      cases x2 with
      | int j => cases hx; cases hx2; exact call_min2 hc pins s σ H _ us Q I r ⟨i, j, rfl, wI w hd⟩
      | _ => exact w.elim
    | _ => cases x2 <;> exact w.elim
theorem cd_sorted : CallR X (.builtin "sorted") (rA Z gSorted) := by
  intro pins s σ H xs us Q I r h
  obtain ⟨G, α, S, l, hd, hl, w⟩ := h
  obtain ⟨x, y, rfl, hx, w⟩ := arg1_ok hl w
  cases x with
  | lst l =>
    obtain ⟨a, xs, rfl, h1, h2⟩ := hx
    have w' : Wk Z (R.of S (onI (ints? l) fun ns => nL ((sortI ns).map .int))) G α H (pRt Z Q) E0 := w
    cases q : ints? l with
    | none => rw [q] at w'; exact w'.elim
    | some ns =>
      rw [q] at w'
      have ex := ints_on q h2
      subst ex
      refine cr_sortedI pins s σ H _ us Q I r ⟨a, ns, rfl, SqL.of h1, fun ns' p hp hs hn => ?_⟩
      have e : ns' = sortI ns := pw_perm_eq (hp.trans (sortI_perm ns).symm) hs (sortI_pw ns)
      subst e
      exact wL w' hd (on_ints _) hn
  | _ => exact w.elim
theorem cd_int : CallR X (.type "int") (rA Z gInt) := by
  intro pins s σ H xs us Q I r h
  obtain ⟨G, α, S, l, hd, hl, w⟩ := h
  obtain ⟨x, y, rfl, hx, w⟩ := arg1_ok hl w
  cases x with
  | int i =>
    cases hx
    exact call_int1 pins s σ H _ us Q I r (.inl ⟨i, rfl, wI w hd⟩)
  | bl i =>
    cases hx
    exact call_int1 pins s σ H _ us Q I r (.inr ⟨i, rfl, wI w hd⟩)
  | str t =>
    cases hx
    have w' : Wk Z (R.of S (if t.length ≤ 640 then (match PySem.intText? t with | some n => vI n | none => none) else none)) G α H (pRt Z Q) E0 := w
    by_cases c : t.length ≤ 640
    · rw [if_pos c] at w'
      cases q : PySem.intText? t with
      | none => simp only [q] at w'; exact w'.elim
      | some n => simp only [q] at w'; exact call_int_str pins s σ H _ us Q I r ⟨t, n, rfl, q, c, wI w' hd⟩
    · rw [if_neg c] at w'
      exact w'.elim
  | _ => exact w.elim
theorem cd_all (hc : X.calm = true) : CallR X (.builtin "all") (rA Z gAll) := by
  intro pins s σ H xs us Q I r h
  obtain ⟨G, α, S, l, hd, hl, w⟩ := h
  obtain ⟨x, y, rfl, hx, w⟩ := arg1_ok hl w
  cases x with
  | lst l =>
    obtain ⟨a, xs, rfl, h1, h2⟩ := hx
    have w' : Wk Z (R.of S (match bools? l with | some bs => vB (bs.all id) | none => none)) G α H (pRt Z Q) E0 := w
    cases q : bools? l with
    | none => simp only [q] at w'; exact w'.elim
    | some ns =>
      simp only [q] at w'
      have ex := bools_on q h2
      subst ex
      exact cr_all hc pins s σ H _ us Q I r ⟨a, ns, rfl, SqL.of h1, wB w' hd⟩
  | _ => exact w.elim
theorem onl_signs : ∀ l : List Nat, OnL Z G (l.map fun c => .str ⟨#[c]⟩) (l.map fun c => V.str ⟨#[c]⟩)
  | [] => OnL.nil'
  | c :: l => OnL.cons' on_str (onl_signs l)
theorem cd_list (hc : X.calm = true) (hK : X.K = Z.K) : CallR X (.type "list") (rA Z gList) := by
  intro pins s σ H xs us Q I r h
  obtain ⟨G, α, S, l, hd, hl, w⟩ := h
  obtain ⟨x, y, rfl, hx, w⟩ := arg1_ok hl w
  cases x with
  | lst l =>
    obtain ⟨a, xs, rfl, h1, h2⟩ := hx
    exact call_list_of pins s σ H _ us Q I r ⟨a, xs, rfl, .inl (SqL.of h1), fun p hp => wL w hd h2 hp⟩
  | tup l =>
    obtain ⟨a, xs, rfl, h1, h2⟩ := hx
    exact call_list_of pins s σ H _ us Q I r ⟨a, xs, rfl, .inr (SqT.of (hd.ex _ _ h1)), fun p hp => wL w hd h2 hp⟩
  | ktp l =>
    obtain ⟨a, xs, rfl, h1, h2⟩ := hx
    exact call_list_of pins s σ H _ us Q I r ⟨a, xs, rfl, .inr (hK ▸ h1.sq hd.ex), fun p hp => wL w hd h2 hp⟩
  | str t =>
    cases hx
    have w' : Wk Z (R.of S (if t.length ≤ 100000 then nL (t.cps.toList.map fun c => .str ⟨#[c]⟩) else none)) G α H (pRt Z Q) E0 := w
    by_cases c : t.length ≤ 100000
    · rw [if_pos c] at w'
      exact OP.call_list_text hc pins s σ H _ us Q I r ⟨t, rfl, sz_of c, fun p hp => wL w' hd (onl_signs _) hp⟩
    · rw [if_neg c] at w'
      exact w'.elim
  | _ => exact w.elim
theorem cd_tuple : CallR X (.type "tuple") (rA Z gTuple) := by
  intro pins s σ H xs us Q I r h
  obtain ⟨G, α, S, l, hd, hl, w⟩ := h
  obtain ⟨x, y, rfl, hx, w⟩ := arg1_ok hl w
  cases x with
  | lst l =>
    obtain ⟨a, xs, rfl, h1, h2⟩ := hx
    exact call_tuple_of pins s σ H _ us Q I r ⟨a, xs, rfl, .inl ⟨SqL.of h1, fun p hp => wT w hd h2 hp⟩⟩
  | tup l =>
    obtain ⟨a, xs, rfl, h1, h2⟩ := hx
    exact call_tuple_of pins s σ H _ us Q I r ⟨a, xs, rfl, .inr ⟨SqT.of (hd.ex _ _ h1), wkT w hd h1 h2⟩⟩
  | _ => exact w.elim
end
end DN
namespace DN
open PySem PySem.Spec PyProof.Rows L2 Evl
def isT (T : String) : Dv → Bool
  | .str _ => T == "str"
  | .int _ => T == "int"
  | .lst _ => T == "list"
  | _ => false
def gM (S : Sto) (a : Vr) (l : List Vr) (g : Dv → List Dv → Option Rt) : R Rt := match snap S a, snaps S l with
  | some d, some ds => R.of S (g d ds)
  | _, _ => .no
def onT {β : Type} (T : String) (S : Sto) (a : Vr) (r : R β) : R β := match snap S a with
  | some d => if isT T d then r else .no
  | none => .no
def fMeth (T : String) (g : Dv → List Dv → Option Rt) (fo : FE) (fa : FA) : FE := fun env S => (fo env S).bindV fun S1 a => onT T S1 a ((fa env S1).bind fun S2 l => gM S2 a l g)
/-- a list that is changed: its items, the arguments; its items behind, what is handed back -/
def gMu (S : Sto) (a : Vr) (l : List Vr) (g : List Dv → List Dv → Option (List Dv × Dv)) : R Rt := match a, allD l with
  | .r n, some ds => match S[n]? with
    | some (.lst l0) => match g l0 ds with
      | some (l1, res) => .ok (S.set n (.lst l1)) (.val (.d res))
      | none => .no
    | _ => .no
  | _, _ => .no
def fMut (g : List Dv → List Dv → Option (List Dv × Dv)) (fo : FE) (fa : FA) : FE := fun env S => (fo env S).bindV fun S1 a => onT "list" S1 a ((fa env S1).bind fun S2 l => gMu S2 a l g)
def gAppend (l ds : List Dv) : Option (List Dv × Dv) := match ds with
  | [y] => if l.length < 100000 then some (l ++ [y], .non) else none
  | _ => none
def gClear (l ds : List Dv) : Option (List Dv × Dv) := match ds with
  | [] => some ([], .non)
  | _ => none
section
variable {Z : Zx} {X : Cx} {G H : Hp} {α : List Addr} {S : Sto} {Q : VK} {E : XK}
def rM (Z : Zx) (g : Dv → List Dv → Option Rt) : V → List V → Hp → VK → Prop := fun x xs H Q => ∃ G α S d l, Hd Z G α S H ∧ OnH Z G H d x ∧ OnHA Z G H l xs ∧ Wk Z (R.of S (g d l)) G α H (pRt Z Q) E0
def rMu (Z : Zx) (g : List Dv → List Dv → Option (List Dv × Dv)) : V → List V → Hp → VK → Prop := fun x xs H Q => ∃ G α S n a l0 ds l1 res, Hd Z G α S H ∧ x = .ref a ∧ α[n]? = some a ∧ S[n]? = some (.lst l0) ∧ OnL Z G ds xs ∧ g l0 ds = some (l1, res) ∧
  Wk Z (.ok (S.set n (.lst l1)) (.val (.d res))) G α H (pRt Z Q) E0
theorem ty_on {T : String} {d : Dv} {x : V} (eG : Ex G H) (h : OnH Z G H d x) (e : isT T d = true) : tyV Z.K T x H := by
  cases d with
  | str s => cases h; exact beq_iff_eq.mp e
  | int s => cases h; exact beq_iff_eq.mp e
  | lst l => obtain ⟨a, xs, rfl, h1, h2⟩ := h; exact .inl ⟨beq_iff_eq.mp e, xs, SqL.of h1⟩
  | _ => cases e
theorem onT_ok {β : Type} {T : String} {a : Vr} {x : V} {r : R β} {P : Pst β} (hd : Hd Z G α S H) (ox : OnR Z G α a x) (w : Wk Z (onT T S a r) G α H P E) : tyV Z.K T x H ∧ Wk Z r G α H P E := by
  unfold onT at w
  cases e : snap S a with
  | none => rw [e] at w; exact w.elim
  | some d =>
    rw [e] at w
    cases e2 : isT T d with
    | false => simp only [e2] at w; exact w.elim
    | true => simp only [e2] at w; exact ⟨ty_on hd.ex (snap_on hd ox e) e2, w⟩
theorem gM_ok {a : Vr} {x : V} {l : List Vr} {vs : List V} {g : Dv → List Dv → Option Rt} (hd : Hd Z G α S H) (ox : OnR Z G α a x) (ol : OnA Z G α l vs) (w : Wk Z (gM S a l g) G α H (pRt Z Q) E) : rM Z g x vs H Q := by
  unfold gM at w
  cases e : snap S a with
  | none => rw [e] at w; exact w.elim
  | some d =>
    cases e2 : snaps S l with
    | none => rw [e, e2] at w; exact w.elim
    | some ds => rw [e, e2] at w; exact ⟨G, α, S, d, ds, hd, snap_on hd ox e, snaps_on hd ol e2, w.any⟩
theorem gMu_ok {a : Vr} {x : V} {l : List Vr} {vs : List V} {g : List Dv → List Dv → Option (List Dv × Dv)} (hd : Hd Z G α S H) (ox : OnR Z G α a x) (ol : OnA Z G α l vs) (w : Wk Z (gMu S a l g) G α H (pRt Z Q) E) : rMu Z g x vs H Q := by
  unfold gMu at w
  cases a with
  | d d => cases e : allD l <;> (rw [e] at w; exact w.elim)
  | r n =>
    cases e : allD l with
    | none => rw [e] at w; exact w.elim
    | some ds =>
      rw [e] at w
      cases e2 : S[n]? with
      | none => simp only [e2] at w; exact w.elim
      | some c =>
        simp only [e2] at w
        cases c with
        | lst l0 =>
          cases e3 : g l0 ds with
          | none => simp only [e3] at w; exact w.elim
          | some p =>
            simp only [e3] at w
            obtain ⟨b, rfl, hb⟩ := ox
            exact ⟨G, α, S, n, b, l0, ds, p.1, p.2, hd, rfl, hb, e2, allD_on e ol, e3, w⟩
        | _ => exact w.elim
variable {Ew : L2.St → XK} {to : TE} {fo : FE} {ta : TA} {fa : FA} {T : String}
theorem se_meth {g : Dv → List Dv → Option Rt} (ho : SE Z Ew to fo) (ha : SA Z Ew ta fa) : SE Z Ew (tBM Z.K T (rM Z g) to ta) (fMeth T g fo fa) := fun env σ G α S H Q hd oe w =>
  ho.bind hd oe w fun S2 a x H2 G2 α2 f2 hd2 oe2 ox w2 => by
    obtain ⟨t, w3⟩ := onT_ok hd2 ox w2
    exact ⟨t, ha.bind hd2 oe2 w3 fun S3 l vs H3 G3 α3 f3 hd3 oe3 ol w4 => gM_ok hd3 (ox.up f3.g f3.a) ol w4⟩
theorem se_mut {g : List Dv → List Dv → Option (List Dv × Dv)} (ho : SE Z Ew to fo) (ha : SA Z Ew ta fa) : SE Z Ew (tBM Z.K "list" (rMu Z g) to ta) (fMut g fo fa) := fun env σ G α S H Q hd oe w =>
  ho.bind hd oe w fun S2 a x H2 G2 α2 f2 hd2 oe2 ox w2 => by
    obtain ⟨t, w3⟩ := onT_ok hd2 ox w2
    exact ⟨t, ha.bind hd2 oe2 w3 fun S3 l vs H3 G3 α3 f3 hd3 oe3 ol w4 => gMu_ok hd3 (ox.up f3.g f3.a) ol w4⟩
/-- the cell is changed -/
theorem Wk.put {n : Nat} {a : Addr} {c c2 : Cell} {o : HO} {v : Vr} {x : V} (w : Wk Z (.ok (S.set n c2) (.val v)) G α H (pRt Z Q) E) (hd : Hd Z G α S H) (ha : α[n]? = some a) (hs : S[n]? = some c) (hc : stf c ≠ .dead) (h2 : CellAt Z G c2 (some o)) (hx : OnR Z G α v x) : Q x (upd H a o) := by
  obtain ⟨hd2, f2⟩ := hd.put ha hs hc h2
  exact w _ _ _ f2 hd2 x hx
theorem md_append : MtR X "list.append" (rMu Z gAppend) := by
  intro pins s σ H x xs v us Q I rx rxs h
  obtain ⟨G, α, S, n, a, l0, ds, l1, res, hd, rfl, ha, hs, ol, e, w⟩ := h
  cases ds with
  | nil => cases e
  | cons y r =>
    cases r with
    | cons _ _ => cases e
    | nil =>
      have e' : (if l0.length < 100000 then some (l0 ++ [y], Dv.non) else none) = some (l1, res) := e
      by_cases hl : l0.length < 100000
      · rw [if_pos hl] at e'
        cases e'
        obtain ⟨z, rfl, oz⟩ := ol.one
        obtain ⟨zs, h1, h2⟩ := (hd.at_ n a _ ha hs).2
        exact mt_append pins s σ H _ _ v us Q I rx rxs ⟨a, zs, z, rfl, rfl, h1, Nat.lt_of_lt_of_le (by rw [h2.len]; exact hl) (by decide), w.put hd ha hs (fun c => nomatch c) ⟨_, rfl, h2.app (OnL.cons' oz OnL.nil')⟩ (or_non Z G α)⟩
      · rw [if_neg hl] at e'
        cases e'
def gJoin : Dv → List Dv → Option Rt
  | .str a, [.lst l] => match strs? l with
    | some ss => if (ss.map (·.length)).sum + ss.length * a.length ≤ 100000 then vS (Txt.join a ss) else none
    | none => none
  | .str a, [.tup l] => match strs? l with
    | some ss => if (ss.map (·.length)).sum + ss.length * a.length ≤ 100000 then vS (Txt.join a ss) else none
    | none => none
  | _, _ => none
theorem join_ok {a : Str} {l : List Dv} {xs : List V} {p : Addr} (hx : (OnL Z G l xs)) (h : SqL X.K H p xs ∨ SqT X.K H p xs) (hd : Hd Z G α S H)
    (w : Wk Z (R.of S (match strs? l with | some ss => if (ss.map (·.length)).sum + ss.length * a.length ≤ 100000 then vS (Txt.join a ss) else none | none => none)) G α H (pRt Z Q) E) :
    ∃ ys : List Str, (SqL X.K H p (ys.map V.str) ∨ SqT X.K H p (ys.map V.str)) ∧ (ys.map (·.length)).sum + ys.length * a.length ≤ 16777216 ∧ Q (.str (Txt.join a ys)) H := by
  cases q : strs? l with
  | none => simp only [q] at w; exact w.elim
  | some ss =>
    simp only [q] at w
    have ex := strs_on q hx
    subst ex
    by_cases c : (ss.map (·.length)).sum + ss.length * a.length ≤ 100000
    · rw [if_pos c] at w
      exact ⟨ss, h, by omega, wS w hd⟩
    · rw [if_neg c] at w
      exact w.elim
theorem meth2 {d : Dv} {l : List Dv} {g : Dv → List Dv → Option Rt} {xs : List V} (ol : OnHA Z G H l xs) (w : Wk Z (R.of S (g d l)) G α H (pRt Z Q) E) (hg : ∀ l, (∀ x, l ≠ [x]) → g d l = none) : ∃ x y, l = [x] ∧ xs = [y] ∧ OnH Z G H x y := by
  cases l with
  | nil => rw [hg [] (fun x h => nomatch h)] at w; exact w.elim
  | cons a r =>
    cases r with
    | cons b r => rw [hg _ (fun x h => by cases h)] at w; exact w.elim
    | nil =>
      obtain ⟨y, rfl, o⟩ := ol.one
      exact ⟨a, y, rfl, rfl, o⟩
theorem md_join : MtR X "str.join" (rM Z gJoin) := by
  intro pins s σ H x xs v us Q I rx rxs h
  obtain ⟨G, α, S, d, l, hd, od, ol, w⟩ := h
  cases d with
  | str a =>
    cases od
    obtain ⟨u, y, rfl, rfl, ou⟩ := meth2 ol w fun l h => by
      cases l with
      | nil => rfl
      | cons c r => cases r with
        | nil => exact absurd rfl (h c)
        | cons _ _ => cases c <;> rfl
    cases u with
    | lst l =>
      obtain ⟨p, zs, rfl, h1, h2⟩ := ou
      obtain ⟨ys, h3, h4, h5⟩ := join_ok (X := X) h2 (.inl (SqL.of h1)) hd w
      exact mt_join pins s σ H _ _ v us Q I rx rxs ⟨a, p, ys, rfl, rfl, h3, h4, h5⟩
    | tup l =>
      obtain ⟨p, zs, rfl, h1, h2⟩ := ou
      obtain ⟨ys, h3, h4, h5⟩ := join_ok (X := X) h2 (.inr (SqT.of (hd.ex _ _ h1))) hd w
      exact mt_join pins s σ H _ _ v us Q I rx rxs ⟨a, p, ys, rfl, rfl, h3, h4, h5⟩
    | _ => exact w.elim
  | _ => exact w.elim
/-- xs.index(x): the first place -/
def gIndex : Dv → List Dv → Option Rt
  | .lst l, [y] => onlyIf (okN 60 y && okNs 60 l) (match l.findIdx? fun z => eqD z y with
    | some j => vI j
    | none => none)
  | _, _ => none
theorem md_index (hu : X.A.units + 65 < cLine) (hK : X.K = Z.K) : MtR X "list.index" (rM Z gIndex) := by
  intro pins s σ H x xs v us Q I rx rxs h
  obtain ⟨G, α, S, d, l, hd, od, ol, w⟩ := h
  cases d with
  | lst l0 =>
    obtain ⟨u, y, rfl, rfl, ou⟩ := meth2 ol w fun l h => by
      cases l with
      | nil => rfl
      | cons c r => cases r with
        | nil => exact absurd rfl (h c)
        | cons _ _ => rfl
    obtain ⟨p, zs, rfl, h1, h2⟩ := od
    have w' : Wk Z (R.of S (onlyIf (okN 60 u && okNs 60 l0) (match l0.findIdx? fun z => eqD z u with | some j => vI j | none => none))) G α H (pRt Z Q) E0 := w
    obtain ⟨hk, w'⟩ := onlyIf_ok w'
    obtain ⟨k1, k2⟩ := and2 hk
    cases q : l0.findIdx? fun z => eqD z u with
    | none => simp only [q] at w'; exact w'.elim
    | some j =>
      simp only [q] at w'
      have at_ : ∀ (l : List Dv) (m : Nat), (toPs l)[m]? = (l[m]?).map toP := fun l => by
        induction l with
        | nil => intro m; simp [toPs]
        | cons a r ih => intro m; cases m with
          | zero => simp [toPs]
          | succ m => simp [toPs, ih]
      have okAt : ∀ (l : List Dv) (m : Nat) (z : Dv), okNs 60 l = true → l[m]? = some z → okN 60 z = true := fun l => by
        induction l with
        | nil => intro m z _ e; simp at e
        | cons a r ih => intro m z k e; cases m with
          | zero => simp at e; subst e; exact (and2 (by simpa [okNs] using k)).1
          | succ m => exact ih m z (and2 (by simpa [okNs] using k)).2 (by simpa using e)
      rw [List.findIdx?_eq_some_iff_getElem] at q
      obtain ⟨hj, hp, hn⟩ := q
      have e1 : l0[j]? = some l0[j] := List.getElem?_eq_getElem hj
      refine mt_indexD hu pins s σ H _ _ v us Q I rx rxs ⟨p, y, toP u, toPs l0, j, toP l0[j], rfl, rfl, .lst (SqL.of h1) ?_, ?_, (oks_shaped k2).1, ok_shaped k1, by rw [at_, e1]; rfl, ?_, fun m z' hm e => ?_, wI w' hd⟩
      · exact hK ▸ onl_dp k2 (h2.up hd.ex)
      · exact hK ▸ on_dp k1 (ou.on hd.ex)
      · rw [eq_eqv (okAt l0 j _ k2 e1) k1]; exact hp
      · rw [at_] at e
        have hm' : m < l0.length := Nat.lt_trans hm hj
        rw [List.getElem?_eq_getElem hm'] at e
        cases e
        rw [eq_eqv (okAt l0 m _ k2 (List.getElem?_eq_getElem hm')) k1]
        simpa using hn m hm
  | _ => exact w.elim
variable {name : Str} {id : String} {o e : Expr} {es : List Expr} {apos cpos : Pos}
theorem pf_meth {g : Dv → List Dv → Option Rt} (hm : MtR X id (rM Z g)) (pa : PlainAttrs T) (slot : Slot T name id) (hty : typeOf (.builtin id) = pure (.type "method_descriptor")) (hK : X.K = Z.K) (ho : PF Z Ew X o fo) (ha : PAF Z Ew X (e :: es) fa)
    (hbase : attributeBase o name X.env (eval o X.env) = eval o X.env := by rfl)
    (hfew : ((backTo cpos (starEach (e :: es) X.env)).all (fun x => !x.1) && (backToKw cpos (keywordEach [] X.env)).all (fun x => x.1.isSome) && decide ((e :: es).length + ([] : List Keyword).length + (if ([] : List Keyword).isEmpty then 0 else 1) < 30)) = true := by rfl)
    (hline : (apos.endLine == cpos.line) = true := by rfl) (hst : starEach (e :: es) X.env = (false, eval e X.env) :: starEach es X.env := by rfl) (hpl : (backTo cpos (starEach es X.env)).any (·.1) = false := by rfl) :
    PF Z Ew X (.Call (.Attribute o name apos) (e :: es) [] cpos) (fMeth T g fo fa) := by
  obtain ⟨to, h1, h2⟩ := ho.ex
  obtain ⟨ta, h3, h4⟩ := ha.ex
  exact ⟨_, OP.pe_bmK Z.K pa slot hty hm h1 h3 hbase hfew hline hst hpl hK, se_meth h2 h4⟩
theorem pf_mut {g : List Dv → List Dv → Option (List Dv × Dv)} (hm : MtR X id (rMu Z g)) (slot : Slot "list" name id) (hty : typeOf (.builtin id) = pure (.type "method_descriptor")) (hK : X.K = Z.K) (ho : PF Z Ew X o fo) (ha : PAF Z Ew X (e :: es) fa)
    (hbase : attributeBase o name X.env (eval o X.env) = eval o X.env := by rfl)
    (hfew : ((backTo cpos (starEach (e :: es) X.env)).all (fun x => !x.1) && (backToKw cpos (keywordEach [] X.env)).all (fun x => x.1.isSome) && decide ((e :: es).length + ([] : List Keyword).length + (if ([] : List Keyword).isEmpty then 0 else 1) < 30)) = true := by rfl)
    (hline : (apos.endLine == cpos.line) = true := by rfl) (hst : starEach (e :: es) X.env = (false, eval e X.env) :: starEach es X.env := by rfl) (hpl : (backTo cpos (starEach es X.env)).any (·.1) = false := by rfl) :
    PF Z Ew X (.Call (.Attribute o name apos) (e :: es) [] cpos) (fMut g fo fa) := by
  obtain ⟨to, h1, h2⟩ := ho.ex
  obtain ⟨ta, h3, h4⟩ := ha.ex
  exact ⟨_, OP.pe_bmK Z.K PySem.F.plainAttrs_list slot hty hm h1 h3 hbase hfew hline hst hpl hK, se_mut h2 h4⟩
/-- two readings: which one, the values tell -/
theorem pf_alt {e : Expr} {f1 f2 : FE} (p : Env → Sto → Bool) (h1 : PF Z Ew X e f1) (h2 : PF Z Ew X e f2) : PF Z Ew X e (fun env S => if p env S then f1 env S else f2 env S) := by
  obtain ⟨t1, p1, s1⟩ := h1.ex
  obtain ⟨t2, p2, s2⟩ := h2.ex
  refine ⟨_, OP.pe_alt p1 p2, fun env σ G α S H Q hd oe w => ?_⟩
  cases e : p env S with
  | true => simp only [e, if_true] at w; exact .inl (s1 env σ G α S H Q hd oe w)
  | false => simp only [e] at w; exact .inr (s2 env σ G α S H Q hd oe w)
end
end DN
namespace DN
open PySem PySem.Spec PyProof.Rows L2 Evl
def fAlt (p : Env → Sto → Bool) (f1 f2 : FE) : FE := fun env S => if p env S then f1 env S else f2 env S
section
variable {Z : Zx} {X : Cx} {Ew : L2.St → XK} {G H : Hp} {α : List Addr} {S : Sto}
theorem pf_alt2 {e : Expr} {f1 f2 : FE} (p : Env → Sto → Bool) (h1 : PF Z Ew X e f1) (h2 : PF Z Ew X e f2) : PF Z Ew X e (fAlt p f1 f2) := pf_alt p h1 h2
theorem vals_int : ∀ {ys : List Int} {its : List Value}, Vals (ys.map V.int) its → its.length = ys.length ∧ ∀ (m : Nat) (h1 : m < its.length) (h2 : m < ys.length), ∃ t, its[m] = .int ys[m] t
  | [], its, r => by
    cases r
    exact ⟨rfl, fun m h1 => absurd h1 (Nat.not_lt_zero _)⟩
  | y :: ys, its, r => by
    cases r with
    | cons h r =>
      obtain ⟨e1, e2⟩ := vals_int r
      obtain ⟨t, rfl⟩ := h
      refine ⟨by simp [e1], fun m h1 h2 => ?_⟩
      cases m with
      | zero => exact ⟨t, rfl⟩
      | succ m => exact e2 m (by simpa using h1) (by simpa using h2)
theorem mt_tup_indexI : MtR X "tuple.index" (fun x xs H Q => ∃ (p : Addr) (ys : List Int) (z : Int) (j : Nat), x = .ref p ∧ xs = [.int z] ∧ SqT X.K H p (ys.map V.int) ∧ ys.findIdx? (· == z) = some j ∧ Q (.int (j : Nat)) H) := by
  intro pins s σ H x xs v us Q I rx rs h
  obtain ⟨p, ys, z, j, rfl, rfl, hq, hy, q⟩ := h
  cases rx
  obtain ⟨u, rfl, t, rfl⟩ := vals1 rs
  obtain ⟨its, r, hit, hz⟩ := I.tuple hq
  obtain ⟨len, el⟩ := vals_int r
  obtain ⟨hj, he, hn⟩ := List.findIdx?_eq_some_iff_getElem.mp hy
  have hm : z ∈ ys := by
    have := List.getElem_mem hj
    rw [eq_of_beq he] at this
    exact this
  refine SeqAt.call_tuple_index (ks := ys) (k := z) hit ⟨len, fun m h1 h2 => ?_⟩ hm ?_
  · obtain ⟨t', e⟩ := el m h1 h2
    rw [e]
    have := SeqAt.EqAt.int_int (A := X.A.in1) (s := s) ys[m] t' z t
    rwa [show (ys[m] == z) = decide (ys[m] = z) from rfl] at this
  · have e : ys.idxOf z = j := by
      have : ys.idxOf z = ys.findIdx (· == z) := rfl
      rw [this, (List.findIdx_eq hj).mpr ⟨he, fun k hk => by simpa using hn k hk⟩]
    rw [e]
    exact ⟨.int (j : Nat), H, I.tok _, ⟨_, rfl⟩, q⟩
end
end DN
namespace DN
open PySem PySem.Spec PyProof.Rows L2 OP
/-- room, and, if b, no repr is under way -/
structure RoomG (b : Bool) (k : Nat) (A : Around) : Prop extends Room k A where
  gd : b = true → A.guards = some []
section
variable {b : Bool} {j k : Nat} {A : Around}
theorem RoomG.mono (r : RoomG b k A) (h : j ≤ k) : RoomG b j A := ⟨r.toRoom.mono h, r.gd⟩
theorem RoomG.deeper (r : RoomG b (k + 1) A) (env : PySem.Env) : RoomG b k (A.deeper env) := ⟨r.toRoom.deeper env, r.gd⟩
theorem RoomG.in1 (r : RoomG b (k + 1) A) : RoomG b k A.in1 := ⟨r.toRoom.in1, r.gd⟩
theorem RoomG.make (r : RoomG b (k + 1) A) (C : Addr) (us : List Value) (kw : List (Str × Value)) : RoomG b k (A.under (.builtin "type.__call__" ⟨.ref C :: us, kw⟩)) :=
  ⟨r.toRoom.make C us kw, by
    have e : (A.under (.builtin "type.__call__" ⟨.ref C :: us, kw⟩)).guards = A.guards := by
      first
      | rfl
      | (cases q : A.guards <;> simp [Around.under, Code.guards, Code.isGuard, guardIds, pushGuards, q])
    rw [e]
    exact r.gd⟩
end
/-- what a def promises where no repr is under way -/
structure FnG (b : Bool) (P : Program) (w : World) (K : PySem.W.Frag) (mg : Str → Option Value) (base : Heap) (CX : CXT) (k : Nat) (f : Addr) (fd : FuncData) (ps : List Str) (sp : Sp) : Prop where
  len : ∀ vs H Q E, sp vs H Q E → vs.length = ps.length
  run : ∀ (A : Around) (outer : List PySem.Env) (s : Shared) (H : Hp) (args : Args) (us : List Value) (vs : List V) (Q : VK) (E : XK), RoomG b k A → Env0 P w K mg base A outer s H → BindsTo s fd args (ps.zip us) → Vals vs us → sp vs H Q E →
    codeAny (model P w) A (.call (.ref f) args) (CR CX outer P w H s Q E) s
section
variable {b : Bool} {P : Program} {w : World} {K : PySem.W.Frag} {mg : Str → Option Value} {base : Heap} {CX : CXT} {j k : Nat} {f : Addr} {fd : FuncData} {ps : List Str} {sp sp' : Sp}
theorem FnG.mono (F : FnG b P w K mg base CX j f fd ps sp) (h : j ≤ k) : FnG b P w K mg base CX k f fd ps sp := ⟨F.len, fun A o s H args us vs Q E r => F.run A o s H args us vs Q E (r.mono h)⟩
theorem FnG.imp (F : FnG b P w K mg base CX k f fd ps sp) (h : ∀ vs H Q E, sp' vs H Q E → sp vs H Q E) : FnG b P w K mg base CX k f fd ps sp' :=
  ⟨fun vs H Q E q => F.len vs H Q E (h _ _ _ _ q), fun A o s H args us vs Q E r e b v q => F.run A o s H args us vs Q E r e b v (h _ _ _ _ q)⟩
theorem _root_.L2.FnOk.g (F : FnOk P w K mg base CX k f fd ps sp) : FnG b P w K mg base CX k f fd ps sp := ⟨F.len, fun A o s H args us vs Q E r => F.run A o s H args us vs Q E r.toRoom⟩
theorem FnG.ok (F : FnG false P w K mg base CX k f fd ps sp) : FnOk P w K mg base CX k f fd ps sp := ⟨F.len, fun A o s H args us vs Q E r => F.run A o s H args us vs Q E ⟨r, fun h => nomatch h⟩⟩
/-- a def by its body -/
theorem fn_ofG {name qual : Str} {params : Arguments} {body : List Stmt} {scope : Scope} {dV kV doc pm cdv ct oc : Value} {an od : Option Addr} {osl : Array (Option Value)} {N : List Str}
    (lk : K.lookup f = some ⟨oc, od, .func (PySem.W.fnOf name qual params body scope dV kV doc pm an cdv ct), osl⟩) (hcd : PySem.W.codeIn K cdv qual = true) (S : FnScope N ps scope) (len : ∀ vs H Q E, sp vs H Q E → vs.length = ps.length)
    (hbody : ∀ (A : Around) (outer : List PySem.Env) (s : Shared) (H : Hp) (vs : List V) (Q : VK) (E : XK), RoomG b k (A.deeper (envOfC qual scope s.heap.objs.size f cdv)) → sp vs H Q E →
      ∃ t, PSs (cxOf CX P w K mg base N qual scope f cdv A outer s H E) body t ∧ t { nx := fun _ H' => Q .non H', rt := Q } (L2.start N vs) H) :
    FnG b P w K mg base CX (k + 1) f (PySem.W.fnOf name qual params body scope dV kV doc pm an cdv ct) ps sp := by
  constructor
  · exact len
  intro A outer s H args us vs Q E hr env0 hb rv hsp
  have n1 := len _ _ _ _ hsp
  have keep : ∀ b o, base.get? b = some o → s.heap.get? b = some o := fun b o e => (env0.bs b o e).1
  have kx : K.In s.heap := env0.mod.kin.keeps keep
  have nl : s.heap.NoLimit := env0.mod.nolimit.keeps keep
  have kinds : ∀ y ∈ ps.zip us, scope.names.lookup y.1 = some .local ∨ (scope.names.lookup y.1 = some .cell ∧ ((cellsFrom (s.heap.objs.size + 1) scope.names []).lookup y.1).isSome = true) := by
    intro ⟨n, v⟩ hy
    cases S.par n (List.of_mem_zip hy).1 with
    | inl q => exact .inl q
    | inr q => exact .inr ⟨q, PySem.W.cellsFrom_some _ _ _ (.inl q)⟩
  have hcr := PySem.W.codeRec_of kx hcd
  refine codeAny_call_function hr.toRoom.depth (kx _ _ lk) rfl S.co S.gen rfl hcr (hb _ _ _ _ (wpAny_newFunctionEnv_cells S.kind kinds ?_))
  intro env he s1 x
  subst he
  constructor
  · exact nl.keeps x.toInCall.keep
  apply codeAny_func
  obtain ⟨t, ht, hq⟩ := hbody A outer s H vs Q E (hr.deeper _) hsp
  have inv : Inv (cxOf CX P w K mg base N qual scope f cdv A outer s H E) [] (L2.start N vs) H s1 := inv_start S hr.toRoom.hd env0 n1 rv x
  have done : ∀ {σ2 : L2.St} {H2 : Hp} {v : V} {u : Value} {s2 : Shared}, Inv (cxOf CX P w K mg base N qual scope f cdv A outer s H E) [] σ2 H2 s2 → RelV v u → Q v H2 → CE outer P w H s Q u s2 := by
    intro σ2 H2 v u s2 J r1 q1
    exact ⟨v, H2, J.os, J.bare, J.base, J.hok, r1, q1⟩
  apply wpAny_mono (ht.run [] s1 (L2.start N vs) H _ inv hq)
  · intro fl s2 hs
    cases fl with
    | next =>
      obtain ⟨_, _, J, q1⟩ := hs
      exact done (v := V.non) (u := Value.none) J rfl q1
    | ret u =>
      obtain ⟨_, _, _, J, r1, q1⟩ := hs
      exact done J r1 q1
    | brk => obtain ⟨_, _, _, q1⟩ := hs; exact q1.elim
    | cont => obtain ⟨_, _, _, q1⟩ := hs; exact q1.elim
  · exact fun _ _ h => h
end
section
variable {b : Bool} {X : Cx} {CX : CXT} {k n : Nat} {f C : Addr} {fd : FuncData} {ps : List Str} {sp : Sp} {dvs : List V} {ds : List Value} {E : XK} {pins : List (Addr × Obj)} {σ : L2.St} {H : Hp} {s : Shared} {Q : VK} {us : List Value} {vs : List V} {A' : Around}
/-- the callee runs, under A' -/
theorem code_at (F : FnG b X.prog X.w X.K X.mg X.base CX k f fd ps sp) (hr : RoomG b k A') (e0 : Env0 X.prog X.w X.K X.mg X.base A' X.stack s H) (hb : Binds X.K fd ps ds) (hd : Vals dvs ds) (hx : PassesAt CX X σ E) (I : Inv X pins σ H s) (r : Vals vs us) (h : sp (vs ++ dvs) H Q E) :
    codeAny (model X.prog X.w) A' (.call (.ref f) ⟨us, []⟩) (fun r s' => match r with
      | .ok (.ret u) => EP X pins σ Q u s'
      | .ok _ => False
      | .error e => X.xe e s') s := by
  have rr : Vals (vs ++ dvs) (us ++ ds) := r.append hd
  have n1 : (us ++ ds).length = ps.length := (rr.length).symm.trans (F.len _ _ _ _ h)
  apply codeAny_mono (F.run A' X.stack s H ⟨us, []⟩ (us ++ ds) (vs ++ dvs) Q E hr e0 (hb s us I.kIn n1) rr h)
  intro r s2 hq
  cases r with
  | error e => exact hx pins H s e s2 I hq
  | ok fl =>
    cases fl with
    | ret u => exact I.after hq
    | next => exact hq.elim
    | brk => exact hq.elim
    | cont => exact hq.elim
theorem run_at (F : FnG b X.prog X.w X.K X.mg X.base CX k f fd ps sp) (hr : RoomG b k A') (e0 : Env0 X.prog X.w X.K X.mg X.base A' X.stack s H) (hb : Binds X.K fd ps ds) (hd : Vals dvs ds) (hx : PassesAt CX X σ E) (I : Inv X pins σ H s) (r : Vals vs us) (h : sp (vs ++ dvs) H Q E) :
    wpAny (model X.prog X.w) A' (call (.ref f) us) (EP X pins σ Q) X.xe s := by
  apply wpAny_call
  apply codeAny_mono (code_at F hr e0 hb hd hx I r h)
  intro r s2 hq
  cases r with
  | error e => exact hq
  | ok fl => cases fl <;> exact hq
theorem passesAt {X : Cx} {CX : CXT} {E : XK} (h : Passes CX X E) (σ : L2.St) : PassesAt CX X σ E := fun pins H s e s' I c => h pins σ H s e s' I c
theorem run_fnG (F : FnG b X.prog X.w X.K X.mg X.base CX k f fd ps sp) (hr : RoomG b k X.A) (hb : Binds X.K fd ps ds) (hd : Vals dvs ds) (hx : PassesAt CX X σ E) (I : Inv X pins σ H s) (r : Vals vs us) (h : sp (vs ++ dvs) H Q E) :
    wpAny (model X.prog X.w) X.A (call (.ref f) us) (EP X pins σ Q) X.xe s := run_at F hr I.env0 hb hd hx I r h
theorem run_in1G (F : FnG b X.prog X.w X.K X.mg X.base CX n f fd ps sp) (hr : RoomG b (n + 1) X.A) (hb : Binds X.K fd ps []) (hx : Passes CX X E) (I : Inv X pins σ H s) (r : Vals vs us) (h : sp vs H Q E) : wpAny (model X.prog X.w) X.A.in1 (call (.ref f) us) (EP X pins σ Q) X.xe s :=
  run_at (dvs := []) F hr.in1 I.env0.in1 hb .nil (passesAt hx σ) I r (by rw [List.append_nil]; exact h)
/-- f(..) -/
theorem pe_callG {x : Str} {p pos : Pos} {e : Expr} {es : List Expr} {t : TA} {E : L2.St → XK} (F : FnG b X.prog X.w X.K X.mg X.base CX k f fd ps sp) (hr : RoomG b k X.A) (hg : Gl X x) (hm : X.mg x = some (.ref f)) (hk : PySem.W.keepIn X.K (.ref f) = true) (hb : Binds X.K fd ps ds) (hd : Vals dvs ds) (hx : ∀ σ, PassesAt CX X σ (E σ))
    (ha : PA X (e :: es) t) (hdb : (x == ("__debug__" : Str)) = false := by decide) (he : starEach (e :: es) X.env = (false, eval e X.env) :: starEach es X.env := by rfl) (hpl : (backTo pos (starEach es X.env)).any (·.1) = false := by rfl) :
    PE X (.Call (.Name x p) (e :: es) [] pos) (tCallSD sp dvs E t) := by
  constructor
  intro pins s σ H Q I h
  apply wpAny_Call_Name_kw (ld_glob I hg hm _ hdb)
  apply PySem.W.callWith_K (h₀ := X.base) I.ok.mod.kin hk _ he hpl
  exact thn (ha.run pos pins s σ H _ I h) fun us s1 ⟨vs, H1, I1, r, q⟩ => ⟨I1.kIn, run_fnG F hr hb hd (hx σ) I1 r q⟩
/-- a property is read -/
theorem getpropG {p g a dx : Addr} {fs : List (Str × V)} {x : Str} {bb : Bool} {E' : Value → Shared → Prop} (I : Inv X pins σ H s) (ea : H a = some (.ins C dx fs)) (c : Cls X.K C) (hp : PropOf X.K C x p g)
    (F : FnG b X.prog X.w X.K X.mg X.base CX k g fd ps sp) (hr : RoomG b (k + 1) X.A) (hb : Binds X.K fd ps []) (hx : Passes CX X.nox E) (h : sp [.ref a] H Q E) : wpAny (model X.prog X.w) X.A (getAttr (.ref a) x bb) (EP X pins σ Q) E' s := by
  obtain ⟨mA, O, _⟩ := ins_get I.hok ea
  obtain ⟨od, J, _⟩ := O.look
  obtain ⟨rest, hrec⟩ := hp.rec_
  obtain ⟨cd, hc, _⟩ := PySem.W.any_some c.hd
  have I1 := I.tok (s.toks + 1)
  have I2 : Inv X.nox pins σ H { s with toks := s.toks + 1 } := I1.wish _
  have hcl : (PySem.W.clsIn X.K C).isSome = true := by rw [hc]; rfl
  have q0 := code_at (X := X.nox) (A' := X.A.in1) (dvs := []) F hr.in1 I1.env0.in1 hb .nil (passesAt hx σ) I2 (us := [.ref a]) (vs := [.ref a]) (.cons rfl .nil) h
  apply PySem.W.get_bind I.kIn J (PySem.W.plainGet_of (c.get x)).1 (PySem.W.findObj_data hcl hp.at_ hp.get hp.tak) (PySem.W.plainGet_of (c.get x)).2
  apply wpAny_call
  apply PySem.W.prop_get (s := { s with toks := s.toks + 1 }) I.kIn hrec
  apply codeAny_mono q0
  intro r s2 hq
  cases r with
  | error er => exact False.elim hq
  | ok fl =>
    cases fl with
    | ret u =>
      obtain ⟨v, H2, I3, rv, q3⟩ := hq
      show wpAny _ _ (handedOut u) _ _ _
      rw [PySem.W.handedOut_of (handed_of rv)]
      exact wpAny_pure ⟨v, H2, I3.unwish, rv, q3⟩
    | next => exact hq.elim
    | brk => exact hq.elim
    | cont => exact hq.elim
/-- len(o) by an own __len__ -/
theorem call_lenG (O : OwnM X.K C "__len__" f) (F : FnG b X.prog X.w X.K X.mg X.base CX n f fd ps sp) (hr : RoomG b (n + 1) X.A) (hb : Binds X.K fd ps []) (hx : Passes CX X E) : CallR X (.builtin "len") (rLenO C sp E) := by
  intro pins s σ H xs us Q I r h
  obtain ⟨a, dx, fs, rfl, hi, q⟩ := h
  obtain ⟨u, rfl, ru⟩ := vals1 r
  cases ru
  obtain ⟨mA, J, _⟩ := ins_get I.hok hi
  obtain ⟨od, J, _⟩ := J.look
  obtain ⟨m, hF⟩ := I.fr
  refine PySem.W.len_K hF I.ok.mod.kin J O.at_ O.fn (wpAny_mono (run_in1G (vs := [.ref a]) F hr hb hx I (.cons rfl .nil) q) (fun v s' z => ?_) fun _ _ z => z)
  obtain ⟨w, H', I', rw', i, rfl, h0, h1, hq⟩ := z
  obtain ⟨t, rfl⟩ := rw'
  exact ⟨⟨h0, h1⟩, .int i, H', I'.tok _, ⟨_, rfl⟩, hq⟩
theorem op_ownEqG (O : OwnE X.K C f) (F : FnG b X.prog X.w X.K X.mg X.base CX n f fd ps sp) (hr : RoomG b n X.A) (hb : Binds X.K fd ps []) (hx : Passes CX X E) : OpR X (compareOp .Eq) (rOwnX X.K C sp E) := by
  intro pins s σ H x y v u Q I rx ry h
  obtain ⟨a, dx, fs, t, rfl, ha, hy, hn, q⟩ := h
  cases rx
  obtain ⟨mA, J, _⟩ := ins_get I.hok ha
  obtain ⟨od, J, _⟩ := J.look
  obtain ⟨P, Z, p, _⟩ := kit_of I ry hy
  obtain ⟨m, hF⟩ := I.fr
  unfold compareOp
  refine PySem.W.cmp_K (op := .Eq) (tb := t) hr.toRoom.units0 hF I.ok.mod.kin J (Z.ty _ _ I.kIn p) hn O.at_ O.fn ?_
  refine wpAny_mono (run_fnG (us := [.ref a, u]) (vs := [.ref a, y]) (dvs := []) F hr hb .nil (passesAt hx σ) I (.cons rfl (.cons ry .nil)) q) (fun w s' z => ?_) fun _ _ x => x
  obtain ⟨z', H', I', rz, c, rfl, qz⟩ := z
  cases rz
  exact ⟨.bl c, H', I', rfl, qz⟩
/-- o != e by an own __eq__ -/
theorem op_ownNeG (O : OwnE X.K C f) (F : FnG b X.prog X.w X.K X.mg X.base CX n f fd ps sp) (hr : RoomG b (n + 1) X.A) (hb : Binds X.K fd ps []) (hx : Passes CX X E) : OpR X (compareOp .NotEq) (rOwnE C sp E true) := by
  intro pins s σ H x y v u Q I rx ry h
  obtain ⟨a, dx, fs, b, dy, gs, rfl, rfl, ha, hbb, q⟩ := h
  cases rx
  cases ry
  obtain ⟨mA, J, _⟩ := ins_get I.hok ha
  obtain ⟨mB, J', _⟩ := ins_get I.hok hbb
  obtain ⟨od, J, _⟩ := J.look
  obtain ⟨od', J', _⟩ := J'.look
  obtain ⟨⟨nm, q', N, bs, hdct, sn, sub, ab, col, dd, k0, k1, k2, k3, k5, newId, hC, hN, he, hne⟩, ⟨of, hfo, hfc⟩, _, _⟩ := O
  have KI := I.kIn
  have Y : s.heap.OwnEqNoNe a C f "object" [.type "object"] := by
    refine ⟨_, of, nm, q', N, bs, hdct, sn, sub, ab, col, dd, k0, k1, k2, k3, k5, newId, s.heap.nsMap N, _, J.at_, J.cls, KI _ _ hC, .of_isNs (PySem.W.isNs_of_in KI hN), ns_at KI (.of_isNs (PySem.W.isNs_of_in KI hN)) he, KI _ _ hfo, hfc, PySem.F.mro_object, PySem.F.cmp_object.eq.lookup, PySem.W.nsMap_none_of_in KI hN hne⟩
  have q0 := run_at (X := X) (A' := X.A.in1) (dvs := []) (us := [.ref a, .ref b]) (vs := [.ref a, .ref b]) F hr.in1 I.env0.in1 hb .nil (passesAt hx σ) I (.cons rfl (.cons rfl .nil)) q
  obtain ⟨hh, g, d, t, os⟩ := s
  refine compareOp_ne_ownEq PySem.F.cmp_object Y J'.at_ J'.cls (by have := hr.toRoom.units; omega) ?_
  refine wpAny_mono q0 (fun w s' z => ?_) fun _ _ y => y
  obtain ⟨v, H', I', rz, c, rfl, qz⟩ := z
  cases rz
  exact ⟨c, rfl, .bl (!c), H', I', rfl, qz⟩
end
section
variable {P : Program} {w : World} {K : PySem.W.Frag} {mg mb : Str → Option Value} {CX : CXT} {k : Nat} {fa a : Addr} {fd : FuncData} {x : Str} {sp : Sp} {s₁ : Shared} {vs : List Value} {ns : List Int}
abbrev LawEnd (s₁ : Shared) (r : Result) (s' : Shared) : Prop := r = .ok (.ret (.bool true)) ∧ OldK s₁.heap s'.heap ∧ s'.os = s₁.os ∧ AllBare s'.gens
theorem lawG_core (KX : K.In s₁.heap) (hns : s₁.heap.Ns mainGlobals mg) (hb : s₁.heap.Ns builtinsNs mb) (hbb : ∀ x : Str, x ≠ "__name__" → mb x = bootBuiltins x) (hlim : s₁.heap.NoLimit) (hg : s₁.gens = #[])
    (ha : s₁.heap.get? a = some { cls := .type "list", data := .seq vs.toArray }) (hr : RoomG true k callerA)
    (F : ∀ base : Heap, K.In base → base.Ns mainGlobals mg → (∀ (a : Addr) (m : Str → Option Value), s₁.heap.Ns a m → base.Ns a m) → FnG true P w K mg base CX k fa fd [x] sp) (hbind : ∀ (s : Shared) (u : Value), BindsTo s fd ⟨[u], []⟩ [(x, u)])
    (hCX : ∀ H e s', CX [] H s₁ (fun _ _ _ => False) e s' → False) (H : Hp) (only : Only H) (hsp : sp [.ref a] H (fun v _ => v = .bl true) fun _ _ _ => False) (hok : HOk P w H s₁.heap) (hA : ∀ b, H b ≠ none → b = a) (hK : H a ≠ none → K.lookup a = none) :
    codeAny (model P w) callerA (.call (.ref fa) ⟨[.ref a], []⟩) (LawEnd s₁) s₁ := by
  have is_a : ∀ {b : Addr} {u : HO}, H b = some u → b = a := fun {b u} q => hA b (by rw [q]; exact fun z => nomatch z)
  have none_at : ∀ {b : Addr} {o : Obj} {es : Array DictEntry} {ep : Nat}, s₁.heap.get? b = some o → o.data = .dict es ep → H b = none := by
    intro b o es ep e d
    cases q : H b with
    | none => rfl
    | some u =>
      have e1 := is_a q
      rw [e1, ha] at e
      rw [← Option.some.inj e] at d
      cases d
  have ns_hid : ∀ {b : Addr} {m : Str → Option Value}, s₁.heap.Ns b m → (hidT s₁.heap H).Ns b m := by
    intro b m z
    obtain ⟨o, es, ep, e, d, rest⟩ := z
    exact ⟨o, es, ep, hidT_get e (none_at e d), d, rest⟩
  have k_hid : K.In (hidT s₁.heap H) := by
    intro b o e
    apply hidT_get (KX b o e)
    cases q : H b with
    | none => rfl
    | some u =>
      have e1 := is_a q
      rw [e1] at e q
      rw [hK (by rw [q]; exact fun z => nomatch z)] at e
      cases e
  have lim : (hidT s₁.heap H).NoLimit := by
    obtain ⟨mc, z1, z2⟩ := hlim
    exact ⟨mc, ns_hid z1, z2⟩
  have start : Env0 P w K mg (hidT s₁.heap H) callerA [] s₁ H := {
    frames := rfl
    mod := ⟨k_hid, ns_hid hns, ⟨mb, ns_hid hb, hbb⟩, lim⟩
    bs := fun b o e => of_hidT e
    bsz := Nat.le_of_eq (hidT_size _ _)
    funs := trivial
    frf := fun b z => absurd (show b ∈ ([] : List Addr) from z) (by simp)
    hok := hok
    bare := .of_eq hg }
  apply codeAny_mono ((F _ k_hid (ns_hid hns) fun a m z => ns_hid z).run callerA [] s₁ H ⟨[.ref a], []⟩ [.ref a] [.ref a] _ _ hr start (hbind s₁ (.ref a)) (.cons rfl .nil) hsp)
  intro r s2 h
  cases r with
  | error e => exact (hCX H e s2 h).elim
  | ok fl =>
    cases fl with
    | next => exact h.elim
    | brk => exact h.elim
    | cont => exact h.elim
    | ret u =>
      obtain ⟨v, H2, os, bare, un, hok2, rv, q⟩ := h
      obtain rfl : v = .bl true := q
      obtain rfl : u = Value.bool true := rv
      refine ⟨rfl, OldK.of_keep ?_, os, bare⟩
      intro b o e
      cases q : H b with
      | none => exact un.keep b o e q (fun z => absurd (show b ∈ ([] : List Addr) from z) (by simp)) (by simp)
      | some u =>
        cases only b with
        | inl z => rw [q] at z; cases z
        | inr z =>
          obtain ⟨ob, xs, z⟩ := z
          obtain ⟨e1, _⟩ := hok b _ z
          obtain ⟨e2, _⟩ := hok2 b _ (un.frzs b ob _ z)
          have e3 := e1.symm.trans e
          rw [← Option.some.inj e3]
          exact e2
theorem lawG_call (KX : K.In s₁.heap) (hns : s₁.heap.Ns mainGlobals mg) (hb : s₁.heap.Ns builtinsNs mb) (hbb : ∀ x : Str, x ≠ "__name__" → mb x = bootBuiltins x) (hlim : s₁.heap.NoLimit) (hg : s₁.gens = #[])
    (ha : s₁.heap.get? a = some { cls := .type "list", data := .seq vs.toArray }) (hi : IntsAre vs ns) (hl : ns.length ≤ sizeLine) (hr : RoomG true k callerA)
    (F : ∀ base : Heap, K.In base → base.Ns mainGlobals mg → (∀ (a : Addr) (m : Str → Option Value), s₁.heap.Ns a m → base.Ns a m) → FnG true P w K mg base CX k fa fd [x] sp) (hbind : ∀ (s : Shared) (u : Value), BindsTo s fd ⟨[u], []⟩ [(x, u)])
    (hsp : ∀ H : Hp, Only H → SqL K H a (ns.map V.int) → sp [.ref a] H (fun v _ => v = .bl true) fun _ _ _ => False) (hCX : ∀ H e s', CX [] H s₁ (fun _ _ _ => False) e s' → False) :
    codeAny (model P w) callerA (.call (.ref fa) ⟨[.ref a], []⟩) (LawEnd s₁) s₁ := by
  have rv := vals_ints hi
  have core := lawG_core KX hns hb hbb hlim hg ha hr F hbind hCX
  cases hk : K.lookup a with
  | some o =>
    have e := KX a o hk
    rw [ha] at e
    have eo := Option.some.inj e
    rw [← eo] at hk
    have on0 : Only fun _ => none := fun _ => .inl rfl
    have sq : SqL K (fun _ => none) a (ns.map V.int) := .inr ⟨_, vs.toArray, _, hk, rfl, rfl, rfl, by rw [List.size_toArray, hi.length]; exact hl, by simpa using rv⟩
    exact core _ on0 (hsp _ on0 sq) (fun b u z => nomatch (show (none : Option HO) = some u from z)) (fun b z => absurd rfl z) fun z => absurd rfl z
  | none =>
    let H1 : Hp := fun b => if b = a then some (.frz { cls := .type "list", data := .seq vs.toArray } (.lst (ns.map V.int))) else none
    have at_a : H1 a = some (.frz { cls := .type "list", data := .seq vs.toArray } (.lst (ns.map V.int))) := if_pos rfl
    have at_o : ∀ b, b ≠ a → H1 b = none := fun b h => if_neg h
    have on1 : Only H1 := fun b => by
      by_cases h : b = a
      · exact .inr ⟨_, _, by rw [h]; exact at_a⟩
      · exact .inl (at_o b h)
    have ok1 : HOk P w H1 s₁.heap := fun b u z => by
      by_cases h : b = a
      · rw [h, at_a] at z
        rw [h, ← Option.some.inj z]
        exact ⟨ha, by rw [List.length_map]; exact hl, vs, _, rv, ha⟩
      · rw [at_o b h] at z
        cases z
    exact core H1 on1 (hsp H1 on1 (.inl (.inr ⟨{ cls := .type "list", data := .seq vs.toArray }, at_a⟩))) ok1 (fun b z => Classical.byContradiction fun h => z (at_o b h)) fun _ => hk
end
end DN
namespace DN
open PySem PySem.Spec PyProof.Rows L2 OP
abbrev Takes (X : Cx) (W : WX) : Prop := L2N.Takes X W
section
variable {X : Cx} {W : WX} {E : XK}
theorem passAt (tk : Takes X W) (σ : L2.St) : PassesAt (L2N.CX X.prog X.w) X σ (WE W σ) := L2N.passAt tk σ
theorem takes_of (h1 : X.stack = X.env :: X.outer) (h2 : X.env.frame = some X.env.locals) (h3 : X.ex = []) {E₁ : Value → Shared → Prop}
    (h4 : X.xe = fun e s' => wpAny (model X.prog X.w) X.A (leaving X.env e) (fun _ t => L2N.CX X.prog X.w X.outer X.H_0 X.s_0 E e t) E₁ s') : Takes X (fun cls d _ H => E cls d H) := L2N.takes_of h1 h2 h3 h4
end
end DN
namespace DN
open PySem PySem.Spec PyProof.Rows L2 Evl
/-- the items, and the cell that they are read from (if it is one) -/
abbrev Its := List Dv × Option Nat
abbrev FI := Env → Sto → R Its
def OkI (Z : Zx) (G2 : Hp) (α2 : List Addr) (t : Its) (G' H : Hp) : Prop := Ex G2 G' ∧ Ex G' H ∧ ∀ n, t.2 = some n → ∃ a xs, α2[n]? = some a ∧ H a = some (.lst xs) ∧ OnL Z G' t.1 xs
structure Gz (Z : Zx) (J : It) (G2 : Hp) (α2 : List Addr) (t : Its) : Prop where
  go : ∀ i G' H, i < t.1.length → OkI Z G2 α2 t G' H → J.go i H
  stop : ∀ G' H, OkI Z G2 α2 t G' H → J.stop t.1.length H
  yld : ∀ i G' H x H', i < t.1.length → OkI Z G2 α2 t G' H → J.yld i H x H' → ∃ d, t.1[i]? = some d ∧ ∀ α' S', Hd Z G' α' S' H → ∃ G3, Fr G' α' H G3 α' H' ∧ Hd Z G3 α' S' H' ∧ On Z G3 d x
def pI (Z : Zx) (R' : It → Hp → Prop) : Pst Its := ⟨fun t _ G2 α2 H2 => ∀ J, Gz Z J G2 α2 t → R' J H2, fun _ q => q⟩
def SI (Z : Zx) (Ew : L2.St → XK) (wi : TI) (f : FI) : Prop :=
  ∀ env σ G α S H R', Hd Z G α S H → OnE Z G α env σ → Wk Z (f env S) G α H (pI Z R') (Ew σ) → wi σ H R'
structure PIF (Z : Zx) (Ew : L2.St → XK) (X : Cx) (tg e : Expr) (f : FI) : Prop where
  ex : ∃ wi, PI X tg e wi ∧ SI Z Ew wi f
/-- the items of a value -/
def iterD : Dv → Option (List Dv)
  | .lst l => some l
  | .tup l => some l
  | .ktp l => some l
  | .str s => some (s.cps.toList.map fun c => .str ⟨#[c]⟩)
  | _ => none
def itOf (S : Sto) (a : Vr) : R Its := match a with
  | .d d => match iterD d with
    | some l => .ok S (l, none)
    | none => .no
  | .r n => match S[n]? with
    | some (.lst l) => .ok S (l, some n)
    | _ => .no
def iVal (fa : FE) : FI := fun env S => (fa env S).bindV fun S1 a => itOf S1 a
section
variable {Z : Zx} {X : Cx} {Ew : L2.St → XK} {G H G' H' : Hp} {α : List Addr} {S : Sto} {Q : VK} {E : XK}
/-- nothing new at a turn -/
theorem y_same {d : Dv} {x : V} (o : On Z G' d x) : ∀ α' S', Hd Z G' α' S' H → ∃ G3, Fr G' α' H G3 α' H ∧ Hd Z G3 α' S' H ∧ On Z G3 d x := fun α' S' hd => ⟨G', Fr.refl G' α' H, hd, o⟩
theorem gz_list {K : PySem.W.Frag} {a : Addr} {l : List Dv} {xs : List V} {G2 : Hp} {α2 : List Addr} (h1 : G2 a = some (.lst xs)) (h2 : OnL Z G2 l xs) : Gz Z (Itl K a) G2 α2 (l, none) := by
  have sq : ∀ {G' H}, OkI Z G2 α2 (l, none) G' H → SqL K H a xs := fun ok => SqL.of (ok.2.1 _ _ (ok.1 _ _ h1))
  have w : Walk (Itl K a) xs.length (fun H => SqL K H a xs) (YAt xs) := walk_list
  refine ⟨fun i G' H hi ok => w.goes i H (by rw [h2.len]; exact hi) (sq ok), fun G' H ok => ?_, fun i G' H x H' hi ok y => ?_⟩
  · have := w.stops H (sq ok)
    rw [h2.len] at this
    exact this
  · obtain ⟨rfl, hx⟩ := w.yields i H x H' (by rw [h2.len]; exact hi) (sq ok) y
    obtain ⟨d, e, o⟩ := h2.got hx
    exact ⟨d, e, y_same (o.up ok.1)⟩
theorem gz_cell {K : PySem.W.Frag} {a : Addr} {n : Nat} {l : List Dv} {G2 : Hp} {α2 : List Addr} (h1 : α2[n]? = some a) : Gz Z (Itl K a) G2 α2 (l, some n) := by
  have sq : ∀ {G' H}, OkI Z G2 α2 (l, some n) G' H → ∃ xs, SqL K H a xs ∧ OnL Z G' l xs := fun ok => by
    obtain ⟨b, xs, e, h, o⟩ := ok.2.2 n rfl
    rw [h1] at e
    cases e
    exact ⟨xs, SqL.of h, o⟩
  refine ⟨fun i G' H hi ok => ?_, fun G' H ok => ?_, fun i G' H x H' hi ok y => ?_⟩
  · obtain ⟨xs, h, o⟩ := sq ok
    exact (walk_list : Walk (Itl K a) xs.length (fun H => SqL K H a xs) (YAt xs)).goes i H (by rw [o.len]; exact hi) h
  · obtain ⟨xs, h, o⟩ := sq ok
    have := (walk_list : Walk (Itl K a) xs.length (fun H => SqL K H a xs) (YAt xs)).stops H h
    rw [o.len] at this
    exact this
  · obtain ⟨xs, h, o⟩ := sq ok
    obtain ⟨rfl, hx⟩ := (walk_list : Walk (Itl K a) xs.length (fun H => SqL K H a xs) (YAt xs)).yields i H x H' (by rw [o.len]; exact hi) h y
    obtain ⟨d, e, o2⟩ := o.got hx
    exact ⟨d, e, y_same o2⟩
theorem gz_tup {K : PySem.W.Frag} {a : Addr} {l : List Dv} {xs : List V} {G2 : Hp} {α2 : List Addr} (h1 : ∀ H, Ex G2 H → SqT K H a xs) (h2 : OnL Z G2 l xs) : Gz Z (Itt K a) G2 α2 (l, none) := by
  have sq : ∀ {G' H}, OkI Z G2 α2 (l, none) G' H → SqT K H a xs := fun ok => h1 _ (ok.1.trans ok.2.1)
  have w : Walk (Itt K a) xs.length (fun H => SqT K H a xs) (YAt xs) := walk_tup
  refine ⟨fun i G' H hi ok => w.goes i H (by rw [h2.len]; exact hi) (sq ok), fun G' H ok => ?_, fun i G' H x H' hi ok y => ?_⟩
  · have := w.stops H (sq ok)
    rw [h2.len] at this
    exact this
  · obtain ⟨rfl, hx⟩ := w.yields i H x H' (by rw [h2.len]; exact hi) (sq ok) y
    obtain ⟨d, e, o⟩ := h2.got hx
    exact ⟨d, e, y_same (o.up ok.1)⟩
theorem gz_str {s : Str} {G2 : Hp} {α2 : List Addr} : Gz Z (L2.Its s) G2 α2 (s.cps.toList.map fun c => .str ⟨#[c]⟩, none) := by
  have hl : (s.cps.toList.map fun c => Dv.str ⟨#[c]⟩).length = s.cps.size := by rw [List.length_map, Array.length_toList]
  refine ⟨fun i G' H hi ok => by rw [hl] at hi; exact hi, fun G' H ok => by rw [hl]; exact Nat.le_refl _, fun i G' H x H' hi ok y => ?_⟩
  obtain ⟨rfl, c, hc, rfl⟩ := y
  exact ⟨.str ⟨#[c]⟩, by rw [List.getElem?_map, Array.getElem?_toList, hc]; rfl, y_same on_str⟩
theorem gz_range {lo : Int} {n : Nat} {G2 : Hp} {α2 : List Addr} : Gz Z (Itr lo n) G2 α2 ((List.range n).map fun (i : Nat) => Dv.int (lo + i), none) := by
  have hl : ((List.range n).map fun (i : Nat) => Dv.int (lo + i)).length = n := by rw [List.length_map, List.length_range]
  refine ⟨fun i G' H hi ok => by rw [hl] at hi; exact hi, fun G' H ok => by rw [hl]; exact Nat.le_refl _, fun i G' H x H' hi ok y => ?_⟩
  rw [hl] at hi
  obtain ⟨rfl, rfl⟩ := y
  exact ⟨.int (lo + i), by rw [List.getElem?_map, List.getElem?_range hi]; rfl, y_same on_int⟩
/-- a new pair at a turn -/
theorem y_pair {T : Addr} {x y : V} {c d : Dv} (hT : H T = none) (hx : On Z G' c x) (hy : On Z G' d y) : ∀ α' S', Hd Z G' α' S' H → ∃ G3, Fr G' α' H G3 α' (upd H T (.tup [x, y])) ∧ Hd Z G3 α' S' (upd H T (.tup [x, y])) ∧ On Z G3 (.tup [c, d]) (.ref T) := fun α' S' hd => by
  obtain ⟨h1, h2⟩ := hd.know (o := .tup [x, y]) hT
  refine ⟨_, h2, h1, ?_⟩
  unfold On
  exact ⟨T, _, rfl, upd_same, OnL.cons' (hx.up h2.g) (OnL.cons' (hy.up h2.g) OnL.nil')⟩
/-- which reading a value wants -/
def kindD : Dv → Nat
  | .lst _ => 0
  | .str _ => 2
  | _ => 1
def kindR (r : R Rt) : Nat := match r with
  | .ok _ (.val (.d d)) => kindD d
  | _ => 0
variable {tg e : Expr} {fa : FE} {te : TE}
theorem kind_got {r : R Rt} {S2 : Sto} {d : Dv} (g : Got r S2 (.d d)) (h : kindR r = 0) : kindD d = 0 ∨ ∃ c, frzC c = some d := by
  cases g with
  | val => exact .inl h
  | new S c d h => exact .inr ⟨c, h⟩
theorem got_kind {r : R Rt} {S2 : Sto} {d : Vr} {k : Nat} (g : Got r S2 d) (h : kindR r = k + 1) : ∃ x, d = .d x ∧ kindD x = k + 1 := by
  cases g with
  | val =>
    cases d with
    | r n => cases h
    | d d => exact ⟨d, rfl, h⟩
  | new S c d h' => cases h
theorem pif_val (hK : X.K = Z.K) (h : PF Z Ew X e fa) : PIF Z Ew X tg e (iVal fa) := by
  obtain ⟨te, h1, h2⟩ := h.ex
  refine ⟨_, OP.pi_alt (OP.pi_listK (K := Z.K) h1 hK) (OP.pi_alt (OP.pi_tupK (K := Z.K) h1 hK) (pi_str h1)), fun env σ G α S H R' hd oe w => ?_⟩
  have f0 := Fr.refl G α H
  match hk : kindR (fa env S) with
  | 0 =>
    refine .inl (h2.bind0 f0 hd oe w fun S2 d x H2 G2 α2 g f2 hd2 oe2 ox w2 => ?_)
    cases d with
    | r n =>
      have w2 : Wk Z (match S2[n]? with | some (.lst l) => R.ok S2 (l, some n) | _ => .no) G α H (pI Z R') (Ew σ) := w2
      obtain ⟨a, rfl, ha⟩ := ox
      cases q : S2[n]? with
      | none => rw [q] at w2; exact w2.elim
      | some c =>
        rw [q] at w2
        cases c with
        | lst l =>
          obtain ⟨xs, e1, e2⟩ := (hd2.at_ n a _ ha q).2
          exact ⟨a, rfl, ⟨xs, SqL.of e1⟩, (w2.later f2) H2 G2 α2 (Fr.refl _ _ _) hd2 _ (gz_cell ha)⟩
        | _ => exact w2.elim
    | d d =>
      rcases kind_got g hk with e | ⟨c, e⟩
      · cases d with
        | lst l =>
          have ox : On Z G2 (.lst l) x := ox
          unfold On at ox
          obtain ⟨a, xs, rfl, e1, e2⟩ := ox
          exact ⟨a, rfl, ⟨xs, SqL.of (hd2.ex _ _ e1)⟩, (w2.later f2) H2 G2 α2 (Fr.refl _ _ _) hd2 _ (gz_list e1 e2)⟩
        | _ => cases e
      · cases c with
        | lst l =>
          cases e
          have ox : On Z G2 (.lst l) x := ox
          unfold On at ox
          obtain ⟨a, xs, rfl, e1, e2⟩ := ox
          exact ⟨a, rfl, ⟨xs, SqL.of (hd2.ex _ _ e1)⟩, (w2.later f2) H2 G2 α2 (Fr.refl _ _ _) hd2 _ (gz_list e1 e2)⟩
        | ob c l => cases e; exact w2.elim
        | dc t ks vs => cases e; exact w2.elim
        | dead => cases e
        | tab rows => cases e
  | 1 =>
    refine .inr (.inl (h2.bind0 f0 hd oe w fun S2 d x H2 G2 α2 g f2 hd2 oe2 ox w2 => ?_))
    obtain ⟨d, rfl, hk⟩ := got_kind g hk
    · · cases d with
        | tup l =>
          have ox : On Z G2 (.tup l) x := ox
          unfold On at ox
          obtain ⟨a, xs, rfl, e1, e2⟩ := ox
          exact ⟨a, rfl, ⟨xs, SqT.of (hd2.ex _ _ e1)⟩, (w2.later f2) H2 G2 α2 (Fr.refl _ _ _) hd2 _ (gz_tup (fun H e => SqT.of (e _ _ e1)) e2)⟩
        | ktp l =>
          have ox : On Z G2 (.ktp l) x := ox
          unfold On at ox
          obtain ⟨a, xs, rfl, e1, e2⟩ := ox
          exact ⟨a, rfl, ⟨xs, e1.sq hd2.ex⟩, (w2.later f2) H2 G2 α2 (Fr.refl _ _ _) hd2 _ (gz_tup (fun H e => e1.sq e) e2)⟩
        | lst l => cases hk
        | str l => cases hk
        | _ => exact w2.elim
  | n + 2 =>
    refine .inr (.inr (h2.bind0 f0 hd oe w fun S2 d x H2 G2 α2 g f2 hd2 oe2 ox w2 => ?_))
    obtain ⟨d, rfl, hk⟩ := got_kind g hk
    · · cases d with
        | str l =>
          have ox : On Z G2 (.str l) x := ox
          unfold On at ox
          exact ⟨l, ox, (w2.later f2) H2 G2 α2 (Fr.refl _ _ _) hd2 _ gz_str⟩
        | _ => cases hk
def smallR (i : Int) : Bool := decide (-1000000 ≤ i) && decide (i ≤ 1000000)
def rangeD (lo hi : Int) : List Dv := (List.range (hi - lo).toNat).map fun (i : Nat) => Dv.int (lo + i)
def vi (a : Vr) : Option Int := match a with
  | .d (.int j) => some j
  | _ => none
def vi1 (l : List Vr) : Option Int := match l with
  | [a] => vi a
  | _ => none
def vi2 (l : List Vr) : Option (Int × Int) := match l with
  | [a, b] => match vi a, vi b with
    | some i, some j => some (i, j)
    | _, _ => none
  | _ => none
def rng1 (S : Sto) (o : Option Int) : R Its := match o with
  | some j => if smallR j then .ok S (rangeD 0 j, none) else .no
  | none => .no
def rng2 (S : Sto) (o : Option (Int × Int)) : R Its := match o with
  | some p => if smallR p.1 && smallR p.2 then .ok S (rangeD p.1 p.2, none) else .no
  | none => .no
def iRange1 (fa : FA) : FI := fun env S => (fa env S).bind fun S1 l => rng1 S1 (vi1 l)
def iRange2 (fa : FA) : FI := fun env S => (fa env S).bind fun S1 l => rng2 S1 (vi2 l)
theorem vi_on {a : Vr} {i : Int} {x : V} (e : vi a = some i) (h : OnR Z G α a x) : x = .int i := by
  cases a with
  | r n => cases e
  | d d =>
    cases d with
    | int j =>
      cases e
      have h : On Z G (.int i) x := h
      unfold On at h
      exact h
    | _ => cases e
theorem vi1_on {l : List Vr} {i : Int} {vs : List V} (e : vi1 l = some i) (h : OnA Z G α l vs) : vs = [.int i] := by
  cases l with
  | nil => cases e
  | cons a r =>
    cases r with
    | nil =>
      obtain ⟨y, ys, rfl, o1, o2⟩ := h
      cases (show ys = [] from o2)
      rw [vi_on e o1]
    | cons b r => cases e
theorem vi2_on {l : List Vr} {i j : Int} {vs : List V} (e : vi2 l = some (i, j)) (h : OnA Z G α l vs) : vs = [.int i, .int j] := by
  cases l with
  | nil => cases e
  | cons a r =>
    cases r with
    | nil => cases e
    | cons b r =>
      cases r with
      | nil =>
        obtain ⟨y, ys, rfl, o1, z, zs, rfl, o2, o3⟩ := h
        cases (show zs = [] from o3)
        have e' : (match vi a, vi b with | some i, some j => some (i, j) | _, _ => none) = some (i, j) := e
        cases q1 : vi a with
        | none => rw [q1] at e'; cases e'
        | some u =>
          cases q2 : vi b with
          | none => rw [q1, q2] at e'; cases e'
          | some v =>
            rw [q1, q2] at e'
            cases e'
            rw [vi_on q1 o1, vi_on q2 o2]
      | cons c r => cases e
theorem smallR_ok {i : Int} (h : smallR i = true) : -1000000 ≤ i ∧ i ≤ 1000000 := by
  obtain ⟨h1, h2⟩ := and2 h
  exact ⟨of_decide_eq_true h1, of_decide_eq_true h2⟩
variable {a b : Expr} {fl : FA} {p pos : Pos}
theorem pif_range1 (hg : Gl X "range") (hm : X.mg "range" = none) (ha : PAF Z Ew X [a] fl) (hs : starEach [a] X.env = [(false, eval a X.env)] := by rfl) : PIF Z Ew X tg (.Call (.Name "range" p) [a] [] pos) (iRange1 fl) := by
  obtain ⟨ta, h1, h2⟩ := ha.ex
  refine ⟨_, pi_range1 hg hm h1 hs, fun env σ G α S H R' hd oe w => h2.bind hd oe w fun S2 l vs H2 G2 α2 f2 hd2 oe2 ol w2 => ?_⟩
  cases q : vi1 l with
  | none => rw [q] at w2; exact w2.elim
  | some j =>
    rw [q] at w2
    have w2 : Wk Z (if smallR j then R.ok S2 (rangeD 0 j, none) else .no) G2 α2 H2 (pI Z R') (Ew σ) := w2
    cases c : smallR j with
    | false => rw [c] at w2; exact w2.elim
    | true =>
      rw [c] at w2
      obtain ⟨b1, b2⟩ := smallR_ok c
      refine ⟨j, vi1_on q ol, by omega, by omega, w2 H2 G2 α2 (Fr.refl _ _ _) hd2 _ ?_⟩
      have := gz_range (Z := Z) (lo := 0) (n := j.toNat) (G2 := G2) (α2 := α2)
      unfold rangeD
      rw [Int.sub_zero]
      exact this
theorem pif_range2 (hg : Gl X "range") (hm : X.mg "range" = none) (ha : PAF Z Ew X [a, b] fl) (hs : starEach [a, b] X.env = [(false, eval a X.env), (false, eval b X.env)] := by rfl) (hs2 : starEach [b] X.env = [(false, eval b X.env)] := by rfl) :
    PIF Z Ew X tg (.Call (.Name "range" p) [a, b] [] pos) (iRange2 fl) := by
  obtain ⟨ta, h1, h2⟩ := ha.ex
  refine ⟨_, pi_range2 hg hm h1 hs hs2, fun env σ G α S H R' hd oe w => h2.bind hd oe w fun S2 l vs H2 G2 α2 f2 hd2 oe2 ol w2 => ?_⟩
  cases q : vi2 l with
  | none => rw [q] at w2; exact w2.elim
  | some ij =>
    obtain ⟨i, j⟩ := ij
    rw [q] at w2
    have w2 : Wk Z (if smallR i && smallR j then R.ok S2 (rangeD i j, none) else .no) G2 α2 H2 (pI Z R') (Ew σ) := w2
    cases c : smallR i && smallR j with
    | false => rw [c] at w2; exact w2.elim
    | true =>
      rw [c] at w2
      obtain ⟨c1, c2⟩ := and2 c
      obtain ⟨b1, b2⟩ := smallR_ok c1
      obtain ⟨b3, b4⟩ := smallR_ok c2
      exact ⟨i, j, vi2_on q ol, by omega, w2 H2 G2 α2 (Fr.refl _ _ _) hd2 _ gz_range⟩
/-- enumerate(a list or a text) -/
def enumD (l : List Dv) : List Dv := l.zipIdx.map fun p => .tup [.int p.2, p.1]
def itEnum (S : Sto) (a : Vr) : R Its := match a with
  | .d (.lst l) => .ok S (enumD l, none)
  | .d (.str s) => .ok S (enumD (s.cps.toList.map fun c => .str ⟨#[c]⟩), none)
  | _ => .no
def iEnumD (fa : FE) : FI := fun env S => (fa env S).bindV fun S1 a => itEnum S1 a
theorem enum_at {l : List Dv} {i : Nat} {d : Dv} (h : l[i]? = some d) : (enumD l)[i]? = some (.tup [.int i, d]) := by
  unfold enumD
  rw [List.getElem?_map, List.getElem?_zipIdx, h]
  simp
theorem enum_len (l : List Dv) : (enumD l).length = l.length := by unfold enumD; rw [List.length_map, List.length_zipIdx]
theorem gz_enum {K : PySem.W.Frag} {a : Addr} {l : List Dv} {xs : List V} {G2 : Hp} {α2 : List Addr} (h1 : G2 a = some (.lst xs)) (h2 : OnL Z G2 l xs) : Gz Z (Ite K a) G2 α2 (enumD l, none) := by
  have sq : ∀ {G' H}, OkI Z G2 α2 (enumD l, none) G' H → SqL K H a xs := fun ok => SqL.of (ok.2.1 _ _ (ok.1 _ _ h1))
  have w : Walk (Ite K a) xs.length (fun H => SqL K H a xs) (YPair (fun i => some (.int (i : Nat))) (fun i => xs[i]?)) := walk_enum
  refine ⟨fun i G' H hi ok => w.goes i H (by rw [h2.len]; rw [enum_len] at hi; exact hi) (sq ok), fun G' H ok => ?_, fun i G' H x H' hi ok y => ?_⟩
  · have := w.stops H (sq ok)
    rw [h2.len] at this
    rw [enum_len]
    exact this
  · rw [enum_len] at hi
    obtain ⟨T, x', y', rfl, hT, rfl, h3, h4⟩ := w.yields i H x H' (by rw [h2.len]; exact hi) (sq ok) y
    cases h3
    obtain ⟨d, e, o⟩ := h2.got h4
    exact ⟨_, enum_at e, y_pair hT on_int (o.up ok.1)⟩
theorem gz_enumS {s : Str} {G2 : Hp} {α2 : List Addr} : Gz Z (OP.Ites s) G2 α2 (enumD (s.cps.toList.map fun c => .str ⟨#[c]⟩), none) := by
  have hl : (enumD (s.cps.toList.map fun c => Dv.str ⟨#[c]⟩)).length = s.cps.size := by rw [enum_len, List.length_map, Array.length_toList]
  refine ⟨fun i G' H hi ok => by rw [hl] at hi; exact hi, fun G' H ok => by rw [hl]; rfl, fun i G' H x H' hi ok y => ?_⟩
  obtain ⟨T, c, rfl, hT, rfl, hc⟩ := y
  exact ⟨_, enum_at (d := .str ⟨#[c]⟩) (by rw [List.getElem?_map, Array.getElem?_toList, hc]; rfl), y_pair hT on_int on_str⟩
variable {elts : List Expr} {kk : Nat} {tpos : Pos}
theorem pi_enumD (hK : X.K = Z.K) (hg : Gl X "enumerate") (hm : X.mg "enumerate" = none) (h : PF Z Ew X a fa) (hs : starEach [a] X.env = [(false, eval a X.env)] := by rfl) : PIF Z Ew X (.Tuple elts kk tpos) (.Call (.Name "enumerate" p) [a] [] pos) (iEnumD fa) := by
  obtain ⟨te, h1, h2⟩ := h.ex
  refine ⟨_, OP.pi_alt (pi_enum hg hm (pa_cons h1 pa_nil hs) hs) (OP.pi_enumS hg hm h1 hs), fun env σ G α S H R' hd oe w => ?_⟩
  have f0 := Fr.refl G α H
  match hk : kindR (fa env S) with
  | 0 =>
    refine .inl (h2.bind0 f0 hd oe w fun S2 d x H2 G2 α2 g f2 hd2 oe2 ox w2 => ?_)
    cases d with
    | r n => exact w2.elim
    | d d =>
      cases d with
      | lst l =>
        have ox : On Z G2 (.lst l) x := ox
        unfold On at ox
        obtain ⟨a, xs, rfl, e1, e2⟩ := ox
        exact ⟨a, xs, rfl, SqL.of (hd2.ex _ _ e1), (w2.later f2) H2 G2 α2 (Fr.refl _ _ _) hd2 _ (gz_enum e1 e2)⟩
      | str s =>
        rcases kind_got g hk with e | ⟨c, e⟩
        · cases e
        · cases c <;> cases e
      | _ => exact w2.elim
  | n + 1 =>
    refine .inr (h2.bind0 f0 hd oe w fun S2 d x H2 G2 α2 g f2 hd2 oe2 ox w2 => ?_)
    obtain ⟨d, rfl, hk⟩ := got_kind g hk
    cases d with
    | str l =>
      have ox : On Z G2 (.str l) x := ox
      unfold On at ox
      exact ⟨l, ox, (w2.later f2) H2 G2 α2 (Fr.refl _ _ _) hd2 _ gz_enumS⟩
    | lst l => cases hk
    | _ => exact w2.elim
/-- zip of two lists, of two tuples -/
def zipD (l m : List Dv) : List Dv := (l.zip m).map fun p => .tup [p.1, p.2]
def itZip (S : Sto) (l : List Vr) : R Its := match l with
  | [.d (.lst a), .d (.lst b)] => .ok S (zipD a b, none)
  | [.d (.tup a), .d (.tup b)] => .ok S (zipD a b, none)
  | _ => .no
theorem zip_len (l m : List Dv) : (zipD l m).length = min l.length m.length := by unfold zipD; rw [List.length_map, List.length_zip]
theorem zip_at {l m : List Dv} {i : Nat} {c d : Dv} (h : l[i]? = some c) (h2 : m[i]? = some d) : (zipD l m)[i]? = some (.tup [c, d]) := by
  unfold zipD
  rw [List.getElem?_map, (List.getElem?_zip_eq_some (z := (c, d))).mpr ⟨h, h2⟩]
  rfl
theorem gz_zip {K : PySem.W.Frag} {a b : Addr} {l m : List Dv} {xs ys : List V} {G2 : Hp} {α2 : List Addr} (h1 : G2 a = some (.lst xs)) (h2 : OnL Z G2 l xs) (h3 : G2 b = some (.lst ys)) (h4 : OnL Z G2 m ys) : Gz Z (Itz K a b) G2 α2 (zipD l m, none) := by
  have sq : ∀ {G' H}, OkI Z G2 α2 (zipD l m, none) G' H → SqL K H a xs ∧ SqL K H b ys := fun ok => ⟨SqL.of (ok.2.1 _ _ (ok.1 _ _ h1)), SqL.of (ok.2.1 _ _ (ok.1 _ _ h3))⟩
  have hn : (zipD l m).length = min xs.length ys.length := by rw [zip_len, h2.len, h4.len]
  have w : Walk (Itz K a b) (zipD l m).length (fun H => SqL K H a xs ∧ SqL K H b ys) (YPair (fun i => xs[i]?) (fun i => ys[i]?)) := walk_zip hn
  refine ⟨fun i G' H hi ok => w.goes i H hi (sq ok), fun G' H ok => w.stops H (sq ok), fun i G' H x H' hi ok y => ?_⟩
  obtain ⟨T, x', y', rfl, hT, rfl, e1, e2⟩ := w.yields i H x H' hi (sq ok) y
  obtain ⟨c, e3, o3⟩ := h2.got e1
  obtain ⟨d, e4, o4⟩ := h4.got e2
  exact ⟨_, zip_at e3 e4, y_pair hT (o3.up ok.1) (o4.up ok.1)⟩
theorem gz_zipT {K : PySem.W.Frag} {a b : Addr} {l m : List Dv} {xs ys : List V} {G2 : Hp} {α2 : List Addr} (h1 : G2 a = some (.tup xs)) (h2 : OnL Z G2 l xs) (h3 : G2 b = some (.tup ys)) (h4 : OnL Z G2 m ys) : Gz Z (RZ.ItzT K a b) G2 α2 (zipD l m, none) := by
  have sq : ∀ {G' H}, OkI Z G2 α2 (zipD l m, none) G' H → SqT K H a xs ∧ SqT K H b ys := fun ok => ⟨SqT.of (ok.2.1 _ _ (ok.1 _ _ h1)), SqT.of (ok.2.1 _ _ (ok.1 _ _ h3))⟩
  have hn : (zipD l m).length = min xs.length ys.length := by rw [zip_len, h2.len, h4.len]
  refine ⟨fun i G' H hi ok => ?_, fun G' H ok => ?_, fun i G' H x H' hi ok y => ?_⟩
  · obtain ⟨s1, s2⟩ := sq ok
    have hi : i < (zipD l m).length := hi
    have g1 : i < xs.length := by omega
    have g2 : i < ys.length := by omega
    exact ⟨xs, ys, xs[i], ys[i], s1, s2, List.getElem?_eq_getElem g1, List.getElem?_eq_getElem g2⟩
  · obtain ⟨s1, s2⟩ := sq ok
    exact ⟨xs, ys, s1, s2, by show xs.length ≤ (zipD l m).length ∨ ys.length ≤ (zipD l m).length; omega⟩
  · obtain ⟨s1, s2⟩ := sq ok
    obtain ⟨T, x', y', rfl, hT, rfl, e1, e2⟩ := y
    obtain ⟨c, e3, o3⟩ := h2.got (e1 xs s1)
    obtain ⟨d, e4, o4⟩ := h4.got (e2 ys s2)
    exact ⟨_, zip_at e3 e4, y_pair hT (o3.up ok.1) (o4.up ok.1)⟩
theorem zip_cases {l : List Vr} {P : Pst Its} {E : XK} (w : Wk Z (itZip S l) G α H P E) : ∃ a b, (l = [.d (.lst a), .d (.lst b)] ∨ l = [.d (.tup a), .d (.tup b)]) ∧ Wk Z (.ok S (zipD a b, none)) G α H P E := by
  unfold itZip at w
  split at w
  · exact ⟨_, _, .inl rfl, w⟩
  · exact ⟨_, _, .inr rfl, w⟩
  · exact w.elim
/-- enumerate(zip(text, text)) of one length -/
def itEz (S : Sto) (l : List Vr) : R Its := match l with
  | [.d (.str a), .d (.str b)] => if a.cps.size = b.cps.size then .ok S (enumD (zipD (a.cps.toList.map fun c => .str ⟨#[c]⟩) (b.cps.toList.map fun c => .str ⟨#[c]⟩)), none) else .no
  | _ => .no
def iEz (fa : FA) : FI := fun env S => (fa env S).bind fun S1 l => itEz S1 l
theorem gz_ez {s t : Str} {G2 : Hp} {α2 : List Addr} (hl : s.cps.size = t.cps.size) : Gz Z (OP.Itez s t) G2 α2 (enumD (zipD (s.cps.toList.map fun c => .str ⟨#[c]⟩) (t.cps.toList.map fun c => .str ⟨#[c]⟩)), none) := by
  have hl2 : (enumD (zipD (s.cps.toList.map fun c => Dv.str ⟨#[c]⟩) (t.cps.toList.map fun c => .str ⟨#[c]⟩))).length = s.cps.size := by rw [enum_len, zip_len, List.length_map, Array.length_toList, List.length_map, Array.length_toList, hl, Nat.min_self]
  refine ⟨fun i G' H hi ok => by rw [hl2] at hi; exact hi, fun G' H ok => by rw [hl2]; rfl, fun i G' H x H' hi ok y => ?_⟩
  obtain ⟨T, U, c, d, rfl, hT, hU, hn, rfl, h1, h2⟩ := y
  refine ⟨_, enum_at (zip_at (c := .str ⟨#[c]⟩) (d := .str ⟨#[d]⟩) (by rw [List.getElem?_map, Array.getElem?_toList, h1]; rfl) (by rw [List.getElem?_map, Array.getElem?_toList, h2]; rfl)), fun α' S' hd => ?_⟩
  obtain ⟨G3, g1, g2, g3⟩ := y_pair (Z := Z) (G' := G') (c := .str ⟨#[c]⟩) (d := .str ⟨#[d]⟩) hT on_str on_str α' S' hd
  obtain ⟨G4, g4, g5, g6⟩ := y_pair (Z := Z) (G' := G3) (T := U) (x := .int (i : Nat)) (c := .int (i : Nat)) (by rw [upd_ne hn]; exact hU) on_int g3 α' S' g2
  exact ⟨G4, g1.trans g4, g5, g6⟩
theorem ez_cases {l : List Vr} {P : Pst Its} {E : XK} (w : Wk Z (itEz S l) G α H P E) : ∃ a b : Str, l = [.d (.str a), .d (.str b)] ∧ a.cps.size = b.cps.size ∧ Wk Z (.ok S (enumD (zipD (a.cps.toList.map fun c => .str ⟨#[c]⟩) (b.cps.toList.map fun c => .str ⟨#[c]⟩)), none)) G α H P E := by
  unfold itEz at w
  split at w
  · rename_i a b
    by_cases c : a.cps.size = b.cps.size
    · rw [if_pos c] at w; exact ⟨a, b, rfl, c, w⟩
    · rw [if_neg c] at w; exact w.elim
  · exact w.elim
theorem pif_ez {p2 pos2 : Pos} (hg : Gl X "enumerate") (hm : X.mg "enumerate" = none) (hg2 : Gl X "zip") (hm2 : X.mg "zip" = none) (ha : PAF Z Ew X [a, b] fl)
    (hs : starEach [.Call (.Name "zip" p2) [a, b] [] pos2] X.env = [(false, eval (.Call (.Name "zip" p2) [a, b] [] pos2) X.env)] := by rfl)
    (hs2 : starEach [a, b] X.env = (false, eval a X.env) :: starEach [b] X.env := by rfl) (hpl : (backTo pos2 (starEach [b] X.env)).any (·.1) = false := by rfl) :
    PIF Z Ew X (.Tuple elts kk tpos) (.Call (.Name "enumerate" p) [.Call (.Name "zip" p2) [a, b] [] pos2] [] pos) (iEz fl) := by
  obtain ⟨ta, h1, h2⟩ := ha.ex
  refine ⟨_, OP.pi_ez hg hm hg2 hm2 h1 hs hs2 hpl, fun env σ G α S H R' hd oe w => h2.bind hd oe w fun S2 l vs H2 G2 α2 f2 hd2 oe2 ol w2 => ?_⟩
  obtain ⟨c, d, rfl, hl, w3⟩ := ez_cases w2
  obtain ⟨y, ys, rfl, o1, z, zs, rfl, o2, o3⟩ := ol
  cases (show zs = [] from o3)
  have o1 : On Z G2 (.str c) y := o1
  have o2 : On Z G2 (.str d) z := o2
  unfold On at o1 o2
  subst o1 o2
  exact ⟨c, d, rfl, hl, w3 H2 G2 α2 (Fr.refl _ _ _) hd2 _ (gz_ez hl)⟩
end
end DN
namespace DN
open PySem PySem.Spec PyProof.Rows L2 Evl
def tF (Z : Zx) (Ew : L2.St → XK) (f : FE) : TE := fun σ H Q => ∃ env G α S, Hd Z G α S H ∧ OnE Z G α env σ ∧ Wk Z (f env S) G α H (pRt Z Q) (Ew σ)
def tFT (Z : Zx) (Ew : L2.St → XK) (f : FT) : TT := fun σ H Q => ∃ env G α S, Hd Z G α S H ∧ OnE Z G α env σ ∧ Wk Z (f env S) G α H (pB Q) (Ew σ)
def tFI (Z : Zx) (Ew : L2.St → XK) (f : FI) : TI := fun σ H R' => ∃ env G α S, Hd Z G α S H ∧ OnE Z G α env σ ∧ Wk Z (f env S) G α H (pI Z R') (Ew σ)
section
variable {Z : Zx} {Ew : L2.St → XK} {X : Cx} {e tg : Expr}
theorem PF.pe {f : FE} (h : PF Z Ew X e f) : PE X e (tF Z Ew f) := by
  obtain ⟨te, h1, h2⟩ := h.ex
  refine ⟨fun pins s σ H Q I ht => ?_⟩
  obtain ⟨env, G, α, S, hd, oe, w⟩ := ht
  exact h1.run pins s σ H Q I (h2 env σ G α S H Q hd oe w)
theorem PTF.pt {f : FT} (h : PTF Z Ew X e f) : PT X e (tFT Z Ew f) := by
  obtain ⟨te, h1, h2⟩ := h.ex
  refine ⟨fun pins s σ H Q I ht => ?_⟩
  obtain ⟨env, G, α, S, hd, oe, w⟩ := ht
  exact h1.run pins s σ H Q I (h2 env σ G α S H Q hd oe w)
theorem PIF.pi {f : FI} (h : PIF Z Ew X tg e f) : PI X tg e (tFI Z Ew f) := by
  obtain ⟨te, h1, h2⟩ := h.ex
  refine ⟨fun pins s σ H Q I ht => ?_⟩
  obtain ⟨env, G, α, S, hd, oe, w⟩ := ht
  exact h1.run pins s σ H Q I (h2 env σ G α S H Q hd oe w)
theorem se_tF {f : FE} : SE Z Ew (tF Z Ew f) f := fun env σ G α S H Q hd oe w => ⟨env, G, α, S, hd, oe, w⟩
theorem st_tF {f : FT} : ST Z Ew (tFT Z Ew f) f := fun env σ G α S H Q hd oe w => ⟨env, G, α, S, hd, oe, w⟩
theorem si_tF {f : FI} : SI Z Ew (tFI Z Ew f) f := fun env σ G α S H Q hd oe w => ⟨env, G, α, S, hd, oe, w⟩
end
abbrev FG := Dv → Env → Option Env
abbrev FGs := List Dv → Env → Option Env
def tgN (i : Nat) : FG := fun d env => some (env.set i (.v (.d d)))
def tgNil : FGs := fun l env => match l with
  | [] => some env
  | _ => none
def tgCons (f : FG) (fs : FGs) : FGs := fun l env => match l with
  | d :: r => match f d env with
    | some env' => fs r env'
    | none => none
  | [] => none
def tgT (fs : FGs) : FG := fun d env => match d with
  | .tup l => fs l env
  | _ => none
def Wp1 (sl : List Nat) (σ σ' : L2.St) : Prop := ∀ vs : List Nat, (∀ i ∈ sl, i ∈ vs) → wipe σ' vs = wipe σ vs
def tG (Z : Zx) (f : FG) (sl : List Nat) : TG := fun v σ H Q => ∃ env G α S d env', Hd Z G α S H ∧ OnE Z G α env σ ∧ On Z G d v ∧ f d env = some env' ∧ ∀ σ', OnE Z G α env' σ' → Wp1 sl σ σ' → Q σ' H
def tGs (Z : Zx) (f : FGs) (sl : List Nat) : TGs := fun vs σ H Q => ∃ env G α S l env', Hd Z G α S H ∧ OnE Z G α env σ ∧ OnL Z G l vs ∧ f l env = some env' ∧ ∀ σ', OnE Z G α env' σ' → Wp1 sl σ σ' → Q σ' H
structure PGF (Z : Zx) (X : Cx) (tg : Expr) (f : FG) (sl : List Nat) : Prop where
  pg : PG X tg (tG Z f sl)
structure PGFs (Z : Zx) (X : Cx) (n : Nat) (ts : List Expr) (f : FGs) (sl : List Nat) : Prop where
  pg : PGs X ts (tGs Z f sl)
  len : ∀ l env env', f l env = some env' → l.length = n
section
variable {Z : Zx} {X : Cx} {pos : Pos}
theorem wipe_set {σ : L2.St} {i : Nat} {x : Option V} : ∀ {vs : List Nat}, i ∈ vs → wipe (σ.set i x) vs = wipe σ vs
  | [], h => nomatch h
  | j :: vs, h => by
    show (wipe (σ.set i x) vs).set j none = (wipe σ vs).set j none
    by_cases q : i ∈ vs
    · rw [wipe_set q]
    · have e : i = j := by
        rcases List.mem_cons.mp h with e | e
        · exact e
        · exact absurd e q
      subst e
      clear h
      have aux : ∀ (σ : L2.St) (vs : List Nat), i ∉ vs → wipe (σ.set i x) vs = (wipe σ vs).set i x := fun σ vs => by
        induction vs generalizing σ with
        | nil => intro _; rfl
        | cons k r ih =>
          intro h
          have hk : i ≠ k := fun e => h (e ▸ List.mem_cons_self)
          have hr : i ∉ r := fun e => h (List.mem_cons_of_mem _ e)
          show (wipe (σ.set i x) r).set k none = ((wipe σ r).set k none).set i x
          rw [ih σ hr, List.set_comm _ _ hk]
      rw [aux σ vs q, List.set_set]
theorem Wp1.refl (sl : List Nat) (σ : L2.St) : Wp1 sl σ σ := fun _ _ => rfl
theorem Wp1.trans {sl sl' : List Nat} {σ σ' σ'' : L2.St} (a : Wp1 sl σ σ') (b : Wp1 sl' σ' σ'') : Wp1 (sl ++ sl') σ σ'' := fun vs h => (b vs fun i hi => h i (List.mem_append_right _ hi)).trans (a vs fun i hi => h i (List.mem_append_left _ hi))
theorem pgf_name (i : Nat) {x : Str} (hN : X.N.Nodup) (hi : X.N[i]? = some x) (hx : Loc X.env.scope x) (hf : X.fn x = true ∨ X.env.scope.names.lookup x = some .local := by first | exact .inl rfl | exact .inr rfl | assumption) : PGF Z X (.Name x pos) (tgN i) [i] := by
  refine ⟨⟨fun pins s σ H v u Q I r h => ?_⟩⟩
  obtain ⟨env, G, α, S, d, env', hd, oe, ov, e, k⟩ := h
  cases e
  exact (pg_name hN hi hx hf).run pins s σ H v u Q I r (k _ (oe.set i ov) fun vs hv => wipe_set (hv i (by simp)))
theorem pgfs_nil : PGFs Z X 0 [] tgNil [] := by
  refine ⟨⟨fun pins s σ H vs us Q I r h => ?_⟩, fun l env env' e => ?_⟩
  · obtain ⟨env, G, α, S, l, env', hd, oe, ol, e, k⟩ := h
    cases l with
    | nil =>
      cases e
      exact pgs_nil.run pins s σ H vs us Q I r ⟨OnL.nil.mp ol, k _ oe (Wp1.refl _ _)⟩
    | cons a b => cases e
  · cases l with
    | nil => rfl
    | cons a b => cases e
theorem pgfs_cons {e : Expr} {es : List Expr} {f : FG} {fs : FGs} {sl sl' : List Nat} {n : Nat} (h1 : PGF Z X e f sl) (h2 : PGFs Z X n es fs sl')
    (hs : (assignEach (e :: es) X.env).map (·.2) = assign e X.env :: (assignEach es X.env).map (·.2) := by rfl) : PGFs Z X (n + 1) (e :: es) (tgCons f fs) (sl ++ sl') := by
  refine ⟨⟨fun pins s σ H vs us Q I r h => ?_⟩, fun l env env' e => ?_⟩
  · obtain ⟨env, G, α, S, l, env', hd, oe, ol, q, k⟩ := h
    cases l with
    | nil => cases q
    | cons d l =>
      obtain ⟨y, ys, rfl, o1, o2⟩ := OnL.cons.mp ol
      have q' : (match f d env with | some env' => fs l env' | none => none) = some env' := q
      cases q2 : f d env with
      | none => rw [q2] at q'; cases q'
      | some env1 =>
        rw [q2] at q'
        refine (pgs_cons h1.pg h2.pg hs).run pins s σ H _ us Q I r ⟨y, ys, rfl, env, G, α, S, d, env1, hd, oe, o1, q2, fun σ' oe' wp => ⟨env1, G, α, S, l, env', hd, oe', o2, q', fun σ2 oe2 wp2 => k σ2 oe2 (wp.trans wp2)⟩⟩
  · cases l with
    | nil => cases e
    | cons d l =>
      have q' : (match f d env with | some env' => fs l env' | none => none) = some env' := e
      cases q2 : f d env with
      | none => rw [q2] at q'; cases q'
      | some env1 => rw [q2] at q'; rw [List.length_cons, h2.len _ _ _ q']
theorem pgf_tup {es : List Expr} {k : Nat} {fs : FGs} {sl : List Nat} {n : Nat} (hK : X.K = Z.K) (hc : X.calm = true) (h : PGFs Z X n es fs sl)
    (hn : (assignEach es X.env).length = n := by rfl) (hst : (assignEach es X.env).findIdx? (·.1) = none := by rfl) : PGF Z X (.Tuple es k pos) (tgT fs) sl := by
  refine ⟨⟨fun pins s σ H v u Q I r h' => ?_⟩⟩
  obtain ⟨env, G, α, S, d, env', hd, oe, ov, e, kk⟩ := h'
  cases d with
  | tup l =>
    unfold On at ov
    obtain ⟨a, xs, rfl, o1, o2⟩ := ov
    exact (pg_tup hc h.pg hn hst).run pins s σ H _ u Q I r ⟨a, xs, rfl, SqT.of (hd.ex _ _ o1), by rw [o2.len]; exact h.len _ _ _ e, env, G, α, S, l, env', hd, oe, o2, e, kk⟩
  | _ => cases e
end
mutual
def beqD : Dv → Dv → Bool
  | .non, .non => true
  | .bl a, .bl b => a == b
  | .int a, .int b => a == b
  | .str a, .str b => a == b
  | .ty a, .ty b => a == b
  | .cls a, .cls b => a == b
  | .lst a, .lst b => beqDs a b
  | .tup a, .tup b => beqDs a b
  | .ktp a, .ktp b => beqDs a b
  | .obj c a, .obj d b => c == d && beqDs a b
  | .dic t a b, .dic u c d => t == u && beqDs a c && beqDs b d
  | .scr a, .scr b => a == b
  | _, _ => false
def beqDs : List Dv → List Dv → Bool
  | [], [] => true
  | a :: l, b :: m => beqD a b && beqDs l m
  | _, _ => false
end
mutual
theorem beqD_refl : ∀ d : Dv, beqD d d = true
  | .non => by simp [beqD]
  | .bl _ => by simp [beqD]
  | .int _ => by simp [beqD]
  | .str _ => by simp [beqD]
  | .ty _ => by simp [beqD]
  | .cls _ => by simp [beqD]
  | .scr _ => by simp [beqD]
  | .lst l => by simp [beqD, beqDs_refl l]
  | .tup l => by simp [beqD, beqDs_refl l]
  | .ktp l => by simp [beqD, beqDs_refl l]
  | .obj c l => by simp [beqD, beqDs_refl l]
  | .dic t l m => by simp [beqD, beqDs_refl l, beqDs_refl m]
theorem beqDs_refl : ∀ l : List Dv, beqDs l l = true
  | [] => by simp [beqDs]
  | d :: l => by simp [beqDs, beqD_refl d, beqDs_refl l]
end
mutual
theorem beqD_eq : ∀ {a b : Dv}, beqD a b = true → a = b
  | a, b, h => by
    cases a <;> cases b <;> first
      | rfl
      | (simp [beqD] at h; done)
      | (simp [beqD] at h; subst h; rfl)
      | skip
    · rename_i l m; rw [beqDs_eq (a := l) (b := m) (by simpa [beqD] using h)]
    · rename_i l m; rw [beqDs_eq (a := l) (b := m) (by simpa [beqD] using h)]
    · rename_i c l d m
      have h' : c = d ∧ beqDs l m = true := by simpa [beqD] using h
      rw [h'.1, beqDs_eq h'.2]
    · rename_i t l m u l' m'
      have h' : (t = u ∧ beqDs l l' = true) ∧ beqDs m m' = true := by simpa [beqD] using h
      rw [h'.1.1, beqDs_eq h'.1.2, beqDs_eq h'.2]
    · rename_i l m; rw [beqDs_eq (a := l) (b := m) (by simpa [beqD] using h)]
theorem beqDs_eq : ∀ {a b : List Dv}, beqDs a b = true → a = b
  | [], [], _ => rfl
  | [], _ :: _, h => by simp [beqDs] at h
  | _ :: _, [], h => by simp [beqDs] at h
  | a :: l, b :: m, h => by
    have h' : beqD a b = true ∧ beqDs l m = true := by simpa [beqDs] using h
    rw [beqD_eq h'.1, beqDs_eq h'.2]
end
/-- the list that is gone over stands as it did -/
def lockOk (t : Its) (S : Sto) : Bool := match t.2 with
  | none => true
  | some n => match S[n]? with
    | some (.lst l) => beqDs l t.1
    | _ => false
theorem lock_ok {Z : Zx} {G2 G' H : Hp} {α2 α' : List Addr} {t : Its} {S' : Sto} (hd : Hd Z G' α' S' H) (e : Ex G2 G') (p : Px α2 α') (hn : ∀ n, t.2 = some n → n < α2.length) (h : lockOk t S' = true) : OkI Z G2 α2 t G' H := by
  refine ⟨e, hd.ex, fun n q => ?_⟩
  unfold lockOk at h
  rw [q] at h
  obtain ⟨b, ha⟩ : ∃ b, α2[n]? = some b := ⟨_, List.getElem?_eq_getElem (hn n q)⟩
  cases q2 : S'[n]? with
  | none => simp only [q2] at h; cases h
  | some c =>
    simp only [q2] at h
    cases c with
    | lst l =>
      have e2 := beqDs_eq h
      subst e2
      obtain ⟨xs, h1, h2⟩ := (hd.at_ n _ _ (p.get ha) q2).2
      exact ⟨_, xs, ha, h1, h2⟩
    | _ => cases h
theorem lock_lt {Z : Zx} {G H : Hp} {α : List Addr} {t : Its} {S : Sto} (hd : Hd Z G α S H) (h : lockOk t S = true) : ∀ n, t.2 = some n → n < α.length := fun n q => by
  unfold lockOk at h
  rw [q] at h
  rw [hd.len]
  cases q2 : S[n]? with
  | none => simp only [q2] at h; cases h
  | some c => exact (List.getElem?_eq_some_iff.mp q2).1
def R.noex {β : Type} (r : R β) : R β := match r with
  | .ex _ _ => .no
  | r => r
def onD {β : Type} (v : Vr) (f : Dv → R β) : R β := match v with
  | .d d => f d
  | .r _ => .no
/-- the turns of a comprehension -/
def lcGo (t : Its) (tg : FG) (ft : FT) (fe : FE) (env : Env) : List Dv → Sto → List Dv → R (List Dv)
  | [], S, acc => if lockOk t S then .ok S acc else .no
  | d :: r, S, acc => if lockOk t S then (match tg d env with
    | some env' => (ft env' S).noex.bind fun S1 b => if b then (fe env' S1).noex.bindV fun S2 v => onD v fun y => if acc.length < 100000 then lcGo t tg ft fe env r S2 (acc ++ [y]) else .no else lcGo t tg ft fe env r S1 acc
    | none => .no) else .no
def wipeE (env : Env) : List Nat → Env
  | [] => env
  | i :: vs => (wipeE env vs).set i .u
def fLc (fi : FI) (tg : FG) (ft : FT) (fe : FE) (vs : List Nat) : FE := fun env S => (fi env S).bind fun S1 t => (lcGo t tg ft fe (wipeE env vs) t.1 S1 []).bind fun S2 l => .ok S2 (.new (.lst l))
def kYes : FT := fun _ S => .ok S true
abbrev Ew0 : L2.St → XK := fun _ => E0
section
variable {Z : Zx} {X : Cx} {Ew : L2.St → XK} {G H : Hp} {α : List Addr} {S : Sto}
theorem OnE.wipe {env : Env} {σ : L2.St} (h : OnE Z G α env σ) : ∀ vs : List Nat, OnE Z G α (wipeE env vs) (wipe σ vs)
  | [] => h
  | i :: vs => (OnE.wipe h vs).forget i
theorem wipe_wipe {σ : L2.St} {vs : List Nat} : ∀ {l : List Nat}, (∀ i ∈ l, i ∈ vs) → wipe (wipe σ l) vs = wipe σ vs
  | [], _ => rfl
  | i :: l, h => by
    show wipe ((wipe σ l).set i none) vs = wipe σ vs
    rw [wipe_set (h i List.mem_cons_self), wipe_wipe fun j hj => h j (List.mem_cons_of_mem _ hj)]
/-- beside what is known and the cells, something of ours is changed -/
theorem Hd.side {D : Addr} {o : HO} (h : Hd Z G α S H) (hG : G D = none) (hD : D ∉ α) : Hd Z G α S (upd H D o) := by
  refine ⟨fun b u hb => ?_, h.len, h.nd, fun n a c h1 h2 => ?_⟩
  · have : b ≠ D := fun e => by subst e; rw [hG] at hb; cases hb
    rw [upd_ne this]
    exact h.ex b u hb
  · have : a ≠ D := fun e => hD (e ▸ List.mem_of_getElem? h1)
    obtain ⟨h3, h4⟩ := h.at_ n a c h1 h2
    refine ⟨h3, h4.move (Ex.refl G) (upd_ne this) (fun _ _ _ q => q) fun m b _ q1 q2 q3 => ⟨q1, q2, q3, fun o' ho => ?_⟩⟩
    have nb : b ≠ D := fun e => hD (e ▸ List.mem_of_getElem? q1)
    rw [upd_ne nb]; exact ho
theorem Fr.side {G2 H2 : Hp} {α2 : List Addr} {D : Addr} {o : HO} (f : Fr G α H G2 α2 H2) (hD : H D = none) : Fr G α H G2 α2 (upd H2 D o) :=
  ⟨f.g, f.a, fun b u h1 h2 => by
    have : b ≠ D := fun e => by subst e; rw [hD] at h1; cases h1
    rw [upd_ne this]
    exact f.h b u h1 h2, f.n, f.m, fun b hb => by
    by_cases q : b = D
    · subst q; rw [upd_same]; exact fun h => nomatch h
    · rw [upd_ne q]; exact f.s b hb⟩
/-- D, of ours, through a step -/
theorem Fr.ours {G2 H2 : Hp} {α2 : List Addr} {D : Addr} {o : HO} (f : Fr G α H G2 α2 H2) (hG : G D = none) (hD : D ∉ α) (h : H D = some o) (ht : ∀ xs, o ≠ HO.tup xs := by intro _ h; cases h) : G2 D = none ∧ D ∉ α2 ∧ H2 D = some o := by
  refine ⟨f.n D o hG h ht hD, fun hm => ?_, f.h D o h hD⟩
  rcases f.m D hm with e | e
  · exact hD e
  · rw [h] at e; cases e
theorem noex_V {γ δ : Type} {r : R Rt} {F : Sto → Vr → R γ} {fin : Sto → γ → R δ} {P : Pst δ} {E : XK} {Q' : VK} {G' H' : Hp} {α' : List Addr} (w : Wk Z ((r.noex.bindV F).bind fin) G α H P E)
    (k : ∀ S2 d v H2 G2 α2, Fr G' α' H' G2 α2 H2 → Hd Z G2 α2 S2 H2 → OnR Z G2 α2 d v → Wk Z ((F S2 d).bind fin) G α H P E → Q' v H2) : Wk Z r G' α' H' (pRt Z Q') E0 := by
  match r, w with
  | .ok S (.val v), w => exact fun H2 G2 α2 f2 hd2 x ox => k S v x H2 G2 α2 f2 hd2 ox w
  | .ok S (.new c), w =>
    intro H2 G2 α2 f2 hd2 p n
    cases e : frzC c with
    | none =>
      have w : Wk Z ((R.bindV (.ok S (.new c)) F).bind fin) G α H P E := w
      rw [bindV_dead e] at w
      exact w.elim
    | some d =>
      have w : Wk Z ((R.bindV (.ok S (.new c)) F).bind fin) G α H P E := w
      rw [bindV_new e] at w
      cases q : H2 p with
      | none => exact absurd q n.c.ne
      | some o =>
        have hc := n.c
        rw [q] at hc
        exact k S (.d d) _ H2 _ α2 (f2.freeze (o := o) n.h n.g) (hd2.freeze n.g q n.a) (On.frz hc e n.g) w
structure PTsF (Z : Zx) (X : Cx) (ifs : List Expr) (f : FT) : Prop where
  pts : PTs X ifs (tFT Z Ew0 f)
theorem ptsf_nil : PTsF Z X [] kYes := ⟨⟨fun pins s σ H Q I h => by
  obtain ⟨env, G, α, S, hd, oe, w⟩ := h
  exact pts_nil.run pins s σ H Q I (Wk.bool w hd)⟩⟩
theorem ptsf_one {c : Expr} {f : FT} (h : PTF Z Ew0 X c f) : PTsF Z X [c] f := ⟨pts_one h.pt⟩
/-- [elt for target in iter if ..] -/
theorem se_lc {fi : FI} {tg : FG} {ft : FT} {fe : FE} {sl vs : List Nat} (hsl : ∀ i ∈ sl, i ∈ vs) : SE Z Ew (tLc (tFI Z Ew fi) (tG Z tg sl) (tFT Z Ew0 ft) (tF Z Ew0 fe) vs) (fLc fi tg ft fe vs) := fun env σ G α S H Q hd oe w => by
  refine ⟨env, G, α, S, hd, oe, w.bind (P' := pI Z _) fun S1 t H1 G1 α1 f1 hd1 w1 J gz D hD => ?_⟩
  have oe1 : OnE Z G1 α1 (wipeE env vs) (wipe σ vs) := (oe.up f1.g f1.a).wipe vs
  let fin : Sto → List Dv → R Rt := fun S2 l => .ok S2 (.new (.lst l))
  have lk0 : lockOk t S1 = true := by
    have w1 : Wk Z ((lcGo t tg ft fe (wipeE env vs) t.1 S1 []).bind fin) G1 α1 H1 (pRt Z Q) (Ew σ) := w1
    cases q : lockOk t S1 with
    | true => rfl
    | false =>
      cases q2 : t.1 with
      | nil => rw [q2] at w1; simp only [lcGo, q] at w1; exact w1.elim
      | cons d r => rw [q2] at w1; simp only [lcGo, q] at w1; exact w1.elim
  have hlt := lock_lt hd1 lk0
  refine ⟨fun i m H' => m = t.1.length - i ∧ i ≤ t.1.length ∧ ∃ G' α' S' acc xs, Fr G1 α1 H1 G' α' H' ∧ Hd Z G' α' S' H' ∧ G' D = none ∧ D ∉ α' ∧ H' D = some (.lst xs) ∧ OnL Z G' acc xs ∧
    Wk Z ((lcGo t tg ft fe (wipeE env vs) (t.1.drop i) S' acc).bind fin) G1 α1 H1 (pRt Z Q) (Ew σ),
    ⟨t.1.length, by simp, Nat.zero_le _, G1, α1, S1, [], [], Fr.grow hd1 (Ex.new hD), hd1.grow (Ex.new hD), fresh_back hd1.ex hD, fun h => hd1.live h hD, upd_same, OnL.nil', w1⟩, ?_⟩
  rintro i m H' ⟨rfl, hi, G', α', S', acc, xs, f2, hd2, gD, aD, hHD, oa, w2⟩
  cases lk : lockOk t S' with
  | false =>
    cases q2 : t.1.drop i with
    | nil => rw [q2] at w2; simp only [lcGo, lk] at w2; exact w2.elim
    | cons d r => rw [q2] at w2; simp only [lcGo, lk] at w2; exact w2.elim
  | true =>
    have ok := lock_ok hd2 f2.g f2.a hlt lk
    by_cases hlt2 : i < t.1.length
    · refine .inr ⟨gz.go i G' H' hlt2 ok, _, fun H3 h3 => ⟨t.1.length - (i + 1), by omega, rfl, hlt2, h3⟩, fun x H3 y => ?_⟩
      obtain ⟨d, ed, hy⟩ := gz.yld i G' H' x H3 hlt2 ok y
      obtain ⟨G3, f3, hd3, od⟩ := hy α' S' hd2
      obtain ⟨gD3, aD3, hHD3⟩ := f3.ours gD aD hHD
      have e1 : t.1.drop i = d :: t.1.drop (i + 1) := by
        rw [List.drop_eq_getElem_cons hlt2]
        rw [List.getElem?_eq_getElem hlt2] at ed
        cases ed
        rfl
      rw [e1] at w2
      simp only [lcGo, lk, if_true] at w2
      cases q : tg d (wipeE env vs) with
      | none => simp only [q] at w2; exact w2.elim
      | some env' =>
        simp only [q] at w2
        have oe3 : OnE Z G3 α' (wipeE env vs) (wipe σ vs) := (oe1.up f2.g f2.a).up f3.g f3.a
        refine ⟨_, G3, α', S', d, env', hd3, oe3, od, q, fun σ2 oe2 wp => ⟨(wp vs hsl).trans (wipe_wipe fun i h => h), env', G3, α', S', hd3, oe2, ?_⟩⟩
        cases q3 : ft env' S' with
        | no => rw [q3] at w2; exact w2.elim
        | ex S x => rw [q3] at w2; exact w2.elim
        | ok S4 b =>
          rw [q3] at w2
          intro H4 G4 α4 f4 hd4
          obtain ⟨gD4, aD4, hHD4⟩ := f4.ours gD3 aD3 hHD3
          have f14 := (f2.trans f3).trans f4
          cases b with
          | false =>
            dsimp only [pB]
            rw [if_neg Bool.false_ne_true]
            exact ⟨G4, α4, S4, acc, xs, f14, hd4, gD4, aD4, hHD4, oa.up (f3.g.trans f4.g), w2⟩
          | true =>
            dsimp only [pB]
            rw [if_pos rfl]
            refine ⟨env', G4, α4, S4, hd4, oe2.up f4.g f4.a, noex_V (F := fun S2 v => onD v fun y => if acc.length < 100000 then lcGo t tg ft fe (wipeE env vs) (t.1.drop (i + 1)) S2 (acc ++ [y]) else .no) w2 fun S5 v y H5 G5 α5 f5 hd5 ov w5 => ?_⟩
            obtain ⟨gD5, aD5, hHD5⟩ := f5.ours gD4 aD4 hHD4
            cases v with
            | r n => exact w5.elim
            | d v =>
              by_cases hl : acc.length < 100000
              · have w5 : Wk Z ((if acc.length < 100000 then lcGo t tg ft fe (wipeE env vs) (t.1.drop (i + 1)) S5 (acc ++ [v]) else .no).bind fin) G1 α1 H1 (pRt Z Q) (Ew σ) := w5
                rw [if_pos hl] at w5
                have oa5 := (oa.up (f3.g.trans f4.g)).up f5.g
                exact ⟨xs, hHD5, Nat.lt_of_lt_of_le (by rw [oa.len]; exact hl) (by decide), G5, α5, S5, acc ++ [v], xs ++ [y], (f14.trans f5).side hD, hd5.side gD5 aD5, gD5, aD5, upd_same, oa5.app (OnL.cons' ov OnL.nil'), w5⟩
              · have w5 : Wk Z ((if acc.length < 100000 then lcGo t tg ft fe (wipeE env vs) (t.1.drop (i + 1)) S5 (acc ++ [v]) else .no).bind fin) G1 α1 H1 (pRt Z Q) (Ew σ) := w5
                rw [if_neg hl] at w5
                exact w5.elim
    · have e : i = t.1.length := by omega
      subst e
      rw [List.drop_length] at w2
      simp only [lcGo, lk, if_true] at w2
      have w2 : Wk Z (.ok S' (Rt.new (.lst acc))) G1 α1 H1 (pRt Z Q) (Ew σ) := w2
      exact .inl ⟨gz.stop G' H' ok, w2 H' G' α' f2 hd2 D ⟨hD, gD, aD, ⟨xs, hHD, oa⟩⟩⟩
theorem pf_lc {elt tg iter : Expr} {ifs : List Expr} {scope : Scope} {own : List (Str × Nat)} {pos : Pos} {fi : FI} {ftg : FG} {ft : FT} {fe : FE} {sl : List Nat} (hc : X.calm = true) (hN : X.N.Nodup) (hi : PIF Z Ew X tg iter fi) (ok : BlkOk X.N X.env.scope scope own)
    (hg : ∀ (s : Shared) (H : Hp) (C : Addr) (cl : List (Str × Addr)) (fp : List Addr), PGF Z (X.blk s H scope (compEnvC scope cl C X.env) fp) tg ftg sl)
    (ht : ∀ (s : Shared) (H : Hp) (C : Addr) (cl : List (Str × Addr)) (fp : List Addr), PTsF Z (X.blk s H scope (compEnvC scope cl C X.env) fp) ifs ft)
    (he : ∀ (s : Shared) (H : Hp) (C : Addr) (cl : List (Str × Addr)) (fp : List Addr), PF Z Ew0 (X.blk s H scope (compEnvC scope cl C X.env) fp) elt fe)
    (hsl : ∀ i ∈ sl, i ∈ own.map (·.2) := by decide) (hs : ∀ x, foldedSetIterable iter X.env x = pure x := by intro _; rfl) : PF Z Ew X (.ListComp elt [⟨tg, iter, ifs, 0⟩] scope pos) (fLc fi ftg ft fe (own.map (·.2))) :=
  ⟨_, pe_lc hc hN hi.pi ok (fun s H C cl fp => (hg s H C cl fp).pg) (fun s H C cl fp => (ht s H C cl fp).pts) (fun s H C cl fp => (he s H C cl fp).pe) hs, se_lc hsl⟩
end
end DN
namespace DN
open PySem PySem.Spec PyProof.Rows L2 Evl
inductive RS where
  | nx (env : Env) (S : Sto) | rt (S : Sto) (r : Rt) | bk (env : Env) (S : Sto) | ct (env : Env) (S : Sto) | ex (env : Env) (S : Sto) (x : Xn) | no
abbrev FS := Env → Sto → RS
/-- a value is wanted, then a statement goes on -/
def sV (env : Env) (r : R Rt) (F : Sto → Vr → RS) : RS := match r with
  | .ok S (.val v) => F S v
  | .ok S (.new (.lst l)) => F S (.d (.lst l))
  | .ok S (.new (.ob c l)) => F S (.d (.obj c l))
  | .ok S (.new (.dc t ks vs)) => F S (.d (.dic t ks vs))
  | .ok _ (.new .dead) => .no
  | .ok _ (.new (.tab _)) => .no
  | .ex S x => .ex env S x
  | .no => .no
def sB {β : Type} (env : Env) (r : R β) (F : Sto → β → RS) : RS := match r with
  | .ok S b => F S b
  | .ex S x => .ex env S x
  | .no => .no
def WkS (Z : Zx) (r : RS) (G : Hp) (α : List Addr) (H : Hp) (D : Ends) (W : WX) : Prop := match r with
  | .nx env S => ∀ σ2 H2 G2 α2, Fr G α H G2 α2 H2 → Hd Z G2 α2 S H2 → OnE Z G2 α2 env σ2 → D.nx σ2 H2
  | .bk env S => ∀ σ2 H2 G2 α2, Fr G α H G2 α2 H2 → Hd Z G2 α2 S H2 → OnE Z G2 α2 env σ2 → D.bk σ2 H2
  | .ct env S => ∀ σ2 H2 G2 α2, Fr G α H G2 α2 H2 → Hd Z G2 α2 S H2 → OnE Z G2 α2 env σ2 → D.ct σ2 H2
  | .rt S r => Wk Z (.ok S r) G α H (pRt Z D.rt) E0
  | .ex env S x => ∀ σ2 cls d H2 G2 α2, Fr G α H G2 α2 H2 → Hd Z G2 α2 S H2 → OnE Z G2 α2 env σ2 → OnX Z G2 α2 x cls d → W cls d σ2 H2
  | .no => False
def SS (Z : Zx) (W : WX) (ts : TS) (f : FS) : Prop := ∀ env σ G α S H D, Hd Z G α S H → OnE Z G α env σ → WkS Z (f env S) G α H D W → ts D σ H
def tS (Z : Zx) (W : WX) (f : FS) : TS := fun D σ H => ∃ env G α S, Hd Z G α S H ∧ OnE Z G α env σ ∧ WkS Z (f env S) G α H D W
structure PSF (Z : Zx) (W : WX) (X : Cx) (st : Stmt) (f : FS) : Prop where
  ps : PS X st (tS Z W f)
structure PSsF (Z : Zx) (W : WX) (X : Cx) (st : List Stmt) (f : FS) : Prop where
  ps : PSs X st (tS Z W f)
section
variable {Z : Zx} {W : WX} {X : Cx} {G H G2 H2 : Hp} {α α2 : List Addr} {S : Sto} {D : Ends} {env : Env} {σ : L2.St}
theorem WkS.later {r : RS} (w : WkS Z r G α H D W) (f : Fr G α H G2 α2 H2) : WkS Z r G2 α2 H2 D W := by
  cases r with
  | nx env S => exact fun σ2 H3 G3 α3 f3 => w σ2 H3 G3 α3 (f.trans f3)
  | bk env S => exact fun σ2 H3 G3 α3 f3 => w σ2 H3 G3 α3 (f.trans f3)
  | ct env S => exact fun σ2 H3 G3 α3 f3 => w σ2 H3 G3 α3 (f.trans f3)
  | rt S r => exact Wk.later (show Wk Z (.ok S r) G α H (pRt Z D.rt) E0 from w) f
  | ex env S x => exact fun σ2 cls d H3 G3 α3 f3 => w σ2 cls d H3 G3 α3 (f.trans f3)
  | no => exact w
theorem PSF.of {st : Stmt} {ts : TS} {f : FS} (h : PS X st ts) (s : SS Z W ts f) : PSF Z W X st f := ⟨⟨fun pins sh σ H D I ht => by
  obtain ⟨env, G, α, S, hd, oe, w⟩ := ht
  exact h.run pins sh σ H D I (s env σ G α S H D hd oe w)⟩⟩
theorem PSsF.of {st : List Stmt} {ts : TS} {f : FS} (h : PSs X st ts) (s : SS Z W ts f) : PSsF Z W X st f := ⟨⟨fun pins sh σ H D I ht => by
  obtain ⟨env, G, α, S, hd, oe, w⟩ := ht
  exact h.run pins sh σ H D I (s env σ G α S H D hd oe w)⟩⟩
theorem Got.sV {r : R Rt} {S : Sto} {d : Vr} {F : Sto → Vr → RS} (h : Got r S d) : sV env r F = F S d := by
  cases h with
  | val => rfl
  | new S c d h => cases c <;> cases h <;> rfl
/-- an expression's value, then the rest of the statement -/
theorem SE.bindS {te : TE} {fe : FE} {F : Sto → Vr → RS} {Q' : VK} (h : SE Z (WE W) te fe) (hd : Hd Z G α S H) (oe : OnE Z G α env σ) (w : WkS Z (sV env (fe env S) F) G α H D W)
    (k : ∀ S2 d v H2 G2 α2, Got (fe env S) S2 d → Fr G α H G2 α2 H2 → Hd Z G2 α2 S2 H2 → OnE Z G2 α2 env σ → OnR Z G2 α2 d v → WkS Z (F S2 d) G2 α2 H2 D W → Q' v H2) : te σ H Q' := by
  refine h env σ G α S H Q' hd oe ?_
  cases e : fe env S with
  | no => rw [e] at w; exact w.elim
  | ex S2 x =>
    rw [e] at w
    exact fun cls d H2 G2 α2 f2 hd2 ox => w σ cls d H2 G2 α2 f2 hd2 (oe.up f2.g f2.a) ox
  | ok S2 b =>
    cases b with
    | val v =>
      rw [e] at w
      exact fun H2 G2 α2 f2 hd2 x ox => k S2 v x H2 G2 α2 (e ▸ .val S2 v) f2 hd2 (oe.up f2.g f2.a) ox (WkS.later w f2)
    | new c =>
      intro H2 G2 α2 f2 hd2 p n
      cases q : frzC c with
      | none =>
        rw [e] at w
        cases c with
        | dead => exact w.elim
        | tab rows => exact w.elim
        | _ => cases q
      | some d =>
        have g : Got (fe env S) S2 (.d d) := e ▸ .new S2 c d q
        rw [g.sV] at w
        cases q2 : H2 p with
        | none => exact absurd q2 n.c.ne
        | some o =>
          have hc := n.c
          rw [q2] at hc
          have f3 := f2.freeze (o := o) n.h n.g
          exact k S2 (.d d) _ H2 _ α2 g f3 (hd2.freeze n.g q2 n.a) (oe.up f3.g f3.a) (On.frz hc q n.g) (WkS.later w f3)
theorem ST.bindS {tt : TT} {ft : FT} {F : Sto → Bool → RS} {Q' : Bool → Hp → Prop} (h : ST Z (WE W) tt ft) (hd : Hd Z G α S H) (oe : OnE Z G α env σ) (w : WkS Z (sB env (ft env S) F) G α H D W)
    (k : ∀ S2 b H2 G2 α2, Fr G α H G2 α2 H2 → Hd Z G2 α2 S2 H2 → OnE Z G2 α2 env σ → WkS Z (F S2 b) G2 α2 H2 D W → Q' b H2) : tt σ H Q' := by
  refine h env σ G α S H Q' hd oe ?_
  cases e : ft env S with
  | no => rw [e] at w; exact w.elim
  | ex S2 x =>
    rw [e] at w
    exact fun cls d H2 G2 α2 f2 hd2 ox => w σ cls d H2 G2 α2 f2 hd2 (oe.up f2.g f2.a) ox
  | ok S2 b =>
    rw [e] at w
    exact fun H2 G2 α2 f2 hd2 => k S2 b H2 G2 α2 f2 hd2 (oe.up f2.g f2.a) (WkS.later w f2)
theorem SA.bindS {ta : TA} {fa : FA} {F : Sto → List Vr → RS} {Q' : List V → Hp → Prop} (h : SA Z (WE W) ta fa) (hd : Hd Z G α S H) (oe : OnE Z G α env σ) (w : WkS Z (sB env (fa env S) F) G α H D W)
    (k : ∀ S2 l vs H2 G2 α2, Fr G α H G2 α2 H2 → Hd Z G2 α2 S2 H2 → OnE Z G2 α2 env σ → OnA Z G2 α2 l vs → WkS Z (F S2 l) G2 α2 H2 D W → Q' vs H2) : ta σ H Q' := by
  refine h env σ G α S H Q' hd oe ?_
  cases e : fa env S with
  | no => rw [e] at w; exact w.elim
  | ex S2 x =>
    rw [e] at w
    exact fun cls d H2 G2 α2 f2 hd2 ox => w σ cls d H2 G2 α2 f2 hd2 (oe.up f2.g f2.a) ox
  | ok S2 b =>
    rw [e] at w
    exact fun H2 G2 α2 f2 hd2 vs ov => k S2 b vs H2 G2 α2 f2 hd2 (oe.up f2.g f2.a) ov (WkS.later w f2)
theorem WkS.here {env' : Env} (w : WkS Z (.nx env' S) G α H D W) (hd : Hd Z G α S H) (oe : OnE Z G α env' σ) : D.nx σ H := w σ H G α (Fr.refl G α H) hd oe
end
def kNext : FS := fun env S => .nx env S
def kSeq (a b : FS) : FS := fun env S => match a env S with
  | .nx e2 S2 => b e2 S2
  | r => r
def kIf (ft : FT) (a b : FS) : FS := fun env S => sB env (ft env S) fun S1 t => if t then a env S1 else b env S1
def kRet (fe : FE) : FS := fun env S => match fe env S with
  | .ok S2 r => .rt S2 r
  | .ex S2 x => .ex env S2 x
  | .no => .no
def kRetN : FS := fun _ S => .rt S (.val (.d .non))
def kExpr (fe : FE) : FS := fun env S => sB env (fe env S) fun S1 _ => .nx env S1
/-- name = value -/
def kSet (i : Nat) (fe : FE) : FS := fun env S => sV env (fe env S) fun S1 v => .nx (env.set i (.v v)) S1
/-- name = value, a new thing becomes a cell -/
def kSetC (i : Nat) (fe : FE) : FS := fun env S => match fe env S with
  | .ok S1 (.val v) => .nx (env.set i (.v v)) S1
  | .ok S1 (.new c) => .nx (env.set i (.v (.r S1.length))) (S1 ++ [c])
  | .ex S1 x => .ex env S1 x
  | .no => .no
/-- target = value -/
def kAsg (f : FG) (fe : FE) : FS := fun env S => sV env (fe env S) fun S1 v => match v with
  | .d d => match f d env with
    | some env' => .nx env' S1
    | none => .no
  | .r _ => .no
/-- a, b = x, y -/
def kPar (i j : Nat) (fa : FA) : FS := fun env S => sB env (fa env S) fun S1 l => match l with
  | [v, w] => .nx ((env.set i (.v v)).set j (.v w)) S1
  | _ => .no
section
variable {Z : Zx} {W : WX} {X : Cx} {st : Stmt} {rest : List Stmt} {f g : FS} {e : Expr} {fe : FE} {pos : Pos}
theorem psf_nil : PSsF Z W X [] kNext := .of pss_nil fun env σ G α S H D hd oe w => w.here hd oe
theorem psf_cons (h1 : PSF Z W X st f) (h2 : PSsF Z W X rest g) : PSsF Z W X (st :: rest) (kSeq f g) := .of (pss_cons h1.ps h2.ps) fun env σ G α S H D hd oe w => by
  refine ⟨env, G, α, S, hd, oe, ?_⟩
  unfold kSeq at w
  cases q : f env S with
  | nx e2 S2 =>
    rw [q] at w
    exact fun σ2 H2 G2 α2 f2 hd2 oe2 => ⟨e2, G2, α2, S2, hd2, oe2, WkS.later w f2⟩
  | rt S2 r => rw [q] at w; exact w
  | bk e2 S2 => rw [q] at w; exact w
  | ct e2 S2 => rw [q] at w; exact w
  | ex e2 S2 x => rw [q] at w; exact w
  | no => rw [q] at w; exact w
theorem psf_one (h1 : PSF Z W X st f) : PSsF Z W X [st] f := ⟨pss_one h1.ps⟩
theorem psf_ret (h : PF Z (WE W) X e fe) : PSF Z W X (.Return (some e) pos) (kRet fe) := by
  obtain ⟨te, h1, h2⟩ := h.ex
  refine .of (ps_ret h1) fun env σ G α S H D hd oe w => h2 env σ G α S H _ hd oe ?_
  unfold kRet at w
  cases q : fe env S with
  | ok S2 r => rw [q] at w; exact w
  | ex S2 x =>
    rw [q] at w
    exact fun cls d H2 G2 α2 f2 hd2 ox => w σ cls d H2 G2 α2 f2 hd2 (oe.up f2.g f2.a) ox
  | no => rw [q] at w; exact w.elim
theorem psf_expr (h : PF Z (WE W) X e fe) (hs : swapsWith e none pos.line X.env = pure false := by rfl) : PSF Z W X (.Expr e pos) (kExpr fe) := by
  obtain ⟨te, h1, h2⟩ := h.ex
  refine .of (ps_expr h1 hs) fun env σ G α S H D hd oe w => h2 env σ G α S H _ hd oe ?_
  unfold kExpr at w
  cases q : fe env S with
  | ok S2 r =>
    rw [q] at w
    cases r with
    | val v => exact fun H2 G2 α2 f2 hd2 x ox => w σ H2 G2 α2 f2 hd2 (oe.up f2.g f2.a)
    | new c => exact fun H2 G2 α2 f2 hd2 p n => w σ H2 G2 α2 f2 hd2 (oe.up f2.g f2.a)
  | ex S2 x =>
    rw [q] at w
    exact fun cls d H2 G2 α2 f2 hd2 ox => w σ cls d H2 G2 α2 f2 hd2 (oe.up f2.g f2.a) ox
  | no => rw [q] at w; exact w.elim
theorem psf_if {c : Expr} {a b : List Stmt} {ft : FT} (hc : PTF Z (WE W) X c ft) (ha : PSsF Z W X a f) (hb : PSsF Z W X b g) : PSF Z W X (.If c a b pos) (kIf ft f g) := by
  refine .of (ps_if hc.pt ha.ps hb.ps) fun env σ G α S H D hd oe w => st_tF.bindS hd oe w fun S2 b H2 G2 α2 f2 hd2 oe2 w2 => ?_
  cases b with
  | true => rw [if_pos rfl]; exact ⟨env, G2, α2, S2, hd2, oe2, w2⟩
  | false => rw [if_neg Bool.false_ne_true]; exact ⟨env, G2, α2, S2, hd2, oe2, w2⟩
/-- what a plain name's store leaves -/
theorem ss_set {i : Nat} {te : TE} (h : SE Z (WE W) te fe) : SS Z W (tAsg te (gName i)) (kSet i fe) := fun env σ G α S H D hd oe w =>
  h.bindS hd oe w fun S2 d v H2 G2 α2 _ f2 hd2 oe2 ov w2 => w2.here hd2 (oe2.set i ov)
theorem ss_setC {i : Nat} {te : TE} (h : SE Z (WE W) te fe) : SS Z W (tAsg te (gName i)) (kSetC i fe) := fun env σ G α S H D hd oe w => by
  refine h env σ G α S H _ hd oe ?_
  unfold kSetC at w
  cases q : fe env S with
  | no => rw [q] at w; exact w.elim
  | ex S2 x =>
    rw [q] at w
    exact fun cls d H2 G2 α2 f2 hd2 ox => w σ cls d H2 G2 α2 f2 hd2 (oe.up f2.g f2.a) ox
  | ok S2 r =>
    rw [q] at w
    cases r with
    | val v => exact fun H2 G2 α2 f2 hd2 x ox => w _ H2 G2 α2 f2 hd2 ((oe.up f2.g f2.a).set i ox)
    | new c =>
      intro H2 G2 α2 f2 hd2 p n
      have hd3 := hd2.push n.g n.a n.c
      have f3 := f2.push n.h
      refine w _ H2 G2 _ f3 hd3 ((oe.up f3.g f3.a).set i ⟨p, rfl, ?_⟩)
      rw [← hd2.len, List.getElem?_append_right (Nat.le_refl _), Nat.sub_self]
      rfl
theorem psf_set (i : Nat) {x : Str} {p' : Pos} (hN : X.N.Nodup) (hi : X.N[i]? = some x) (hx : Loc X.env.scope x) (h : PF Z (WE W) X e fe) (hs : swapsWith e (some (.Name x p')) pos.line X.env = pure false := by rfl) (hf : X.fn x = true ∨ X.env.scope.names.lookup x = some .local := by first | exact .inl rfl | exact .inr rfl | assumption) :
    PSF Z W X (.Assign [.Name x p'] e pos) (kSet i fe) := .of (ps_set hN hi hx h.pe hs hf) (ss_set se_tF)
theorem psf_setC (i : Nat) {x : Str} {p' : Pos} (hN : X.N.Nodup) (hi : X.N[i]? = some x) (hx : Loc X.env.scope x) (h : PF Z (WE W) X e fe) (hs : swapsWith e (some (.Name x p')) pos.line X.env = pure false := by rfl) (hf : X.fn x = true ∨ X.env.scope.names.lookup x = some .local := by first | exact .inl rfl | exact .inr rfl | assumption) :
    PSF Z W X (.Assign [.Name x p'] e pos) (kSetC i fe) := .of (ps_set hN hi hx h.pe hs hf) (ss_setC se_tF)
/-- name = [..] on one line -/
theorem psf_setLc (i : Nat) {y : Str} {py : Pos} {elt tg iter : Expr} {ifs : List Expr} {scope : Scope} {own : List (Str × Nat)} {lpos : Pos} {fi : FI} {ftg : FG} {ft : FT} {fe : FE} {sl : List Nat} (hc : X.calm = true) (hN : X.N.Nodup) (hy : X.N[i]? = some y) (hyl : X.env.scope.names.lookup y = some .local)
    (hsw : swapsWith (.ListComp elt [⟨tg, iter, ifs, 0⟩] scope lpos) (some (.Name y py)) pos.line X.env = pure true) (hi : PIF Z (WE W) X tg iter fi) (ok : BlkOk X.N X.env.scope scope own)
    (hg : ∀ (s : Shared) (H : Hp) (C : Addr) (cl : List (Str × Addr)) (fp : List Addr), PGF Z (X.blk s H scope (compEnvC scope cl C X.env) fp) tg ftg sl)
    (ht : ∀ (s : Shared) (H : Hp) (C : Addr) (cl : List (Str × Addr)) (fp : List Addr), PTsF Z (X.blk s H scope (compEnvC scope cl C X.env) fp) ifs ft)
    (he : ∀ (s : Shared) (H : Hp) (C : Addr) (cl : List (Str × Addr)) (fp : List Addr), PF Z Ew0 (X.blk s H scope (compEnvC scope cl C X.env) fp) elt fe)
    (hsl : ∀ i ∈ sl, i ∈ own.map (·.2) := by decide) (hs : ∀ x, foldedSetIterable iter X.env x = pure x := by intro _; rfl) : PSF Z W X (.Assign [.Name y py] (.ListComp elt [⟨tg, iter, ifs, 0⟩] scope lpos) pos) (kSet i (fLc fi ftg ft fe (own.map (·.2)))) :=
  .of (ps_setLc hc hN hy hyl hsw hi.pi ok (fun s H C cl fp => (hg s H C cl fp).pg) (fun s H C cl fp => (ht s H C cl fp).pts) (fun s H C cl fp => (he s H C cl fp).pe) hs) (ss_set (se_lc hsl))
theorem psf_asg {tg : Expr} {ftg : FG} {sl : List Nat} (h : PF Z (WE W) X e fe) (hg : PGF Z X tg ftg sl) (hs : swapsWithSole [tg] e pos.line X.env = pure false := by rfl) (hw : swappedStores [tg] e X.env = pure none := by rfl)
    (h1 : (assignEach [tg] X.env).map (·.2) = [assign tg X.env] := by rfl) : PSF Z W X (.Assign [tg] e pos) (kAsg ftg fe) := by
  refine .of (ps_asg h.pe hg.pg hs hw h1) fun env σ G α S H D hd oe w => se_tF.bindS hd oe w fun S2 d v H2 G2 α2 _ f2 hd2 oe2 ov w2 => ?_
  cases d with
  | r n => exact w2.elim
  | d d =>
    cases q : ftg d env with
    | none => simp only [q] at w2; exact w2.elim
    | some env' =>
      simp only [q] at w2
      exact ⟨env, G2, α2, S2, d, env', hd2, oe2, ov, q, fun σ' oe' _ => w2.here hd2 oe'⟩
theorem psf_par (i j : Nat) {x y : Str} {a b : Expr} {fa : FA} {px py pt : Pos} {kt k2 pt2} (hc : X.calm = true) (hN : X.N.Nodup) (hi : X.N[i]? = some x) (hj : X.N[j]? = some y) (hij : i ≠ j)
    (hx : X.env.scope.names.lookup x = some .local) (hy : X.env.scope.names.lookup y = some .local) (ha : PAF Z (WE W) X [a, b] fa)
    (hw : swappedStores [.Tuple [.Name x px, .Name y py] kt pt] (.Tuple [a, b] k2 pt2) X.env = pure (some [x, y]))
    (hs : swapsWithSole [.Tuple [.Name x px, .Name y py] kt pt] (.Tuple [a, b] k2 pt2) pos.line X.env = pure false := by rfl) :
    PSF Z W X (.Assign [.Tuple [.Name x px, .Name y py] kt pt] (.Tuple [a, b] k2 pt2) pos) (kPar i j fa) := by
  obtain ⟨ta, h1, h2⟩ := ha.ex
  refine .of (ps_par hc hN hi hj hij hx hy h1 hw hs) fun env σ G α S H D hd oe w => h2.bindS hd oe w fun S2 l vs H2 G2 α2 f2 hd2 oe2 ol w2 => ?_
  cases l with
  | nil => exact w2.elim
  | cons u r =>
    cases r with
    | nil => exact w2.elim
    | cons v r =>
      cases r with
      | cons _ _ => exact w2.elim
      | nil =>
        obtain ⟨y1, ys, rfl, o1, z, zs, rfl, o2, o3⟩ := ol
        cases (show zs = [] from o3)
        exact ⟨y1, z, rfl, w2.here hd2 ((oe2.set i o1).set j o2)⟩
end
end DN
namespace DN
open PySem PySem.Spec PyProof.Rows L2 Evl
def forGo (t : Its) (tg : FG) (body : FS) : List Dv → Env → Sto → RS
  | [], env, S => if lockOk t S then .nx env S else .no
  | d :: r, env, S => if lockOk t S then (match tg d env with
    | some env' => match body env' S with
      | .nx e2 S2 => forGo t tg body r e2 S2
      | .ct e2 S2 => forGo t tg body r e2 S2
      | .bk e2 S2 => .nx e2 S2
      | r => r
    | none => .no) else .no
def kFor (fi : FI) (tg : FG) (body : FS) : FS := fun env S => sB env (fi env S) fun S1 t => forGo t tg body t.1 env S1
section
variable {Z : Zx} {W : WX} {X : Cx} {G H G2 H2 : Hp} {α α2 : List Addr} {S : Sto} {D : Ends} {env : Env} {σ : L2.St} {pos : Pos}
theorem SI.bindS {wi : TI} {fi : FI} {F : Sto → Its → RS} {R' : It → Hp → Prop} (h : SI Z (WE W) wi fi) (hd : Hd Z G α S H) (oe : OnE Z G α env σ) (w : WkS Z (sB env (fi env S) F) G α H D W)
    (k : ∀ S2 t H2 G2 α2, Fr G α H G2 α2 H2 → Hd Z G2 α2 S2 H2 → OnE Z G2 α2 env σ → WkS Z (F S2 t) G2 α2 H2 D W → ∀ J, Gz Z J G2 α2 t → R' J H2) : wi σ H R' := by
  refine h env σ G α S H R' hd oe ?_
  cases e : fi env S with
  | no => rw [e] at w; exact w.elim
  | ex S2 x =>
    rw [e] at w
    exact fun cls d H2 G2 α2 f2 hd2 ox => w σ cls d H2 G2 α2 f2 hd2 (oe.up f2.g f2.a) ox
  | ok S2 b =>
    rw [e] at w
    exact fun H2 G2 α2 f2 hd2 J gz => k S2 b H2 G2 α2 f2 hd2 (oe.up f2.g f2.a) (WkS.later w f2) J gz
theorem psf_for {tg iter : Expr} {body : List Stmt} {fi : FI} {ftg : FG} {sl : List Nat} {fb : FS} (hp : PassesOwn (model X.prog X.w) X.A X.env X.xe) (hc : X.calm = true) (hi : PIF Z (WE W) X tg iter fi) (hg : PGF Z X tg ftg sl) (hb : PSsF Z W X body fb)
    (hs : ∀ x, foldedSetIterable iter X.env x = pure x := by intro _; rfl) : PSF Z W X (.For tg iter body [] pos) (kFor fi ftg fb) := by
  refine .of (ps_for hp hc hi.pi hg.pg hb.ps hs) fun env σ G α S H D hd oe w => si_tF.bindS hd oe w fun S1 t H1 G1 α1 f1 hd1 oe1 w1 J gz => ?_
  have lk0 : lockOk t S1 = true := by
    cases q : lockOk t S1 with
    | true => rfl
    | false =>
      cases q2 : t.1 with
      | nil => rw [q2] at w1; simp only [forGo, q] at w1; exact w1.elim
      | cons d r => rw [q2] at w1; simp only [forGo, q] at w1; exact w1.elim
  have hlt := lock_lt hd1 lk0
  refine ⟨fun i m σ' H' => m = t.1.length - i ∧ i ≤ t.1.length ∧ ∃ env' G' α' S', Fr G1 α1 H1 G' α' H' ∧ Hd Z G' α' S' H' ∧ OnE Z G' α' env' σ' ∧ WkS Z (forGo t ftg fb (t.1.drop i) env' S') G' α' H' D W,
    ⟨t.1.length, by simp, Nat.zero_le _, env, G1, α1, S1, Fr.refl _ _ _, hd1, oe1, w1⟩, ?_⟩
  rintro i m σ' H' ⟨rfl, hi, env', G', α', S', f2, hd2, oe2, w2⟩
  cases lk : lockOk t S' with
  | false =>
    cases q2 : t.1.drop i with
    | nil => rw [q2] at w2; simp only [forGo, lk] at w2; exact w2.elim
    | cons d r => rw [q2] at w2; simp only [forGo, lk] at w2; exact w2.elim
  | true =>
    have ok := lock_ok hd2 f2.g f2.a hlt lk
    by_cases hlt2 : i < t.1.length
    · refine .inr ⟨gz.go i G' H' hlt2 ok, _, fun σ3 H3 h3 => ⟨t.1.length - (i + 1), by omega, rfl, hlt2, h3⟩, fun x H3 y => ?_⟩
      obtain ⟨d, ed, hy⟩ := gz.yld i G' H' x H3 hlt2 ok y
      obtain ⟨G3, f3, hd3, od⟩ := hy α' S' hd2
      have e1 : t.1.drop i = d :: t.1.drop (i + 1) := by
        rw [List.drop_eq_getElem_cons hlt2]
        rw [List.getElem?_eq_getElem hlt2] at ed
        cases ed
        rfl
      rw [e1] at w2
      simp only [forGo, lk, if_true] at w2
      cases q : ftg d env' with
      | none => simp only [q] at w2; exact w2.elim
      | some env2 =>
        simp only [q] at w2
        refine ⟨env', G3, α', S', d, env2, hd3, oe2.up f3.g f3.a, od, q, fun σ4 oe4 _ => ⟨env2, G3, α', S', hd3, oe4, ?_⟩⟩
        have w3 := WkS.later w2 f3
        cases q3 : fb env2 S' with
        | nx e5 S5 =>
          simp only [q3] at w3
          exact fun σ5 H5 G5 α5 f5 hd5 oe5 => ⟨e5, G5, α5, S5, (f2.trans f3).trans f5, hd5, oe5, WkS.later w3 f5⟩
        | ct e5 S5 =>
          simp only [q3] at w3
          exact fun σ5 H5 G5 α5 f5 hd5 oe5 => ⟨e5, G5, α5, S5, (f2.trans f3).trans f5, hd5, oe5, WkS.later w3 f5⟩
        | bk e5 S5 => simp only [q3] at w3; exact w3
        | rt S5 r => simp only [q3] at w3; exact w3
        | ex e5 S5 x => simp only [q3] at w3; exact w3
        | no => simp only [q3] at w3; exact w3
    · have e : i = t.1.length := by omega
      subst e
      rw [List.drop_length] at w2
      simp only [forGo, lk, if_true] at w2
      exact .inl ⟨gz.stop G' H' ok, w2.here hd2 oe2⟩
end
/-- a cell is changed at an index or a key -/
def putC (c : Cell) (i v : Dv) : Option Cell := match c, i with
  | .lst l, .int k => match ixN l.length k with
    | some j => some (.lst (l.set j v))
    | none => none
  | _, _ => none
def setIx (env : Env) (S : Sto) (o i v : Vr) : RS := match o, i, v with
  | .r n, .d i, .d v => match S[n]? with
    | some c => match putC c i v with
      | some c2 => .nx env (S.set n c2)
      | none => .no
    | none => .no
  | _, _, _ => .no
def kSub (fo fi fv : FE) : FS := fun env S => sV env (fv env S) fun S1 v => sV env (fo env S1) fun S2 o => sV env (fi env S2) fun S3 i => setIx env S3 o i v
section
variable {Z : Zx} {W : WX} {X : Cx} {pos p' : Pos} {o i e : Expr} {fo fi fe : FE}
theorem psf_sub (ho : PF Z (WE W) X o fo) (hi : PF Z (WE W) X i fi) (he : PF Z (WE W) X e fe)
    (ha : ∀ v, assign (.Subscript o i p') X.env v = (do
      let ov ← holding [v] (eval o X.env)
      let iv ← holding [v, ov] (eval i X.env)
      standAt p'
      holding [v, ov, iv] (setItem ov iv v)
      release [v, ov, iv] []) := by intro _; rfl)
    (hs : swapsWithSole [.Subscript o i p'] e pos.line X.env = pure false := by rfl) (hw : swappedStores [.Subscript o i p'] e X.env = pure none := by rfl)
    (h1 : (assignEach [.Subscript o i p'] X.env).map (·.2) = [assign (.Subscript o i p') X.env] := by rfl) : PSF Z W X (.Assign [.Subscript o i p'] e pos) (kSub fo fi fe) := by
  refine .of (ps_asg he.pe (pg_sub ho.pe hi.pe set_list ha) hs hw h1) fun env σ G α S H D hd oe w => se_tF.bindS hd oe w fun S2 dv v H2 G2 α2 _ f2 hd2 oe2 ov w2 => ?_
  refine se_tF.bindS hd2 oe2 w2 fun S3 d3 o3 H3 G3 α3 _ f3 hd3 oe3 ov3 w3 => se_tF.bindS hd3 oe3 w3 fun S4 d4 i4 H4 G4 α4 _ f4 hd4 oe4 ov4 w4 => ?_
  cases d3 with
  | d _ => exact w4.elim
  | r n =>
    cases d4 with
    | r _ => exact w4.elim
    | d di =>
      cases dv with
      | r _ => exact w4.elim
      | d dv =>
        have w4 : WkS Z (match S4[n]? with | some c => (match putC c di dv with | some c2 => RS.nx env (S4.set n c2) | none => .no) | none => .no) G4 α4 H4 D W := w4
        cases q : S4[n]? with
        | none => rw [q] at w4; exact w4.elim
        | some c =>
          rw [q] at w4
          have w4 : WkS Z (match putC c di dv with | some c2 => RS.nx env (S4.set n c2) | none => .no) G4 α4 H4 D W := w4
          cases q2 : putC c di dv with
          | none => rw [q2] at w4; exact w4.elim
          | some c2 =>
            rw [q2] at w4
            have w4 : WkS Z (RS.nx env (S4.set n c2)) G4 α4 H4 D W := w4
            obtain ⟨a, rfl, ha3⟩ := ov3
            have ha4 := f4.a.get ha3
            have ovv : On Z G4 dv v := (On.up f3.g (show On Z G2 dv v from ov)).up f4.g
            cases c with
            | lst l =>
              cases di with
              | int k =>
                have e' : (match ixN l.length k with | some j => some (Cell.lst (l.set j dv)) | none => none) = some c2 := q2
                cases q3 : ixN l.length k with
                | none => rw [q3] at e'; cases e'
                | some j =>
                  rw [q3] at e'
                  cases e'
                  obtain ⟨xs, e1, e2⟩ := (hd4.at_ n a _ ha4 q).2
                  obtain ⟨hd5, f5⟩ := hd4.put (c2 := .lst (l.set j dv)) (o := .lst (xs.set j v)) ha4 q (fun c => nomatch c) ⟨_, rfl, e2.set ovv⟩
                  have ok4 : On Z G4 (.int k) i4 := ov4
                  unfold On at ok4
                  exact ⟨a, xs, k, j, rfl, ok4, e1, by rw [e2.len]; exact q3, w4 _ _ _ _ f5 hd5 (oe4.up f5.g f5.a)⟩
              | _ => cases q2
            | _ => cases di <;> cases q2
end
end DN
namespace DN
open PySem PySem.Spec PyProof.Rows L2 Evl
abbrev FD := List Vr → Sto → R Rt
def cutX (k : Nat) (S : Sto) (x : Xn) : R Rt := match x with
  | .own c (.r n) => if n < k then .ex (S.take k) (.own c (.r n)) else .no
  | x => .ex (S.take k) x
/-- a def is left: its own cells are forgotten, one that is handed back is new -/
def exitR (k : Nat) (r : R Rt) : R Rt := match r with
  | .ok S (.val (.r n)) => if n < k then .ok (S.take k) (.val (.r n)) else (match S[n]? with
    | some (.lst l) => .ok (S.take k) (.new (.lst l))
    | some (.ob c l) => .ok (S.take k) (.new (.ob c l))
    | some (.dc t ks vs) => .ok (S.take k) (.new (.dc t ks vs))
    | _ => .no)
  | .ok S b => .ok (S.take k) b
  | .ex S x => cutX k S x
  | .no => .no
def startE (n : Nat) (args : List Vr) : Env := args.map .v ++ List.replicate (n - args.length) .u
def outS (r : RS) : R Rt := match r with
  | .nx _ S => .ok S (.val (.d .non))
  | .rt S r => .ok S r
  | .ex _ S x => .ex S x
  | _ => .no
def defD (n : Nat) (body : FS) : FD := fun args S => exitR S.length (outS (body (startE n args) S))
def spD (Z : Zx) (m : Nat) (D : FD) : Sp := fun vs H Q E => ∃ G α S args, Hd Z G α S H ∧ OnA Z G α args vs ∧ args.length = m ∧ Wk Z (D args S) G α H (pRt Z Q) E
section
variable {Z : Zx} {G H G2 H2 : Hp} {α α2 : List Addr} {S : Sto} {Q : VK} {E : XK}
theorem take_pre {S2 : Sto} (f : Fr G α H G2 α2 H2) (hd2 : Hd Z G2 α2 S2 H2) : Hd Z G2 α (S2.take α.length) H2 := by
  have := hd2.cut α.length
  rw [f.a.cut] at this
  exact this
theorem pre_get {n : Nat} {a : Addr} (p : Px α α2) (hn : n < α.length) (h : α2[n]? = some a) : α[n]? = some a := by
  obtain ⟨γ, rfl⟩ := p
  rw [List.getElem?_append_left hn] at h
  exact h
theorem cutX_ok {S2 : Sto} {x : Xn} (w : Wk Z (cutX α.length S2 x) G α H (pRt Z Q) E) : Xp Z S2 x G α H E := by
  intro cls d H2 G2 α2 f2 hd2 ox
  have hd3 := take_pre f2 hd2
  cases x with
  | blt n => exact w cls d H2 G2 α f2.cut hd3 ox
  | own c v =>
    cases v with
    | d v => exact w cls d H2 G2 α f2.cut hd3 ox
    | r n =>
      have w : Wk Z (if n < α.length then R.ex (S2.take α.length) (.own c (.r n)) else .no) G α H (pRt Z Q) E := w
      by_cases hn : n < α.length
      · rw [if_pos hn] at w
        obtain ⟨h1, dd, v, h2, h3, a, h4, h5⟩ := ox
        exact w cls d H2 G2 α f2.cut hd3 ⟨h1, dd, v, h2, h3, a, h4, pre_get f2.a hn h5⟩
      · rw [if_neg hn] at w
        exact w.elim
/-- a cell that the def made -/
theorem own_cell {S2 : Sto} {n : Nat} {a : Addr} {c : Cell} (hd : Hd Z G α S H) (f2 : Fr G α H G2 α2 H2) (hd2 : Hd Z G2 α2 S2 H2) (hn : ¬ n < α.length) (ha : α2[n]? = some a) (hs : S2[n]? = some c) (hc : c ≠ .dead) (ht : ∀ r, c ≠ .tab r) : Nw Z H G2 α H2 c a := by
  obtain ⟨h1, h2⟩ := hd2.at_ n a c ha hs
  have na : a ∉ α := fun hm => by
    obtain ⟨m, hm1, hm2⟩ := List.mem_iff_getElem.mp hm
    have h3 : α2[m]? = some a := f2.a.get (by rw [List.getElem?_eq_getElem hm1, hm2])
    have e : m = n := (List.getElem?_inj (List.getElem?_eq_some_iff.mp h3).1 hd2.nd).mp (h3.trans ha.symm)
    omega
  have hs2 : stf c = c := by cases c <;> first | rfl | exact absurd rfl (ht _)
  refine ⟨?_, h1 (by rw [hs2]; exact hc), na, h2.at ht⟩
  rcases f2.m a (List.mem_of_getElem? ha) with h | h
  · exact absurd h na
  · exact h
theorem exitR_ok {r : R Rt} (hd : Hd Z G α S H) (w : Wk Z (exitR S.length r) G α H (pRt Z Q) E) : Wk Z r G α H (pRt Z Q) E := by
  rw [← hd.len] at w
  cases r with
  | no => exact w.elim
  | ex S2 x => exact cutX_ok w
  | ok S2 b =>
    cases b with
    | new c =>
      intro H2 G2 α2 f2 hd2 p n
      exact w H2 G2 α f2.cut (take_pre f2 hd2) p ⟨n.h, n.g, fun hm => n.a (f2.a.mem hm), n.c⟩
    | val v =>
      cases v with
      | d d => exact fun H2 G2 α2 f2 hd2 x ox => w H2 G2 α f2.cut (take_pre f2 hd2) x ox
      | r n =>
        intro H2 G2 α2 f2 hd2 x ox
        obtain ⟨a, rfl, ha⟩ := ox
        have hd3 := take_pre f2 hd2
        by_cases hn : n < α.length
        · simp only [exitR, if_pos hn] at w
          exact w H2 G2 α f2.cut hd3 _ ⟨a, rfl, pre_get f2.a hn ha⟩
        · simp only [exitR, if_neg hn] at w
          cases q : S2[n]? with
          | none => simp only [q] at w; exact w.elim
          | some c =>
            simp only [q] at w
            have nw : c ≠ .dead → (∀ r, c ≠ .tab r) → Nw Z H G2 α H2 c a := fun hc ht => own_cell hd f2 hd2 hn ha q hc ht
            cases c with
            | lst l => exact w H2 G2 α f2.cut hd3 a (nw (fun e => nomatch e) (fun _ e => nomatch e))
            | ob c l => exact w H2 G2 α f2.cut hd3 a (nw (fun e => nomatch e) (fun _ e => nomatch e))
            | dc t ks vs => exact w H2 G2 α f2.cut hd3 a (nw (fun e => nomatch e) (fun _ e => nomatch e))
            | dead => exact w.elim
            | tab rows => exact w.elim
theorem OnA.get : ∀ {l : List Vr} {xs : List V} {i : Nat} {d : Vr}, OnA Z G α l xs → l[i]? = some d → ∃ x, xs[i]? = some x ∧ OnR Z G α d x
  | [], _, _, _, _, e => by simp at e
  | c :: l, xs, 0, d, h, e => by
    obtain ⟨y, ys, rfl, h2, h3⟩ := h
    simp at e
    subst e
    exact ⟨y, rfl, h2⟩
  | c :: l, xs, i + 1, d, h, e => by
    obtain ⟨y, ys, rfl, h2, h3⟩ := h
    obtain ⟨x, h4, h5⟩ := OnA.get (i := i) h3 (by simpa using e)
    exact ⟨x, by simpa using h4, h5⟩
theorem start_on {N : List Str} {args : List Vr} {vs : List V} (h : OnA Z G α args vs) : OnE Z G α (startE N.length args) (L2.start N vs) := by
  have hl := h.len
  refine ⟨?_, fun i d e => ?_, fun i c r e => ?_, fun i e => ?_⟩
  · unfold startE L2.start
    rw [List.length_append, List.length_append, List.length_map, List.length_map, List.length_replicate, List.length_replicate, hl]
  · unfold startE at e
    by_cases hi : i < args.length
    · rw [List.getElem?_append_left (by rw [List.length_map]; exact hi), List.getElem?_map] at e
      cases q : args[i]? with
      | none => rw [q] at e; cases e
      | some a =>
        rw [q] at e
        cases e
        obtain ⟨x, h1, h2⟩ := h.get q
        refine ⟨x, ?_, h2⟩
        unfold L2.start
        rw [List.getElem?_append_left (by rw [List.length_map, hl]; exact hi), List.getElem?_map, h1]
        rfl
    · rw [List.getElem?_append_right (by rw [List.length_map]; omega), List.getElem?_replicate] at e
      split at e <;> cases e
  · unfold startE at e
    by_cases hi : i < args.length
    · rw [List.getElem?_append_left (by rw [List.length_map]; exact hi), List.getElem?_map] at e
      cases q : args[i]? with
      | none => rw [q] at e; cases e
      | some a => rw [q] at e; cases e
    · rw [List.getElem?_append_right (by rw [List.length_map]; omega), List.getElem?_replicate] at e
      split at e <;> cases e
  · unfold startE at e
    by_cases hi : i < args.length
    · rw [List.getElem?_append_left (by rw [List.length_map]; exact hi), List.getElem?_map] at e
      cases q : args[i]? with
      | none => rw [q] at e; cases e
      | some a => rw [q] at e; cases e
    · rw [List.getElem?_append_right (by rw [List.length_map]; omega), List.getElem?_replicate] at e
      split at e <;> cases e
end
/-- a def with defaults or without -/
structure FunD (K : PySem.W.Frag) (x qual : Str) (st : Stmt) (f : Addr) (fd : FuncData) : Prop where
  ex : ∃ (oc : Value) (od : Option Addr) (dV kV doc pm : Value) (an : Option Addr) (cdv ct : Value) (osl : Array (Option Value)),
    fd = PySem.W.fnOf x qual (defArgs st) (defBody st) (defScope st) dV kV doc pm an cdv ct ∧ K.lookup f = some ⟨oc, od, .func fd, osl⟩ ∧ PySem.W.codeIn K cdv qual = true
  kp : PySem.W.keepIn K (.ref f) = true
theorem Fun.d {K : PySem.W.Frag} {x qual : Str} {st : Stmt} {f : Addr} {fd : FuncData} (F : Fun K x qual st f fd) : FunD K x qual st f fd := by
  obtain ⟨⟨oc, od, kV, doc, pm, an, cdv, ct, osl, h1, h2, h3⟩, h4⟩ := F
  exact ⟨⟨oc, od, .none, kV, doc, pm, an, cdv, ct, osl, h1, h2, h3⟩, h4⟩
/-- the wish of a def about exceptions -/
abbrev WD (E : XK) : WX := fun cls d _ H => E cls d H
/-- THE RULE: a def computes its denotation -/
theorem fn_d {Z : Zx} {P : Program} {w : World} {K : PySem.W.Frag} {mg : Str → Option Value} {base : Heap} {b : Bool} {x qual : Str} {st : Stmt} {f : Addr} {fd : FuncData} {N ps : List Str} {k : Nat} {fb : FS} (F : FunD K x qual st f fd) (sc : FnScope N ps (defScope st))
    (hb : ∀ (cdv : Value) (A : Around) (outer : List PySem.Env) (s : Shared) (H : Hp) (E : XK), RoomG b k (A.deeper (envOfC qual (defScope st) s.heap.objs.size f cdv)) →
      PSsF Z (WD E) (cxOf (L2N.CX P w) P w K mg base N qual (defScope st) f cdv A outer s H E) (defBody st) fb) : FnG b P w K mg base (L2N.CX P w) (k + 1) f fd ps (spD Z ps.length (defD N.length fb)) := by
  obtain ⟨oc, od, dV, kV, doc, pm, an, cdv, ct, osl, rfl, lk, hcd⟩ := F.ex
  refine fn_ofG lk hcd sc (fun vs H Q E h => ?_) fun A outer s H vs Q E hr h => ?_
  · obtain ⟨G, α, S, args, _, h1, h2, _⟩ := h
    rw [h1.len, h2]
  · obtain ⟨G, α, S, args, hd, oa, hl, w'⟩ := h
    refine ⟨_, (hb cdv A outer s H E hr).ps, startE N.length args, G, α, S, hd, start_on oa, ?_⟩
    have w2 := exitR_ok hd w'
    cases q : fb (startE N.length args) S with
    | nx e2 S2 =>
      rw [q] at w2
      exact fun σ2 H2 G2 α2 f2 hd2 oe2 => w2 H2 G2 α2 f2 hd2 _ (or_non Z G2 α2)
    | rt S2 r =>
      rw [q] at w2
      show Wk Z (.ok S2 r) G α H (pRt Z Q) E0
      cases r <;> exact w2
    | ex e2 S2 x =>
      rw [q] at w2
      exact fun σ2 cls d H2 G2 α2 f2 hd2 oe2 ox => w2 cls d H2 G2 α2 f2 hd2 ox
    | bk e2 S2 => rw [q] at w2; exact w2.elim
    | ct e2 S2 => rw [q] at w2; exact w2.elim
    | no => rw [q] at w2; exact w2.elim
def fCallD (m : Nat) (D : FD) (fa : FA) : FE := fun env S => (fa env S).bind fun S1 l => if l.length = m then D l S1 else .no
section
variable {Z : Zx} {X : Cx} {W : WX} {k m : Nat} {f : Addr} {fd : FuncData} {ps : List Str} {D : FD} {x : Str} {p pos : Pos} {e : Expr} {es : List Expr} {fa : FA} {fe : FE}
theorem sp_of {vs : List V} {l : List Vr} {G H : Hp} {α : List Addr} {S : Sto} {Q : VK} {E : XK} (hd : Hd Z G α S H) (ol : OnA Z G α l vs) (w : Wk Z (if l.length = m then D l S else .no) G α H (pRt Z Q) E) : spD Z m D vs H Q E := by
  by_cases h : l.length = m
  · rw [if_pos h] at w
    exact ⟨G, α, S, l, hd, ol, h, w⟩
  · rw [if_neg h] at w
    exact w.elim
theorem pf_call {b : Bool} (F : FnG b X.prog X.w X.K X.mg X.base (L2N.CX X.prog X.w) k f fd ps (spD Z m D)) (hr : RoomG b k X.A) (tk : Takes X W) (hg : Gl X x) (hm : X.mg x = some (.ref f)) (hk : PySem.W.keepIn X.K (.ref f) = true) (hb : Binds X.K fd ps [])
    (ha : PAF Z (WE W) X (e :: es) fa) (hdb : (x == ("__debug__" : Str)) = false := by decide) (he : starEach (e :: es) X.env = (false, eval e X.env) :: starEach es X.env := by rfl) (hpl : (backTo pos (starEach es X.env)).any (·.1) = false := by rfl) :
    PF Z (WE W) X (.Call (.Name x p) (e :: es) [] pos) (fCallD m D fa) := by
  obtain ⟨ta, h1, h2⟩ := ha.ex
  refine ⟨_, pe_callG (E := WE W) F hr hg hm hk hb .nil (passAt tk) h1 hdb he hpl, fun env σ G α S H Q hd oe w => h2.bind hd oe w fun S2 l vs H2 G2 α2 f2 hd2 oe2 ol w2 => ?_⟩
  rw [List.append_nil]
  exact sp_of hd2 ol w2
end
end DN
namespace DN
open PySem PySem.Spec PyProof.Rows L2 Evl
def fldOf (l : List Dv) : List Str → Str → Option Dv
  | g :: fs, f => match l with
    | d :: r => if f == g then some d else fldOf r fs f
    | [] => none
  | [], _ => none
def gFld (cs : List String) (f : Str) : Dv → Option Rt
  | .obj c l => if cs.contains c then (match fldOf l (flds c) f with
    | some d => vD d
    | none => none) else none
  | _ => none
def AllC (P : String → Prop) : List String → Prop
  | [] => True
  | c :: r => P c ∧ AllC P r
theorem AllC.mem {P : String → Prop} : ∀ {cs : List String} {c : String}, AllC P cs → cs.contains c = true → P c
  | [], c, _, h => by simp at h
  | a :: r, c, h, e => by
    rw [List.contains_cons, Bool.or_eq_true] at e
    rcases e with e | e
    · rw [beq_iff_eq.mp e]; exact h.1
    · exact AllC.mem h.2 e
/-- the class c has the field f of its instances -/
structure Fd (Z : Zx) (f : Str) (c : String) : Prop where
  cl : Cls Z.K (Z.cm c)
  na : NoAttr Z.K (Z.cm c) f
section
variable {Z : Zx} {X : Cx} {G H G2 H2 : Hp} {α α2 : List Addr} {S : Sto} {Q : VK} {E : XK}
theorem fld_on {f : Str} : ∀ {fs : List Str} {l : List Dv} {xs : List V} {d : Dv}, OnL Z G l xs → fldOf l fs f = some d → ∃ v, (fs.zip xs).lookup f = some v ∧ On Z G d v
  | [], l, xs, d, h, e => by unfold fldOf at e; cases e
  | g :: fs, l, xs, d, h, e => by
    cases l with
    | nil => unfold fldOf at e; cases e
    | cons a r =>
      obtain ⟨y, ys, rfl, h2, h3⟩ := OnL.cons.mp h
      have e' : (if f == g then some a else fldOf r fs f) = some d := e
      rw [List.zip_cons_cons]
      cases q : f == g with
      | true =>
        rw [q] at e'
        cases e'
        exact ⟨y, by simp only [List.lookup, q], h2⟩
      | false =>
        rw [q] at e'
        obtain ⟨v, h4, h5⟩ := fld_on (fs := fs) h3 e'
        exact ⟨v, by simp only [List.lookup, q]; exact h4, h5⟩
variable {Ew : L2.St → XK} {W : WX} {o e : Expr} {es : List Expr} {fo fe : FE} {fa : FA} {pos apos : Pos} {f : Str}
theorem pf_fld (cs : List String) (hK : X.K = Z.K) (hcs : AllC (Fd Z f) cs) (ho : PF Z Ew X o fo) (hb : attributeBase o f X.env (eval o X.env) = eval o X.env := by rfl) : PF Z Ew X (.Attribute o f pos) (fUn (gFld cs f) fo) := by
  obtain ⟨to, h1, h2⟩ := ho.ex
  refine ⟨_, OP.pe_fldK Z.K h1 hb hK, fun env σ G α S H Q hd oe w => h2.bind hd oe w fun S2 a x H2 G2 α2 f2 hd2 oe2 ox w2 => ?_⟩
  obtain ⟨G3, α3, S3, u, hd3, hu, w3⟩ := g1_ok hd2 ox w2
  cases u with
  | obj c l =>
    obtain ⟨a, dx, xs, rfl, k1, k2, k3⟩ := hu
    have w3 : Wk Z (R.of S3 (if cs.contains c then (match fldOf l (flds c) f with | some d => vD d | none => none) else none)) G3 α3 H2 (pRt Z Q) E0 := w3
    cases q : cs.contains c with
    | false => rw [q] at w3; exact w3.elim
    | true =>
      rw [q] at w3
      have w3 : Wk Z (R.of S3 (match fldOf l (flds c) f with | some d => vD d | none => none)) G3 α3 H2 (pRt Z Q) E0 := w3
      have fd := hcs.mem q
      cases q2 : fldOf l (flds c) f with
      | none => rw [q2] at w3; exact w3.elim
      | some d =>
        rw [q2] at w3
        obtain ⟨v, e1, o1⟩ := fld_on k3 q2
        exact ⟨a, Z.cm c, dx, _, v, rfl, k1, fd.cl, fd.na, e1, wD w3 hd3 o1⟩
  | _ => exact w3.elim
def idxS (f : Str) : List Str → Option Nat
  | [] => none
  | g :: r => if f == g then some 0 else (idxS f r).map (· + 1)
def putFd (c : String) (f : Str) (l : List Dv) (v : Dv) : Option (List Dv) := match idxS f (flds c) with
  | some i => if i < l.length then some (l.set i v) else if i = l.length then some (l ++ [v]) else none
  | none => none
def setFd (cs : List String) (f : Str) (env : Env) (S : Sto) (o v : Vr) : RS := match o, v with
  | .r n, .d v => match S[n]? with
    | some (.ob c l) => if cs.contains c then (match putFd c f l v with
      | some l2 => .nx env (S.set n (.ob c l2))
      | none => .no) else .no
    | _ => .no
  | _, _ => .no
def kFld (cs : List String) (f : Str) (fo fv : FE) : FS := fun env S => sV env (fv env S) fun S1 v => sV env (fo env S1) fun S2 o => setFd cs f env S2 o v
theorem putF_zip {f : Str} {y : V} : ∀ {fs : List Str} {xs : List V} {i : Nat}, fs.Nodup → idxS f fs = some i → xs.length ≤ fs.length → i ≤ xs.length →
    putF f y (fs.zip xs) = fs.zip (if i < xs.length then xs.set i y else xs ++ [y])
  | [], xs, i, nd, e, hl, hi => by cases e
  | g :: fs, xs, i, nd, e, hl, hi => by
    have e' : (if f == g then some 0 else (idxS f fs).map (· + 1)) = some i := e
    cases q : f == g with
    | true =>
      rw [q] at e'
      cases e'
      have eg := beq_iff_eq.mp q
      cases xs with
      | nil => rw [List.zip_nil_right, if_neg (by simp), List.nil_append, List.zip_cons_cons, List.zip_nil_right, eg]; rfl
      | cons x xs =>
        rw [if_pos (by simp), List.set_cons_zero, List.zip_cons_cons, List.zip_cons_cons]
        show (if g = f then (g, y) :: fs.zip xs else _) = _
        rw [if_pos eg.symm]
    | false =>
      rw [q] at e'
      cases q2 : idxS f fs with
      | none => rw [q2] at e'; cases e'
      | some j =>
        rw [q2] at e'
        cases e'
        have ng : ¬ g = f := fun h => by rw [h, beq_self_eq_true] at q; cases q
        cases xs with
        | nil => simp at hi
        | cons x xs =>
          rw [List.zip_cons_cons]
          show (if g = f then (g, y) :: fs.zip xs else (g, x) :: putF f y (fs.zip xs)) = _
          rw [if_neg ng, putF_zip (List.nodup_cons.mp nd).2 q2 (by simpa using hl) (by simpa using hi)]
          by_cases c : j < xs.length
          · rw [if_pos c, if_pos (by simpa using c), List.set_cons_succ, List.zip_cons_cons]
          · rw [if_neg c, if_neg (by simpa using c), List.cons_append, List.zip_cons_cons]
theorem flds_nd (c : String) : (flds c).Nodup := by
  unfold flds
  split
  · decide
  split
  · decide
  split
  · decide
  split
  · decide
  split
  · decide
  split
  · decide
  split
  · decide
  split
  · decide
  · decide
theorem flds_len (c : String) : (flds c).length ≤ 6 := by
  unfold flds
  split
  · decide
  split
  · decide
  split
  · decide
  split
  · decide
  split
  · decide
  split
  · decide
  split
  · decide
  split
  · decide
  · decide
theorem idx_lt {f : Str} : ∀ {fs : List Str} {i : Nat}, idxS f fs = some i → i < fs.length
  | [], i, e => by cases e
  | g :: fs, i, e => by
    have e' : (if f == g then some 0 else (idxS f fs).map (· + 1)) = some i := e
    cases q : f == g with
    | true => rw [q] at e'; cases e'; simp
    | false =>
      rw [q] at e'
      cases q2 : idxS f fs with
      | none => rw [q2] at e'; cases e'
      | some j => rw [q2] at e'; cases e'; have := idx_lt q2; simpa using this
theorem psf_fld (cs : List String) {p' : Pos} (hK : X.K = Z.K) (hcs : AllC (Fd Z f) cs) (ho : PF Z (WE W) X o fo) (he : PF Z (WE W) X e fe) (hs : swapsWith e (some (.Attribute o f p')) pos.line X.env = pure false := by rfl) :
    PSF Z W X (.Assign [.Attribute o f p'] e pos) (kFld cs f fo fe) := by
  refine .of (ps_fld ho.pe he.pe hs) fun env σ G α S H D hd oe w => se_tF.bindS hd oe w fun S2 dv v H2 G2 α2 _ f2 hd2 oe2 ov w2 => ?_
  refine se_tF.bindS hd2 oe2 w2 fun S3 d3 o3 H3 G3 α3 _ f3 hd3 oe3 ov3 w3 => ?_
  cases d3 with
  | d _ => exact w3.elim
  | r n =>
    cases dv with
    | r _ => exact w3.elim
    | d dv =>
      have w3 : WkS Z (match S3[n]? with | some (.ob c l) => (if cs.contains c then (match putFd c f l dv with | some l2 => RS.nx env (S3.set n (.ob c l2)) | none => .no) else .no) | _ => .no) G3 α3 H3 D W := w3
      cases q : S3[n]? with
      | none => rw [q] at w3; exact w3.elim
      | some cl =>
        rw [q] at w3
        cases cl with
        | ob c l =>
          have w3 : WkS Z (if cs.contains c then (match putFd c f l dv with | some l2 => RS.nx env (S3.set n (.ob c l2)) | none => .no) else .no) G3 α3 H3 D W := w3
          cases q2 : cs.contains c with
          | false => rw [q2] at w3; exact w3.elim
          | true =>
            rw [q2] at w3
            have w3 : WkS Z (match putFd c f l dv with | some l2 => RS.nx env (S3.set n (.ob c l2)) | none => .no) G3 α3 H3 D W := w3
            have fd := hcs.mem q2
            cases q3 : putFd c f l dv with
            | none => rw [q3] at w3; exact w3.elim
            | some l2 =>
              rw [q3] at w3
              have w3 : WkS Z (RS.nx env (S3.set n (.ob c l2))) G3 α3 H3 D W := w3
              obtain ⟨a, rfl, ha⟩ := ov3
              obtain ⟨dx, xs, e1, e2, e3⟩ := (hd3.at_ n a _ ha q).2
              have ovv : On Z G3 dv v := On.up f3.g (show On Z G2 dv v from ov)
              unfold putFd at q3
              cases q4 : idxS f (flds c) with
              | none => rw [q4] at q3; cases q3
              | some i =>
                rw [q4] at q3
                have q3 : (if i < l.length then some (l.set i dv) else if i = l.length then some (l ++ [dv]) else none) = some l2 := q3
                have hxl : xs.length ≤ (flds c).length := by rw [e3.len]; exact e2
                have fin : ∀ ys, putF f v ((flds c).zip xs) = (flds c).zip ys → OnL Z G3 l2 ys → l2.length ≤ (flds c).length →
                    ∃ a1 C dx1 fs, V.ref a = .ref a1 ∧ H3 a1 = some (.ins C dx1 fs) ∧ Cls X.K C ∧ NoAttr X.K C f ∧ fs.length < 1000 ∧ D.nx σ (upd H3 a1 (.ins C dx1 (putF f v fs))) := fun ys h1 h2 h3 => by
                  obtain ⟨hd5, f5⟩ := hd3.put (c2 := .ob c l2) (o := .ins (Z.cm c) dx ((flds c).zip ys)) ha q (fun c => nomatch c) ⟨dx, ys, rfl, h3, h2⟩
                  refine ⟨a, Z.cm c, dx, _, rfl, e1, hK ▸ fd.cl, hK ▸ fd.na, ?_, ?_⟩
                  · have := flds_len c
                    rw [List.length_zip]
                    omega
                  · rw [h1]
                    exact w3 _ _ _ _ f5 hd5 (oe3.up f5.g f5.a)
                by_cases hi : i < l.length
                · rw [if_pos hi] at q3
                  cases q3
                  refine fin (xs.set i v) ?_ (e3.set ovv) (by rw [List.length_set]; exact e2)
                  rw [putF_zip (flds_nd c) q4 hxl (by rw [e3.len]; omega), if_pos (by rw [e3.len]; exact hi)]
                · rw [if_neg hi] at q3
                  by_cases hi2 : i = l.length
                  · rw [if_pos hi2] at q3
                    cases q3
                    refine fin (xs ++ [v]) ?_ (e3.app (OnL.cons' ovv OnL.nil')) (by have := idx_lt q4; rw [List.length_append, List.length_singleton]; omega)
                    rw [putF_zip (flds_nd c) q4 hxl (by rw [e3.len]; omega), if_neg (by rw [e3.len]; exact hi)]
                  · rw [if_neg hi2] at q3
                    cases q3
        | _ => exact w3.elim
end
end DN
namespace DN
open PySem PySem.Spec PyProof.Rows L2 Evl
theorem passE {X : Cx} : Passes (L2N.CX X.prog X.w) X E0 := fun _ _ _ _ _ _ _ h => by
  obtain ⟨_, _, _, _, _, _, _, _, _, _, _, _, h⟩ := h
  exact h.elim
theorem passN {X : Cx} : Passes (L2N.CX X.prog X.w) X.nox E0 := fun _ _ _ _ _ _ _ h => by
  obtain ⟨_, _, _, _, _, _, _, _, _, _, _, _, h⟩ := h
  exact h.elim
/-- for each class: how many arguments, what the def computes -/
abbrev MT := List (String × Nat × FD)
def MT.at (t : MT) (c : String) : Option (Nat × FD) := match t with
  | [] => none
  | (b, p) :: r => if b == c then some p else MT.at r c
def AllM (P : String → Nat → FD → Prop) : MT → Prop
  | [] => True
  | (c, n, D) :: r => P c n D ∧ AllM P r
theorem AllM.mem {P : String → Nat → FD → Prop} : ∀ {t : MT} {c : String} {n : Nat} {D : FD}, AllM P t → t.at c = some (n, D) → P c n D
  | [], c, n, D, _, h => by cases h
  | (b, p, q) :: r, c, n, D, h, e => by
    have e' : (if b == c then some (p, q) else MT.at r c) = some (n, D) := e
    cases g : b == c with
    | true =>
      rw [g] at e'
      cases e'
      rw [← beq_iff_eq.mp g]
      exact h.1
    | false =>
      rw [g] at e'
      exact AllM.mem h.2 e'
def clsV (S : Sto) : Vr → Option String
  | .d (.obj c _) => some c
  | .r n => match S[n]? with
    | some (.ob c _) => some c
    | some (.tab (.ow c _)) => some c
    | _ => none
  | _ => none
section
variable {Z : Zx} {X : Cx} {G H G2 H2 : Hp} {α α2 : List Addr} {S : Sto} {Q : VK} {E : XK}
theorem clsV_on {o : Vr} {x : V} {c : String} (hd : Hd Z G α S H) (ox : OnR Z G α o x) (e : clsV S o = some c) : ∃ a dx xs, x = .ref a ∧ H a = some (.ins (Z.cm c) dx ((flds c).zip xs)) := by
  cases o with
  | d d =>
    cases d with
    | obj b l =>
      cases e
      have h := On.h hd.ex (show On Z G (.obj c l) x from ox)
      obtain ⟨a, dx, xs, h1, h2, _⟩ := h
      exact ⟨a, dx, xs, h1, h2⟩
    | _ => cases e
  | r n =>
    obtain ⟨a, rfl, ha⟩ := ox
    obtain ⟨cl, h1, h2, h3⟩ := hd.cell2 ha
    unfold clsV at e
    simp only [h1] at e
    cases cl with
    | ob b l =>
      cases e
      obtain ⟨dx, xs, h4, _⟩ := h3
      exact ⟨a, dx, xs, rfl, h4⟩
    | tab t =>
      cases t with
      | ow b v =>
        cases e
        obtain ⟨_, dx, w, h4, _⟩ := h3
        exact ⟨a, dx, [w], rfl, h4⟩
      | _ => cases e
    | _ => cases e
theorem zip_no {f : Str} : ∀ {fs : List Str} {xs : List V}, fs.contains f = false → (fs.zip xs).lookup f = none
  | [], _, _ => rfl
  | n :: r, [], _ => rfl
  | n :: r, x :: t, h => by
    show List.lookup f ((n, x) :: (r.zip t)) = none
    rw [List.contains_cons, Bool.or_eq_false_iff] at h
    simp only [List.lookup, h.1]
    exact zip_no h.2
structure MtOk (X : Cx) (m : Str) (C : Addr) (sp : Sp) : Prop where
  ex : ∃ b k f fd ps, RoomG b k X.A ∧ Cls X.K C ∧ Meth X.K C m f ∧ FnG b X.prog X.w X.K X.mg X.base (L2N.CX X.prog X.w) k f fd ps sp ∧ Binds X.K fd ps []
def tMethX (X : Cx) (W : WX) (m : Str) (ta : TE) (t : TA) : TE := fun σ H Q => ta σ H fun x H1 => ∃ a dx fs C sp, x = .ref a ∧ H1 a = some (.ins C dx fs) ∧ MtOk X m C sp ∧ fs.lookup m = none ∧ t σ H1 fun vs H2 => sp (.ref a :: vs) H2 Q (WE W σ)
variable {W : WX} {o e : Expr} {es : List Expr} {m x : Str} {p pos apos : Pos} {ta : TE} {t : TA} {fo : FE} {fa : FA}
theorem pe_methX {pl : Sem Bool} (he : PE X o ta) (tk : Takes X W) (ha : PA X (e :: es) t)
    (hst : starEach (e :: es) X.env = (false, eval e X.env) :: starEach es X.env := by rfl) (hpl : (backTo pos (starEach es X.env)).any (·.1) = false := by rfl)
    (ht : eval (.Call (.Attribute o m apos) (e :: es) [] pos) X.env = (do
      let ov ← eval o X.env
      standAt apos.atName
      let (f, first) ← holding [ov] (getMethod ov m pl)
      callWith pos f first (backTo pos (starEach (e :: es) X.env)) (backToKw pos (keywordEach [] X.env))) := by rfl) :
    PE X (.Call (.Attribute o m apos) (e :: es) [] pos) (tMethX X W m ta t) := by
  refine ⟨fun pins s σ H Q I h => ?_⟩
  refine PySem.W.methodCall_KW (pl := pl) (thn (he.run pins s σ H _ I h) fun u s1 ⟨x, H1, I1, rx, a, dx, fs, C, sp, ex, ea, mt, l, q⟩ => ?_) ht
  subst ex
  obtain rfl : u = Value.ref a := rx
  obtain ⟨bb, k, f, fd, ps, hr, c, hm, F, hb⟩ := mt.ex
  refine getmeth_ok I1 ea c hm l ?_
  refine PySem.W.callWith_K (first := [.ref a]) (h₀ := X.base) I.ok.mod.kin hm.kp (thn (ha.run pos pins s1 σ H1 _ I1 q) fun us s2 ⟨vs, H2, I2, r, q2⟩ => ⟨I2.kIn, ?_⟩) hst hpl
  exact run_fnG (us := .ref a :: us) (vs := .ref a :: vs) (dvs := []) (E := WE W σ) F hr hb .nil (passAt tk σ) I2 (.cons rfl r) (by rw [List.append_nil]; exact q2)
theorem pe_methX0 {pl : Sem Bool} (he : PE X o ta) (tk : Takes X W)
    (ht : eval (.Call (.Attribute o m apos) [] [] pos) X.env = (do
      let ov ← eval o X.env
      standAt apos.atName
      let (f, first) ← holding [ov] (getMethod ov m pl)
      callWith pos f first (backTo pos (starEach [] X.env)) (backToKw pos (keywordEach [] X.env))) := by rfl) :
    PE X (.Call (.Attribute o m apos) [] [] pos) (tMethX X W m ta tNil) := by
  refine ⟨fun pins s σ H Q I h => ?_⟩
  refine PySem.W.methodCall_KW (pl := pl) (thn (he.run pins s σ H _ I h) fun u s1 ⟨x, H1, I1, rx, a, dx, fs, C, sp, ex, ea, mt, l, q⟩ => ?_) ht
  subst ex
  obtain rfl : u = Value.ref a := rx
  obtain ⟨bb, k, f, fd, ps, hr, c, hm, F, hb⟩ := mt.ex
  refine getmeth_ok I1 ea c hm l ?_
  exact PySem.W.callWith_K0 (first := [.ref a]) I1.kIn hm.kp (run_fnG (us := [.ref a]) (vs := [.ref a]) (dvs := []) (E := WE W σ) F hr hb .nil (passAt tk σ) I1 (.cons rfl .nil) (by rw [List.append_nil]; exact q))
def fMethD (t : MT) (fo : FE) (fa : FA) : FE := fun env S => (fo env S).bindV fun S1 o => match clsV S1 o with
  | some c => (match t.at c with
    | some (n, D) => (fa env S1).bind fun S2 l => if (o :: l).length = n then D (o :: l) S2 else .no
    | none => .no)
  | none => .no
/-- the class c has the method -/
structure MtD (X : Cx) (Z : Zx) (m : Str) (c : String) (n : Nat) (D : FD) : Prop where
  ok : MtOk X m (Z.cm c) (spD Z n D)
  nf : (flds c).contains m = false
theorem se_methD {T : MT} (hT : AllM (MtD X Z m) T) (ho : SE Z (WE W) ta fo) (ha : SA Z (WE W) t fa) : SE Z (WE W) (tMethX X W m ta t) (fMethD T fo fa) := fun env σ G α S H Q hd oe w => by
  refine ho.bind hd oe w fun S2 a x H2 G2 α2 f2 hd2 oe2 ox w2 => ?_
  cases q : clsV S2 a with
  | none => simp only [q] at w2; exact w2.elim
  | some c =>
    simp only [q] at w2
    cases q2 : T.at c with
    | none => simp only [q2] at w2; exact w2.elim
    | some nD =>
      obtain ⟨n, D⟩ := nD
      simp only [q2] at w2
      obtain ⟨b, dx, xs, rfl, hb⟩ := clsV_on hd2 ox q
      have mt := hT.mem q2
      refine ⟨b, dx, _, _, _, rfl, hb, mt.ok, zip_no mt.nf, ha.bind hd2 oe2 w2 fun S3 l vs H3 G3 α3 f3 hd3 oe3 ol w3 => ?_⟩
      exact sp_of hd3 (l := a :: l) ⟨_, _, rfl, ox.up f3.g f3.a, ol⟩ w3
theorem pf_methD {pl : Sem Bool} {T : MT} (tk : Takes X W) (hT : AllM (MtD X Z m) T) (ho : PF Z (WE W) X o fo) (ha : PAF Z (WE W) X (e :: es) fa)
    (hst : starEach (e :: es) X.env = (false, eval e X.env) :: starEach es X.env := by rfl) (hpl : (backTo pos (starEach es X.env)).any (·.1) = false := by rfl)
    (ht : eval (.Call (.Attribute o m apos) (e :: es) [] pos) X.env = (do
      let ov ← eval o X.env
      standAt apos.atName
      let (f, first) ← holding [ov] (getMethod ov m pl)
      callWith pos f first (backTo pos (starEach (e :: es) X.env)) (backToKw pos (keywordEach [] X.env))) := by rfl) :
    PF Z (WE W) X (.Call (.Attribute o m apos) (e :: es) [] pos) (fMethD T fo fa) := by
  obtain ⟨to, h1, h2⟩ := ho.ex
  obtain ⟨ta, h3, h4⟩ := ha.ex
  exact ⟨_, pe_methX (pl := pl) h1 tk h3 hst hpl ht, se_methD hT h2 h4⟩
theorem pf_methD0 {pl : Sem Bool} {T : MT} (tk : Takes X W) (hT : AllM (MtD X Z m) T) (ho : PF Z (WE W) X o fo)
    (ht : eval (.Call (.Attribute o m apos) [] [] pos) X.env = (do
      let ov ← eval o X.env
      standAt apos.atName
      let (f, first) ← holding [ov] (getMethod ov m pl)
      callWith pos f first (backTo pos (starEach [] X.env)) (backToKw pos (keywordEach [] X.env))) := by rfl) :
    PF Z (WE W) X (.Call (.Attribute o m apos) [] [] pos) (fMethD T fo fNil) := by
  obtain ⟨to, h1, h2⟩ := ho.ex
  exact ⟨_, pe_methX0 (pl := pl) h1 tk ht, se_methD hT h2 sa_nil⟩
def okR : R Rt → R Rt
  | .ex _ _ => .no
  | r => r
theorem okR_ok {r : R Rt} {E' : XK} (w : Wk Z (okR r) G α H (pRt Z Q) E) : Wk Z r G α H (pRt Z Q) E' := by
  cases r with
  | no => exact w.elim
  | ex S x => exact w.elim
  | ok S b => exact w
structure PrOk (X : Cx) (f : Str) (C : Addr) (sp : Sp) : Prop where
  ex : ∃ b k p g fd ps, RoomG b (k + 1) X.A ∧ Cls X.K C ∧ PropOf X.K C f p g ∧ FnG b X.prog X.w X.K X.mg X.base (L2N.CX X.prog X.w) k g fd ps sp ∧ Binds X.K fd ps []
structure PrD (X : Cx) (Z : Zx) (f : Str) (c : String) (n : Nat) (D : FD) : Prop where
  ok : PrOk X f (Z.cm c) (spD Z n D)
def tPropX (X : Cx) (f : Str) (ta : TE) : TE := fun σ H Q => ta σ H fun x H1 => ∃ a dx fs C sp, x = .ref a ∧ H1 a = some (.ins C dx fs) ∧ PrOk X f C sp ∧ sp [.ref a] H1 Q E0
theorem pe_propX {f : Str} (he : PE X o ta) (hab : attributeBase o f X.env (eval o X.env) = eval o X.env := by rfl) : PE X (.Attribute o f pos) (tPropX X f ta) := by
  refine ⟨fun pins s σ H Q I h => ?_⟩
  refine attr_of hab (thn (he.run pins s σ H _ I h) fun u s1 ⟨x, H1, I1, rx, a, dx, fs, C, sp, ex, ea, pr, q⟩ => ?_)
  subst ex
  obtain rfl : u = Value.ref a := rx
  obtain ⟨bb, k, p, g, fd, ps, hr, c, hp, F, hb⟩ := pr.ex
  exact getpropG I1 ea c hp F hr hb passN q
def fAsk1 (t : MT) (S : Sto) (o : Vr) : R Rt := match clsV S o with
  | some c => (match t.at c with
    | some (n, D) => if [o].length = n then okR (D [o] S) else .no
    | none => .no)
  | none => .no
def fPropD (t : MT) (fo : FE) : FE := fun env S => (fo env S).bindV fun S1 o => fAsk1 t S1 o
theorem okR_if {c : Prop} [Decidable c] {r : R Rt} {E' : XK} (w : Wk Z (if c then okR r else .no) G α H (pRt Z Q) E) : Wk Z (if c then r else .no) G α H (pRt Z Q) E' := by
  by_cases h : c
  · rw [if_pos h] at w ⊢; exact okR_ok w
  · rw [if_neg h] at w; exact w.elim
theorem ask1 {T : MT} {P : String → Nat → FD → Prop} {a : Vr} {x : V} (hT : AllM P T) (hd2 : Hd Z G α S H) (ox : OnR Z G α a x) (w2 : Wk Z (fAsk1 T S a) G α H (pRt Z Q) E) :
    ∃ c n D b dx xs, x = .ref b ∧ H b = some (.ins (Z.cm c) dx ((flds c).zip xs)) ∧ P c n D ∧ spD Z n D [x] H Q E0 := by
  unfold fAsk1 at w2
  cases q : clsV S a with
  | none => simp only [q] at w2; exact w2.elim
  | some c =>
    simp only [q] at w2
    cases q2 : T.at c with
    | none => simp only [q2] at w2; exact w2.elim
    | some nD =>
      obtain ⟨n, D⟩ := nD
      simp only [q2] at w2
      obtain ⟨b, dx, xs, rfl, hb⟩ := clsV_on hd2 ox q
      exact ⟨c, n, D, b, dx, xs, rfl, hb, hT.mem q2, sp_of hd2 (l := [a]) ⟨_, _, rfl, ox, rfl⟩ (okR_if w2)⟩
theorem pf_prop {Ew : L2.St → XK} {f : Str} {T : MT} (hT : AllM (PrD X Z f) T) (ho : PF Z Ew X o fo) (hab : attributeBase o f X.env (eval o X.env) = eval o X.env := by rfl) : PF Z Ew X (.Attribute o f pos) (fPropD T fo) := by
  obtain ⟨to, h1, h2⟩ := ho.ex
  refine ⟨_, pe_propX h1 hab, fun env σ G α S H Q hd oe w => h2.bind hd oe w fun S2 a x H2 G2 α2 f2 hd2 oe2 ox w2 => ?_⟩
  obtain ⟨c, n, D, b, dx, xs, e1, e2, pr, sp⟩ := ask1 hT hd2 ox w2
  subst e1
  exact ⟨b, dx, _, _, _, rfl, e2, pr.ok, sp⟩
def makeR (k : Nat) (r : R Rt) : R Rt := match r with
  | .ok S (.val (.d .non)) => (match S[k]? with
    | some (.ob c l) => .ok (S.take k) (.new (.ob c l))
    | _ => .no)
  | .ok _ _ => .no
  | .ex S x => cutX k S x
  | .no => .no
def fMakeD (c : String) (dl : List Dv) (n : Nat) (D : FD) (fa : FA) : FE := fun env S => (fa env S).bind fun S1 l =>
  if (Vr.r S1.length :: (l ++ dl.map .d)).length = n then makeR S1.length (D (.r S1.length :: (l ++ dl.map .d)) (S1 ++ [.ob c []])) else .no
structure MkOk (X : Cx) (Z : Zx) (c : String) (dl : List Dv) (n : Nat) (D : FD) : Prop where
  ex : ∃ b k f fd ps ds dvs, RoomG b (k + 1) X.A ∧ Mk X.K (Z.cm c) f ∧ FnG b X.prog X.w X.K X.mg X.base (L2N.CX X.prog X.w) k f fd ps (spD Z n D) ∧ Binds X.K fd ps ds ∧ Vals dvs ds ∧ ∀ G, OnL Z G dl dvs
theorem run_makeW {b : Bool} {k : Nat} {C f : Addr} {fd : FuncData} {ps : List Str} {sp : Sp} {dvs : List V} {ds : List Value} {CX : CXT} {pins : List (Addr × Obj)} {σ : L2.St} {H : Hp} {s : Shared} {Q : VK} {us : List Value} {vs : List V} (M : Mk X.K C f) (F : FnG b X.prog X.w X.K X.mg X.base CX k f fd ps sp) (hr : RoomG b (k + 1) X.A) (hb : Binds X.K fd ps ds) (hd : Vals dvs ds)
    (hx : PassesAt CX X σ E) (I : Inv X pins σ H s) (r : Vals vs us)
    (h : ∀ x dx, H x = none → H dx = none → dx ≠ x → sp (.ref x :: (vs ++ dvs)) (upd (upd H dx (.own x)) x (.ins C dx [])) (fun v H2 => v = .non ∧ Q (.ref x) H2) E) :
    wpAny (model X.prog X.w) X.A (call (.ref C) us) (EP X pins σ Q) X.xe s := by
  have hq := h (s.heap.objs.size + 1) s.heap.objs.size (I.hok.fresh (Nat.le_succ _)) (I.hok.fresh (Nat.le_refl _)) (Nat.ne_of_lt (Nat.lt_succ_self _))
  have I2 := Inv.made (C := C) I
  have r2 : Vals (V.ref (s.heap.objs.size + 1) :: (vs ++ dvs)) (Value.ref (s.heap.objs.size + 1) :: (us ++ ds)) := .cons rfl (r.append hd)
  have hl : (Value.ref (s.heap.objs.size + 1) :: us ++ ds).length = ps.length := by
    have e := r2.length
    rw [F.len _ _ _ _ hq] at e
    exact e.symm
  refine wpAny_call (make_map (f := f) I.kIn M.makes M.init (beq_iff_eq.mp M.fn) (codeAny_mono (F.run _ X.stack _ _ ⟨Value.ref (s.heap.objs.size + 1) :: us, []⟩ (Value.ref (s.heap.objs.size + 1) :: (us ++ ds)) _ _ E (hr.make C us [])
    (I2.env0.make C us []) (hb _ (Value.ref (s.heap.objs.size + 1) :: us) I2.kIn hl) r2 hq) fun r s' hq' => ?_))
  cases r with
  | error e => exact hx pins _ _ e s' I2 hq'
  | ok fl =>
    cases fl with
    | ret u =>
      obtain ⟨v, H', I3, rv, ev, q3⟩ := I2.after hq'
      subst ev
      exact ⟨rv, ⟨V.ref (s.heap.objs.size + 1), H', I3, rfl, q3⟩⟩
    | next => exact False.elim hq'
    | brk => exact False.elim hq'
    | cont => exact False.elim hq'
def tMakeW (C : Addr) (sp : Sp) (dvs : List V) (W : WX) (t : TA) : TE := fun σ H Q => t σ H fun vs H1 => ∀ x dx, H1 x = none → H1 dx = none → dx ≠ x → sp (.ref x :: (vs ++ dvs)) (upd (upd H1 dx (.own x)) x (.ins C dx [])) (fun v H2 => v = .non ∧ Q (.ref x) H2) (WE W σ)
theorem OnA.app : ∀ {l m : List Vr} {xs ys : List V}, OnA Z G α l xs → OnA Z G α m ys → OnA Z G α (l ++ m) (xs ++ ys)
  | [], _, _, _, h, g => by rw [show _ = [] from h]; exact g
  | d :: l, m, xs, ys, h, g => by
    obtain ⟨y, zs, rfl, h2, h3⟩ := h
    exact ⟨y, zs ++ ys, rfl, h2, OnA.app h3 g⟩
theorem OnL.toA : ∀ {l : List Dv} {xs : List V}, OnL Z G l xs → OnA Z G α (l.map .d) xs
  | [], _, h => OnL.nil.mp h
  | d :: l, xs, h => by
    obtain ⟨y, ys, rfl, h2, h3⟩ := OnL.cons.mp h
    exact ⟨y, ys, rfl, h2, OnL.toA h3⟩
/-- the new instance is a cell -/
theorem make_ok {c : String} {n : Nat} {D : FD} {l : List Vr} {vs : List V} (hd : Hd Z G α S H) (ol : OnA Z G α l vs) (w : Wk Z (if (Vr.r S.length :: l).length = n then makeR S.length (D (.r S.length :: l) (S ++ [.ob c []])) else .no) G α H (pRt Z Q) E) :
    ∀ x dx, H x = none → H dx = none → dx ≠ x → spD Z n D (.ref x :: vs) (upd (upd H dx (.own x)) x (.ins (Z.cm c) dx [])) (fun v H2 => v = .non ∧ Q (.ref x) H2) E := by
  intro x dx hx hdx hne
  by_cases hl : (Vr.r S.length :: l).length = n
  · rw [if_pos hl] at w
    obtain ⟨hd1, f1⟩ := hd.know (o := .own x) hdx
    have hx1 : upd H dx (.own x) x = none := by rw [upd_ne hne.symm]; exact hx
    have hd2 := hd1.grow (Ex.new (o := .ins (Z.cm c) dx []) hx1)
    have f2 := f1.trans (Fr.grow hd1 (Ex.new (o := .ins (Z.cm c) dx []) hx1))
    have hG : upd G dx (.own x) x = none := fresh_back hd1.ex hx1
    have nm : x ∉ α := fun hm => hd.live hm hx
    have hd3 := hd2.push (c := .ob c []) hG nm ⟨dx, [], by rw [upd_same, List.zip_nil_right], Nat.zero_le _, OnL.nil'⟩
    have f3 := f2.push hx
    refine ⟨_, _, _, .r S.length :: l, hd3, ⟨_, _, rfl, ⟨x, rfl, by rw [← hd.len, List.getElem?_append_right (Nat.le_refl _), Nat.sub_self]; rfl⟩, ol.up f3.g f3.a⟩, hl, ?_⟩
    cases q : D (.r S.length :: l) (S ++ [.ob c []]) with
    | no => rw [q] at w; exact w.elim
    | ex S2 x =>
      rw [q] at w
      exact Xp.later (cutX_ok (by rw [hd.len]; exact w)) f3
    | ok S2 b =>
      rw [q] at w
      cases b with
      | new _ => exact w.elim
      | val v =>
        cases v with
        | r _ => exact w.elim
        | d v =>
          cases v with
          | non =>
            intro H2 G2 α2 f4 hd4 y oy
            have f5 := f3.trans f4
            refine ⟨by have : On Z G2 .non y := oy; unfold On at this; exact this, ?_⟩
            cases q2 : S2[S.length]? with
            | none => simp only [makeR, q2] at w; exact w.elim
            | some cl =>
              cases cl with
              | ob c' l' =>
                simp only [makeR, q2] at w
                rw [← hd.len] at w q2
                have ha : α2[α.length]? = some x := f4.a.get (by rw [List.getElem?_append_right (Nat.le_refl _), Nat.sub_self]; rfl)
                exact w H2 G2 α f5.cut (take_pre f5 hd4) x (own_cell hd f5 hd4 (Nat.lt_irrefl _) ha q2 (fun e => nomatch e) (fun _ e => nomatch e))
              | _ => simp only [makeR, q2] at w; exact w.elim
          | _ => exact w.elim
  · rw [if_neg hl] at w
    exact w.elim
theorem pf_make {c : String} {dl : List Dv} {n : Nat} {D : FD} (M : MkOk X Z c dl n D) (tk : Takes X W) (hg : Gl X x) (hm : X.mg x = some (.ref (Z.cm c))) (ha : PAF Z (WE W) X (e :: es) fa)
    (hdb : (x == ("__debug__" : Str)) = false := by decide) (he : starEach (e :: es) X.env = (false, eval e X.env) :: starEach es X.env := by rfl) (hpl : (backTo pos (starEach es X.env)).any (·.1) = false := by rfl) :
    PF Z (WE W) X (.Call (.Name x p) (e :: es) [] pos) (fMakeD c dl n D fa) := by
  obtain ⟨bb, k, f, fd, ps, ds, dvs, hr, M, F, hb, hdv, hdl⟩ := M.ex
  obtain ⟨ta, h1, h2⟩ := ha.ex
  refine ⟨tMakeW (Z.cm c) (spD Z n D) dvs W ta, ⟨fun pins s σ H Q I h => ?_⟩, fun env σ G α S H Q hd oe w => h2.bind hd oe w fun S2 l vs H2 G2 α2 f2 hd2 oe2 ol w2 => ?_⟩
  · refine wpAny_Call_Name_kw (ld_glob I hg hm ?_ hdb)
    refine PySem.W.callWith_K (h₀ := X.base) I.ok.mod.kin M.kp (thn (h1.run pos pins s σ H _ I h) fun us s1 ⟨vs, H1, I1, r, q⟩ => ⟨I1.kIn, ?_⟩) he hpl
    exact run_makeW M F hr hb hdv (passAt tk σ) I1 r q
  · exact make_ok hd2 (ol.app (hdl G2).toA) w2
/-- cls(..), the class held by a name -/
def fMakeL (i : Nat) (c : String) (n : Nat) (D : FD) (fa : FA) : FE := fun env S => match env[i]? with
  | some (.v (.d (.cls b))) => if b == c then fMakeD c [] n D fa env S else .no
  | _ => .no
def fCMeth (c : String) (n : Nat) (D : FD) (fo : FE) (fa : FA) : FE := fun env S => (fo env S).bindV fun S1 o => match o with
  | .d (.cls b) => if b == c then (fa env S1).bind fun S2 l => if (Vr.d (.cls c) :: l).length = n then D (.d (.cls c) :: l) S2 else .no else .no
  | _ => .no
end
end DN
namespace DN
open PySem PySem.Spec PyProof.Rows L2 Evl
def kNo : FS := fun _ _ => .no
section
variable {Z : Zx} {X : Cx} {W : WX} {Ew : L2.St → XK}
theorem psf_no {st : Stmt} : PSF Z W X st kNo := ⟨⟨fun _ _ _ _ _ _ h => by
  obtain ⟨_, _, _, _, _, _, w⟩ := h
  exact w.elim⟩⟩
end
inductive Tk where
  | b (n : String) | o (c : String)
def TYS : List String := ["bool", "int", "str", "list", "tuple", "dict"]
def tkD : Dv → Option Tk
  | .non => some (.b "NoneType")
  | .bl _ => some (.b "bool")
  | .int _ => some (.b "int")
  | .str _ => some (.b "str")
  | .lst _ => some (.b "list")
  | .tup _ => some (.b "tuple")
  | .ktp _ => some (.b "tuple")
  | .dic _ _ _ => some (.b "dict")
  | .obj c _ => some (.o c)
  | _ => none
def tkV (Z : Zx) : Tk → Value
  | .b n => .type n
  | .o c => .ref (Z.cm c)
structure ClOk (Z : Zx) (c : String) : Prop where
  cl : Cls Z.K (Z.cm c)
  it : OP.InsT Z.K (Z.cm c)
  kc : PySem.W.kitOne Z.K (.type "int") (.ref (Z.cm c)) = some false
  kb : AllC (fun t => PySem.W.kitOne Z.K (.ref (Z.cm c)) (.type t) = some false) TYS
structure CsOk (Z : Zx) (cs : List String) : Prop where
  all : AllC (ClOk Z) cs
  two : AllC (fun c => AllC (fun d => c = d ∨ PySem.W.kitOne Z.K (.ref (Z.cm c)) (.ref (Z.cm d)) = some false) cs) cs
def BTS : List String := ["NoneType", "bool", "int", "str", "list", "tuple", "dict"]
/-- is a thing of type k one of the class d? -/
def isa1 (cs : List String) (k : Tk) (d : Dv) : Option Bool := match k, d with
  | .b n, .ty m => if BTS.contains n && TYS.contains m then some (n == m || (n == "bool" && m == "int")) else none
  | .b n, .cls c => if BTS.contains n && cs.contains c then some false else none
  | .o c, .ty m => if cs.contains c && TYS.contains m then some false else none
  | .o c, .cls e => if cs.contains c && cs.contains e then some (c == e) else none
  | _, _ => none
def okT (cs : List String) : Tk → Bool
  | .b n => BTS.contains n
  | .o c => cs.contains c
section
variable {Z : Zx} {X : Cx} {G H G2 H2 : Hp} {α α2 : List Addr} {S : Sto} {Q : VK} {E : XK} {cs : List String}
theorem beq_tr (n : String) (C : Addr) : (Value.type n == Value.ref C) = false := rfl
theorem kit_c {C : Addr} (h : PySem.W.kitOne Z.K (.type "int") (.ref C) = some false) : ((PySem.W.clsIn Z.K C).isSome && PySem.W.typeIn Z.K (.ref C) == some (.type "type")) = true := by
  unfold PySem.W.kitOne at h
  rw [beq_tr] at h
  simp only [Bool.false_eq_true, if_false] at h
  unfold PySem.W.kitCls at h
  simp only at h
  split at h
  · assumption
  · cases h
theorem kit_bo {C : Addr} {n : String} (h : PySem.W.kitOne Z.K (.type "int") (.ref C) = some false) (hn : BTS.contains n = true) : PySem.W.kitOne Z.K (.type n) (.ref C) = some false := by
  have h2 := kit_c h
  unfold PySem.W.kitOne
  rw [beq_tr]
  simp only [Bool.false_eq_true, if_false]
  unfold PySem.W.kitCls
  simp only [h2, if_true]
  simp only [BTS, List.contains_cons, List.contains_nil, Bool.or_false, Bool.or_eq_true, beq_iff_eq] at hn
  rcases hn with rfl | rfl | rfl | rfl | rfl | rfl | rfl <;> rfl
theorem sub_bo {C : Addr} {n : String} (hn : BTS.contains n = true) : PySem.W.subIn Z.K (.type n) (.ref C) = some false := by
  simp only [BTS, List.contains_cons, List.contains_nil, Bool.or_false, Bool.or_eq_true, beq_iff_eq] at hn
  rcases hn with rfl | rfl | rfl | rfl | rfl | rfl | rfl <;> rfl
theorem kit_bb {n m : String} (hn : BTS.contains n = true) (hm : TYS.contains m = true) : PySem.W.kitOne Z.K (.type n) (.type m) = some (n == m || (n == "bool" && m == "int")) := by
  simp only [BTS, List.contains_cons, List.contains_nil, Bool.or_false, Bool.or_eq_true, beq_iff_eq] at hn
  simp only [TYS, List.contains_cons, List.contains_nil, Bool.or_false, Bool.or_eq_true, beq_iff_eq] at hm
  rcases hn with rfl | rfl | rfl | rfl | rfl | rfl | rfl <;> rcases hm with rfl | rfl | rfl | rfl | rfl | rfl <;> rfl
theorem isa1_ok (C : CsOk Z cs) {k : Tk} {d : Dv} {b : Bool} (h : isa1 cs k d = some b) : ∃ x u, (∀ G, On Z G d x) ∧ ClsV x u ∧ PySem.W.kitOne Z.K (tkV Z k) u = some b := by
  cases k with
  | b n =>
    cases d with
    | ty m =>
      have h : (if BTS.contains n && TYS.contains m then some (n == m || (n == "bool" && m == "int")) else none) = some b := h
      split at h
      · rename_i q
        obtain ⟨q1, q2⟩ := and2 q
        cases h
        exact ⟨.ty m, .type m, fun G => on_ty, .ty m, kit_bb q1 q2⟩
      · cases h
    | cls c =>
      have h : (if BTS.contains n && cs.contains c then some false else none) = some b := h
      split at h
      · rename_i q
        obtain ⟨q1, q2⟩ := and2 q
        cases h
        exact ⟨.ref (Z.cm c), .ref (Z.cm c), fun G => on_cls, .own _, kit_bo (C.all.mem q2).kc q1⟩
      · cases h
    | _ => cases h
  | o c =>
    cases d with
    | ty m =>
      have h : (if cs.contains c && TYS.contains m then some false else none) = some b := h
      split at h
      · rename_i q
        obtain ⟨q1, q2⟩ := and2 q
        cases h
        exact ⟨.ty m, .type m, fun G => on_ty, .ty m, (C.all.mem q1).kb.mem q2⟩
      · cases h
    | cls e =>
      have h : (if cs.contains c && cs.contains e then some (c == e) else none) = some b := h
      split at h
      · rename_i q
        obtain ⟨q1, q2⟩ := and2 q
        cases h
        refine ⟨.ref (Z.cm e), .ref (Z.cm e), fun G => on_cls, .own _, ?_⟩
        cases q3 : c == e with
        | true =>
          rw [beq_iff_eq.mp q3]
          show PySem.W.kitOne Z.K (.ref (Z.cm e)) (.ref (Z.cm e)) = some true
          unfold PySem.W.kitOne
          rw [if_pos (by simp)]
        | false =>
          rcases (C.two.mem q1).mem q2 with rfl | h
          · simp at q3
          · exact h
      · cases h
    | _ => cases h
theorem tk_on (C : CsOk Z cs) {d : Dv} {y : V} {k : Tk} (eG : Ex G H) (h : OnH Z G H d y) (e : tkD d = some k) (hk : okT cs k = true) : TyX Z.K H y (tkV Z k) := by
  cases d with
  | non => cases e; cases h; exact .base .non
  | bl b => cases e; cases h; exact .base (.bl b)
  | int b => cases e; cases h; exact .base (.int b)
  | str b => cases e; cases h; exact .base (.str b)
  | lst l => cases e; obtain ⟨a, xs, rfl, h2, _⟩ := h; exact .base (.lst h2)
  | tup l => cases e; obtain ⟨a, xs, rfl, h2, _⟩ := h; exact .base (.tup (eG _ _ h2))
  | ktp l =>
    cases e
    obtain ⟨a, xs, rfl, h1, _⟩ := h
    rcases h1 with ⟨_, o, h1, h2, _⟩ | ⟨o, _, _, h1⟩
    · exact .kTuple h1 h2
    · exact .fTuple (eG _ _ h1)
  | obj c l =>
    cases e
    obtain ⟨a, dx, xs, rfl, h2, _⟩ := h
    have cc := C.all.mem hk
    exact .base (.ins h2 cc.cl cc.it.ha cc.it.hn cc.it.htk cc.it.hm)
  | dic t ks vs =>
    cases e
    obtain ⟨a, ws, rfl, h2, _⟩ := h
    cases t with
    | false => obtain ⟨kk, _, h3⟩ := h2; exact .base (.dK h3)
    | true => obtain ⟨kk, _, h3⟩ := h2; exact .base (.dT h3)
  | _ => cases e
/-- all classes of the tuple are asked -/
def isaA (cs : List String) (k : Tk) : List Dv → Option Bool
  | [] => some false
  | d :: l => match isa1 cs k d, isaA cs k l with
    | some a, some b => some (a || b)
    | _, _ => none
theorem isaA_ok (C : CsOk Z cs) {k : Tk} : ∀ {l : List Dv} {b : Bool} {xs : List V}, isaA cs k l = some b → OnL Z G l xs → ∃ us, Paired ClsV xs us ∧ PySem.W.kitAny Z.K (tkV Z k) us = some b
  | [], b, xs, h, o => by
    cases h
    rw [OnL.nil.mp o]
    exact ⟨[], .nil, rfl⟩
  | d :: l, b, xs, h, o => by
    obtain ⟨y, ys, rfl, h2, h3⟩ := OnL.cons.mp o
    have h : (match isa1 cs k d, isaA cs k l with | some a, some b => some (a || b) | _, _ => none) = some b := h
    cases q : isa1 cs k d with
    | none => rw [q] at h; cases h
    | some c =>
      cases q2 : isaA cs k l with
      | none => rw [q, q2] at h; cases h
      | some c2 =>
        rw [q, q2] at h
        cases h
        obtain ⟨x, u, e1, e2, e3⟩ := isa1_ok C q
        have ey : y = x := by
          cases d with
          | ty m => have a := e1 G; unfold On at a h2; rw [a, h2]
          | cls m => have a := e1 G; unfold On at a h2; rw [a, h2]
          | _ => cases k <;> cases q
        subst ey
        obtain ⟨us, f1, f2⟩ := isaA_ok C (l := l) q2 h3
        exact ⟨u :: us, .cons e2 f1, kitAny_cons e3 (fun h => by rw [h]; exact f2) (fun h => by rw [h]; rfl)⟩
end
def gIsi (cs : List String) (x c : Dv) : Option Rt := match tkD x with
  | some k => if okT cs k then (match c with
    | .tup l => (match isaA cs k l with
      | some b => vB b
      | none => none)
    | c => (match isa1 cs k c with
      | some b => vB b
      | none => none)) else none
  | none => none
def arg2 (f : Dv → Dv → Option Rt) : List Dv → Option Rt
  | [x, y] => f x y
  | _ => none
section
variable {Z : Zx} {X : Cx} {G H G2 H2 : Hp} {α α2 : List Addr} {S : Sto} {Q : VK} {E : XK} {cs : List String}
theorem arg2_ok {P : Pst Rt} {f : Dv → Dv → Option Rt} {l : List Dv} {xs : List V} (h : OnHA Z G H l xs) (w : Wk Z (R.of S (arg2 f l)) G α H P E) : ∃ x x2 y y2, xs = [y, y2] ∧ OnH Z G H x y ∧ OnH Z G H x2 y2 ∧ Wk Z (R.of S (f x x2)) G α H P E := by
  cases l with
  | nil => exact w.elim
  | cons a r =>
    cases r with
    | nil => exact w.elim
    | cons b r =>
      cases r with
      | nil =>
        obtain ⟨y, z, e, o, o2⟩ := h.two
        exact ⟨a, b, y, z, e, o, o2, w⟩
      | cons c r => exact w.elim
theorem cd_isi (C : CsOk Z cs) (hK : X.K = Z.K) : CallR X (.builtin "isinstance") (rA Z (arg2 (gIsi cs))) := by
  intro pins s σ H xs us Q I r h
  obtain ⟨G, α, S, l, hd, ol, w⟩ := h
  obtain ⟨x, c, y, z, rfl, ox, oc, w⟩ := arg2_ok ol w
  unfold gIsi at w
  cases q : tkD x with
  | none => rw [q] at w; exact w.elim
  | some k =>
    rw [q] at w
    simp only at w
    by_cases q2 : okT cs k = true
    · rw [if_pos q2] at w
      have ty := tk_on C hd.ex ox q q2
      rw [← hK] at ty
      by_cases ht : ∃ l, c = .tup l
      · obtain ⟨l, rfl⟩ := ht
        simp only at w
        cases q3 : isaA cs k l with
        | none => rw [q3] at w; exact w.elim
        | some b =>
          rw [q3] at w
          obtain ⟨tp, cs', rfl, h1, h2⟩ := oc
          obtain ⟨us', f1, f2⟩ := isaA_ok C q3 h2
          exact call_isiT pins s σ H _ us Q I r ⟨y, tp, cs', _, us', b, rfl, hd.ex _ _ h1, f1, ty, hK ▸ f2, wB w hd⟩
      · have w' : Wk Z (R.of S (match isa1 cs k c with | some b => vB b | none => none)) G α H (pRt Z Q) E0 := by
          cases c with
          | tup l => exact absurd ⟨l, rfl⟩ ht
          | _ => exact w
        cases q3 : isa1 cs k c with
        | none => rw [q3] at w'; exact w'.elim
        | some b =>
          rw [q3] at w'
          obtain ⟨x', u, e1, e2, e3⟩ := isa1_ok C q3
          have ez : z = x' := by
            cases c with
            | ty m => have a := e1 G; unfold On at a; have oc : z = .ty m := oc; rw [a, oc]
            | cls m => have a := e1 G; unfold On at a; have oc : z = .ref (Z.cm m) := oc; rw [a, oc]
            | _ => cases k <;> cases q3
          subst ez
          exact OP.call_isZ pins s σ H _ us Q I r ⟨y, z, _, u, b, rfl, e2, .x ty, hK ▸ e3, wB w' hd⟩
    · rw [if_neg q2] at w
      exact w.elim
def onlyV (p : Dv → Option Dv) (r : R Rt) : R Rt := match r with
  | .ok S (.val (.d d)) => (match p d with
    | some e => .ok S (.val (.d e))
    | none => .no)
  | _ => .no
theorem only_ok {p : Dv → Option Dv} {r : R Rt} {Q' : VK} {E' : XK} (w : Wk Z (onlyV p r) G α H (pRt Z Q) E) (k : ∀ d d' v H' G', p d = some d' → On Z G' d v → (∀ v', On Z G' d' v' → Q v' H') → Q' v H') : Wk Z r G α H (pRt Z Q') E' := by
  cases r with
  | no => exact w.elim
  | ex S x => exact w.elim
  | ok S b =>
    cases b with
    | new c => exact w.elim
    | val v =>
      cases v with
      | r n => exact w.elim
      | d d =>
        cases e : p d with
        | none => simp only [onlyV, e] at w; exact w.elim
        | some d' =>
          simp only [onlyV, e] at w
          exact fun H2 G2 α2 f hd v ov => k d d' v H2 G2 e ov (w H2 G2 α2 f hd)
def pInt : Dv → Option Dv
  | .int i => if 0 ≤ i ∧ i < 2 ^ 63 then some (.int i) else none
  | _ => none
def pStr : Dv → Option Dv
  | .str i => some (.str i)
  | _ => none
def pBl (neg : Bool) : Dv → Option Dv
  | .bl b => some (.bl (if neg then !b else b))
  | _ => none
structure OwOk (X : Cx) (m : Str) (C : Addr) (sp : Sp) : Prop where
  ex : ∃ b k f fd ps, RoomG b (k + 2) X.A ∧ OP.OwnM X.K C m f ∧ FnG b X.prog X.w X.K X.mg X.base (L2N.CX X.prog X.w) k f fd ps sp ∧ Binds X.K fd ps []
structure OwD (X : Cx) (Z : Zx) (m : Str) (c : String) (n : Nat) (D : FD) : Prop where
  ok : OwOk X m (Z.cm c) (spD Z n D)
/-- the own method of o, at these arguments -/
def askT (t : MT) (c : String) (l : List Vr) (S : Sto) : R Rt := match t.at c with
  | some (n, D) => if l.length = n then D l S else .no
  | none => .no
theorem ask_ok {T : MT} {P : String → Nat → FD → Prop} {c : String} {l : List Vr} {vs : List V} (hT : AllM P T) (hd : Hd Z G α S H) (ol : OnA Z G α l vs) (w : Wk Z (askT T c l S) G α H (pRt Z Q) E) : ∃ n D, P c n D ∧ spD Z n D vs H Q E := by
  unfold askT at w
  cases q2 : T.at c with
  | none => simp only [q2] at w; exact w.elim
  | some nD =>
    obtain ⟨n, D⟩ := nD
    simp only [q2] at w
    exact ⟨n, D, hT.mem q2, sp_of hd ol w⟩
/-- len -/
def lenR (T : MT) (S : Sto) (l : List Vr) : R Rt := match l with
  | [o] => (match clsV S o with
    | some c => onlyV pInt (askT T c [o] S)
    | none => gA S [o] gLen)
  | _ => .no
def fLenD (T : MT) (fa : FA) : FE := fun env S => (fa env S).bind fun S1 l => lenR T S1 l
def rLenX (Z : Zx) (T : MT) : List V → Hp → VK → Prop := fun xs H Q => ∃ G α S l, Hd Z G α S H ∧ OnA Z G α l xs ∧ Wk Z (lenR T S l) G α H (pRt Z Q) E0
theorem arg1A {l : List Vr} {xs : List V} {o : Vr} (h : OnA Z G α [o] xs) : ∃ x, xs = [x] ∧ OnR Z G α o x := by
  obtain ⟨y, ys, rfl, h1, h2⟩ := h
  cases (show ys = [] from h2)
  exact ⟨y, rfl, h1⟩
theorem lenR_any {T : MT} {l : List Vr} {E' : XK} (w : Wk Z (lenR T S l) G α H (pRt Z Q) E) : Wk Z (lenR T S l) G α H (pRt Z Q) E' := by
  unfold lenR at w ⊢
  split at w
  · split at w
    · unfold onlyV at w ⊢
      split at w
      · split at w
        · exact w
        · exact w.elim
      · exact w.elim
    · unfold gA at w ⊢
      split at w
      · exact w.any
      · exact w.elim
  · exact w.elim
theorem cd_lenO {T : MT} (hT : AllM (OwD X Z "__len__") T) (hK : X.K = Z.K) : CallR X (.builtin "len") (rLenX Z T) := by
  intro pins s σ H xs us Q I r h
  obtain ⟨G, α, S, l, hd, ol, w⟩ := h
  unfold lenR at w
  split at w
  · rename_i o
    obtain ⟨x, rfl, ox⟩ := arg1A (l := []) ol
    cases q : clsV S o with
    | none =>
      simp only [q] at w
      exact cd_len hK pins s σ H _ us Q I r (gA_ok hd ol w)
    | some c =>
      simp only [q] at w
      obtain ⟨b, dx, ys, rfl, hb⟩ := clsV_on hd ox q
      have w2 := only_ok (E' := E0) (Q' := fun v H' => ∃ i : Int, v = .int i ∧ 0 ≤ i ∧ i < 2 ^ 63 ∧ Q (.int i) H') w fun d d' v H' G' e ov k => by
        cases d with
        | int i =>
          have e : (if 0 ≤ i ∧ i < 2 ^ 63 then some (Dv.int i) else none) = some d' := e
          split at e
          · rename_i c
            cases e
            have ov : On Z G' (.int i) v := ov
            unfold On at ov
            exact ⟨i, ov, c.1, c.2, k _ on_int⟩
          · cases e
        | _ => cases e
      obtain ⟨n, D, P, sp⟩ := ask_ok hT hd ol w2
      obtain ⟨bb, k, f, fd, ps, hr, O, F, hbb⟩ := P.ok.ex
      exact call_lenG O F (hr.mono (by omega)) hbb passE pins s σ H _ us Q I r ⟨b, dx, _, rfl, hb, sp⟩
  · exact w.elim
variable {Ew : L2.St → XK} {x : Str} {p pos : Pos} {e : Expr} {es : List Expr} {fa : FA}
theorem pf_lenO {T : MT} (hT : AllM (OwD X Z "__len__") T) (hK : X.K = Z.K) (hg : Gl X "len") (hm : X.mg "len" = none) (ha : PAF Z Ew X (e :: es) fa)
    (he : starEach (e :: es) X.env = (false, eval e X.env) :: starEach es X.env := by rfl) (hpl : (backTo pos (starEach es X.env)).any (·.1) = false := by rfl) : PF Z Ew X (.Call (.Name "len" p) (e :: es) [] pos) (fLenD T fa) := by
  obtain ⟨ta, h1, h2⟩ := ha.ex
  exact ⟨_, pe_callB (cd_lenO hT hK) hg hm (by decide +kernel) h1 (by decide) (by decide) he hpl, fun env σ G α S H Q hd oe w => h2.bind hd oe w fun S2 l vs H2 G2 α2 f2 hd2 oe2 ol w2 => ⟨G2, α2, S2, l, hd2, ol, lenR_any w2⟩⟩
/-- str -/
def strR (T : MT) (S : Sto) (l : List Vr) : R Rt := match l with
  | [o] => (match clsV S o with
    | some c => onlyV pStr (askT T c [o] S)
    | none => gA S [o] gStr)
  | _ => .no
def fStrD (T : MT) (fa : FA) : FE := fun env S => (fa env S).bind fun S1 l => strR T S1 l
structure EqOk (X : Cx) (C : Addr) (sp : Sp) : Prop where
  ex : ∃ b k f fd ps, RoomG b (k + 1) X.A ∧ OP.OwnE X.K C f ∧ FnG b X.prog X.w X.K X.mg X.base (L2N.CX X.prog X.w) k f fd ps sp ∧ Binds X.K fd ps []
structure EqD (X : Cx) (Z : Zx) (c : String) (n : Nat) (D : FD) : Prop where
  ok : EqOk X (Z.cm c) (spD Z n D)
def eqR (cs : List String) (T : MT) (neg : Bool) (S : Sto) (a b : Vr) : R Rt := match clsV S a with
  | some c => (match snap S b with
    | some y => (match tkD y with
      | some k => if okT cs k && cs.contains c then (match k, neg with
        | .b _, true => .no
        | .o e, true => if e == c then onlyV (pBl true) (askT T c [a, b] S) else .no
        | _, false => onlyV (pBl false) (askT T c [a, b] S)) else .no
      | none => .no)
    | none => .no)
  | none => g2 S a b (if neg then gNe else gEq)
def fEqD (cs : List String) (T : MT) (neg : Bool) (fa fb : FE) : FE := fun env S => (fa env S).bindV fun S1 a => (fb env S1).bindV fun S2 b => eqR cs T neg S2 a b
def rEqX (Z : Zx) (cs : List String) (T : MT) (neg : Bool) : R2 := fun x y H Q => ∃ G α S a b, Hd Z G α S H ∧ OnR Z G α a x ∧ OnR Z G α b y ∧ Wk Z (eqR cs T neg S a b) G α H (pRt Z Q) E0
theorem wk_noex {r : R Rt} {P : Pst Rt} {E' : XK} (h : ∀ S x, r ≠ .ex S x) (w : Wk Z r G α H P E) : Wk Z r G α H P E' := by
  cases r with
  | no => exact w
  | ok S b => exact w
  | ex S x => exact absurd rfl (h S x)
theorem onlyV_ne {p : Dv → Option Dv} {r : R Rt} : ∀ S x, onlyV p r ≠ .ex S x := fun S x h => by
  unfold onlyV at h
  split at h
  · split at h <;> cases h
  · cases h
theorem g2_ne {a b : Vr} {g : Dv → Dv → Option Rt} : ∀ S' x, g2 S a b g ≠ .ex S' x := fun S' x h => by
  unfold g2 at h
  split at h
  · unfold R.of at h
    split at h <;> cases h
  · cases h
theorem eqR_any {T : MT} {neg : Bool} {a b : Vr} {E' : XK} (w : Wk Z (eqR cs T neg S a b) G α H (pRt Z Q) E) : Wk Z (eqR cs T neg S a b) G α H (pRt Z Q) E' := by
  refine wk_noex (fun S' x h => ?_) w
  unfold eqR at h
  split at h
  · split at h
    · split at h
      · split at h
        · split at h
          · cases h
          · split at h
            · exact onlyV_ne _ _ h
            · cases h
          · exact onlyV_ne _ _ h
        · cases h
      · cases h
    · cases h
  · exact g2_ne _ _ h
theorem eq_own {T : MT} {neg : Bool} {c : String} {a b : Vr} {x y : V} (hT : AllM (EqD X Z) T) (hd : Hd Z G α S H) (ox : OnR Z G α a x) (oy : OnR Z G α b y) (w : Wk Z (onlyV (pBl neg) (askT T c [a, b] S)) G α H (pRt Z Q) E) :
    ∃ n D, EqD X Z c n D ∧ spD Z n D [x, y] H (fun v H' => ∃ t, v = .bl t ∧ Q (.bl (if neg then !t else t)) H') E0 := by
  have w2 := only_ok (E' := E0) (Q' := fun v H' => ∃ t, v = .bl t ∧ Q (.bl (if neg then !t else t)) H') w fun d d' v H' G' e ov k => by
    cases d with
    | bl i =>
      cases e
      have ov : On Z G' (.bl i) v := ov
      unfold On at ov
      exact ⟨i, ov, k _ on_bl⟩
    | _ => cases e
  exact ask_ok hT hd (l := [a, b]) ⟨_, _, rfl, ox, _, _, rfl, oy, rfl⟩ w2
theorem not_first {c : String} {k : Tk} (C : CsOk Z cs) (h1 : okT cs k = true) (h2 : cs.contains c = true) : PySem.W.notFirst Z.K (Z.cm c) (tkV Z k) = true := by
  unfold PySem.W.notFirst
  cases k with
  | b n =>
    rw [show tkV Z (.b n) = .type n from rfl, sub_bo h1]
    simp
  | o e =>
    rcases (C.two.mem h1).mem h2 with rfl | h
    · simp [tkV]
    · rw [show tkV Z (.o e) = .ref (Z.cm e) from rfl]
      unfold PySem.W.kitOne at h
      split at h
      · cases h
      · unfold PySem.W.kitCls at h
        simp only [kit_c (C.all.mem h2).kc, if_true] at h
        rw [h]
        simp
theorem od_eqO {T : MT} (C : CsOk Z cs) (hT : AllM (EqD X Z) T) (hu : X.A.units + 64 < cLine) (hK : X.K = Z.K) : OpR X (compareOp .Eq) (rEqX Z cs T false) := by
  intro pins s σ H x y v u Q I rx ry h
  obtain ⟨G, α, S, a, b, hd, ox, oy, w⟩ := h
  unfold eqR at w
  cases q : clsV S a with
  | none =>
    simp only [q] at w
    exact od_eq hu hK pins s σ H _ _ v u Q I rx ry (g2_ok hd ox oy w)
  | some c =>
    simp only [q] at w
    obtain ⟨a', dx, ys, rfl, hb⟩ := clsV_on hd ox q
    cases q2 : snap S b with
    | none => simp only [q2] at w; exact w.elim
    | some d =>
      simp only [q2] at w
      cases q3 : tkD d with
      | none => simp only [q3] at w; exact w.elim
      | some k =>
        simp only [q3] at w
        by_cases q4 : (okT cs k && cs.contains c) = true
        · rw [if_pos q4] at w
          obtain ⟨q5, q6⟩ := and2 q4
          have w2 : Wk Z (onlyV (pBl false) (askT T c [a, b] S)) G α H (pRt Z Q) E0 := by cases k <;> exact w
          obtain ⟨n, D, P, sp⟩ := eq_own hT hd ox oy w2
          obtain ⟨bb, k', f, fd, ps, hr, O, F, hbb⟩ := P.ok.ex
          exact op_ownEqG O F (hr.mono (by omega)) hbb passE pins s σ H _ _ v u Q I rx ry ⟨a', dx, _, _, rfl, hb, hK ▸ tk_on C hd.ex (snap_on hd oy q2) q3 q5, hK ▸ not_first C q5 q6, sp⟩
        · rw [if_neg q4] at w
          exact w.elim
theorem od_neO {T : MT} (C : CsOk Z cs) (hT : AllM (EqD X Z) T) (hu : X.A.units + 64 < cLine) (hK : X.K = Z.K) : OpR X (compareOp .NotEq) (rEqX Z cs T true) := by
  intro pins s σ H x y v u Q I rx ry h
  obtain ⟨G, α, S, a, b, hd, ox, oy, w⟩ := h
  unfold eqR at w
  cases q : clsV S a with
  | none =>
    simp only [q] at w
    exact od_ne hu hK pins s σ H _ _ v u Q I rx ry (g2_ok hd ox oy w)
  | some c =>
    simp only [q] at w
    obtain ⟨a', dx, ys, rfl, hb⟩ := clsV_on hd ox q
    cases q2 : snap S b with
    | none => simp only [q2] at w; exact w.elim
    | some d =>
      simp only [q2] at w
      cases q3 : tkD d with
      | none => simp only [q3] at w; exact w.elim
      | some k =>
        simp only [q3] at w
        by_cases q4 : (okT cs k && cs.contains c) = true
        · rw [if_pos q4] at w
          obtain ⟨q5, q6⟩ := and2 q4
          cases k with
          | b n => exact w.elim
          | o e =>
            simp only at w
            by_cases q7 : (e == c) = true
            · rw [if_pos q7] at w
              obtain ⟨n, D, P, sp⟩ := eq_own hT hd ox oy w
              obtain ⟨bb, k', f, fd, ps, hr, O, F, hbb⟩ := P.ok.ex
              have ec := beq_iff_eq.mp q7
              have hy := snap_on hd oy q2
              cases d with
              | obj e' l =>
                cases q3
                obtain ⟨b2, dy, ys2, rfl, hb2, _⟩ := hy
                exact op_ownNeG O F hr hbb passE pins s σ H _ _ v u Q I rx ry ⟨a', dx, _, b2, dy, _, rfl, rfl, hb, by rw [ec] at hb2; exact hb2, sp⟩
              | _ => cases q3
            · rw [if_neg q7] at w
              exact w.elim
        · rw [if_neg q4] at w
          exact w.elim
variable {a b : Expr} {fx fy : FE}
theorem pf_eqO {T : MT} (C : CsOk Z cs) (hT : AllM (EqD X Z) T) (hu : X.A.units + 64 < cLine) (hK : X.K = Z.K) (ha : PF Z Ew X a fx) (hb : PF Z Ew X b fy) (hm : lastMarks [.Eq] [b] = false := by with_unfolding_all rfl) :
    PF Z Ew X (.Compare a [.Eq] [b] pos) (fEqD cs T false fx fy) := by
  obtain ⟨ta, h1, h2⟩ := ha.ex
  obtain ⟨tb, h3, h4⟩ := hb.ex
  exact ⟨_, pe_cmpR (od_eqO C hT hu hK) h1 h3 hm, fun env σ G α S H Q hd oe w => h2.bind hd oe w fun S2 a x H2 G2 α2 f2 hd2 oe2 ox w2 => h4.bind hd2 oe2 w2 fun S3 b y H3 G3 α3 f3 hd3 oe3 oy w3 => ⟨G3, α3, S3, a, b, hd3, ox.up f3.g f3.a, oy, eqR_any w3⟩⟩
def ixR (T : MT) (S : Sto) (a b : Vr) : R Rt := match clsV S a with
  | some c => okR (askT T c [a, b] S)
  | none => g2 S a b gIx
def fIxD (T : MT) (fa fb : FE) : FE := fun env S => (fa env S).bindV fun S1 a => (fb env S1).bindV fun S2 b => ixR T S2 a b
theorem pf_ixO {T : MT} (hT : AllM (OwD X Z "__getitem__") T) (hu : X.A.units + 1 < cLine) (hK : X.K = Z.K) (ha : PF Z Ew X a fx) (hb : PF Z Ew X b fy) (hs : PlainIx b := by exact fun _ _ => rfl) (hs2 : ∀ o i, subscripted b true o i = runValue (.builtin "lifetime.subscript" ⟨[o, i], []⟩) := by intro _ _; with_unfolding_all rfl) : PF Z Ew X (.Subscript a b pos) (fIxD T fx fy) := by
  obtain ⟨ta, h1, h2⟩ := ha.ex
  obtain ⟨tb, h3, h4⟩ := hb.ex
  refine ⟨tOp (fun x y H Q => rD Z gIx x y H Q ∨ ∃ c n D a dx fs, OwD X Z "__getitem__" c n D ∧ x = .ref a ∧ H a = some (.ins (Z.cm c) dx fs) ∧ spD Z n D [x, y] H Q E0) ta tb, ⟨fun pins s σ H Q I h => ?_⟩, fun env σ G α S H Q hd oe w => h2.bind hd oe w fun S2 a x H2 G2 α2 f2 hd2 oe2 ox w2 => h4.bind hd2 oe2 w2 fun S3 b y H3 G3 α3 f3 hd3 oe3 oy w3 => ?_⟩
  · refine Subscript_ (binT h1 h3 I h fun v u s2 x y H2 I2 rx ry q => ?_)
    rcases q with q | ⟨c, n, D, a', dx, fs, O, rfl, hi, q⟩
    · exact ix_d hu hK _ _ pins s2 σ H2 x y v u Q I2 rx ry q (hs _ _)
    · cases rx
      obtain ⟨bb, k, f, fd, ps, hr, O, F, hbb⟩ := O.ok.ex
      obtain ⟨mA, J, _⟩ := ins_get I2.hok hi
      obtain ⟨od, J, _⟩ := J.look
      obtain ⟨m, hF⟩ := I2.fr
      exact PySem.W.sub_K hF I2.ok.mod.kin J O.at_ O.fi O.fn (run_in1G (vs := [.ref a', y]) F (hr.mono (by omega)) hbb passE I2 (.cons rfl (.cons ry .nil)) q) (hs2 _ _)
  · have ox := ox.up f3.g f3.a
    unfold ixR at w3
    cases q : clsV S3 a with
    | none =>
      simp only [q] at w3
      exact .inl (g2_ok hd3 ox oy w3)
    | some c =>
      simp only [q] at w3
      obtain ⟨a', dx, ys, rfl, hb⟩ := clsV_on hd3 ox q
      obtain ⟨n, D, P, sp⟩ := ask_ok hT hd3 (l := [a, b]) ⟨_, _, rfl, ox, _, _, rfl, oy, rfl⟩ (okR_ok (E' := E0) w3)
      exact .inr ⟨c, n, D, a', dx, _, P, rfl, hb, sp⟩
end
end DN
namespace DN
open PySem PySem.Spec PyProof.Rows L2 Evl
section
variable {Z : Zx} {X : Cx} {G H G2 H2 : Hp} {α α2 : List Addr} {S : Sto} {Q : VK} {E : XK} {cs : List String} {Ew : L2.St → XK} {pos p p2 : Pos} {a b : Expr} {fx fy : FE}
theorem ptf_eqO {T : MT} (C : CsOk Z cs) (hT : AllM (EqD X Z) T) (hu : X.A.units + 64 < cLine) (hK : X.K = Z.K) (ha : PF Z Ew X a fx) (hb : PF Z Ew X b fy) (hm : behindInMarks .Eq b = false := by with_unfolding_all rfl) :
    PTF Z Ew X (.Compare a [.Eq] [b] pos) (kVal (fEqD cs T false fx fy)) := by
  obtain ⟨ta, h1, h2⟩ := ha.ex
  obtain ⟨tb, h3, h4⟩ := hb.ex
  exact ⟨_, pt_cmpR (od_eqO C hT hu hK) h1 h3 hm, st_val fun env σ G α S H Q hd oe w => h2.bind hd oe w fun S2 a x H2 G2 α2 f2 hd2 oe2 ox w2 => h4.bind hd2 oe2 w2 fun S3 b y H3 G3 α3 f3 hd3 oe3 oy w3 => ⟨G3, α3, S3, a, b, hd3, ox.up f3.g f3.a, oy, eqR_any w3⟩⟩
theorem ptf_neO {T : MT} (C : CsOk Z cs) (hT : AllM (EqD X Z) T) (hu : X.A.units + 64 < cLine) (hK : X.K = Z.K) (ha : PF Z Ew X a fx) (hb : PF Z Ew X b fy) (hm : behindInMarks .NotEq b = false := by with_unfolding_all rfl) :
    PTF Z Ew X (.Compare a [.NotEq] [b] pos) (kVal (fEqD cs T true fx fy)) := by
  obtain ⟨ta, h1, h2⟩ := ha.ex
  obtain ⟨tb, h3, h4⟩ := hb.ex
  exact ⟨_, pt_cmpR (od_neO C hT hu hK) h1 h3 hm, st_val fun env σ G α S H Q hd oe w => h2.bind hd oe w fun S2 a x H2 G2 α2 f2 hd2 oe2 ox w2 => h4.bind hd2 oe2 w2 fun S3 b y H3 G3 α3 f3 hd3 oe3 oy w3 => ⟨G3, α3, S3, a, b, hd3, ox.up f3.g f3.a, oy, eqR_any w3⟩⟩
def rgD (a b : Int) : List Dv := (List.range (b - a).toNat).map fun i => Dv.int (a + (i : Nat))
def gRg (a b : Dv) : Option Rt := match a, b with
  | .int a, .int b => if -1000000 ≤ a ∧ a ≤ 1000000 ∧ -1000000 ≤ b ∧ b ≤ 1000000 then some (.new (.lst (rgD a b))) else none
  | _, _ => none
theorem rg_on (a b : Int) : OnL Z G (rgD a b) (rgV a b) := by
  unfold rgD rgV
  generalize (List.range (b - a).toNat) = l
  induction l with
  | nil => exact OnL.nil'
  | cons i l ih => exact OnL.cons' on_int ih
theorem rg_ok {a b : Vr} {x y : V} (hd : Hd Z G α S H) (ox : OnR Z G α a x) (oy : OnR Z G α b y) (w : Wk Z (g2 S a b gRg) G α H (pRt Z Q) E) : ∃ i j, x = .int i ∧ y = .int j ∧ RgOk i j ∧ ∀ q, H q = none → Q (.ref q) (upd H q (.lst (rgV i j))) := by
  unfold g2 at w
  cases e1 : snap S a with
  | none => rw [e1] at w; exact w.elim
  | some u =>
    cases e2 : snap S b with
    | none => rw [e1, e2] at w; exact w.elim
    | some v =>
      rw [e1, e2] at w
      have o1 := snap_on hd ox e1
      have o2 := snap_on hd oy e2
      cases u with
      | int i =>
        cases v with
        | int j =>
          have w : Wk Z (R.of S (if -1000000 ≤ i ∧ i ≤ 1000000 ∧ -1000000 ≤ j ∧ j ≤ 1000000 then some (.new (.lst (rgD i j))) else none)) G α H (pRt Z Q) E := w
          split at w
          · rename_i c
            refine ⟨i, j, o1, o2, ⟨by omega, by omega, by omega, by omega, by omega⟩, fun q hq => ?_⟩
            have e := Ex.new (o := HO.lst (rgV i j)) hq
            exact w _ G α (Fr.grow hd e) (hd.grow e) q ⟨hq, fresh_back hd.ex hq, fun hm => hd.live hm hq, ⟨_, upd_same, rg_on i j⟩⟩
          · exact w.elim
        | _ => exact w.elim
      | _ => cases v <;> exact w.elim
def fRg1 (fa : FE) : FE := fOp gRg (fC (.int 0)) fa
theorem pf_listRg1 (hc : X.calm = true) (hg : Gl X "list") (hm : X.mg "list" = none) (hg2 : Gl X "range") (hm2 : X.mg "range" = none) (ha : PF Z Ew X a fx) (na : starEach [a] X.env = (false, eval a X.env) :: starEach [] X.env := by rfl)
    (nb : starEach [.Call (.Name "range" p2) [a] [] pos] X.env = (false, eval (.Call (.Name "range" p2) [a] [] pos) X.env) :: starEach [] X.env := by rfl) {pos2 : Pos} : PF Z Ew X (.Call (.Name "list" p) [.Call (.Name "range" p2) [a] [] pos] [] pos2) (fRg1 fx) := by
  obtain ⟨ta, h1, h2⟩ := ha.ex
  refine ⟨_, pe_listRg hc hg hm (prg_1 hg2 hm2 h1 na) nb, fun env σ G α S H Q hd oe w => ?_⟩
  refine h2.bind hd oe (show Wk Z ((fx env S).bindV fun S1 b => g2 S1 (.d (.int 0)) b gRg) G α H (pRt Z Q) (Ew σ) from w) fun S2 a x H2 G2 α2 f2 hd2 oe2 ox w2 => ?_
  obtain ⟨i, j, e1, e2, ok, k⟩ := rg_ok hd2 (or_int Z G2 α2 0) ox w2
  cases e1
  exact ⟨j, e2, ok, k⟩
def fDisp (ks vs : List Dv) : FE := fun _ S => .ok S (.new (.dc false ks vs))
theorem pairs_c {σ : L2.St} {R' : List (V × V) → Hp → Prop} : ∀ (l : List (V × V)), R' l H → tPairs (l.map fun x => (tC x.1, tC x.2)) σ H R'
  | [], h => h
  | x :: l, h => pairs_c (R' := fun ps H' => R' ((x.1, x.2) :: ps) H') l h
theorem pf_disp {keys : List (Option Expr)} {values : List Expr} (kvs : List (Key × V)) (ks vs : List Dv) (h : PPs X pos keys values ((kvs.map fun kv => (kV kv.1, kv.2)).map fun x => (tC x.1, tC x.2))) (hk : ks.map key? = (kvs.map Prod.fst).map some) (hv : ∀ G, OnL Z G vs (kvs.map Prod.snd)) (hmg : mergeK [] kvs = kvs) (hl : kvs.length ≤ 15)
    (hall : keys.all (·.isSome) = true := by rfl) (hl2 : keys.length = values.length := by rfl) (h0 : keys ≠ [] := by exact fun z => by cases z) (h15 : keys.length ≤ 15 := by decide) : PF Z Ew X (.Dict keys values pos) (fDisp ks vs) := by
  refine ⟨_, pe_disp h hall hl2 h0 h15, fun env σ G α S H Q hd oe w p hp => pairs_c _ ⟨upd_same, kvs, rfl, hl, ?_⟩⟩
  rw [hmg]
  have e2 : Ex H (upd (upd H p (.dK [])) p (.dK kvs)) := fun a o ha => by
    have hn : a ≠ p := fun c => by subst c; rw [hp] at ha; cases ha
    rw [upd_ne hn, upd_ne hn]
    exact ha
  have hz : (kvs.map Prod.fst).zip (kvs.map Prod.snd) = kvs := by
    have : ∀ l : List (Key × V), (l.map Prod.fst).zip (l.map Prod.snd) = l := fun l => by
      induction l with
      | nil => rfl
      | cons x l ih => rw [List.map_cons, List.map_cons, List.zip_cons_cons, ih]
    exact this kvs
  have hlen : ks.length = (kvs.map Prod.snd).length := by
    have := congrArg List.length hk
    simpa using this
  exact w _ G α (Fr.grow hd e2) (hd.grow e2) p ⟨hp, fresh_back hd.ex hp, fun hm => hd.live hm hp, ⟨kvs.map Prod.snd, ⟨kvs.map Prod.fst, hk, by rw [upd_same, hz]⟩, hlen, hv G⟩⟩
end
end DN
namespace DN
open PySem PySem.Spec PyProof.Rows L2 Evl
theorem AllM.nil {P : String → Nat → FD → Prop} : AllM P [] := trivial
theorem AllM.cons {P : String → Nat → FD → Prop} {c : String} {n : Nat} {D : FD} {r : MT} (h : P c n D) (t : AllM P r) : AllM P ((c, n, D) :: r) := ⟨h, t⟩
theorem AllC.nil {P : String → Prop} : AllC P [] := trivial
theorem AllC.cons {P : String → Prop} {c : String} {r : List String} (h : P c) (t : AllC P r) : AllC P (c :: r) := ⟨h, t⟩
theorem _root_.L2.Room.u1 {k : Nat} {A : Around} (r : Room k A) : A.units + 1 < cLine := by have := r.un; omega
theorem _root_.L2.Room.u64 {k : Nat} {A : Around} (r : Room k A) : A.units + 64 < cLine := by have := r.un; omega
theorem _root_.L2.Room.u65 {k : Nat} {A : Around} (r : Room k A) : A.units + 65 < cLine := by have := r.un; omega
theorem tk0 {X : Cx} : Takes X (fun _ _ _ _ => False) := fun u s' x => by
  obtain ⟨_, _, _, _, _, _, _, _, _, _, _, _, _, _, _, _, h⟩ := x
  exact h.elim
theorem tkd {P : Program} {w : World} {K : PySem.W.Frag} {mg : Str → Option Value} {base : Heap} {N : List Str} {qual : Str} {scope : Scope} {f : Addr} {cd : Value} {A : Around} {outer : List PySem.Env} {s : Shared} {H : Hp} {E : XK} :
    Takes (cxOf (L2N.CX P w) P w K mg base N qual scope f cd A outer s H E) (WD E) := takes_of rfl rfl rfl rfl
theorem pod {P : Program} {w : World} {K : PySem.W.Frag} {mg : Str → Option Value} {base : Heap} {N : List Str} {qual : Str} {scope : Scope} {f : Addr} {cd : Value} {A : Around} {outer : List PySem.Env} {s : Shared} {H : Hp} {E : XK} :
    PassesOwn (model P w) (cxOf (L2N.CX P w) P w K mg base N qual scope f cd A outer s H E).A (cxOf (L2N.CX P w) P w K mg base N qual scope f cd A outer s H E).env (cxOf (L2N.CX P w) P w K mg base N qual scope f cd A outer s H E).xe := passes_of (X := cxOf (L2N.CX P w) P w K mg base N qual scope f cd A outer s H E) rfl
def spLaw (K : PySem.W.Frag) : Sp := fun vs H Q _ => ∃ (a : Addr) (ns : List Int), vs = [.ref a] ∧ SqL K H a (ns.map V.int) ∧ ns.length ≤ 63 ∧ ∀ H', Q (.bl true) H'
theorem law_sp {Z : Zx} {D : FD} (h : ∀ ns : List Int, ns.length ≤ 63 → ∃ S, D [.d (.scr ns)] [] = .ok S (.val (.d (.bl true)))) (vs : List V) (H : Hp) (Q : VK) (E : XK) (q : spLaw Z.K vs H Q E) : spD Z 1 D vs H Q E := by
  obtain ⟨a, ns, rfl, hS, hl, k⟩ := q
  obtain ⟨S, e⟩ := h ns hl
  refine ⟨H, [], [], [.d (.scr ns)], ⟨Ex.refl H, rfl, List.nodup_nil, fun n a c h1 h2 => by simp at h1⟩, ⟨_, _, rfl, ?_, rfl⟩, rfl, ?_⟩
  · show On Z H (.scr ns) (.ref a)
    unfold On
    exact ⟨a, rfl, hS⟩
  · rw [e]
    intro H2 G2 α2 f hd v ov
    have ov : On Z G2 (.bl true) v := ov
    unfold On at ov
    rw [ov]
    exact k H2
theorem cx_no {P : Program} {w : World} {o : List PySem.Env} {H : Hp} {s : Shared} {e : Value} {s' : Shared} (h : L2N.CX P w o H s (fun _ _ _ => False) e s') : False := by
  obtain ⟨_, _, _, _, _, _, _, _, _, _, _, _, h⟩ := h
  exact h
end DN
namespace DN
open PySem
theorem got_val {S : Sto} {v : Vr} : Got (.ok S (.val v)) S v := .val S v
theorem noex_ok {β : Type} {S : Sto} {b : β} : (R.ok S b).noex = .ok S b := rfl
/-- a comprehension that changes nothing -/
theorem lc_pure {t : Its} {tg : FG} {ft : FT} {fe : FE} {env : Env} {S : Sto} (p : Dv → Bool) (g : Dv → Dv) (hk : lockOk t S = true) : ∀ {l acc : List Dv},
    (∀ d ∈ l, ∃ env', tg d env = some env' ∧ ft env' S = .ok S (p d) ∧ (p d = true → Got (fe env' S) S (.d (g d)))) → acc.length + l.length ≤ 100000 → lcGo t tg ft fe env l S acc = .ok S (acc ++ (l.filter p).map g)
  | [], acc, h, hl => by simp [lcGo, hk]
  | d :: l, acc, h, hl => by
    obtain ⟨env', h1, h2, h3⟩ := h d List.mem_cons_self
    have ih := fun acc => lc_pure p g hk (l := l) (acc := acc) fun x hx => h x (List.mem_cons_of_mem _ hx)
    have hl' : acc.length + l.length + 1 ≤ 100000 := by simpa [Nat.add_assoc] using hl
    simp only [lcGo, hk, if_true, h1, h2, noex_ok, R.bind]
    cases q : p d with
    | false =>
      simp only [Bool.false_eq_true, if_false]
      rw [ih acc (by omega), List.filter_cons, q]
      rfl
    | true =>
      have g3 := h3 q
      simp only [if_true]
      have e : (fe env' S).noex.bindV (fun S2 v => onD v fun y => if acc.length < 100000 then lcGo t tg ft fe env l S2 (acc ++ [y]) else .no) = lcGo t tg ft fe env l S (acc ++ [g d]) := by
        generalize fe env' S = r at g3
        cases g3 with
        | val =>
          simp only [noex_ok, R.bindV, onD]
          rw [if_pos (by omega)]
        | new S c d' hc => rw [noex_ok, bindV_new hc]; simp only [onD]; rw [if_pos (by omega)]
      rw [e, ih (acc ++ [g d]) (by simp; omega), List.filter_cons, q]
      simp
theorem fLc_pure {fi : FI} {tg : FG} {ft : FT} {fe : FE} {vs : List Nat} {env : Env} {S : Sto} {t : Its} (p : Dv → Bool) (g : Dv → Dv) (hi : fi env S = .ok S t) (hk : lockOk t S = true) (hl : t.1.length ≤ 100000)
    (h : ∀ d ∈ t.1, ∃ env', tg d (wipeE env vs) = some env' ∧ ft env' S = .ok S (p d) ∧ (p d = true → Got (fe env' S) S (.d (g d)))) : fLc fi tg ft fe vs env S = .ok S (.new (.lst ((t.1.filter p).map g))) := by
  unfold fLc
  rw [hi]
  simp only [R.bind]
  rw [lc_pure p g hk h (by simpa using hl)]
  rfl
theorem def_val {n : Nat} {body : FS} {args : List Vr} {S S' : Sto} {d : Dv} (h : outS (body (startE n args) S) = .ok S' (.val (.d d))) (h2 : S'.take S.length = S) : defD n body args S = .ok S (.val (.d d)) := by
  unfold defD
  rw [h]
  show R.ok _ _ = _
  rw [h2]
theorem def_pure {n : Nat} {body : FS} {args : List Vr} {S : Sto} {d : Dv} (h : outS (body (startE n args) S) = .ok S (.val (.d d))) : defD n body args S = .ok S (.val (.d d)) := def_val h (by simp)
theorem def_new {n : Nat} {body : FS} {args : List Vr} {S : Sto} {c : Cell} (h : outS (body (startE n args) S) = .ok S (.new c)) : defD n body args S = .ok S (.new c) := by
  unfold defD
  rw [h]
  show R.ok _ _ = _
  rw [List.take_length]
end DN
namespace DN
open PySem
structure Fx {α : Sort _} (a : α) : Type where
def bindW {γ : Type} (r : R Rt) (f : Sto → Vr → R γ) (_ : Fx f) : R γ := r.bindV f
def bindX {β γ : Type} (r : R β) (f : Sto → β → R γ) (_ : Fx f) : R γ := r.bind f
def sVW (env : Env) (r : R Rt) (f : Sto → Vr → RS) (_ : Fx f) : RS := sV env r f
def sBW {β : Type} (env : Env) (r : R β) (f : Sto → β → RS) (_ : Fx f) : RS := sB env r f
def onBW {β : Type} (S : Sto) (a : Vr) (f : Bool → R β) (_ : Fx f) : R β := onB S a f
section
variable {β γ : Type} {S S1 : Sto} {env : Env}
theorem bindV_val {v : Vr} {f : Sto → Vr → R γ} {u : Fx f} : bindW (.ok S (.val v)) f u = f S v := rfl
theorem bindV_lst {l : List Dv} {f : Sto → Vr → R γ} {u : Fx f} : bindW (.ok S (.new (.lst l))) f u = f S (.d (.lst l)) := rfl
theorem bindV_ob {c : String} {l : List Dv} {f : Sto → Vr → R γ} {u : Fx f} : bindW (.ok S (.new (.ob c l))) f u = f S (.d (.obj c l)) := rfl
theorem bindV_dc {t : Bool} {k l : List Dv} {f : Sto → Vr → R γ} {u : Fx f} : bindW (.ok S (.new (.dc t k l))) f u = f S (.d (.dic t k l)) := rfl
theorem bindV_no {f : Sto → Vr → R γ} {u : Fx f} : bindW .no f u = .no := rfl
theorem bindV_ex {x : Xn} {f : Sto → Vr → R γ} {u : Fx f} : bindW (.ex S x) f u = .ex S x := rfl
theorem bind_ok {b : β} {f : Sto → β → R γ} {u : Fx f} : bindX (.ok S b) f u = f S b := rfl
theorem bind_no {f : Sto → β → R γ} {u : Fx f} : bindX .no f u = .no := rfl
theorem bind_ex {x : Xn} {f : Sto → β → R γ} {u : Fx f} : bindX (.ex S x) f u = .ex S x := rfl
theorem sV_val {v : Vr} {f : Sto → Vr → RS} {u : Fx f} : sVW env (.ok S (.val v)) f u = f S v := rfl
theorem sV_lst {l : List Dv} {f : Sto → Vr → RS} {u : Fx f} : sVW env (.ok S (.new (.lst l))) f u = f S (.d (.lst l)) := rfl
theorem sV_ob {c : String} {l : List Dv} {f : Sto → Vr → RS} {u : Fx f} : sVW env (.ok S (.new (.ob c l))) f u = f S (.d (.obj c l)) := rfl
theorem sV_dc {t : Bool} {k l : List Dv} {f : Sto → Vr → RS} {u : Fx f} : sVW env (.ok S (.new (.dc t k l))) f u = f S (.d (.dic t k l)) := rfl
theorem sV_ex {x : Xn} {f : Sto → Vr → RS} {u : Fx f} : sVW env (.ex S x) f u = .ex env S x := rfl
theorem sB_ok {b : β} {f : Sto → β → RS} {u : Fx f} : sBW env (.ok S b) f u = f S b := rfl
theorem sB_ex {x : Xn} {f : Sto → β → RS} {u : Fx f} : sBW env (.ex S x) f u = .ex env S x := rfl
/-- one statement, then the rest -/
def seqR (r : RS) (b : FS) : RS := match r with
  | .nx e2 S2 => b e2 S2
  | r => r
theorem kSeq_ {a b : FS} : kSeq a b env S = seqR (a env S) b := rfl
theorem seqR_nx {b : FS} : seqR (.nx env S) b = b env S := rfl
theorem seqR_rt {r : Rt} {b : FS} : seqR (.rt S r) b = .rt S r := rfl
theorem seqR_ex {x : Xn} {b : FS} : seqR (.ex env S x) b = .ex env S x := rfl
theorem seqR_no {b : FS} : seqR .no b = .no := rfl
def retR (env : Env) (r : R Rt) : RS := match r with
  | .ok S2 r => .rt S2 r
  | .ex S2 x => .ex env S2 x
  | .no => .no
theorem kRet_ {fe : FE} : kRet fe env S = retR env (fe env S) := rfl
theorem retR_ok {r : Rt} : retR env (.ok S r) = .rt S r := rfl
theorem retR_ex {x : Xn} : retR env (.ex S x) = .ex env S x := rfl
theorem kRetN_ : kRetN env S = .rt S (.val (.d .non)) := rfl
theorem kNext_ : kNext env S = .nx env S := rfl
theorem kIf_ {ft : FT} {a b : FS} : kIf ft a b env S = (sBW env (ft env S) (fun S1 t => if t then a env S1 else b env S1) ⟨⟩) := rfl
theorem kExpr_ {fe : FE} : kExpr fe env S = (sBW env (fe env S) (fun S1 _ => .nx env S1) ⟨⟩) := rfl
theorem kSet_ {i : Nat} {fe : FE} : kSet i fe env S = (sVW env (fe env S) (fun S1 v => .nx (env.set i (.v v)) S1) ⟨⟩) := rfl
def setC (i : Nat) (env : Env) (r : R Rt) : RS := match r with
  | .ok S1 (.val v) => .nx (env.set i (.v v)) S1
  | .ok S1 (.new c) => .nx (env.set i (.v (.r S1.length))) (S1 ++ [c])
  | .ex S1 x => .ex env S1 x
  | .no => .no
theorem kSetC_ {i : Nat} {fe : FE} : kSetC i fe env S = setC i env (fe env S) := rfl
theorem setC_val {i : Nat} {v : Vr} : setC i env (.ok S (.val v)) = .nx (env.set i (.v v)) S := rfl
theorem setC_new {i : Nat} {c : Cell} : setC i env (.ok S (.new c)) = .nx (env.set i (.v (.r S.length))) (S ++ [c]) := rfl
def asgR (f : FG) (env : Env) (S1 : Sto) (v : Vr) : RS := match v with
  | .d d => match f d env with
    | some env' => .nx env' S1
    | none => .no
  | .r _ => .no
theorem kAsg_ {f : FG} {fe : FE} : kAsg f fe env S = (sVW env (fe env S) (fun S1 v => asgR f env S1 v) ⟨⟩) := rfl
def asgO (o : Option Env) (S : Sto) : RS := match o with
  | some env' => .nx env' S
  | none => .no
theorem asgR_d {f : FG} {d : Dv} : asgR f env S (.d d) = asgO (f d env) S := rfl
theorem asgO_ {env' : Env} : asgO (some env') S = .nx env' S := rfl
theorem tgN_ {i : Nat} {d : Dv} : tgN i d env = some (env.set i (.v (.d d))) := rfl
theorem tgNil_ : tgNil [] env = some env := rfl
def tgO (o : Option Env) (fs : FGs) (l : List Dv) : Option Env := match o with
  | some e => fs l e
  | none => none
theorem tgCons_ {f : FG} {fs : FGs} {d : Dv} {l : List Dv} : tgCons f fs (d :: l) env = tgO (f d env) fs l := by
  cases h : f d env <;> simp [tgCons, tgO, h]
theorem tgO_ {fs : FGs} {l : List Dv} : tgO (some env) fs l = fs l env := rfl
theorem tgT_ {fs : FGs} {l : List Dv} : tgT fs (.tup l) env = fs l env := rfl
def parR (i j : Nat) (env : Env) (S1 : Sto) (l : List Vr) : RS := match l with
  | [v, w] => .nx ((env.set i (.v v)).set j (.v w)) S1
  | _ => .no
theorem kPar_ {i j : Nat} {fa : FA} : kPar i j fa env S = (sBW env (fa env S) (fun S1 l => parR i j env S1 l) ⟨⟩) := rfl
theorem parR_ {i j : Nat} {v w : Vr} : parR i j env S [v, w] = .nx ((env.set i (.v v)).set j (.v w)) S := rfl
theorem kFor_ {fi : FI} {tg : FG} {b : FS} : kFor fi tg b env S = (sBW env (fi env S) (fun S1 t => forGo t tg b t.1 env S1) ⟨⟩) := rfl
theorem kSub_ {fo fi fv : FE} : kSub fo fi fv env S = (sVW env (fv env S) (fun S1 v => (sVW env (fo env S1) (fun S2 o => (sVW env (fi env S2) (fun S3 i => setIx env S3 o i v) ⟨⟩)) ⟨⟩)) ⟨⟩) := rfl
theorem kFld_ {cs : List String} {f : Str} {fo fv : FE} : kFld cs f fo fv env S = (sVW env (fv env S) (fun S1 v => (sVW env (fo env S1) (fun S2 o => setFd cs f env S2 o v) ⟨⟩)) ⟨⟩) := rfl
def loopR (r : RS) (k : Env → Sto → RS) (_ : Fx k) : RS := match r with
  | .nx e S => k e S
  | .ct e S => k e S
  | .bk e S => .nx e S
  | r => r
theorem loopR_nx {k : Env → Sto → RS} {u : Fx k} : loopR (.nx env S) k u = k env S := rfl
theorem loopR_ct {k : Env → Sto → RS} {u : Fx k} : loopR (.ct env S) k u = k env S := rfl
theorem loopR_bk {k : Env → Sto → RS} {u : Fx k} : loopR (.bk env S) k u = .nx env S := rfl
theorem loopR_rt {k : Env → Sto → RS} {r : Rt} {u : Fx k} : loopR (.rt S r) k u = .rt S r := rfl
def forO (o : Option Env) (S : Sto) (body : FS) (k : Env → Sto → RS) (u : Fx k) : RS := match o with
  | some e => loopR (body e S) k u
  | none => .no
theorem forO_ {body : FS} {k : Env → Sto → RS} {u : Fx k} : forO (some env) S body k u = loopR (body env S) k u := rfl
theorem forGo_c {l t : List Dv} {d : Dv} {tg : FG} {body : FS} : forGo (t, none) tg body (d :: l) env S = forO (tg d env) S body (fun e2 S2 => forGo (t, none) tg body l e2 S2) ⟨⟩ := by
  have hk : lockOk (t, none) S = true := rfl
  simp only [forGo, hk, if_true]
  cases tg d env with
  | none => rfl
  | some e => simp only [forO]; cases body e S <;> rfl
theorem forGo_n {t : List Dv} {tg : FG} {body : FS} : forGo (t, none) tg body [] env S = .nx env S := rfl
theorem iVal_ {fa : FE} : iVal fa env S = (bindW (fa env S) (fun S1 a => itOf S1 a) ⟨⟩) := rfl
theorem itOf_lst {l : List Dv} : itOf S (.d (.lst l)) = .ok S (l, none) := rfl
theorem itOf_tup {l : List Dv} : itOf S (.d (.tup l)) = .ok S (l, none) := rfl
def varR (o : Option Sl) (S : Sto) : R Rt := match o with
  | some (.v d) => .ok S (.val d)
  | _ => .no
theorem fVar_ {i : Nat} : fVar i env S = varR env[i]? S := rfl
theorem varR_ {d : Vr} : varR (some (.v d)) S = .ok S (.val d) := rfl
theorem fC_ {d : Dv} : fC d env S = .ok S (.val (.d d)) := rfl
theorem fOp_ {g : Dv → Dv → Option Rt} {fa fb : FE} : fOp g fa fb env S = (bindW (fa env S) (fun S1 a => (bindW (fb env S1) (fun S2 b => g2 S2 a b g) ⟨⟩)) ⟨⟩) := rfl
def g2o (S : Sto) (x y : Option Dv) (g : Dv → Dv → Option Rt) : R Rt := match x, y with
  | some x, some y => R.of S (g x y)
  | _, _ => .no
theorem g2_ {a b : Vr} {g : Dv → Dv → Option Rt} : g2 S a b g = g2o S (snap S a) (snap S b) g := rfl
theorem g2o_ {x y : Dv} {g : Dv → Dv → Option Rt} : g2o S (some x) (some y) g = R.of S (g x y) := rfl
theorem fUn_ {g : Dv → Option Rt} {fa : FE} : fUn g fa env S = (bindW (fa env S) (fun S1 a => g1 S1 a g) ⟨⟩) := rfl
def g1o (S : Sto) (x : Option Dv) (g : Dv → Option Rt) : R Rt := match x with
  | some x => R.of S (g x)
  | _ => .no
theorem g1_ {a : Vr} {g : Dv → Option Rt} : g1 S a g = g1o S (snap S a) g := by unfold g1 g1o; cases snap S a <;> rfl
theorem g1o_ {x : Dv} {g : Dv → Option Rt} : g1o S (some x) g = R.of S (g x) := rfl
theorem of_some {b : β} : R.of S (some b) = .ok S b := rfl
theorem snap_d {d : Dv} : snap S (.d d) = some d := rfl
def snapC : Option Cell → Option Dv
  | some (.lst l) => some (.lst l)
  | some (.ob c l) => some (.obj c l)
  | some (.dc t ks vs) => some (.dic t ks vs)
  | _ => none
theorem snap_r {n : Nat} : snap S (.r n) = snapC S[n]? := by
  cases q : S[n]? with
  | none => simp [snap, q, snapC]
  | some c => cases c <;> simp [snap, q, snapC]
theorem snapC_lst {l : List Dv} : snapC (some (.lst l)) = some (.lst l) := rfl
theorem snapC_ob {c : String} {l : List Dv} : snapC (some (.ob c l)) = some (.obj c l) := rfl
theorem fNil_ : fNil env S = .ok S [] := rfl
theorem fCons_ {fa : FE} {fr : FA} : fCons fa fr env S = (bindW (fa env S) (fun S1 a => (bindX (fr env S1) (fun S2 l => .ok S2 (a :: l)) ⟨⟩)) ⟨⟩) := rfl
theorem fTup_ {fa : FA} : fTup fa env S = (bindX (fa env S) (fun S1 l => R.of S1 (gTupD l)) ⟨⟩) := rfl
theorem fLst_ {fa : FA} : fLst fa env S = (bindX (fa env S) (fun S1 l => R.of S1 (gLstD l)) ⟨⟩) := rfl
theorem allD_n : allD [] = some [] := rfl
def allC (x : Dv) : Option (List Dv) → Option (List Dv)
  | some r => some (x :: r)
  | none => none
theorem allD_c {x : Dv} {l : List Vr} : allD (.d x :: l) = allC x (allD l) := rfl
theorem allC_ {x : Dv} {l : List Dv} : allC x (some l) = some (x :: l) := rfl
def tupO : Option (List Dv) → Option Rt
  | some r => if r.length ≤ 100000 then some (.val (.d (.tup r))) else none
  | none => none
def lstO : Option (List Dv) → Option Rt
  | some r => if r.length ≤ 100000 then some (.new (.lst r)) else none
  | none => none
theorem gTupD_ {l : List Vr} : gTupD l = tupO (allD l) := rfl
theorem gLstD_ {l : List Vr} : gLstD l = lstO (allD l) := rfl
theorem tupO_0 : tupO (some []) = some (.val (.d (.tup []))) := by simp only [tupO, lstO]; exact if_pos (show (0 : Nat) ≤ 100000 by decide)
theorem lstO_0 : lstO (some []) = some (.new (.lst [])) := by simp only [tupO, lstO]; exact if_pos (show (0 : Nat) ≤ 100000 by decide)
theorem tupO_1 {a : Dv} : tupO (some [a]) = some (.val (.d (.tup [a]))) := by simp only [tupO, lstO]; exact if_pos (show (1 : Nat) ≤ 100000 by decide)
theorem lstO_1 {a : Dv} : lstO (some [a]) = some (.new (.lst [a])) := by simp only [tupO, lstO]; exact if_pos (show (1 : Nat) ≤ 100000 by decide)
theorem tupO_2 {a b : Dv} : tupO (some [a, b]) = some (.val (.d (.tup [a, b]))) := by simp only [tupO, lstO]; exact if_pos (show (2 : Nat) ≤ 100000 by decide)
theorem lstO_2 {a b : Dv} : lstO (some [a, b]) = some (.new (.lst [a, b])) := by simp only [tupO, lstO]; exact if_pos (show (2 : Nat) ≤ 100000 by decide)
theorem tupO_3 {a b c : Dv} : tupO (some [a, b, c]) = some (.val (.d (.tup [a, b, c]))) := by simp only [tupO, lstO]; exact if_pos (show (3 : Nat) ≤ 100000 by decide)
theorem lstO_3 {a b c : Dv} : lstO (some [a, b, c]) = some (.new (.lst [a, b, c])) := by simp only [tupO, lstO]; exact if_pos (show (3 : Nat) ≤ 100000 by decide)
theorem tupO_4 {a b c d : Dv} : tupO (some [a, b, c, d]) = some (.val (.d (.tup [a, b, c, d]))) := by simp only [tupO, lstO]; exact if_pos (show (4 : Nat) ≤ 100000 by decide)
theorem lstO_4 {a b c d : Dv} : lstO (some [a, b, c, d]) = some (.new (.lst [a, b, c, d])) := by simp only [tupO, lstO]; exact if_pos (show (4 : Nat) ≤ 100000 by decide)
theorem tupO_5 {a b c d e : Dv} : tupO (some [a, b, c, d, e]) = some (.val (.d (.tup [a, b, c, d, e]))) := by simp only [tupO, lstO]; exact if_pos (show (5 : Nat) ≤ 100000 by decide)
theorem lstO_5 {a b c d e : Dv} : lstO (some [a, b, c, d, e]) = some (.new (.lst [a, b, c, d, e])) := by simp only [tupO, lstO]; exact if_pos (show (5 : Nat) ≤ 100000 by decide)
theorem tupO_6 {a b c d e f : Dv} : tupO (some [a, b, c, d, e, f]) = some (.val (.d (.tup [a, b, c, d, e, f]))) := by simp only [tupO, lstO]; exact if_pos (show (6 : Nat) ≤ 100000 by decide)
theorem lstO_6 {a b c d e f : Dv} : lstO (some [a, b, c, d, e, f]) = some (.new (.lst [a, b, c, d, e, f])) := by simp only [tupO, lstO]; exact if_pos (show (6 : Nat) ≤ 100000 by decide)
theorem tupO_7 {a b c d e f g : Dv} : tupO (some [a, b, c, d, e, f, g]) = some (.val (.d (.tup [a, b, c, d, e, f, g]))) := by simp only [tupO, lstO]; exact if_pos (show (7 : Nat) ≤ 100000 by decide)
theorem lstO_7 {a b c d e f g : Dv} : lstO (some [a, b, c, d, e, f, g]) = some (.new (.lst [a, b, c, d, e, f, g])) := by simp only [tupO, lstO]; exact if_pos (show (7 : Nat) ≤ 100000 by decide)
theorem fAnd_ {fa fb : FE} : fAnd fa fb env S = (bindW (fa env S) (fun S1 a => (onBW S1 a (fun b => if b then fb env S1 else .ok S1 (.val (.d (.bl false)))) ⟨⟩)) ⟨⟩) := rfl
theorem fOr_ {fa fb : FE} : fOr fa fb env S = (bindW (fa env S) (fun S1 a => (onBW S1 a (fun b => if b then .ok S1 (.val (.d (.bl true))) else fb env S1) ⟨⟩)) ⟨⟩) := rfl
theorem fNot_ {fa : FE} : fNot fa env S = (bindW (fa env S) (fun S1 a => (onBW S1 a (fun b => .ok S1 (.val (.d (.bl (!b))))) ⟨⟩)) ⟨⟩) := rfl
theorem fIf_ {ft : FT} {fa fb : FE} : fIf ft fa fb env S = (bindX (ft env S) (fun S1 b => if b then fa env S1 else fb env S1) ⟨⟩) := rfl
theorem onB_ {b : Bool} {f : Bool → R β} {u : Fx f} : onBW S (.d (.bl b)) f u = f b := rfl
theorem kVal_ {fa : FE} : kVal fa env S = (bindW (fa env S) (fun S1 a => (onBW S1 a (fun b => .ok S1 b) ⟨⟩)) ⟨⟩) := rfl
theorem kAnd_ {ta tb : FT} : kAnd ta tb env S = (bindX (ta env S) (fun S1 b => if b then tb env S1 else .ok S1 false) ⟨⟩) := rfl
theorem kOr_ {ta tb : FT} : kOr ta tb env S = (bindX (ta env S) (fun S1 b => if b then .ok S1 true else tb env S1) ⟨⟩) := rfl
theorem kNot_ {ta : FT} : kNot ta env S = (bindX (ta env S) (fun S1 b => .ok S1 (!b)) ⟨⟩) := rfl
theorem kYes_ : kYes env S = .ok S true := rfl
theorem fCall_ {g : List Dv → Option Rt} {fa : FA} : fCall g fa env S = (bindX (fa env S) (fun S1 l => gA S1 l g) ⟨⟩) := rfl
def gAo (S : Sto) (x : Option (List Dv)) (g : List Dv → Option Rt) : R Rt := match x with
  | some x => R.of S (g x)
  | _ => .no
theorem gA_ {l : List Vr} {g : List Dv → Option Rt} : gA S l g = gAo S (snaps S l) g := by unfold gA gAo; cases snaps S l <;> rfl
theorem gAo_ {l : List Dv} {g : List Dv → Option Rt} : gAo S (some l) g = R.of S (g l) := rfl
def snapsC : Option Dv → Option (List Dv) → Option (List Dv)
  | some d, some m => some (d :: m)
  | _, _ => none
theorem snaps_n : snaps S [] = some [] := rfl
theorem snaps_c {r : Vr} {l : List Vr} : snaps S (r :: l) = snapsC (snap S r) (snaps S l) := by
  unfold snapsC
  show (match snap S r, snaps S l with | some d, some m => some (d :: m) | _, _ => none) = _
  cases snap S r <;> cases snaps S l <;> rfl
theorem snapsC_ {d : Dv} {l : List Dv} : snapsC (some d) (some l) = some (d :: l) := rfl
theorem arg1_ {f : Dv → Option Rt} {x : Dv} : arg1 f [x] = f x := rfl
theorem arg12_1 {f : Dv → Option Rt} {g : Dv → Dv → Option Rt} {x : Dv} : arg12 f g [x] = f x := rfl
theorem arg12_2 {f : Dv → Option Rt} {g : Dv → Dv → Option Rt} {x y : Dv} : arg12 f g [x, y] = g x y := rfl
theorem arg2_ {f : Dv → Dv → Option Rt} {x y : Dv} : arg2 f [x, y] = f x y := rfl
theorem onlyIf_t {r : Option Rt} : onlyIf true r = r := rfl
theorem fCallD_ {m : Nat} {D : FD} {fa : FA} : fCallD m D fa env S = (bindX (fa env S) (fun S1 l => if l.length = m then D l S1 else .no) ⟨⟩) := rfl
theorem fMeth_ {T : String} {g : Dv → List Dv → Option Rt} {fo : FE} {fa : FA} : fMeth T g fo fa env S = (bindW (fo env S) (fun S1 a => onT T S1 a ((bindX (fa env S1) (fun S2 l => gM S2 a l g) ⟨⟩))) ⟨⟩) := rfl
def onTo (T : String) (x : Option Dv) (r : R β) : R β := match x with
  | some d => if isT T d then r else .no
  | none => .no
theorem onT_ {T : String} {a : Vr} {r : R β} : onT T S a r = onTo T (snap S a) r := rfl
theorem onTo_ {T : String} {d : Dv} {r : R β} : onTo T (some d) r = if isT T d then r else .no := rfl
def gMo (S : Sto) (x : Option Dv) (l : Option (List Dv)) (g : Dv → List Dv → Option Rt) : R Rt := match x, l with
  | some d, some ds => R.of S (g d ds)
  | _, _ => .no
theorem gM_ {a : Vr} {l : List Vr} {g : Dv → List Dv → Option Rt} : gM S a l g = gMo S (snap S a) (snaps S l) g := rfl
theorem gMo_ {d : Dv} {l : List Dv} {g : Dv → List Dv → Option Rt} : gMo S (some d) (some l) g = R.of S (g d l) := rfl
def clsC : Option Cell → Option String
  | some (.ob c _) => some c
  | some (.tab (.ow c _)) => some c
  | _ => none
theorem clsV_r {n : Nat} : clsV S (.r n) = clsC S[n]? := by
  cases q : S[n]? with
  | none => simp [clsV, q, clsC]
  | some c =>
    cases c with
    | tab t => cases t <;> simp [clsV, q, clsC]
    | _ => simp [clsV, q, clsC]
theorem clsC_lst {l : List Dv} : clsC (some (.lst l)) = none := rfl
theorem clsC_ob {c : String} {l : List Dv} : clsC (some (.ob c l)) = some c := rfl
theorem clsV_obj {c : String} {l : List Dv} : clsV S (.d (.obj c l)) = some c := rfl
theorem clsV_int {i : Int} : clsV S (.d (.int i)) = none := rfl
theorem clsV_bl {i : Bool} : clsV S (.d (.bl i)) = none := rfl
theorem clsV_str {i : Str} : clsV S (.d (.str i)) = none := rfl
theorem clsV_non : clsV S (.d .non) = none := rfl
theorem clsV_lst {l : List Dv} : clsV S (.d (.lst l)) = none := rfl
theorem clsV_tup {l : List Dv} : clsV S (.d (.tup l)) = none := rfl
theorem clsV_scr {l : List Int} : clsV S (.d (.scr l)) = none := rfl
theorem fLenD_ {T : MT} {fa : FA} : fLenD T fa env S = (bindX (fa env S) (fun S1 l => lenR T S1 l) ⟨⟩) := rfl
def lenC (k : Option String) (T : MT) (S : Sto) (o : Vr) : R Rt := match k with
  | some c => onlyV pInt (askT T c [o] S)
  | none => gA S [o] gLen
theorem lenR_ {T : MT} {o : Vr} : lenR T S [o] = lenC (clsV S o) T S o := rfl
theorem lenC_n {T : MT} {o : Vr} : lenC none T S o = gA S [o] gLen := rfl
theorem lenC_s {T : MT} {o : Vr} {c : String} : lenC (some c) T S o = onlyV pInt (askT T c [o] S) := rfl
theorem fIxD_ {T : MT} {fa fb : FE} : fIxD T fa fb env S = (bindW (fa env S) (fun S1 a => (bindW (fb env S1) (fun S2 b => ixR T S2 a b) ⟨⟩)) ⟨⟩) := rfl
def ixC (k : Option String) (T : MT) (S : Sto) (a b : Vr) : R Rt := match k with
  | some c => okR (askT T c [a, b] S)
  | none => g2 S a b gIx
theorem ixR_ {T : MT} {a b : Vr} : ixR T S a b = ixC (clsV S a) T S a b := rfl
theorem ixC_n {T : MT} {a b : Vr} : ixC none T S a b = g2 S a b gIx := rfl
theorem ixC_s {T : MT} {a b : Vr} {c : String} : ixC (some c) T S a b = okR (askT T c [a, b] S) := rfl
theorem okR_ok' {b : Rt} : okR (.ok S b) = .ok S b := rfl
theorem fEqD_ {cs : List String} {T : MT} {neg : Bool} {fa fb : FE} : fEqD cs T neg fa fb env S = (bindW (fa env S) (fun S1 a => (bindW (fb env S1) (fun S2 b => eqR cs T neg S2 a b) ⟨⟩)) ⟨⟩) := rfl
theorem fPropD_ {t : MT} {fo : FE} : fPropD t fo env S = (bindW (fo env S) (fun S1 o => fAsk1 t S1 o) ⟨⟩) := rfl
theorem fMakeD_ {c : String} {dl : List Dv} {n : Nat} {D : FD} {fa : FA} : fMakeD c dl n D fa env S = (bindX (fa env S) (fun S1 l =>
  if (Vr.r S1.length :: (l ++ dl.map .d)).length = n then makeR S1.length (D (.r S1.length :: (l ++ dl.map .d)) (S1 ++ [.ob c []])) else .no) ⟨⟩) := rfl
theorem isi_int_int {cs : List String} {i : Int} : gIsi cs (.int i) (.ty "int") = vB true := rfl
theorem isi_int_bool {cs : List String} {i : Int} : gIsi cs (.int i) (.ty "bool") = vB false := rfl
theorem isi_int_str {cs : List String} {i : Int} : gIsi cs (.int i) (.ty "str") = vB false := rfl
theorem isi_str_str {cs : List String} {i : Str} : gIsi cs (.str i) (.ty "str") = vB true := rfl
theorem isi_str_int {cs : List String} {i : Str} : gIsi cs (.str i) (.ty "int") = vB false := rfl
theorem isi_lst_lst {cs : List String} {i : List Dv} : gIsi cs (.lst i) (.ty "list") = vB true := rfl
theorem isi_lst_str {cs : List String} {i : List Dv} : gIsi cs (.lst i) (.ty "str") = vB false := rfl
theorem isi_tup_str {cs : List String} {i : List Dv} : gIsi cs (.tup i) (.ty "str") = vB false := rfl
theorem isi_tup_tup {cs : List String} {i : List Dv} : gIsi cs (.tup i) (.ty "tuple") = vB true := rfl
theorem isi_lst_lt {cs : List String} {i : List Dv} : gIsi cs (.lst i) (.tup [.ty "list", .ty "tuple"]) = vB true := rfl
theorem isi_tup_lt {cs : List String} {i : List Dv} : gIsi cs (.tup i) (.tup [.ty "list", .ty "tuple"]) = vB true := rfl
theorem isi_str_lt {cs : List String} {i : Str} : gIsi cs (.str i) (.tup [.ty "list", .ty "tuple"]) = vB false := rfl
theorem vB_ {b : Bool} : vB b = some (.val (.d (.bl b))) := rfl
theorem vI_ {b : Int} : vI b = some (.val (.d (.int b))) := rfl
theorem vS_ {b : Str} : vS b = some (.val (.d (.str b))) := rfl
theorem vT_ {b : List Dv} : vT b = some (.val (.d (.tup b))) := rfl
theorem nL_ {b : List Dv} : nL b = some (.new (.lst b)) := rfl
theorem vD_ {b : Dv} : vD b = some (.val (.d b)) := rfl
theorem startE_ {n : Nat} {args : List Vr} : startE n args = args.map .v ++ List.replicate (n - args.length) .u := rfl
theorem outS_nx : outS (.nx env S) = .ok S (.val (.d .non)) := rfl
theorem outS_rt {r : Rt} : outS (.rt S r) = .ok S r := rfl
theorem outS_ex {x : Xn} : outS (.ex env S x) = .ex S x := rfl
def methP (p : Option (Nat × FD)) (o : Vr) (r : R (List Vr)) : R Rt := match p with
  | some (n, D) => r.bind fun S2 l => if (o :: l).length = n then D (o :: l) S2 else .no
  | none => .no
def methR (k : Option String) (t : MT) (o : Vr) (r : R (List Vr)) : R Rt := match k with
  | some c => methP (t.at c) o r
  | none => .no
theorem fMethD_ {t : MT} {fo : FE} {fa : FA} : fMethD t fo fa env S = (bindW (fo env S) (fun S1 o => methR (clsV S1 o) t o (fa env S1)) ⟨⟩) := by
  unfold fMethD methR methP
  congr 1
theorem methR_ {c : String} {t : MT} {o : Vr} {r : R (List Vr)} : methR (some c) t o r = methP (t.at c) o r := rfl
theorem methP_ {n : Nat} {D : FD} {o : Vr} {r : R (List Vr)} : methP (some (n, D)) o r = (bindX r (fun S2 l => if (o :: l).length = n then D (o :: l) S2 else .no) ⟨⟩) := rfl
def askP (p : Option (Nat × FD)) (l : List Vr) (S : Sto) : R Rt := match p with
  | some (n, D) => if l.length = n then D l S else .no
  | none => .no
theorem askT_ {t : MT} {c : String} {l : List Vr} : askT t c l S = askP (t.at c) l S := rfl
theorem askP_ {n : Nat} {D : FD} {l : List Vr} : askP (some (n, D)) l S = if l.length = n then D l S else .no := rfl
def ask1P (p : Option (Nat × FD)) (o : Vr) (S : Sto) : R Rt := match p with
  | some (n, D) => if [o].length = n then okR (D [o] S) else .no
  | none => .no
def ask1R (k : Option String) (t : MT) (o : Vr) (S : Sto) : R Rt := match k with
  | some c => ask1P (t.at c) o S
  | none => .no
theorem fAsk1_ {t : MT} {o : Vr} : fAsk1 t S o = ask1R (clsV S o) t o S := rfl
theorem ask1R_ {c : String} {t : MT} {o : Vr} : ask1R (some c) t o S = ask1P (t.at c) o S := rfl
theorem ask1P_ {n : Nat} {D : FD} {o : Vr} : ask1P (some (n, D)) o S = if [o].length = n then okR (D [o] S) else .no := rfl
theorem at_cons {b c : String} {p : Nat × FD} {r : MT} : MT.at ((b, p) :: r) c = if b == c then some p else MT.at r c := rfl
theorem eqR_int {cs : List String} {T : MT} {neg : Bool} {i : Int} {b : Vr} : eqR cs T neg S (.d (.int i)) b = g2 S (.d (.int i)) b (if neg then gNe else gEq) := rfl
theorem eqR_bl {cs : List String} {T : MT} {neg : Bool} {i : Bool} {b : Vr} : eqR cs T neg S (.d (.bl i)) b = g2 S (.d (.bl i)) b (if neg then gNe else gEq) := rfl
theorem eqR_str {cs : List String} {T : MT} {neg : Bool} {i : Str} {b : Vr} : eqR cs T neg S (.d (.str i)) b = g2 S (.d (.str i)) b (if neg then gNe else gEq) := rfl
theorem eqR_lst {cs : List String} {T : MT} {neg : Bool} {i : List Dv} {b : Vr} : eqR cs T neg S (.d (.lst i)) b = g2 S (.d (.lst i)) b (if neg then gNe else gEq) := rfl
theorem eqR_tup {cs : List String} {T : MT} {neg : Bool} {i : List Dv} {b : Vr} : eqR cs T neg S (.d (.tup i)) b = g2 S (.d (.tup i)) b (if neg then gNe else gEq) := rfl
theorem eqR_non {cs : List String} {T : MT} {neg : Bool} {b : Vr} : eqR cs T neg S (.d .non) b = g2 S (.d .non) b (if neg then gNe else gEq) := rfl
theorem onlyV_bl {neg b : Bool} : onlyV (pBl neg) (.ok S (.val (.d (.bl b)))) = .ok S (.val (.d (.bl (if neg then !b else b)))) := rfl
theorem onlyV_str {s : Str} : onlyV pStr (.ok S (.val (.d (.str s)))) = .ok S (.val (.d (.str s))) := rfl
theorem pInt_ {i : Int} (h : 0 ≤ i) (h2 : i < 1000000) : pInt (.int i) = some (.int i) := by
  simp only [pInt]
  rw [if_pos (by omega)]
theorem onlyV_int {i : Int} (h : 0 ≤ i) (h2 : i < 1000000) : onlyV pInt (.ok S (.val (.d (.int i)))) = .ok S (.val (.d (.int i))) := by
  show (match pInt (.int i) with | some e => R.ok S (Rt.val (Vr.d e)) | none => R.no) = _
  rw [pInt_ h h2]
theorem fStrD_ {T : MT} {fa : FA} : fStrD T fa env S = (bindX (fa env S) (fun S1 l => strR T S1 l) ⟨⟩) := rfl
def strC (k : Option String) (T : MT) (S : Sto) (o : Vr) : R Rt := match k with
  | some c => onlyV pStr (askT T c [o] S)
  | none => gA S [o] gStr
theorem strR_ {T : MT} {o : Vr} : strR T S [o] = strC (clsV S o) T S o := rfl
theorem strC_n {T : MT} {o : Vr} : strC none T S o = gA S [o] gStr := rfl
theorem strC_s {T : MT} {o : Vr} {c : String} : strC (some c) T S o = onlyV pStr (askT T c [o] S) := rfl
theorem fChain_ {g g' : Dv → Dv → Option Rt} {fa fb fc : FE} : fChain g g' fa fb fc env S = (bindW (fa env S) (fun S1 a => (bindW (fb env S1) (fun S2 b => (bindW (g2 S2 a b g) (fun S3 k => (onBW S3 k (fun t =>
  if t then (bindW (fc env S3) (fun S4 c => g2 S4 b c g') ⟨⟩) else .ok S3 (.val (.d (.bl false)))) ⟨⟩)) ⟨⟩)) ⟨⟩)) ⟨⟩) := rfl
theorem fSl_ {fa : FE} {lo hi : FO} : fSl fa lo hi env S = (bindW (fa env S) (fun S1 a => (bindX (lo env S1) (fun S2 l => (bindX (hi env S2) (fun S3 h => g1 S3 a (gSl l h)) ⟨⟩)) ⟨⟩)) ⟨⟩) := rfl
theorem fNoPart_ : fNoPart env S = .ok S none := rfl
def partR (S : Sto) (a : Vr) : R (Option Int) := match a with
  | .d (.int i) => .ok S (some i)
  | _ => .no
theorem fPart_ {fa : FE} : fPart fa env S = (bindW (fa env S) (fun S1 a => partR S1 a) ⟨⟩) := rfl
theorem partR_ {i : Int} : partR S (.d (.int i)) = .ok S (some i) := rfl
theorem fDisp_ {ks vs : List Dv} : fDisp ks vs env S = .ok S (.new (.dc false ks vs)) := rfl
theorem gSl_lst {l : List Dv} {lo hi : Option Int} : gSl lo hi (.lst l) = nL (cutL l lo hi) := rfl
theorem gSl_tup {l : List Dv} {lo hi : Option Int} : gSl lo hi (.tup l) = vT (cutL l lo hi) := rfl
theorem fMut_ {g : List Dv → List Dv → Option (List Dv × Dv)} {fo : FE} {fa : FA} : fMut g fo fa env S = (bindW (fo env S) (fun S1 a => onT "list" S1 a ((bindX (fa env S1) (fun S2 l => gMu S2 a l g) ⟨⟩))) ⟨⟩) := rfl
def muC (n : Nat) (o : Option Cell) (S : Sto) (ds : Option (List Dv)) (g : List Dv → List Dv → Option (List Dv × Dv)) : R Rt := match ds, o with
  | some ds, some (.lst l0) => muP n S (g l0 ds)
  | _, _ => .no
where muP (n : Nat) (S : Sto) (p : Option (List Dv × Dv)) : R Rt := match p with
  | some (l1, res) => .ok (S.set n (.lst l1)) (.val (.d res))
  | none => .no
theorem gMu_ {n : Nat} {l : List Vr} {g : List Dv → List Dv → Option (List Dv × Dv)} : gMu S (.r n) l g = muC n S[n]? S (allD l) g := by
  unfold gMu muC muC.muP
  cases q : allD l with
  | none => rfl
  | some ds =>
    cases q2 : S[n]? with
    | none => simp only [q2]
    | some c => cases c <;> simp only [q2] <;> rfl
theorem muC_ {n : Nat} {ds l0 : List Dv} {g : List Dv → List Dv → Option (List Dv × Dv)} : muC n (some (.lst l0)) S (some ds) g = muC.muP n S (g l0 ds) := rfl
theorem muP_ {n : Nat} {l1 : List Dv} {res : Dv} : muC.muP n S (some (l1, res)) = .ok (S.set n (.lst l1)) (.val (.d res)) := rfl
theorem isT_str {s : Str} : isT "str" (.str s) = true := rfl
theorem isT_lst {s : List Dv} : isT "list" (.lst s) = true := rfl
theorem gClear_ {l : List Dv} : gClear l [] = some ([], .non) := rfl
def cmR (c : String) (n : Nat) (D : FD) (o : Vr) (r : R (List Vr)) : R Rt := match o with
  | .d (.cls b) => if b == c then r.bind fun S2 l => if (Vr.d (.cls c) :: l).length = n then D (.d (.cls c) :: l) S2 else .no else .no
  | _ => .no
theorem fCMeth_ {c : String} {n : Nat} {D : FD} {fo : FE} {fa : FA} : fCMeth c n D fo fa env S = (bindW (fo env S) (fun S1 o => cmR c n D o (fa env S1)) ⟨⟩) := by
  unfold fCMeth cmR
  congr 1
theorem cmR_ {c : String} {n : Nat} {D : FD} {r : R (List Vr)} : cmR c n D (.d (.cls c)) r = (bindX r (fun S2 l => if (Vr.d (.cls c) :: l).length = n then D (.d (.cls c) :: l) S2 else .no) ⟨⟩) := by
  unfold cmR bindX
  simp
theorem makeR_ok {c : String} {l : List Dv} : makeR (List.length S) (.ok (S ++ [.ob c l]) (.val (.d .non))) = .ok S (.new (.ob c l)) := by
  unfold makeR
  simp
def mkLR (c : String) (o : Option Sl) (r : R Rt) : R Rt := match o with
  | some (.v (.d (.cls b))) => if b == c then r else .no
  | _ => .no
theorem fMakeL_ {i n : Nat} {c : String} {D : FD} {fa : FA} : fMakeL i c n D fa env S = mkLR c env[i]? (fMakeD c [] n D fa env S) := by
  unfold fMakeL mkLR
  rfl
theorem mkLR_ {c : String} {r : R Rt} : mkLR c (some (.v (.d (.cls c)))) r = r := by
  unfold mkLR
  simp
end
end DN
local macro_rules | `(tactic| simp_arith [$ls,*]) => `(tactic| simp -dsimp only [↓reduceIte, DN.bindV_val, DN.bindV_lst, DN.bindV_ob, DN.bindV_dc, DN.bindV_no, DN.bindV_ex, DN.bind_ok, DN.bind_no, DN.bind_ex, DN.sV_val, DN.sV_lst, DN.sV_ob, DN.sV_dc, DN.sV_ex, DN.sB_ok, DN.sB_ex, DN.kSeq_, DN.seqR_nx, DN.seqR_rt, DN.seqR_ex, DN.seqR_no, DN.kRet_, DN.retR_ok, DN.retR_ex, DN.kRetN_, DN.kNext_, DN.loopR_nx, DN.loopR_ct, DN.loopR_bk, DN.loopR_rt, DN.forGo_c, DN.forO_, DN.forGo_n, DN.iVal_, DN.itOf_lst, DN.itOf_tup, DN.kIf_, DN.kExpr_, DN.kSet_, DN.kSetC_, DN.setC_val, DN.setC_new, DN.kAsg_, DN.asgR_d, DN.asgO_, DN.tgN_, DN.tgNil_, DN.tgCons_, DN.tgO_, DN.tgT_, DN.kPar_, DN.parR_, DN.kSub_, DN.kFld_, DN.fVar_, DN.varR_, DN.fC_, DN.fOp_, DN.g2_, DN.g2o_, DN.fUn_, DN.g1_, DN.g1o_, DN.of_some, DN.snap_d, DN.snap_r, DN.snapC_lst, DN.snapC_ob, DN.fNil_, DN.fCons_, DN.fTup_, DN.fLst_, DN.allD_n, DN.allD_c, DN.allC_, DN.gTupD_, DN.gLstD_, DN.tupO_0, DN.lstO_0, DN.tupO_1, DN.lstO_1, DN.tupO_2, DN.lstO_2, DN.tupO_3, DN.lstO_3, DN.tupO_4, DN.lstO_4, DN.tupO_5, DN.lstO_5, DN.tupO_6, DN.lstO_6, DN.tupO_7, DN.lstO_7, DN.fAnd_, DN.fOr_, DN.fNot_, DN.fIf_, DN.onB_, DN.kVal_, DN.kAnd_, DN.kOr_, DN.kNot_, DN.kYes_, DN.fCall_, DN.gA_, DN.gAo_, DN.snaps_n, DN.snaps_c, DN.snapsC_, DN.arg1_, DN.arg12_1, DN.arg12_2, DN.arg2_, DN.onlyIf_t, DN.fCallD_, DN.fMeth_, DN.onT_, DN.onTo_, DN.gM_, DN.gMo_, DN.clsV_r, DN.clsC_lst, DN.clsC_ob, DN.clsV_obj, DN.clsV_int, DN.clsV_bl, DN.clsV_str, DN.clsV_non, DN.clsV_lst, DN.clsV_tup, DN.clsV_scr, DN.fLenD_, DN.lenR_, DN.lenC_n, DN.lenC_s, DN.fIxD_, DN.ixR_, DN.ixC_n, DN.ixC_s, DN.okR_ok, DN.fEqD_, DN.fMethD_, DN.fPropD_, DN.fMakeD_, DN.isi_int_int, DN.isi_int_bool, DN.isi_int_str, DN.isi_str_str, DN.isi_str_int, DN.isi_lst_lst, DN.isi_lst_str, DN.isi_tup_str, DN.isi_tup_tup, DN.isi_lst_lt, DN.isi_tup_lt, DN.isi_str_lt, DN.methR_, DN.methP_, DN.askT_, DN.askP_, DN.fAsk1_, DN.ask1R_, DN.ask1P_, DN.at_cons, beq_self_eq_true, DN.eqR_int, DN.eqR_bl, DN.eqR_str, DN.eqR_lst, DN.eqR_tup, DN.eqR_non, DN.onlyV_bl, DN.onlyV_str, DN.fStrD_, DN.strR_, DN.strC_n, DN.strC_s, DN.fChain_, DN.fSl_, DN.fNoPart_, DN.fPart_, DN.partR_, DN.fDisp_, DN.gSl_lst, DN.gSl_tup, DN.fMut_, DN.gMu_, DN.muC_, DN.muP_, DN.isT_str, DN.isT_lst, DN.gClear_, DN.fCMeth_, DN.cmR_, DN.fMakeL_, DN.mkLR_, DN.makeR_ok, List.append_nil, DN.vB_, DN.vI_, DN.vS_, DN.vT_, DN.nL_, DN.vD_, DN.startE_, DN.outS_nx, DN.outS_rt, DN.outS_ex, List.map, List.nil_append, List.cons_append, List.length_cons, List.length_nil, List.replicate, List.getElem?_cons_zero, List.getElem?_cons_succ, List.getElem?_nil, List.set_cons_zero, List.set_cons_succ, if_true, if_false, ite_true, ite_false, Bool.not_true, Bool.not_false, Bool.false_eq_true, Bool.and_true, Bool.true_and, Bool.or_false, Bool.false_or, Nat.add_sub_cancel, Nat.zero_add, Nat.reduceSub, Nat.reduceAdd, $ls,*])
namespace DN
open PySem L2
/-- a comprehension that changes nothing, all items kept -/
theorem fLc_map {fi : FI} {i : Nat} {fe : FE} {vs : List Nat} {env : Env} {S : Sto} {t : Its} (g : Dv → Dv) (hi : fi env S = .ok S t) (hk : lockOk t S = true) (hl : t.1.length ≤ 100000)
    (h : ∀ d ∈ t.1, Got (fe ((wipeE env vs).set i (.v (.d d))) S) S (.d (g d))) : fLc fi (tgN i) kYes fe vs env S = .ok S (.new (.lst (t.1.map g))) := by
  have := fLc_pure (fi := fi) (tg := tgN i) (ft := kYes) (fe := fe) (vs := vs) (env := env) (p := fun _ => true) g hi hk hl fun d hd => ⟨_, rfl, rfl, fun _ => h d hd⟩
  rw [this, List.filter_eq_self.mpr fun _ _ => rfl]
theorem strs_map : ∀ (ws : List Str), strs? (ws.map .str) = some ws
  | [] => rfl
  | w :: ws => by simp only [List.map, strs?, strs_map ws]
theorem ints_map : ∀ (ws : List Int), ints? (ws.map .int) = some ws
  | [] => rfl
  | w :: ws => by simp only [List.map, ints?, ints_map ws]
theorem bools_map : ∀ (ws : List Bool), bools? (ws.map .bl) = some ws
  | [] => rfl
  | w :: ws => by simp only [List.map, bools?, bools_map ws]
theorem of_signs {ys : List Dv} {P : Nat → Prop} (h : ∀ y ∈ ys, ∃ c, y = .str ⟨#[c]⟩ ∧ P c) : ∃ cs : List Nat, ys = (cs.map fun c => (⟨#[c]⟩ : Str)).map .str ∧ ∀ s ∈ cs, P s := by
  induction ys with
  | nil => exact ⟨[], rfl, fun _ h => nomatch h⟩
  | cons y ys ih =>
    obtain ⟨ss, rfl, h2⟩ := ih fun z hz => h z (List.mem_cons_of_mem _ hz)
    obtain ⟨s, rfl, h3⟩ := h y List.mem_cons_self
    exact ⟨s :: ss, rfl, fun z hz => by
      rcases List.mem_cons.mp hz with rfl | hz
      · exact h3
      · exact h2 z hz⟩
theorem okN_str {n : Nat} {s : Str} : okN n (.str s) = PyData.strOk s := by cases n <;> rfl
theorem okN_int {n : Nat} {s : Int} : okN n (.int s) = true := by cases n <;> rfl
theorem okN_lst {n : Nat} {l : List Dv} : okN (n + 1) (.lst l) = okNs n l := rfl
theorem okN_tup {n : Nat} {l : List Dv} : okN (n + 1) (.tup l) = okNs n l := rfl
theorem okNs_all {n : Nat} : ∀ {l : List Dv}, (∀ d ∈ l, okN n d = true) → okNs n l = true
  | [], _ => by cases n <;> rfl
  | d :: l, h => by
    have h1 := h d List.mem_cons_self
    have h2 := okNs_all (n := n) (l := l) fun x hx => h x (List.mem_cons_of_mem _ hx)
    show (okN n d && okNs n l) = true
    rw [h1, h2]; rfl
mutual
theorem eqD_refl : ∀ {n : Nat} {d : Dv}, okN n d = true → eqD d d = true
  | _, .non, _ => rfl
  | _, .bl _, _ => by simp [eqD]
  | _, .int _, _ => by simp [eqD]
  | _, .str _, _ => by simp [eqD]
  | n + 1, .lst l, h => by simp only [eqD]; exact eqDs_refl (n := n) h
  | n + 1, .tup l, h => by simp only [eqD]; exact eqDs_refl (n := n) h
  | 0, .lst l, h => by simp [okN] at h
  | 0, .tup l, h => by simp [okN] at h
  | n, .ty _, h => by cases n <;> simp [okN] at h
  | n, .cls _, h => by cases n <;> simp [okN] at h
  | n, .obj _ _, h => by cases n <;> simp [okN] at h
  | n, .dic _ _ _, h => by cases n <;> simp [okN] at h
  | n, .scr _, h => by cases n <;> simp [okN] at h
  | n, .ktp _, h => by cases n <;> simp [okN] at h
theorem eqDs_refl : ∀ {n : Nat} {l : List Dv}, okNs n l = true → eqDs l l = true
  | _, [], _ => rfl
  | n, d :: l, h => by
    have h' : okN n d = true ∧ okNs n l = true := by simpa [okNs] using h
    simp only [eqDs]
    rw [eqD_refl h'.1, eqDs_refl h'.2]; rfl
end
theorem gEq_refl {d : Dv} (h : okN 60 d = true) : gEq d d = vB true := by
  unfold gEq
  rw [h, eqD_refl h]; rfl
theorem gNe_refl {d : Dv} (h : okN 60 d = true) : gNe d d = vB false := by
  unfold gNe
  rw [h, eqD_refl h]; rfl
theorem gEq_int {i j : Int} : gEq (.int i) (.int j) = vB (decide (i = j)) := by
  show onlyIf (okN 60 (.int i) && okN 60 (.int j)) (vB (i == j)) = _
  rw [okN_int, okN_int]
  by_cases h : i = j
  · simp [onlyIf, h]
  · simp [onlyIf, h, beq_false_of_ne h]
theorem gNe_int {i j : Int} : gNe (.int i) (.int j) = vB (!decide (i = j)) := by
  show onlyIf (okN 60 (.int i) && okN 60 (.int j)) (vB (!(i == j))) = _
  rw [okN_int, okN_int]
  by_cases h : i = j
  · simp [onlyIf, h]
  · simp [onlyIf, h, beq_false_of_ne h]
theorem gEq_str {i j : Str} (hi : PyData.strOk i = true) (hj : PyData.strOk j = true) : gEq (.str i) (.str j) = vB (decide (i = j)) := by
  show onlyIf (okN 60 (.str i) && okN 60 (.str j)) (vB (i == j)) = _
  rw [okN_str, okN_str, hi, hj]
  by_cases h : i = j
  · simp [onlyIf, h]
  · simp [onlyIf, h, beq_false_of_ne h]
theorem atI_nat {β : Type} {l : List β} {i : Nat} {x : β} (h : l[i]? = some x) : atI l (i : Int) = some x := by
  have hl := (List.getElem?_eq_some_iff.mp h).1
  have : ixN l.length (i : Int) = some i := by
    unfold ixN
    rw [if_pos (by omega), if_pos (by omega)]
    simp
  unfold atI
  rw [this]
  exact h
theorem gIx_lst {l : List Dv} {i : Nat} {x : Dv} (h : l[i]? = some x) : gIx (.lst l) (.int i) = vD x := by
  show (match atI l (i : Int) with | some d => vD d | none => none) = _
  rw [atI_nat h]
theorem gIx_tup {l : List Dv} {i : Nat} {x : Dv} (h : l[i]? = some x) : gIx (.tup l) (.int i) = vD x := by
  show (match atI l (i : Int) with | some d => vD d | none => none) = _
  rw [atI_nat h]
theorem gIx_scr {l : List Int} {i : Nat} {x : Int} (h : l[i]? = some x) : gIx (.scr l) (.int i) = vI x := by
  show (match atI l (i : Int) with | some d => vI d | none => none) = _
  rw [atI_nat h]
theorem gIx_str {s : Str} {i : Nat} {c : Nat} (hl : s.length ≤ 100000) (h : s.cps.toList[i]? = some c) : gIx (.str s) (.int i) = vS ⟨#[c]⟩ := by
  show (if s.length ≤ 100000 then (match atI s.cps.toList (i : Int) with | some c => vS ⟨#[c]⟩ | none => none) else none) = _
  rw [if_pos hl, atI_nat h]
theorem gLen_lst {l : List Dv} : gLen [.lst l] = vI l.length := rfl
theorem gLen_tup {l : List Dv} : gLen [.tup l] = vI l.length := rfl
theorem gLen_scr {l : List Int} : gLen [.scr l] = vI l.length := rfl
theorem gLen_str {s : Str} (h : s.length ≤ 100000) : gLen [.str s] = vI s.length := by
  show (if s.length ≤ 100000 then vI s.length else none) = _
  rw [if_pos h]
theorem gTuple_lst {l : List Dv} : gTuple [.lst l] = vT l := rfl
theorem gList_lst {l : List Dv} : gList [.lst l] = nL l := rfl
theorem gList_tup {l : List Dv} : gList [.tup l] = nL l := rfl
theorem gLe_ {i j : Int} : gLe (.int i) (.int j) = vB (decide (i ≤ j)) := rfl
theorem gLt_ {i j : Int} : gLt (.int i) (.int j) = vB (decide (i < j)) := rfl
theorem gGt_ {i j : Int} : gGt (.int i) (.int j) = vB (decide (i > j)) := rfl
theorem gAdd_ {i j : Int} : gAdd (.int i) (.int j) = vI (i + j) := rfl
theorem gSub_ {i j : Int} : gSub (.int i) (.int j) = vI (i - j) := rfl
theorem gInt_ {i : Int} : gInt [.int i] = vI i := rfl
theorem gMax2_ {i j : Int} : gMax [.int i, .int j] = gMax2 (.int i) (.int j) := rfl
theorem gMin2_ {i j : Int} : gMin [.int i, .int j] = gMin2 (.int i) (.int j) := rfl
theorem gAll_true {β : Type} (l : List β) : gAll [.lst (l.map fun _ => Dv.bl true)] = vB true := by
  have e : (l.map fun _ => Dv.bl true) = (l.map fun _ => true).map .bl := by simp
  show gAll1 (.lst _) = _
  rw [e]
  simp only [gAll1, bools_map]
  congr 1
  simp
theorem iRange1_ {fa : FA} {env : Env} {S : Sto} {n : Nat} (h : fa env S = .ok S [.d (.int n)]) (hn : n ≤ 1000000) : iRange1 fa env S = .ok S ((List.range n).map fun i : Nat => Dv.int i, none) := by
  unfold iRange1
  rw [h]
  show rng1 S (some (n : Int)) = _
  unfold rng1
  have : smallR (n : Int) = true := by unfold smallR; rw [decide_eq_true (by omega), decide_eq_true (by omega)]; rfl
  simp only [this, if_true]
  unfold rangeD
  congr 2
  simp
end DN
namespace DN
open PySem L2
abbrev box (a b c : Int) : Cell := .lst [.int a, .int b, .int c]
theorem ix_0 {x : Dv} {l : List Dv} : gIx (.lst (x :: l)) (.int 0) = vD x := gIx_lst (i := 0) rfl
theorem ix_1 {x y : Dv} {l : List Dv} : gIx (.lst (x :: y :: l)) (.int 1) = vD y := gIx_lst (i := 1) rfl
theorem ix_2 {x y z : Dv} {l : List Dv} : gIx (.lst (x :: y :: z :: l)) (.int 2) = vD z := gIx_lst (i := 2) rfl
theorem gMod_ {i j : Int} (h : 0 < j) : gMod (.int i) (.int j) = vI (i.fmod j) := by
  show onlyIf (decide (j ≠ 0)) _ = _
  rw [decide_eq_true (by omega)]; rfl
theorem gDiv_ {i j : Int} (h : 0 < j) (h2 : j < 1073741824) : gDiv (.int i) (.int j) = vI (i.fdiv j) := by
  show onlyIf (decide (j ≠ 0) && decide (j.natAbs < 1073741824)) _ = _
  rw [decide_eq_true (by omega), decide_eq_true (by omega)]; rfl
theorem gMul_ {i j : Int} (h : -(2 ^ 64) < i) (h2 : i < 2 ^ 64) : gMul (.int i) (.int j) = vI (i * j) := by
  show onlyIf (small64 i || small64 j) _ = _
  have : small64 i = true := by unfold small64; rw [decide_eq_true h, decide_eq_true h2]; rfl
  rw [this]; rfl
theorem gPow_ {i : Int} {j : Nat} (h : i.natAbs < 2 ^ 64) (h2 : j ≤ 1000000) : gPow (.int i) (.int j) = vI (i ^ j) := by
  show onlyIf (decide (0 ≤ (j : Int)) && decide ((j : Int) ≤ 1000000) && decide (i.natAbs < 2 ^ 64)) _ = _
  rw [decide_eq_true (by omega), decide_eq_true (by omega), decide_eq_true h]; rfl
theorem exit_d {k : Nat} {S : Sto} {d : Dv} : exitR k (.ok S (.val (.d d))) = .ok (S.take k) (.val (.d d)) := rfl
theorem exit_n {k : Nat} {S : Sto} {c : Cell} : exitR k (.ok S (.new c)) = .ok (S.take k) (.new c) := rfl
theorem set_ix {T : Sto} {n k : Nat} {l : List Dv} {v : Dv} {env : Env} (h : T[n]? = some (.lst l)) (hk : k < l.length) : setIx env T (.r n) (.d (.int k)) (.d v) = .nx env (T.set n (.lst (l.set k v))) := by
  have e : ixN l.length (k : Int) = some k := by
    unfold ixN
    rw [if_pos (by omega), if_pos (by omega)]
    simp
  show (match T[n]? with | some c => (match putC c (.int k) v with | some c2 => RS.nx env (T.set n c2) | none => .no) | none => .no) = _
  rw [h]
  show (match (match ixN l.length (k : Int) with | some j => some (Cell.lst (l.set j v)) | none => none) with | some c2 => RS.nx env (T.set n c2) | none => .no) = _
  rw [e]
theorem set_ix0 {T : Sto} {n : Nat} {x v : Dv} {l : List Dv} {env : Env} (h : T[n]? = some (.lst (x :: l))) : setIx env T (.r n) (.d (.int 0)) (.d v) = .nx env (T.set n (.lst (v :: l))) := set_ix (k := 0) h (by simp)
theorem set_ix2 {T : Sto} {n : Nat} {x y z v : Dv} {l : List Dv} {env : Env} (h : T[n]? = some (.lst (x :: y :: z :: l))) : setIx env T (.r n) (.d (.int 2)) (.d v) = .nx env (T.set n (.lst (x :: y :: v :: l))) := set_ix (k := 2) h (by simp)
theorem take_set {T : Sto} {n : Nat} {c : Cell} : (T.set n c).take T.length = T.set n c := List.take_of_length_le (by simp)
theorem def_set {m n : Nat} {body : FS} {args : List Vr} {T : Sto} {k k' : Cell} {d : Dv} (h : outS (body (startE m args) (T.set n k)) = .ok (T.set n k') (.val (.d d))) : defD m body args (T.set n k) = .ok (T.set n k') (.val (.d d)) := by
  unfold defD
  rw [h, exit_d, List.length_set, take_set]
theorem get_set {T : Sto} {n : Nat} {c d : Cell} (h : T[n]? = some d) : (T.set n c)[n]? = some c := List.getElem?_set_self (List.getElem?_eq_some_iff.mp h).1
/-- the box at cell n, after at most m turns of the small numbers -/
def BxC (B : Int) (m : Nat) (k : Cell) : Prop := ∃ a b c : Int, k = box a b c ∧ 0 ≤ b ∧ b < B ∧ 0 ≤ c ∧ c ≤ m
theorem BxC.le {B : Int} {n m : Nat} {k : Cell} (h : BxC B n k) (l : n ≤ m) : BxC B m k := by
  obtain ⟨a, b, c, rfl, h1, h2, h3, h4⟩ := h
  exact ⟨a, b, c, rfl, h1, h2, h3, by omega⟩
section
variable {fa : FE} {fl : FA} {ft : FT} {fe : FE} {vs : List Nat} {env : Env} {S : Sto} {i n : Nat}
theorem fLc_it {d : Dv} {l : List Dv} (g : Dv → Dv) (h1 : fa env S = .ok S (.val (.d d))) (h2 : iterD d = some l) (hl : l.length ≤ 100000)
    (h : ∀ x ∈ l, Got (fe ((wipeE env vs).set i (.v (.d x))) S) S (.d (g x))) : fLc (iVal fa) (tgN i) kYes fe vs env S = .ok S (.new (.lst (l.map g))) := by
  refine fLc_map (t := (l, none)) g ?_ rfl hl h
  unfold iVal
  rw [h1]
  show itOf S (.d d) = _
  simp only [itOf, h2]
/-- over a list of texts -/
theorem fLc_strs {d : Dv} {ws : List Str} (g : Str → Dv) (h1 : fa env S = .ok S (.val (.d d))) (h2 : iterD d = some (ws.map .str)) (hl : ws.length ≤ 100000)
    (h : ∀ x ∈ ws, Got (fe ((wipeE env vs).set i (.v (.d (.str x)))) S) S (.d (g x))) : fLc (iVal fa) (tgN i) kYes fe vs env S = .ok S (.new (.lst (ws.map g))) := by
  have := fLc_it (fa := fa) (fe := fe) (vs := vs) (env := env) (S := S) (i := i) (fun d => match d with | .str s => g s | _ => .non) h1 h2 (by simpa using hl) (fun x hx => by
    obtain ⟨s, hs, rfl⟩ := List.mem_map.mp hx
    exact h s hs)
  rw [this, List.map_map]
  rfl
theorem range_1 (h : fl env S = .ok S [.d (.int n)]) (hn : n ≤ 100000) : iRange1 fl env S = .ok S ((List.range n).map fun i : Nat => Dv.int i, none) := iRange1_ h (by omega)
theorem range_2 {a b : Nat} (h : fl env S = .ok S [.d (.int a), .d (.int b)]) (ha : a ≤ 100000) (hb : b ≤ 100000) : iRange2 fl env S = .ok S ((List.range (b - a)).map fun i : Nat => Dv.int ((a + i : Nat) : Int), none) := by
  unfold iRange2
  rw [h]
  show rng2 S (some ((a : Int), (b : Int))) = _
  have h1 : smallR (a : Int) = true := by unfold smallR; rw [decide_eq_true (by omega), decide_eq_true (by omega)]; rfl
  have h2 : smallR (b : Int) = true := by unfold smallR; rw [decide_eq_true (by omega), decide_eq_true (by omega)]; rfl
  show (if smallR (a : Int) && smallR (b : Int) then R.ok S (rangeD (a : Int) (b : Int), none) else .no) = _
  rw [h1, h2]
  show R.ok S (rangeD (a : Int) (b : Int), none) = _
  unfold rangeD
  rw [show ((b : Int) - (a : Int)).toNat = b - a by omega]
  congr 2
theorem fLc_rg (g : Nat → Dv) (h1 : fl env S = .ok S [.d (.int n)]) (hn : n ≤ 100000)
    (h : ∀ k, k < n → Got (fe ((wipeE env vs).set i (.v (.d (.int k)))) S) S (.d (g k))) : fLc (iRange1 fl) (tgN i) kYes fe vs env S = .ok S (.new (.lst ((List.range n).map g))) := by
  have := fLc_map (fi := iRange1 fl) (fe := fe) (vs := vs) (env := env) (S := S) (i := i) (fun d => match d with | .int s => g s.toNat | _ => .non) (range_1 h1 hn) rfl (by simpa using hn) (fun x hx => by
    obtain ⟨s, hs, rfl⟩ := List.mem_map.mp hx
    exact h s (List.mem_range.mp hs))
  rw [this, List.map_map]
  rfl
theorem fLc_rgF (p : Nat → Bool) (g : Nat → Dv) (h1 : fl env S = .ok S [.d (.int n)]) (hn : n ≤ 100000)
    (h0 : ∀ k, k < n → ft ((wipeE env vs).set i (.v (.d (.int k)))) S = .ok S (p k))
    (h : ∀ k, k < n → p k = true → Got (fe ((wipeE env vs).set i (.v (.d (.int k)))) S) S (.d (g k))) : fLc (iRange1 fl) (tgN i) ft fe vs env S = .ok S (.new (.lst (((List.range n).filter p).map g))) := by
  have := fLc_pure (fi := iRange1 fl) (tg := tgN i) (ft := ft) (fe := fe) (vs := vs) (env := env) (S := S) (fun d => match d with | .int s => p s.toNat | _ => false) (fun d => match d with | .int s => g s.toNat | _ => .non) (range_1 h1 hn) rfl (by simpa using hn) (fun x hx => by
    obtain ⟨s, hs, rfl⟩ := List.mem_map.mp hx
    exact ⟨_, rfl, h0 s (List.mem_range.mp hs), h s (List.mem_range.mp hs)⟩)
  rw [this, List.filter_map, List.map_map]
  rfl
end
theorem lc_ix {t : Its} {tg : FG} {ft : FT} {fe : FE} {env : Env} (I : Nat → Sto → Prop) (P : Nat → Dv → Prop) (ht : t.2 = none) : ∀ {l acc : List Dv} {i : Nat} {S : Sto}, I i S →
    (∀ k d S, l[k]? = some d → I (i + k) S → ∃ env' S' y, tg d env = some env' ∧ ft env' S = .ok S true ∧ Got (fe env' S) S' (.d y) ∧ I (i + k + 1) S' ∧ P (i + k) y) → acc.length + l.length ≤ 100000 →
    ∃ S' ys, lcGo t tg ft fe env l S acc = .ok S' (acc ++ ys) ∧ I (i + l.length) S' ∧ ys.length = l.length ∧ ∀ k y, ys[k]? = some y → P (i + k) y
  | [], acc, i, S, hI, h, hl => ⟨S, [], by
      have : lockOk t S = true := by unfold lockOk; rw [ht]
      simp [lcGo, this], hI, rfl, fun k y h => by simp at h⟩
  | d :: l, acc, i, S, hI, h, hl => by
    have hk : lockOk t S = true := by unfold lockOk; rw [ht]
    obtain ⟨env', S1, y, h1, h2, h3, h4, h5⟩ := h 0 d S rfl hI
    have hl' : acc.length + l.length + 1 ≤ 100000 := by simpa [Nat.add_assoc] using hl
    obtain ⟨S2, ys, e1, e2, e3, e4⟩ := lc_ix I P ht (l := l) (acc := acc ++ [y]) (i := i + 1) (S := S1) h4 (fun k x S hx hi => by
      have := h (k + 1) x S (by simpa using hx) (by rw [show i + (k + 1) = i + 1 + k by omega]; exact hi)
      rw [show i + (k + 1) + 1 = i + 1 + k + 1 by omega, show i + (k + 1) = i + 1 + k by omega] at this
      exact this) (by simp; omega)
    refine ⟨S2, y :: ys, ?_, by rw [List.length_cons, show i + (l.length + 1) = i + 1 + l.length by omega]; exact e2, by rw [List.length_cons, List.length_cons, e3], fun k z hz => ?_⟩
    · simp only [lcGo, hk, if_true, h1, h2, noex_ok, R.bind]
      have e : (fe env' S).noex.bindV (fun S2 v => onD v fun y => if acc.length < 100000 then lcGo t tg ft fe env l S2 (acc ++ [y]) else .no) = lcGo t tg ft fe env l S1 (acc ++ [y]) := by
        generalize fe env' S = r at h3
        cases h3 with
        | val =>
          simp only [noex_ok, R.bindV, onD]
          rw [if_pos (by omega)]
        | new S c d' hc => rw [noex_ok, bindV_new hc]; simp only [onD]; rw [if_pos (by omega)]
      rw [e, e1]
      simp
    · cases k with
      | zero => simp at hz; subst hz; exact h5
      | succ k =>
        have := e4 k z (by simpa using hz)
        rw [show i + (k + 1) = i + 1 + k by omega]
        exact this
/-- a comprehension over a range that draws -/
theorem fLc_draw {fl : FA} {fe : FE} {vs : List Nat} {env : Env} {S : Sto} {i n : Nat} (I : Nat → Sto → Prop) (P : Nat → Dv → Prop) (h1 : fl env S = .ok S [.d (.int n)]) (hn : n ≤ 100000) (hI : I 0 S)
    (h : ∀ k S, k < n → I k S → ∃ S' y, Got (fe ((wipeE env vs).set i (.v (.d (.int k)))) S) S' (.d y) ∧ I (k + 1) S' ∧ P k y) :
    ∃ S' ys, fLc (iRange1 fl) (tgN i) kYes fe vs env S = .ok S' (.new (.lst ys)) ∧ I n S' ∧ ys.length = n ∧ ∀ k y, ys[k]? = some y → P k y := by
  obtain ⟨S', ys, e1, e2, e3, e4⟩ := lc_ix (t := ((List.range n).map fun i : Nat => Dv.int i, none)) (tg := tgN i) (ft := kYes) (fe := fe) (env := wipeE env vs) I P rfl (l := (List.range n).map fun i : Nat => Dv.int i) (acc := []) (i := 0) hI (fun k d T hd hi => by
    rw [List.getElem?_map] at hd
    cases q : (List.range n)[k]? with
    | none => rw [q] at hd; cases hd
    | some x =>
      rw [q] at hd
      have hx := List.getElem?_eq_some_iff.mp q
      have : x = k := by rw [← hx.2]; simp
      subst this
      cases hd
      have hxn : x < n := by simpa using hx.1
      rw [Nat.zero_add] at hi ⊢
      obtain ⟨S', y, h2, h3, h4⟩ := h x T hxn hi
      exact ⟨_, S', y, rfl, rfl, h2, h3, h4⟩) (by simpa using hn)
  refine ⟨S', ys, ?_, by simpa using e2, by simpa using e3, fun k y hy => by simpa using e4 k y hy⟩
  unfold fLc
  rw [range_1 h1 hn]
  simp only [R.bind]
  rw [e1]
  rfl
theorem all_of_ix {ys : List Dv} {P : Dv → Prop} (h : ∀ (k : Nat) y, ys[k]? = some y → P y) : ∀ y ∈ ys, P y := fun y hy => by
  obtain ⟨k, hk, rfl⟩ := List.mem_iff_getElem.mp hy
  exact h k _ (List.getElem?_eq_getElem hk)
/-- a loop over items that do not change, by an invariant; it runs to its end -/
theorem for_inv {t : Its} {tg : FG} {body : FS} (ht : t.2 = none) : ∀ {l : List Dv} {env : Env} {S : Sto} (I : Nat → Env → Sto → Prop) (j : Nat), I j env S →
    (∀ k d env S, l[k]? = some d → I (j + k) env S → ∃ env1 env' S', tg d env = some env1 ∧ body env1 S = .nx env' S' ∧ I (j + k + 1) env' S') → ∃ env' S', forGo t tg body l env S = .nx env' S' ∧ I (j + l.length) env' S'
  | [], env, S, I, j, hI, _ => ⟨env, S, by
      have : lockOk t S = true := by unfold lockOk; rw [ht]
      simp [forGo, this], hI⟩
  | d :: l, env, S, I, j, hI, h => by
    have hk : lockOk t S = true := by unfold lockOk; rw [ht]
    obtain ⟨env1, env', S', h1, h2, h3⟩ := h 0 d env S rfl hI
    obtain ⟨e2, S2, h4, h5⟩ := for_inv ht (l := l) I (j + 1) h3 (fun k d' e S hd hi => by
      have := h (k + 1) d' e S (by simpa using hd) (by rw [show j + (k + 1) = j + 1 + k by omega]; exact hi)
      rw [show j + (k + 1) + 1 = j + 1 + k + 1 by omega] at this
      exact this)
    refine ⟨e2, S2, ?_, by rw [List.length_cons, show j + (l.length + 1) = j + 1 + l.length by omega]; exact h5⟩
    simp only [forGo, hk, if_true, h1, h2, h4]
/-- over a range -/
theorem for_rg {fl : FA} {body : FS} {env : Env} {S : Sto} {i n : Nat} (I : Nat → Env → Sto → Prop) (h1 : fl env S = .ok S [.d (.int n)]) (hn : n ≤ 100000) (h0 : I 0 env S)
    (h : ∀ k env S, k < n → I k env S → ∃ env' S', body (env.set i (.v (.d (.int k)))) S = .nx env' S' ∧ I (k + 1) env' S') : ∃ env' S', kFor (iRange1 fl) (tgN i) body env S = .nx env' S' ∧ I n env' S' := by
  obtain ⟨e, S', h2, h3⟩ := for_inv (t := ((List.range n).map fun i : Nat => Dv.int i, none)) (tg := tgN i) (body := body) rfl (l := (List.range n).map fun i : Nat => Dv.int i) (env := env) (S := S) I 0 h0 (fun k d e T hd hi => by
    rw [List.getElem?_map] at hd
    cases q : (List.range n)[k]? with
    | none => rw [q] at hd; cases hd
    | some x =>
      rw [q] at hd
      have hx := List.getElem?_eq_some_iff.mp q
      have : x = k := by rw [← hx.2]; simp
      subst this
      cases hd
      have hxn : x < n := by simpa using hx.1
      rw [Nat.zero_add] at hi ⊢
      obtain ⟨e', T', h4, h5⟩ := h x e T hxn hi
      exact ⟨_, e', T', rfl, h4, h5⟩)
  refine ⟨e, S', ?_, by simpa using h3⟩
  unfold kFor
  rw [range_1 h1 hn]
  exact h2
theorem get_last {S : Sto} {c : Cell} : (S ++ [c])[List.length S]? = some c := by simp
theorem set_last {S : Sto} {c d : Cell} : (S ++ [c]).set (List.length S) d = S ++ [d] := by
  rw [List.set_append_right _ _ (Nat.le_refl _), Nat.sub_self]
  rfl
/-- a is a list or a tuple of the items ds, in the state S -/
structure Sq (S : Sto) (a : Vr) (ds : List Dv) : Prop where
  it : ∃ t, itOf S a = .ok S t ∧ t.1 = ds ∧ lockOk t S = true
  sn : ∃ d, snap S a = some d ∧ (∀ cs, gIsi cs d (.tup [.ty "list", .ty "tuple"]) = vB true) ∧ gLen [d] = vI ds.length ∧ gTuple [d] = vT ds ∧ gList [d] = nL ds ∧ ∀ i : Nat, ∀ x, ds[i]? = some x → gIx d (.int i) = vD x
  cl : clsV S a = none
theorem Sq.lst {S : Sto} {ds : List Dv} : Sq S (.d (.lst ds)) ds := ⟨⟨(ds, none), rfl, rfl, rfl⟩, ⟨.lst ds, rfl, fun _ => rfl, rfl, rfl, rfl, fun i x h => gIx_lst h⟩, rfl⟩
theorem Sq.tup {S : Sto} {ds : List Dv} : Sq S (.d (.tup ds)) ds := ⟨⟨(ds, none), rfl, rfl, rfl⟩, ⟨.tup ds, rfl, fun _ => rfl, rfl, rfl, rfl, fun i x h => gIx_tup h⟩, rfl⟩
theorem Sq.cell {S : Sto} {n : Nat} {ds : List Dv} (h : S[n]? = some (.lst ds)) : Sq S (.r n) ds := by
  refine ⟨⟨(ds, some n), ?_, rfl, ?_⟩, ⟨.lst ds, ?_, fun _ => rfl, rfl, rfl, rfl, fun i x h => gIx_lst h⟩, ?_⟩
  · simp [itOf, h]
  · simp [lockOk, h, beqDs_refl]
  · simp [snap, h]
  · simp [clsV, h]
theorem fLc_sq {fa : FE} {fe : FE} {vs : List Nat} {env : Env} {S : Sto} {i : Nat} {a : Vr} {ds : List Dv} (g : Dv → Dv) (h1 : fa env S = .ok S (.val a)) (h2 : Sq S a ds) (hl : ds.length ≤ 100000)
    (h : ∀ x ∈ ds, Got (fe ((wipeE env vs).set i (.v (.d x))) S) S (.d (g x))) : fLc (iVal fa) (tgN i) kYes fe vs env S = .ok S (.new (.lst (ds.map g))) := by
  obtain ⟨t, h3, rfl, h4⟩ := h2.it
  refine fLc_map (t := t) g ?_ h4 hl h
  unfold iVal
  rw [h1]
  exact h3
theorem cutS_to {s : Str} {k : Nat} (h : k ≤ s.length) : cutS s none (some (k : Int)) = ⟨(s.cps.toList.take k).toArray⟩ := by
  unfold cutS
  rw [HT.sIx_nat, HT.sIx_none, Nat.min_eq_left h]
  simp
theorem cutS_from {s : Str} {k : Nat} (h : k ≤ s.length) : cutS s (some (k : Int)) none = ⟨(s.cps.toList.drop k).toArray⟩ := by
  unfold cutS
  rw [HT.sIx_nat, HT.sIx_none, Nat.min_eq_left h]
  rw [List.take_of_length_le (by simp [Str.length])]
theorem str_ext {a b : Str} (h : a.cps.toList = b.cps.toList) : a = b := by
  cases a; cases b
  congr
  exact Array.toList_inj.mp h
theorem gAdd_str {a b : Str} (h : a.length + b.length ≤ 100000) : gAdd (.str a) (.str b) = vS (a ++ b) := by
  show onlyIf (decide (a.length + b.length ≤ 100000)) _ = _
  rw [decide_eq_true h]; rfl
theorem gAdd_lst {a b : List Dv} (h : a.length + b.length ≤ 100000) : gAdd (.lst a) (.lst b) = nL (a ++ b) := by
  show onlyIf (decide (a.length + b.length ≤ 100000)) _ = _
  rw [decide_eq_true h]; rfl
end DN
namespace DN
open PySem PySem.Spec PyProof.Rows L2 Evl
section
variable {Z : Zx} {X : Cx} {Ew : L2.St → XK} {S : Sto} {G H : Hp} {α : List Addr} {Q : VK} {E : XK}
/-- xs.pop(i) -/
def gPopAt (l ds : List Dv) : Option (List Dv × Dv) := match ds with
  | [.int i] => if 0 ≤ i ∧ i < l.length ∧ l.length ≤ 100000 then (match l[i.toNat]? with | some y => some (l.eraseIdx i.toNat, y) | none => none) else none
  | _ => none
theorem md_popAt : MtR X "list.pop" (rMu Z gPopAt) := by
  intro pins s σ H x xs v us Q I rx rxs h
  obtain ⟨G, α, S, n, a, l0, ds, l1, res, hd, rfl, ha, hs, ol, e, w⟩ := h
  obtain ⟨i, rfl, h0, hl, hl2, y, hy, rfl, rfl⟩ : ∃ i : Int, ds = [.int i] ∧ 0 ≤ i ∧ i < l0.length ∧ l0.length ≤ 100000 ∧ ∃ y, l0[i.toNat]? = some y ∧ l1 = l0.eraseIdx i.toNat ∧ res = y := by
    unfold gPopAt at e
    split at e
    · rename_i i
      split at e
      · rename_i hc
        split at e
        · rename_i y hy
          cases e
          exact ⟨i, rfl, hc.1, hc.2.1, hc.2.2, _, hy, rfl, rfl⟩
        · cases e
      · cases e
    · cases e
  obtain ⟨zs, h1, h2⟩ := (hd.at_ n a _ ha hs).2
  obtain ⟨z, h3, h4⟩ := h2.get hy
  obtain ⟨u, rfl, ou⟩ := ol.one
  unfold On at ou
  subst ou
  have hk : seqIndex? i zs.length = some i.toNat := by
    rw [h2.len]
    have : ixN l0.length i = some i.toNat := by unfold ixN; rw [if_pos h0, if_pos hl]
    exact (ixN_seq this).1
  exact mt_popAt pins s σ H _ _ v us Q I rx rxs ⟨a, zs, i, i.toNat, z, rfl, rfl, h1, by omega, by omega, hk, h3, w.put hd ha hs (fun c => nomatch c) ⟨_, rfl, h2.erase _⟩ h4⟩
/-- sorted(a tuple of ints) -/
theorem sorted_tup {prog : Program} {w : World} {A : Around} {E : Value → Shared → Prop} {s : Shared} {t : Addr} {vs : List Value} {ltv : Value → Value → Bool} {Q : Value → Shared → Prop} (O : SrtO.Swo ltv) (ht : s.heap.IsTuple t vs.toArray) (hz : vs.length ≤ sizeLine)
    (hS : 2 ≤ vs.length → ∀ (A' : Around) (s' : Shared) (a : Addr), SrtO.SortableO prog w A' s' a vs ltv)
    (h : ∀ (out : List Value) (h1 h' : Heap) e, SrtO.Srtd ltv out → SrtO.Stb ltv out vs → (∀ b o, s.heap.get? b = some o → h1.get? b = some o) → (∀ b o, h1.get? b = some o → h'.get? b = some o) → h'.get? h1.objs.size = some (seqObj "list" out.toArray e) → Q (.ref h1.objs.size) { s with heap := h' }) :
    wpAny (model prog w) A (call (.builtin "sorted") [.ref t]) Q E s := by
  obtain ⟨o, ho, hc, n, hd⟩ := ht
  refine Calls.call_function_entry kind_sorted plain_sorted entry_sorted (args_sorted1 _) ?_
  unfold Builtin.«sorted»
  refine wpAny_bind (m := checkCount "sorted" 1 1 _) (wpAny_pure ?_)
  refine wpAny_bind (wpAny_collect_seq t (.inr rfl) ho hc hd (fun h1 k1 => ?_) (by simpa using hz))
  refine wpAny_bind (wpAny_newList ?_ (by simpa using hz))
  have at1 : (h1.push (seqObj "list" vs.toArray 0)).get? h1.objs.size = some (seqObj "list" vs.toArray 0) := Heap.get?_push_size _ rfl
  refine wpAny_bind (wpAny_holding (wpAny_call_entry slot_list_sort ⟨_, at1, rfl⟩ entry_list_sort (SrtO.list_sort_ord O at1 hz (fun h2 => hS h2 _ _ _) fun out hs hb => ⟨_, rfl, ?_⟩) (args_list_sort _)))
  obtain ⟨e, he⟩ := sortedHeap_at (vs := vs) (out := out.toArray) at1
  refine wpAny_pure ⟨_, rfl, h out h1 _ e hs hb k1 (fun b ob q => ?_) he⟩
  have lt := Heap.lt_size q
  show (sortedHeap _ _ _ _).get? b = _
  rw [sortedHeap_old (Nat.ne_of_lt lt) (by rw [Heap.size_push]; exact Nat.lt_succ_of_lt lt)]
  exact Heap.get?_push_of_some _ q
def gSorted2 : Dv → Option Rt
  | .lst l => onI (ints? l) fun ns => nL ((sortI ns).map .int)
  | .tup l => onI (ints? l) fun ns => nL ((sortI ns).map .int)
  | _ => none
def gSortedQ : List Dv → Option Rt := arg1 gSorted2
theorem cd_sortedQ (hK : X.K = Z.K) : CallR X (.builtin "sorted") (rA Z gSortedQ) := by
  intro pins s σ H xs us Q I r h
  obtain ⟨G, α, S, l, hd, hl, w⟩ := h
  obtain ⟨x, y, rfl, hx, w⟩ := arg1_ok hl w
  cases x with
  | lst l =>
    have : rA Z gSorted [y] H Q := ⟨G, α, S, [.lst l], hd, ⟨_, _, rfl, hx, rfl⟩, w⟩
    exact cd_sorted pins s σ H _ us Q I r this
  | tup l =>
    obtain ⟨a, xs, rfl, h1, h2⟩ := hx
    have w' : Wk Z (R.of S (onI (ints? l) fun ns => nL ((sortI ns).map .int))) G α H (pRt Z Q) E0 := w
    cases q : ints? l with
    | none => rw [q] at w'; exact w'.elim
    | some ns =>
      rw [q] at w'
      have ex := ints_on q h2
      subst ex
      obtain ⟨its, rv, p, hz⟩ := I.tuple (SqT.of (hd.ex _ _ h1))
      rw [Vals.ref1 r]
      have hi := rv.ints
      refine sorted_tup SrtO.swo_int p (by rw [← rv.length]; exact hz) (fun h2 A' s' a' => SrtO.ints_sortable hi h2) fun out h1' h' e hs hb k1 k2 he => ?_
      obtain ⟨c1, c2, c3⟩ := SrtO.ints_out hi hs hb
      have hlen : ((out.map SrtO.iv).map V.int).length ≤ sizeLine := by
        rw [List.length_map, c2.length_eq]
        rw [List.length_map] at hz
        exact hz
      have I1 : Inv X pins σ H { s with heap := h1' } := I.kept (t' := s.toks) k1
      have e2 : out.map SrtO.iv = sortI ns := pw_perm_eq (c2.trans (sortI_perm ns).symm) c3 (sortI_pw ns)
      refine ⟨.ref _, upd H h1'.objs.size (.lst ((out.map SrtO.iv).map V.int)), I1.laid (t' := s.toks) k2 (Nat.le_refl _) ⟨hlen, out, e, vals_of_ints c1, he⟩, rfl, ?_⟩
      rw [e2]
      exact wL w' hd (on_ints _) (I1.hok.fresh (Nat.le_refl _))
  | _ => exact w.elim
end
end DN
namespace DN
open PySem PySem.Spec PyProof.Rows L2 Evl
end DN
namespace DN
open PySem PySem.Spec PyProof.Rows L2 Evl
def cd2 (p : Int × Int) : Int := p.1 * 64 + p.2
def pair? : Dv → Option (Int × Int)
  | .tup [.int a, .int b] => if 0 ≤ a ∧ a < 64 ∧ 0 ≤ b ∧ b < 64 then some (a, b) else none
  | _ => none
def pairs? : List Dv → Option (List (Int × Int))
  | [] => some []
  | d :: l => match pair? d, pairs? l with
    | some p, some ps => some (p :: ps)
    | _, _ => none
def pairD (p : Int × Int) : Dv := .tup [.int p.1, .int p.2]
def insP (p : Int × Int) : List (Int × Int) → List (Int × Int)
  | [] => [p]
  | q :: l => if cd2 p < cd2 q then p :: q :: l else if cd2 p = cd2 q then q :: l else q :: insP p l
def sortP : List (Int × Int) → List (Int × Int)
  | [] => []
  | p :: l => insP p (sortP l)
def Small (p : Int × Int) : Prop := 0 ≤ p.1 ∧ p.1 < 64 ∧ 0 ≤ p.2 ∧ p.2 < 64
theorem cd2_inj {p q : Int × Int} (h : Small p) (g : Small q) (e : cd2 p = cd2 q) : p = q := by
  obtain ⟨a, b⟩ := p
  obtain ⟨c, d⟩ := q
  unfold Small at h g
  unfold cd2 at e
  simp only at h g e
  have : a = c := by omega
  have : b = d := by omega
  subst_vars
  rfl
theorem pair_some {d : Dv} {p : Int × Int} (h : pair? d = some p) : d = pairD p ∧ Small p := by
  unfold pair? at h
  split at h
  · split at h
    · rename_i hc
      cases h
      exact ⟨rfl, hc⟩
    · cases h
  · cases h
theorem pairs_small : ∀ {l : List Dv} {ps : List (Int × Int)}, pairs? l = some ps → l = ps.map pairD ∧ ∀ p ∈ ps, Small p
  | [], ps, h => by cases h; exact ⟨rfl, fun _ h => nomatch h⟩
  | d :: l, ps, h => by
    unfold pairs? at h
    cases q1 : pair? d with
    | none => rw [q1] at h; cases h
    | some p =>
      cases q2 : pairs? l with
      | none => rw [q1, q2] at h; cases h
      | some qs =>
        rw [q1, q2] at h
        cases h
        obtain ⟨h1, h2⟩ := pairs_small q2
        obtain ⟨h3, h4⟩ := pair_some q1
        exact ⟨by rw [h3, h1]; rfl, fun p hp => by
          rcases List.mem_cons.mp hp with rfl | hp
          · exact h4
          · exact h2 p hp⟩
theorem mem_insP {p q : Int × Int} (hp : Small p) : ∀ {l : List (Int × Int)}, (∀ x ∈ l, Small x) → (q ∈ insP p l ↔ q = p ∨ q ∈ l)
  | [], _ => by simp [insP]
  | x :: l, h => by
    unfold insP
    split
    · simp
    · split
      · rename_i h1 h2
        have := cd2_inj hp (h x List.mem_cons_self) h2
        subst this
        simp
      · rw [List.mem_cons, mem_insP hp fun y hy => h y (List.mem_cons_of_mem _ hy), List.mem_cons]
        constructor
        · rintro (h | h | h)
          · exact .inr (.inl h)
          · exact .inl h
          · exact .inr (.inr h)
        · rintro (h | h | h)
          · exact .inr (.inl h)
          · exact .inl h
          · exact .inr (.inr h)
theorem mem_sortP {q : Int × Int} : ∀ {l : List (Int × Int)}, (∀ x ∈ l, Small x) → (q ∈ sortP l ↔ q ∈ l)
  | [], _ => by simp [sortP]
  | x :: l, h => by
    have ih : ∀ q, q ∈ sortP l ↔ q ∈ l := fun q => mem_sortP fun y hy => h y (List.mem_cons_of_mem _ hy)
    show q ∈ insP x (sortP l) ↔ _
    rw [mem_insP (h x List.mem_cons_self) (fun y hy => h y (List.mem_cons_of_mem _ ((ih y).mp hy))), ih, List.mem_cons]
theorem insP_pw {p : Int × Int} : ∀ {l : List (Int × Int)}, l.Pairwise (fun x y => cd2 x < cd2 y) → (insP p l).Pairwise (fun x y => cd2 x < cd2 y) ∧ ∀ y ∈ insP p l, y = p ∨ y ∈ l
  | [], _ => by simp [insP]
  | x :: l, h => by
    have h1 := List.pairwise_cons.mp h
    unfold insP
    split
    · rename_i hlt
      refine ⟨List.pairwise_cons.mpr ⟨fun y hy => ?_, h⟩, fun y hy => by simpa using hy⟩
      rcases List.mem_cons.mp hy with rfl | hy
      · exact hlt
      · exact Int.lt_trans hlt (h1.1 y hy)
    · split
      · exact ⟨h, fun y hy => .inr hy⟩
      · rename_i h2 h3
        obtain ⟨ih1, ih2⟩ := insP_pw (p := p) h1.2
        refine ⟨List.pairwise_cons.mpr ⟨fun y hy => ?_, ih1⟩, fun y hy => ?_⟩
        · rcases ih2 y hy with rfl | hy
          · omega
          · exact h1.1 y hy
        · rcases List.mem_cons.mp hy with rfl | hy
          · exact .inr List.mem_cons_self
          · rcases ih2 y hy with rfl | hy
            · exact .inl rfl
            · exact .inr (List.mem_cons_of_mem _ hy)
theorem sortP_pw : ∀ (l : List (Int × Int)), (sortP l).Pairwise (fun x y => cd2 x < cd2 y)
  | [] => List.Pairwise.nil
  | p :: l => (insP_pw (sortP_pw l)).1
/-- two lists that ascend by a key and have the same members are one -/
theorem ascend_unique {β : Type} (f : β → Int) : ∀ {l m : List β}, l.Pairwise (fun x y => f x < f y) → m.Pairwise (fun x y => f x < f y) → (∀ x, x ∈ l ↔ x ∈ m) → l = m
  | [], [], _, _, _ => rfl
  | [], y :: m, _, _, h => absurd ((h y).mpr List.mem_cons_self) (by simp)
  | x :: l, [], _, _, h => absurd ((h x).mp List.mem_cons_self) (by simp)
  | x :: l, y :: m, hl, hm, h => by
    have h1 := List.pairwise_cons.mp hl
    have h2 := List.pairwise_cons.mp hm
    have e : x = y := by
      rcases List.mem_cons.mp ((h x).mp List.mem_cons_self) with e | e
      · exact e
      · rcases List.mem_cons.mp ((h y).mpr List.mem_cons_self) with e2 | e2
        · exact e2.symm
        · have := h2.1 x e
          have := h1.1 y e2
          omega
    subst e
    rw [ascend_unique f h1.2 h2.2 fun z => ?_]
    constructor
    · intro hz
      rcases List.mem_cons.mp ((h z).mp (List.mem_cons_of_mem _ hz)) with e | e
      · subst e; have := h1.1 z hz; omega
      · exact e
    · intro hz
      rcases List.mem_cons.mp ((h z).mpr (List.mem_cons_of_mem _ hz)) with e | e
      · subst e; have := h2.1 z hz; omega
      · exact e
section
variable {Z : Zx} {X : Cx} {Ew : L2.St → XK} {S : Sto} {G H : Hp} {α : List Addr} {Q : VK} {E : XK}
def rSetQ (K : PySem.W.Frag) (P : Program) (w : World) : List V → Hp → VK → Prop := fun xs H Q => ∃ (l : Addr) (ks : List (Addr × List Int)), xs = [V.ref l] ∧ (SqL K H l (ks.map fun p => V.ref p.1) ∨ SqT K H l (ks.map fun p => V.ref p.1)) ∧ (∀ p ∈ ks, SqT K H p.1 (p.2.map V.int)) ∧ ks.length < 64 ∧
  ∀ a L, H a = none → (∀ p ∈ L, p ∈ ks) → (∀ p ∈ ks, p.2 ∈ L.map (·.2)) → Q (.ref a) (upd H a (SetTO P w a L))
theorem rSetQ.imp {xs : List V} {Q Q' : VK} {K : PySem.W.Frag} {P : Program} {w : World} (h : rSetQ K P w xs H Q) (k : ∀ v H, Q v H → Q' v H) : rSetQ K P w xs H Q' := by
  obtain ⟨l, ks, h1, h2, h3, h4, h5⟩ := h
  exact ⟨l, ks, h1, h2, h3, h4, fun a L x y z => k _ _ (h5 a L x y z)⟩
end
end DN
namespace DN
open PySem PySem.Spec PyProof.Rows L2 Evl
end DN
namespace DN
open PySem PySem.Spec PyProof.Rows L2 Evl
end DN
namespace DN
open PySem PySem.Spec PyProof.Rows L2 Evl
end DN
namespace DN
open PySem PySem.Spec PyProof.Rows L2 Evl
end DN
namespace DN
open PySem PySem.Spec PyProof.Rows L2 Evl
section
variable {Z : Zx} {W : WX} {X : Cx} {Ew : L2.St → XK} {G H G2 H2 : Hp} {α α2 : List Addr} {S : Sto}
/-- rows of ours -/
structure Rws (Z : Zx) (G : Hp) (α : List Addr) (H0 H : Hp) (bs : List Addr) (rows : List (List Dv)) : Prop where
  len : bs.length = rows.length
  nd : bs.Nodup
  at_ : ∀ (k : Nat) row, rows[k]? = some row → ∃ b ys, bs[k]? = some b ∧ G b = none ∧ b ∉ α ∧ H0 b = none ∧ H b = some (.lst ys) ∧ OnL Z G row ys
theorem Rws.step {H0 : Hp} {bs : List Addr} {rows : List (List Dv)} (h : Rws Z G α H0 H bs rows) (f : Fr G α H G2 α2 H2) : Rws Z G2 α2 H0 H2 bs rows := ⟨h.len, h.nd, fun k row hk => by
  obtain ⟨b, ys, h1, h2, h3, h4, h5, h6⟩ := h.at_ k row hk
  obtain ⟨q1, q2, q3⟩ := f.ours h2 h3 h5
  exact ⟨b, ys, h1, q1, q2, h4, q3, h6.up f.g⟩⟩
theorem Rws.mem {H0 : Hp} {bs : List Addr} {rows : List (List Dv)} (h : Rws Z G α H0 H bs rows) {b : Addr} (hb : b ∈ bs) : G b = none ∧ b ∉ α ∧ H0 b = none ∧ H b ≠ none := by
  obtain ⟨k, hk, rfl⟩ := List.mem_iff_getElem.mp hb
  have hk' : k < rows.length := by rw [← h.len]; exact hk
  obtain ⟨c, ys, h1, h2, h3, h4, h5, _⟩ := h.at_ k rows[k] (List.getElem?_eq_getElem hk')
  rw [List.getElem?_eq_getElem hk] at h1
  cases h1
  exact ⟨h2, h3, h4, by rw [h5]; exact fun e => nomatch e⟩
end
end DN
namespace DN
open PySem PySem.Spec PyProof.Rows L2 Evl
end DN
namespace DN
open PySem PySem.Spec PyProof.Rows L2 Evl
section
variable {Z : Zx} {X : Cx} {Ew : L2.St → XK} {S : Sto} {G H : Hp} {α : List Addr} {Q : VK} {E : XK}
theorem ex_learn {b : Addr} {xs : List V} (e : Ex G H) (hb : H b = some (.tup xs)) : Ex G (upd G b (.tup xs)) := fun a o h => by
  by_cases c : a = b
  · subst c
    rw [upd_same]
    have := e a o h
    rw [hb] at this
    exact this
  · rw [upd_ne c]; exact h
theorem DicAt.notTup {t : Bool} {ks : List Dv} {ws : List V} {xs : List V} (h : DicAt t (some (.tup xs)) ks ws) : False := by
  cases t with
  | false => obtain ⟨kk, _, h2⟩ := h; cases h2
  | true => obtain ⟨kk, _, h2⟩ := h; cases h2
theorem Hd.learn {b : Addr} {xs : List V} (h : Hd Z G α S H) (hb : H b = some (.tup xs)) : Hd Z (upd G b (.tup xs)) α S H := by
  have eG := ex_learn h.ex hb
  refine ⟨fun a o ha => ?_, h.len, h.nd, fun n a c h1 h2 => ?_⟩
  · by_cases q : a = b
    · subst q; rw [upd_same] at ha; cases ha; exact hb
    · rw [upd_ne q] at ha; exact h.ex a o ha
  · obtain ⟨h3, h4⟩ := h.at_ n a c h1 h2
    have key : stf c ≠ .dead → a ≠ b := fun hc e => by
      subst e
      cases c with
      | lst l => obtain ⟨_, q, _⟩ := (show CellAt Z G (.lst l) (H a) from h4); rw [hb] at q; cases q
      | ob c l => obtain ⟨_, _, q, _⟩ := (show CellAt Z G (.ob c l) (H a) from h4); rw [hb] at q; cases q
      | dc t k l => obtain ⟨_, q, _⟩ := (show CellAt Z G (.dc t k l) (H a) from h4); rw [hb] at q; exact q.notTup
      | dead => exact hc rfl
      | tab t =>
        cases t with
        | rows rows => obtain ⟨_, _, q, _⟩ := h4; rw [hb] at q; cases q
        | vl l => obtain ⟨_, _, q, _⟩ := h4; rw [hb] at q; cases q
        | vt l => exact hc rfl
        | xv c v => obtain ⟨_, _, _, q, _⟩ := h4; rw [hb] at q; exact exo_tup (Option.some.inj q).symm
        | ctb => obtain ⟨_, _, q, _⟩ := h4; rw [hb] at q; cases q
        | ow c v => obtain ⟨_, _, _, q, _⟩ := h4; rw [hb] at q; cases q
    refine ⟨fun hc => by rw [upd_ne (key hc)]; exact h3 hc, ?_⟩
    cases c with
    | lst l => exact CellAt.up eG (show CellAt Z G (.lst l) (H a) from h4)
    | ob c l => exact CellAt.up eG (show CellAt Z G (.ob c l) (H a) from h4)
    | dc t k l => exact CellAt.up eG (show CellAt Z G (.dc t k l) (H a) from h4)
    | dead => exact CellAt.up eG (show CellAt Z G .dead (H a) from h4)
    | tab t =>
      cases t with
      | vl l => obtain ⟨g1, ys, g2, g3⟩ := h4; exact ⟨g1, ys, g2, g3.mv eG fun _ _ _ q => q⟩
      | vt l => obtain ⟨g1, ys, g2, g3⟩ := h4; exact ⟨g1, ys, g2, g3.mv eG fun _ _ _ q => q⟩
      | xv c v => obtain ⟨g1, d, w, g2, g3, g4⟩ := h4; exact ⟨g1, d, w, g2, eG _ _ g3, g4.mv eG fun _ _ _ q => q⟩
      | ctb => exact ctIn_up h4 eG rfl
      | ow c v => obtain ⟨g1, dx, w, g2, g4⟩ := h4; exact ⟨g1, dx, w, g2, g4.mv eG fun _ _ _ q => q⟩
      | rows rows =>
      obtain ⟨g1, ys, g2, g3, g4⟩ := h4
      refine ⟨g1, ys, g2, g3, fun i row hi => ?_⟩
      obtain ⟨d, zs, q1, q2, q3, q4, q5, q6⟩ := g4 i row hi
      have nd : d ≠ b := fun e => by subst e; rw [hb] at q5; cases q5
      exact ⟨d, zs, q1, q2, q3, by rw [upd_ne nd]; exact q4, q5, q6.up eG⟩
theorem Fr.learn {b : Addr} {xs : List V} (h : Hd Z G α S H) (hb : H b = some (.tup xs)) : Fr G α H (upd G b (.tup xs)) α H :=
  ⟨ex_learn h.ex hb, Px.refl α, fun _ _ h _ => h, fun a o h1 h2 h3 _ => by
    have ne : a ≠ b := fun e => by subst e; rw [hb] at h2; cases h2; exact h3 _ rfl
    rw [upd_ne ne]; exact h1, fun _ h => .inl h, fun _ h => h⟩
theorem learns {f : Addr → List V} : ∀ {bs : List Addr} {G : Hp}, Hd Z G α S H → (∀ b ∈ bs, H b = some (.tup (f b))) → ∃ G2, Hd Z G2 α S H ∧ Fr G α H G2 α H ∧ ∀ b ∈ bs, G2 b = some (.tup (f b))
  | [], G, h, _ => ⟨G, h, Fr.refl _ _ _, fun _ hb => nomatch hb⟩
  | b :: bs, G, h, hb => by
    have h1 := h.learn (hb b (by simp))
    obtain ⟨G2, h2, f2, k2⟩ := learns h1 fun c hc => hb c (List.mem_cons_of_mem _ hc)
    refine ⟨G2, h2, (Fr.learn h (hb b (by simp))).trans f2, fun c hc => ?_⟩
    rcases List.mem_cons.mp hc with rfl | hc
    · exact f2.g _ _ upd_same
    · exact k2 c hc
end
def kPar3 (i j m : Nat) (fa : FA) : FS := fun env S => sB env (fa env S) fun S1 l => match l with
  | [u, v, w] => .nx (((env.set i (.v u)).set j (.v v)).set m (.v w)) S1
  | _ => .no
section
variable {Z : Zx} {W : WX} {X : Cx} {pos : Pos}
theorem psf_par3 (i j m : Nat) {x y z : Str} {a b c : Expr} {fa : FA} {px py pz pt : Pos} {kt k2 pt2} (hc : X.calm = true) (hN : X.N.Nodup) (hi : X.N[i]? = some x) (hj : X.N[j]? = some y) (hm : X.N[m]? = some z) (hij : i ≠ j) (him : i ≠ m) (hjm : j ≠ m)
    (hx : X.env.scope.names.lookup x = some .local) (hy : X.env.scope.names.lookup y = some .local) (hz : X.env.scope.names.lookup z = some .local) (ha : PAF Z (WE W) X [a, b, c] fa)
    (hw : swappedStores [.Tuple [.Name x px, .Name y py, .Name z pz] kt pt] (.Tuple [a, b, c] k2 pt2) X.env = pure (some [x, y, z]))
    (hs : swapsWithSole [.Tuple [.Name x px, .Name y py, .Name z pz] kt pt] (.Tuple [a, b, c] k2 pt2) pos.line X.env = pure false := by rfl) :
    PSF Z W X (.Assign [.Tuple [.Name x px, .Name y py, .Name z pz] kt pt] (.Tuple [a, b, c] k2 pt2) pos) (kPar3 i j m fa) := by
  obtain ⟨ta, h1, h2⟩ := ha.ex
  refine .of (ps_par3 hc hN hi hj hm hij him hjm hx hy hz h1 hw hs) fun env σ G α S H D hd oe w => h2.bindS hd oe w fun S2 l vs H2 G2 α2 f2 hd2 oe2 ol w2 => ?_
  cases l with
  | nil => exact w2.elim
  | cons u r =>
    cases r with
    | nil => exact w2.elim
    | cons v r =>
      cases r with
      | nil => exact w2.elim
      | cons w r =>
        cases r with
        | cons _ _ => exact w2.elim
        | nil =>
          obtain ⟨y1, ys, rfl, o1, y2, zs, rfl, o2, y3, z3, rfl, o3, o4⟩ := ol
          cases (show z3 = [] from o4)
          exact ⟨y1, y2, y3, rfl, w2.here hd2 (((oe2.set i o1).set j o2).set m o3)⟩
end
end DN
namespace DN
open PySem PySem.Spec PyProof.Rows L2 Evl
end DN
namespace DN
open PySem PySem.Spec PyProof.Rows L2 Evl
section
variable {Z : Zx} {X : Cx} {Ew : L2.St → XK} {S : Sto} {G H : Hp} {α : List Addr} {Q : VK} {E : XK}
def srt2 (a b : Str) : Option Rt := if sortedS [a, b] = true ∧ sortedS [b, a] = false then nL [.str a, .str b] else if sortedS [b, a] = true ∧ sortedS [a, b] = false then nL [.str b, .str a] else if a = b then nL [.str a, .str b] else none
def strs2? : List Dv → Option (Str × Str)
  | [.str a, .str b] => some (a, b)
  | _ => none
theorem strs2_eq {l : List Dv} {p : Str × Str} (h : strs2? l = some p) : l = [.str p.1, .str p.2] := by
  unfold strs2? at h
  split at h
  · cases h; rfl
  · cases h
def srtP (ps : List (Int × Int)) : Option Rt := if ps.Nodup then nL ((sortP ps).map pairD) else none
def gSortedL (l : List Dv) : Option Rt := match ints? l with
  | some ns => nL ((sortI ns).map .int)
  | none => match strs2? l with
    | some p => srt2 p.1 p.2
    | none => match pairs? l with
      | some ps => srtP ps
      | none => none
def gSortedX1 : Dv → Option Rt
  | .lst l => gSortedL l
  | _ => none
def gSortedX : List Dv → Option Rt := arg1 gSortedX1
theorem perm2 {β : Type} {a b : β} {ys : List β} (h : ys.Perm [a, b]) : ys = [a, b] ∨ ys = [b, a] := by
  have hl := h.length_eq
  match ys, hl with
  | [x, y], _ =>
    have hx : x ∈ [a, b] := h.mem_iff.mp (by simp)
    simp only [List.mem_cons, List.not_mem_nil, or_false] at hx
    rcases hx with rfl | rfl
    · have := (List.perm_cons x).mp h
      have := List.perm_singleton.mp this
      left; rw [this]
    · have h2 : [x, y].Perm [x, a] := h.trans (List.Perm.swap _ _ _)
      have := (List.perm_cons x).mp h2
      have := List.perm_singleton.mp this
      right; rw [this]
def kOf (G : Hp) (v : V) : Int × Int := match v with
  | .ref t => match G t with
    | some (.tup [.int a, .int b]) => (a, b)
    | _ => (0, 0)
  | _ => (0, 0)
theorem pair_at : ∀ {ps : List (Int × Int)} {xs : List V}, OnL Z G (ps.map pairD) xs → xs.map (kOf G) = ps ∧ ∀ x ∈ xs, ∃ t, x = V.ref t ∧ G t = some (.tup [.int (kOf G x).1, .int (kOf G x).2])
  | [], xs, h => by
    have := OnL.nil.mp h
    subst this
    exact ⟨rfl, fun _ h => nomatch h⟩
  | p :: ps, xs, h => by
    obtain ⟨y, ys, rfl, h1, h2⟩ := OnL.cons.mp h
    obtain ⟨i1, i2⟩ := pair_at h2
    have h1 : On Z G (.tup [.int p.1, .int p.2]) y := h1
    unfold On at h1
    obtain ⟨a, zs, rfl, g1, g2⟩ := h1
    obtain ⟨z1, zs', rfl, o1, o2⟩ := OnL.cons.mp g2
    obtain ⟨z2, zs'', rfl, o3, o4⟩ := OnL.cons.mp o2
    have := OnL.nil.mp o4
    subst this
    unfold On at o1 o3
    subst o1 o3
    have ek : kOf G (.ref a) = p := by simp only [kOf, g1]
    refine ⟨by rw [List.map_cons, ek, i1], fun x hx => ?_⟩
    rcases List.mem_cons.mp hx with rfl | hx
    · exact ⟨a, rfl, by rw [ek]; exact g1⟩
    · exact i2 x hx
theorem on_pairsK : ∀ {ys : List V}, (∀ x ∈ ys, ∃ t, x = V.ref t ∧ G t = some (.tup [.int (kOf G x).1, .int (kOf G x).2])) → OnL Z G ((ys.map (kOf G)).map pairD) ys
  | [], _ => OnL.nil'
  | y :: ys, h => OnL.cons' (by
      obtain ⟨t, e, g⟩ := h y (by simp)
      show On Z G (pairD (kOf G y)) y
      unfold pairD On
      exact ⟨t, _, e, g, OnL.cons' (by unfold On; rfl) (OnL.cons' (by unfold On; rfl) OnL.nil')⟩) (on_pairsK fun x hx => h x (List.mem_cons_of_mem _ hx))
theorem lex_cd {p q : Int × Int} (hp : Small p) (hq : Small q) (h : SrtO.lexB q p = false) : cd2 p ≤ cd2 q := by
  rw [SrtO.lexB_no] at h
  unfold Small at hp hq
  unfold cd2
  omega
theorem cd_sortedX (hK : X.K = Z.K) : CallR X (.builtin "sorted") (rA Z gSortedX) := by
  intro pins s σ H xs us Q I r h
  obtain ⟨G, α, S, l, hd, hl, w⟩ := h
  obtain ⟨x, y, rfl, hx, w⟩ := arg1_ok hl w
  cases x with
  | lst l =>
    have w' : Wk Z (R.of S (gSortedL l)) G α H (pRt Z Q) E0 := w
    unfold gSortedL at w'
    cases q : ints? l with
    | some ns =>
      rw [q] at w'
      have : rA Z gSorted [y] H Q := ⟨G, α, S, [.lst l], hd, ⟨_, _, rfl, hx, rfl⟩, by
        show Wk Z (R.of S (onI (ints? l) fun ns => nL ((sortI ns).map .int))) G α H (pRt Z Q) E0
        rw [q]; exact w'⟩
      exact cd_sorted pins s σ H _ us Q I r this
    | none =>
      rw [q] at w'
      obtain ⟨a, xs, rfl, h1, h2⟩ := hx
      cases q2 : strs2? l with
      | some p =>
        rw [q2] at w'
        have w2 : Wk Z (R.of S (srt2 p.1 p.2)) G α H (pRt Z Q) E0 := w'
        have el := strs2_eq q2
        rw [el] at h2
        obtain ⟨z1, zs', rfl, o1, o2⟩ := OnL.cons.mp h2
        obtain ⟨z2, zs'', rfl, o3, o4⟩ := OnL.cons.mp o2
        have := OnL.nil.mp o4
        subst this
        unfold On at o1 o3
        subst o1 o3
        refine cr_sortedS pins s σ H _ us Q I r ⟨a, [p.1, p.2], rfl, SqL.of h1, by simp, fun ys p' hp hs hn => ?_⟩
        have os : ∀ u v : Str, OnL Z G [.str u, .str v] ([u, v].map V.str) := fun u v => OnL.cons' (by unfold On; rfl) (OnL.cons' (by unfold On; rfl) OnL.nil')
        unfold srt2 at w2
        by_cases c1 : sortedS [p.1, p.2] = true ∧ sortedS [p.2, p.1] = false
        · rw [if_pos c1] at w2
          rcases perm2 hp with rfl | rfl
          · exact wL w2 hd (os _ _) hn
          · rw [c1.2] at hs; cases hs
        · rw [if_neg c1] at w2
          by_cases c2 : sortedS [p.2, p.1] = true ∧ sortedS [p.1, p.2] = false
          · rw [if_pos c2] at w2
            rcases perm2 hp with rfl | rfl
            · rw [c2.2] at hs; cases hs
            · exact wL w2 hd (os _ _) hn
          · rw [if_neg c2] at w2
            by_cases c3 : p.1 = p.2
            · rw [if_pos c3] at w2
              have : ys = [p.1, p.2] := by
                rcases perm2 hp with rfl | rfl
                · rfl
                · rw [c3]
              subst this
              exact wL w2 hd (os _ _) hn
            · rw [if_neg c3] at w2; exact w2.elim
      | none =>
        rw [q2] at w'
        cases q3 : pairs? l with
        | none => rw [q3] at w'; exact w'.elim
        | some ps =>
          rw [q3] at w'
          have w2 : Wk Z (R.of S (srtP ps)) G α H (pRt Z Q) E0 := w'
          unfold srtP at w2
          by_cases c : ps.Nodup
          · rw [if_pos c] at w2
            obtain ⟨el, hsm⟩ := pairs_small q3
            rw [el] at h2
            obtain ⟨k1, k2⟩ := pair_at h2
            refine cr_sortedPO pins s σ H _ us Q I r ⟨a, xs, kOf G, rfl, SqL.of h1, fun x hx => ?_, fun ys p hs hb hn => ?_⟩
            · obtain ⟨t, e, g⟩ := k2 x hx
              exact ⟨t, e, hd.ex _ _ g⟩
            · have pm : (ys.map (kOf G)).Perm ps := by
                have := hb.perm.map (kOf G)
                rwa [k1] at this
              have sm : ∀ x ∈ ys.map (kOf G), Small x := fun x hx => hsm x (pm.mem_iff.mp hx)
              have eL : ys.map (kOf G) = sortP ps := by
                have nd : (ys.map (kOf G)).Nodup := pm.nodup_iff.mpr c
                refine ascend_unique cd2 ?_ (sortP_pw ps) fun x => by rw [pm.mem_iff, mem_sortP hsm]
                have h1 : (ys.map (kOf G)).Pairwise (fun x y => cd2 x ≤ cd2 y) := by
                  rw [List.pairwise_map]
                  refine List.Pairwise.imp_of_mem (fun {x y} hx hy hxy => ?_) hs
                  exact lex_cd (sm _ (List.mem_map.mpr ⟨x, hx, rfl⟩)) (sm _ (List.mem_map.mpr ⟨y, hy, rfl⟩)) hxy
                have h2 := List.nodup_iff_pairwise_ne.mp nd
                refine List.Pairwise.imp_of_mem (fun {x y} hx hy hxy => ?_) (h1.and h2)
                have : cd2 x ≠ cd2 y := fun e => hxy.2 (cd2_inj (sm x hx) (sm y hy) e)
                have := hxy.1
                omega
              rw [← eL] at w2
              exact wL w2 hd (on_pairsK fun x hx => k2 x (hb.perm.mem_iff.mp hx)) hn
          · rw [if_neg c] at w2; exact w2.elim
  | _ => exact w.elim
end
end DN
namespace DN
open PySem PySem.Spec PyProof.Rows L2 Evl
open Sem (wp)
abbrev EnX (h : Heap) (e it : Addr) (i : Int) (old : Value) (a : Addr) (f : Bool) : Prop :=
  h.get? e = some { cls := .type "enumerate", dict := none, data := .fields #[rawInt a, .bool f, .ref it, rawInt i, .none, old], slots := #[] }
section
variable {prog : Program} {w : World} {A : Around} {E : Value → Shared → Prop} {s : Shared}
theorem enx_next {e it l a : Addr} {f : Bool} {oa : Obj} {i : Nat} {items : Array Value} {x old : Value} {Q : Option Value → Shared → Prop}
    (he : EnX s.heap e it i old a f) (ha : s.heap.get? a = some oa) (hae : a ≠ e) (hai : a ≠ it) (hit : s.heap.IsListIter it l i) (hl : s.heap.IsList l items) (hx : items[i]? = some x) (hne : e ≠ it)
    (hQ : ∀ h', EnX h' e it ((i : Int) + 1) old a true → h'.IsListIter it l (i + 1) →
      h'.get? s.heap.objs.size = some { cls := .type "tuple", data := .seq #[.int i s.toks, x] } → h'.objs.size = s.heap.objs.size + 1 →
      (∀ b o, b ≠ e → b ≠ it → s.heap.get? b = some o → h'.get? b = some o) → Q (some (.ref s.heap.objs.size)) { s with heap := h', toks := s.toks + 1 }) :
    wpAny (model prog w) A (pyNext (.ref e)) Q E s := by
  have hT : s.TypeIs (.ref e) "enumerate" := ⟨_, he, rfl⟩
  obtain ⟨hp, g, d, tk, os⟩ := s
  unfold pyNext
  refine wpAny_bind (wpAny_attempt (wpAny_callSpecial?_slot (name := Str.ofString "__next__") hT PySem.F.slot_enumerate_next
    (wpAny_call_entry PySem.F.slot_enumerate_next hT PySem.F.entry_enumerate_next ?_ (PySem.F.args_enumerate_next_1 _))))
  show wpAny _ _ (field (.ref e) 2 >>= _) _ _ _
  refine wpAny_bind (wpAny_field he rfl (x := .ref it) rfl ?_)
  refine wpAny_bind (wpAny_nextOf_list_item hit hl hx fun h₁ hit₁ hs₁ => ?_)
  replace hs₁ : Heap.SameBut it hp h₁ := hs₁
  have he₁ : EnX h₁ e it i old a f := (hs₁.2 e hne).trans he
  show wpAny _ _ (field (.ref e) 3 >>= _) _ _ ⟨h₁, g, d, tk, os⟩
  refine wpAny_bind (wpAny_field he₁ rfl (x := rawInt i) rfl ?_)
  show wpAny _ _ (field (.ref e) 4 >>= _) _ _ ⟨h₁, g, d, tk, os⟩
  refine wpAny_bind (wpAny_field he₁ rfl (x := .none) rfl ?_)
  show wpAny _ _ (mkInt i >>= _) _ _ ⟨h₁, g, d, tk, os⟩
  refine wpAny_bind (wpAny_mkInt ?_)
  show wpAny _ _ (setField (.ref e) 3 (rawInt ((i : Int) + 1)) >>= _) _ _ ⟨h₁, g, d, tk + 1, os⟩
  refine wpAny_bind (wpAny_setField_rec he₁ (by simp) fun h₂ he₂ hs₂ => ?_)
  replace hs₂ : Heap.SameBut e h₁ h₂ := hs₂
  replace he₂ : EnX h₂ e it ((i : Int) + 1) old a f := he₂
  show wpAny _ _ (setField (.ref e) 4 .none >>= _) _ _ ⟨h₂, g, d, tk + 1, os⟩
  refine wpAny_bind (wpAny_setField_rec he₂ (by simp) fun h₃ he₃ hs₃ => ?_)
  replace hs₃ : Heap.SameBut e h₂ h₃ := hs₃
  replace he₃ : EnX h₃ e it ((i : Int) + 1) old a f := he₃
  show wpAny _ _ (newTuple [.int i tk, x] >>= _) _ _ ⟨h₃, g, d, tk + 1, os⟩
  refine wpAny_bind (wpAny_newTuple ?_)
  have he₄ : EnX (h₃.push { cls := .type "tuple", data := .seq #[.int i tk, x] }) e it ((i : Int) + 1) old a f := Heap.get?_push_of_some _ he₃
  generalize hh₄ : h₃.push { cls := .type "tuple", data := .seq #[.int i tk, x] } = h₄ at he₄
  have hsz : h₃.objs.size = hp.objs.size := by rw [hs₃.1, hs₂.1, hs₁.1]
  have hel : e < hp.objs.size := Heap.lt_size he
  have ht₄ : h₄.get? hp.objs.size = some { cls := .type "tuple", data := .seq #[.int i tk, x] } := by rw [← hh₄, ← hsz]; exact Heap.get?_push_size _ rfl
  have hz₄ : h₄.objs.size = hp.objs.size + 1 := by rw [← hh₄, Heap.size_push, hsz]
  have hk₄ : ∀ b o, b ≠ e → b ≠ it → hp.get? b = some o → h₄.get? b = some o := fun b o hbe hbi hb => by
    rw [← hh₄]; exact Heap.get?_push_of_some _ (hs₃.extBut b o hbe (hs₂.extBut b o hbe (hs₁.extBut b o hbi hb)))
  have hit₄ : h₄.IsListIter it l (i + 1) := by
    rw [← hh₄]; obtain ⟨o, ho, r⟩ := (hit₁.extBut hs₂.extBut (Ne.symm hne)).extBut hs₃.extBut (Ne.symm hne); exact ⟨o, Heap.get?_push_of_some _ ho, r⟩
  have ha₄ : h₄.get? a = some oa := hk₄ a oa hae hai ha
  show wpAny _ _ (Builtin.SmallTypes.ownedTupleIsFree (.ref e) >>= _) _ _ ⟨h₄, g, d, tk + 1, os⟩
  rw [hsz]
  clear hh₄ he₃ hs₃ he₂ hs₂ he₁ hs₁ hit₁ hsz h₃ h₂ h₁
  refine wpAny_bind ?_
  unfold Builtin.SmallTypes.ownedTupleIsFree
  refine wpAny_bind (wpAny_field he₄ rfl (x := rawInt a) rfl ?_)
  show wpAny _ _ (loadIfAlive ((a : Int).toNat) >>= _) _ _ _
  rw [Int.toNat_natCast]
  refine wpAny_bind (PySem.W.kdx_alive ha₄ ?_)
  simp only [Option.isNone_some, Bool.false_eq_true, if_false]
  refine wpAny_bind (wpAny_field he₄ rfl (x := .bool f) rfl ?_)
  have fin : ∀ h₅ : Heap, EnX h₅ e it ((i : Int) + 1) old a true → Heap.SameBut e h₄ h₅ → Q (some (.ref hp.objs.size)) ⟨h₅, g, d, tk + 1, os⟩ := fun h₅ he₅ hs₅ =>
    hQ h₅ he₅ (hit₄.extBut hs₅.extBut (Ne.symm hne)) (hs₅.extBut _ _ (Nat.ne_of_gt hel) ht₄) (by show h₅.objs.size = hp.objs.size + 1; rw [hs₅.1, hz₄]) fun b o hb hbi e => hs₅.extBut b o hb (hk₄ b o hb hbi e)
  cases f with
  | true =>
    rw [if_neg (show ¬ ((Value.bool true != Value.bool true) = true) from Bool.false_ne_true)]
    refine wpAny_pure ?_
    simp only [Bool.false_eq_true, if_false]
    exact wpAny_pure ⟨_, rfl, wpAny_pure (fin h₄ he₄ (Heap.SameBut.refl _ _))⟩
  | false =>
    rw [if_pos (show (Value.bool false != Value.bool true) = true from rfl)]
    refine wpAny_bind (wpAny_setField_rec he₄ (by simp) fun h₅ he₅ hs₅ => ?_)
    replace hs₅ : Heap.SameBut e h₄ h₅ := hs₅
    replace he₅ : EnX h₅ e it ((i : Int) + 1) old a true := he₅
    refine wpAny_pure ?_
    simp only [Bool.false_eq_true, if_false]
    exact wpAny_pure ⟨_, rfl, wpAny_pure (fin h₅ he₅ hs₅)⟩
theorem enx_end {e it l a : Addr} {f : Bool} {i : Nat} {items : Array Value} {old : Value} {Q : Option Value → Shared → Prop} (hh : A.handled = none)
    (he : EnX s.heap e it i old a f) (hit : s.heap.IsListIter it l i) (hl : s.heap.IsList l items) (hx : items[i]? = none)
    (hQ : ∀ h', Heap.ExtBut it s.heap h' → Q none { s with heap := h' }) : wpAny (model prog w) A (pyNext (.ref e)) Q E s := by
  have hT : s.TypeIs (.ref e) "enumerate" := ⟨_, he, rfl⟩
  unfold pyNext
  refine wpAny_bind (wpAny_attempt (wpAny_callSpecial?_slot (name := Str.ofString "__next__") hT PySem.F.slot_enumerate_next
    (wpAny_call_entry PySem.F.slot_enumerate_next hT PySem.F.entry_enumerate_next ?_ (PySem.F.args_enumerate_next_1 _))))
  show wpAny _ _ (field (.ref e) 2 >>= _) _ _ _
  refine wpAny_bind (wpAny_field he rfl (x := .ref it) rfl ?_)
  refine wpAny_bind (wpAny_nextOf_list_end hh hit hl hx fun h' x he' hx' => ?_)
  obtain ⟨o, ho, hc⟩ := hx'
  refine wpAny_bind (wpAny_isInstance (T := "StopIteration") (b := true) ⟨o, ho, hc⟩ isSubtype_stop ?_)
  exact wpAny_pure (hQ _ he')
/-- where the walk stands -/
def EnSt (h : Heap) (e it S : Addr) (i : Nat) : Prop := (i = 0 ∧ ∃ old, IsEnum h e it 0 old) ∨ ∃ old a f oa, EnX h e it i old a f ∧ h.get? a = some oa ∧ a ≠ e ∧ a ≠ it ∧ a ≠ S
theorem EnSt.keep {h h' : Heap} {e it S : Addr} {i : Nat} (x : EnSt h e it S i) (hk : ∀ b o, b ≠ S → h.get? b = some o → h'.get? b = some o) (he : e ≠ S) : EnSt h' e it S i := by
  rcases x with ⟨e1, old, hit⟩ | ⟨old, a, f, oa, hit, ha, h1, h2, h3⟩
  · exact .inl ⟨e1, old, hk _ _ he hit⟩
  · exact .inr ⟨old, a, f, oa, hk _ _ he hit, hk _ _ h3 ha, h1, h2, h3⟩
theorem en_item {e it l S : Addr} {i : Nat} {items : Array Value} {x : Value} {Q : Option Value → Shared → Prop} (hst : EnSt s.heap e it S i) (hS : S < s.heap.objs.size) (hit : s.heap.IsListIter it l i) (hl : s.heap.IsList l items) (hx : items[i]? = some x) (hne : e ≠ it)
    (hQ : ∀ h', EnSt h' e it S (i + 1) → h'.IsListIter it l (i + 1) → h'.get? s.heap.objs.size = some { cls := .type "tuple", data := .seq #[.int i s.toks, x] } → h'.objs.size = s.heap.objs.size + 1 →
      (∀ b o, b ≠ e → b ≠ it → s.heap.get? b = some o → h'.get? b = some o) → Q (some (.ref s.heap.objs.size)) { s with heap := h', toks := s.toks + 1 }) : wpAny (model prog w) A (pyNext (.ref e)) Q E s := by
  have ci : ((i + 1 : Nat) : Int) = (i : Int) + 1 := by omega
  rcases hst with ⟨rfl, old, he⟩ | ⟨old, a, f, oa, he, ha, h1, h2, h3⟩
  · refine wpAny_pyNext_enum_item (i := 0) he hit hl hx hne fun h' ho hit' ht hz hk => hQ h' (.inr ⟨x, s.heap.objs.size, false, _, ?_, ht, Nat.ne_of_gt (Heap.lt_size he), ?_, Nat.ne_of_gt hS⟩) hit' ht hz hk
    · rw [ci]; exact ho
    · obtain ⟨_, q, _⟩ := hit; exact Nat.ne_of_gt (Heap.lt_size q)
  · refine enx_next he ha h1 h2 hit hl hx hne fun h' ho hit' ht hz hk => hQ h' (.inr ⟨old, a, true, oa, ?_, hk a oa h1 h2 ha, h1, h2, h3⟩) hit' ht hz hk
    rw [ci]; exact ho
theorem en_done {e it l S : Addr} {i : Nat} {items : Array Value} {Q : Option Value → Shared → Prop} (hh : A.handled = none) (hst : EnSt s.heap e it S i) (hit : s.heap.IsListIter it l i) (hl : s.heap.IsList l items) (hx : items[i]? = none)
    (hQ : ∀ h', Heap.ExtBut it s.heap h' → Q none { s with heap := h' }) : wpAny (model prog w) A (pyNext (.ref e)) Q E s := by
  rcases hst with ⟨rfl, old, he⟩ | ⟨old, a, f, oa, he, _⟩
  · exact wpAny_pyNext_enum_end (i := 0) hh he hit hl hx hQ
  · exact enx_end hh he hit hl hx hQ
structure EnG (items : Array Value) (lo : Addr) (h : Heap) (as : List Addr) : Prop where
  rise : as.Pairwise (· < ·)
  above : ∀ a ∈ as, lo < a
  pairs : ∀ (j : Nat) (a : Addr), as[j]? = some a → ∃ t x, items[j]? = some x ∧ h.get? a = some { cls := .type "tuple", data := .seq #[.int j t, x] }
theorem EnG.there {items : Array Value} {lo : Addr} {h : Heap} {as : List Addr} (g : EnG items lo h as) {a : Addr} (ha : a ∈ as) : a < h.objs.size := by
  obtain ⟨j, hj⟩ := List.mem_iff_getElem?.mp ha
  obtain ⟨_, _, _, e⟩ := g.pairs j a hj
  exact Heap.lt_size e
end
section
variable {prog : Program} {w : World} {A : Around} {s : Shared} {R : Result → Shared → Prop} {items : Array Value}
theorem en_loop {S e it l : Addr} (hh : A.handled = none) (hne : e ≠ it) (heS : e < S) (hiS : it < S) (hlS : l ≠ S) (hle : l ≠ e) (hli : l ≠ it) (hn : items.size ≤ sizeLine) (res : Value) {h₁ : Heap}
    (hR : ∀ h' tk acc c as, (∀ b o, b ≠ S → b ≠ e → b ≠ it → h₁.get? b = some o → h'.get? b = some o) → h'.get? S = some { cls := .type "list", dict := none, data := .seq acc c, slots := #[] } → as.length = items.size → EnG items S h' as →
      acc.toList = as.map Value.ref → R (.ok (.ret res)) { s with heap := h', toks := tk }) :
    ∀ (k i : Nat) (h : Heap) (tk c : Nat) (acc : Array Value) (as : List Addr), items.size - i = k → i ≤ items.size → EnSt h e it S i → h.IsListIter it l i → h.IsList l items → (∀ b o, b ≠ S → b ≠ e → b ≠ it → h₁.get? b = some o → h.get? b = some o) →
      h.get? S = some { cls := .type "list", dict := none, data := .seq acc c, slots := #[] } → acc.toList = as.map Value.ref → as.length = i → EnG items S h as →
      codeAny (model prog w) A (.builtin "list.extend.loop" ⟨[.ref S, .ref e, res], []⟩) R { s with heap := h, toks := tk } := by
  intro k
  induction k with
  | zero =>
    intro i h tk c acc as hk hi hst hit hl hkeep hS hacc hal hG
    have hin : i = items.size := by omega
    refine codeAny_builtin PySem.F.entry_extend_loop ?_
    rw [Around.under_plainId PySem.F.plain_extend_loop _]
    show wpAny _ A.in1 (pyNext (.ref e) >>= _) _ _ _
    refine wpAny_bind (en_done (s := { s with heap := h, toks := tk }) (A := A.in1) hh hst hit hl (Array.getElem?_eq_none (by omega)) fun h' he => ?_)
    refine wpAny_pure (hR h' tk acc c as (fun b o h1 h2 h3 e => he b o h3 (hkeep b o h1 h2 h3 e)) (he S _ (Nat.ne_of_gt hiS) hS) (by omega) ⟨hG.rise, hG.above, fun j a hj => ?_⟩ hacc)
    obtain ⟨t, x, e1, e2⟩ := hG.pairs j a hj
    exact ⟨t, x, e1, he a _ (Nat.ne_of_gt (Nat.lt_trans hiS (hG.above a (List.mem_of_getElem? hj)))) e2⟩
  | succ k ih =>
    intro i h tk c acc as hk hi hst hit hl hkeep hS hacc hal hG
    have hlt : i < items.size := by omega
    obtain ⟨x, hx⟩ : ∃ x, items[i]? = some x := ⟨items[i], Array.getElem?_eq_getElem hlt⟩
    have hsz : acc.size = i := by rw [← Array.length_toList, hacc, List.length_map, hal]
    have hSl : S < h.objs.size := Heap.lt_size hS
    refine codeAny_builtin PySem.F.entry_extend_loop ?_
    rw [Around.under_plainId PySem.F.plain_extend_loop _]
    show wpAny _ A.in1 (pyNext (.ref e) >>= _) _ _ _
    refine wpAny_bind (en_item (s := { s with heap := h, toks := tk }) (S := S) hst hSl hit hl hx hne fun h' hst' hit' ht hz hkp => ?_)
    dsimp only at ht hz hkp ⊢
    have hS' := hkp S _ (Nat.ne_of_gt heS) (Nat.ne_of_gt hiS) hS
    have up : ∀ b o, b ≠ S → h'.get? b = some o → (h'.update S (Obj.mapSeq (·.push (Value.ref h.objs.size)))).get? b = some o := fun b o hb e => (Heap.get?_update_other _ _ (Ne.symm hb)).trans e
    show wpAny _ A.in1 (updateSeq S (·.push (Value.ref h.objs.size)) >>= _) _ _ _
    refine wpAny_bind ?_
    refine wpAny_updateSeq hS' rfl (wpAny_pure ⟨plainId_quiet PySem.F.plain_extend_loop _, ih (i + 1) _ (tk + 1) _ (acc.push (Value.ref h.objs.size)) (as ++ [h.objs.size]) (by omega) hlt (hst'.keep up (Nat.ne_of_lt heS)) (hit'.at fun o q => up it o (Nat.ne_of_lt hiS) q) (hl.at fun o q => up l o hlS (hkp l o hle hli q))
      (fun b o h1 h2 h3 e => up b o h1 (hkp b o h2 h3 (hkeep b o h1 h2 h3 e))) (Heap.get?_update_self _ hS' rfl) (by rw [Array.toList_push, hacc, List.map_append]; rfl) (by rw [List.length_append, hal]; rfl) ⟨?_, ?_, ?_⟩⟩) (by rw [hsz]; omega) (by show (acc.push (Value.ref h.objs.size)).size ≤ sizeLine + 1; rw [Array.size_push, hsz]; omega)
    · refine List.pairwise_append.mpr ⟨hG.rise, List.pairwise_singleton _ _, fun a ha b hb => ?_⟩
      rw [List.mem_singleton.mp hb]
      exact hG.there ha
    · intro a ha
      rcases List.mem_append.mp ha with ha | ha
      · exact hG.above a ha
      · rw [List.mem_singleton.mp ha]; exact hSl
    · intro j b hj
      rcases Nat.lt_trichotomy j as.length with h1 | h1 | h1
      · rw [List.getElem?_append_left h1] at hj
        obtain ⟨t, x', e1, e2⟩ := hG.pairs j b hj
        have hb := hG.above b (List.mem_of_getElem? hj)
        exact ⟨t, x', e1, up b _ (Nat.ne_of_gt hb) (hkp b _ (Nat.ne_of_gt (Nat.lt_trans heS hb)) (Nat.ne_of_gt (Nat.lt_trans hiS hb)) e2)⟩
      · subst h1
        have hb : h.objs.size = b := by simpa using hj
        subst hb
        exact ⟨tk, x, by rw [hal]; exact hx, up _ _ (Nat.ne_of_gt hSl) (by rw [hal]; exact ht)⟩
      · have hnone : (as ++ [h.objs.size])[j]? = none := List.getElem?_eq_none (by rw [List.length_append, List.length_singleton]; omega)
        rw [hnone] at hj; cases hj
end
end DN
namespace DN
open PySem PySem.Spec PyProof.Rows L2 Evl
theorem en_len : typeLookup (.type "enumerate") "__len__" = pure none := by rw [typeLookup_type, builtinLookup_eq_fast]; kernel_rfl
theorem en_lh : typeLookup (.type "enumerate") "__length_hint__" = pure none := by rw [typeLookup_type, builtinLookup_eq_fast]; kernel_rfl
section
variable {prog : Program} {w : World} {A : Around} {E : Value → Shared → Prop} {s : Shared} {e it l : Addr} {items : Array Value}
theorem en_hint (hT : s.TypeIs (.ref e) "enumerate") {Q : Bool → Shared → Prop} (h : Q true s) : wpAny (model prog w) A (Builtin.List.listLengthHint (.ref e)) Q E s := by
  unfold Builtin.List.listLengthHint
  refine wpAny_bind (wpAny_specialOf hT en_len ?_)
  simp only []
  refine wpAny_ite_split (fun hab => absurd hab (by decide +kernel)) (fun _ => ?_)
  refine wpAny_ite_split (fun hab => absurd hab (by decide +kernel)) (fun _ => ?_)
  refine wpAny_bind (wpAny_specialOf hT en_lh ?_)
  exact wpAny_pure h
theorem en_extend {R : Result → Shared → Prop} (hh : A.handled = none) (he : IsEnum s.heap e it 0 .none) (hit : s.heap.IsListIter it l 0) (hl : s.heap.IsList l items) (S : Addr) (hne : e ≠ it) (heS : e < S) (hiS : it < S) (hlS : l ≠ S) (hle : l ≠ e) (hli : l ≠ it) (res : Value) (c₀ : Nat) (hS : s.heap.get? S = some { cls := .type "list", data := .seq #[] c₀ })
    (hR : ∀ h' tk acc c as, (∀ b o, b ≠ S → b ≠ e → b ≠ it → s.heap.get? b = some o → h'.get? b = some o) → h'.get? S = some { cls := .type "list", dict := none, data := .seq acc c, slots := #[] } → as.length = items.size → EnG items S h' as →
      acc.toList = as.map Value.ref → R (.ok (.ret res)) { s with heap := h', toks := tk }) (hn : items.size ≤ sizeLine) :
    wpAny (model prog w) A.in1 (Builtin.List.listExtendWith (.ref S) (.ref e) res)
      (fun fin s' => match fin with | .done f => R (.ok f) s' | .again c' => c'.quiet = true ∧ codeAny (model prog w) A c' R s') (fun e s' => R (.error e) s') s := by
  have key : ∀ (h : Heap) (c₁ tk : Nat), (∀ b o, b ≠ S → s.heap.get? b = some o → h.get? b = some o) →
      h.get? S = some { cls := .type "list", data := .seq #[] c₁ } → codeAny (model prog w) A (.builtin "list.extend.loop" ⟨[.ref S, .ref e, res], []⟩) R { s with heap := h, toks := tk } := by
    intro h c₁ tk hk hS₁
    exact en_loop (items := items) (s := s) (h₁ := s.heap) hh hne heS hiS hlS hle hli hn res hR items.size 0 h tk c₁ #[] [] (Nat.sub_zero _) (Nat.zero_le _) (.inl ⟨rfl, .none, hk e _ (Nat.ne_of_lt heS) he⟩) (hit.at fun o q => hk it o (Nat.ne_of_lt hiS) q) (hl.at fun o q => hk l o hlS q) (fun b o hb _ _ e => hk b o hb e) hS₁ rfl rfl
      ⟨List.Pairwise.nil, (fun _ ha => nomatch ha), (fun j a hj => by simp at hj)⟩
  have hT : s.TypeIs (.ref e) "enumerate" := ⟨_, he, rfl⟩
  unfold Builtin.List.listExtendWith
  refine wpAny_bind (wpAny_typeOf (T := "enumerate") hT ?_)
  have h1 : Builtin.List.listSameRef (.ref S) (.ref e) = false := by simp [Builtin.List.listSameRef, Nat.ne_of_gt heS]
  have h2 : (Value.type "enumerate" == Value.type "list") = false := by decide
  have h3 : (Value.type "enumerate" == Value.type "tuple") = false := by decide
  simp only [h1, h2, h3, Bool.or_false, Bool.false_eq_true, if_false]
  refine wpAny_bind (wpAny_pyIter_enum he ?_)
  refine wpAny_bind (wpAny_holding (en_hint hT ?_))
  refine wpAny_ite_split (fun _ => ?_) (fun _ => wpAny_pure ⟨plainId_quiet PySem.F.plain_extend_loop _, key _ c₀ _ (fun b o _ e => e) hS⟩)
  refine wpAny_bind (wpAny_rule ?_)
  refine wpAny_bind ?_
  show wpAny _ _ (updateSeq S (·.push .none) >>= fun _ => updateSeq S (·.pop)) _ _ _
  refine wpAny_bind (wpAny_updateSeq hS rfl ?_)
  have hS₂ := Heap.get?_update_self (Obj.mapSeq (·.push Value.none)) hS rfl
  refine wpAny_updateSeq (hz := by seq_fits) hS₂ rfl ?_
  have hS₃ := Heap.get?_update_self (Obj.mapSeq (·.pop)) hS₂ rfl
  refine wpAny_pure ⟨plainId_quiet PySem.F.plain_extend_loop _, key _ _ _ (fun b o hb e => ?_) hS₃⟩
  exact (Heap.get?_update_other _ _ (Ne.symm hb)).trans ((Heap.get?_update_other _ _ (Ne.symm hb)).trans e)
theorem en_init {R : Result → Shared → Prop} (hh : A.handled = none) (he : IsEnum s.heap e it 0 .none) (hit : s.heap.IsListIter it l 0) (hl : s.heap.IsList l items) (S : Addr) (hne : e ≠ it) (heS : e < S) (hiS : it < S) (hlS : l ≠ S) (hle : l ≠ e) (hli : l ≠ it) (hS : s.heap.get? S = some { cls := .type "list", data := .seq #[] })
    (hR : ∀ h' tk acc c as, (∀ b o, b ≠ S → b ≠ e → b ≠ it → s.heap.get? b = some o → h'.get? b = some o) → h'.get? S = some { cls := .type "list", dict := none, data := .seq acc c, slots := #[] } → as.length = items.size → EnG items S h' as →
      acc.toList = as.map Value.ref → R (.ok (.ret .none)) { s with heap := h', toks := tk }) (hn : items.size ≤ sizeLine) :
    wpAny (model prog w) A.in1 (Builtin.«list.__init__» ⟨[.ref S, .ref e], []⟩)
      (fun fin s' => match fin with | .done f => R (.ok f) s' | .again c' => c'.quiet = true ∧ codeAny (model prog w) A c' R s') (fun e s' => R (.error e) s') s := by
  show wpAny _ _ (do let old ← Builtin.List.listItems (.ref S); Builtin.List.listUpdate (.ref S) (fun _ => #[]); letGo old.toList.reverse; Builtin.List.listExtendWith (.ref S) (.ref e) .none) _ _ s
  refine wpAny_bind ?_
  unfold Builtin.List.listItems
  refine wpAny_bind (wpAny_seqItems hS rfl (wpAny_pure ?_))
  show wpAny _ _ (updateSeq S (fun _ => #[]) >>= fun _ => letGo (#[] : Array Value).toList.reverse >>= fun _ => Builtin.List.listExtendWith (.ref S) (.ref e) .none) _ _ s
  refine wpAny_bind (wpAny_updateSeq hS rfl ?_)
  have hS₂ := Heap.get?_update_self (Obj.mapSeq (fun _ => (#[] : Array Value))) hS rfl
  have oth : ∀ b o, b ≠ S → s.heap.get? b = some o → (s.heap.update S (Obj.mapSeq (fun _ => (#[] : Array Value)))).get? b = some o :=
    fun b o hb e => (Heap.get?_update_other _ _ (Ne.symm hb)).trans e
  refine wpAny_bind (wpAny_letGo ?_)
  refine en_extend (items := items) hh (oth e _ (Nat.ne_of_lt heS) he) (hit.at fun o q => oth it o (Nat.ne_of_lt hiS) q) (hl.at fun o q => oth l o hlS q) S hne heS hiS hlS hle hli .none _ hS₂ (fun h' tk acc c as hk hS' hl' hG hacc => ?_) hn
  exact hR h' tk acc c as (fun b o hb h2 h3 e => hk b o hb h2 h3 (oth b o hb e)) hS' hl' hG hacc
theorem en_call {Q : Value → Shared → Prop} (hh : A.handled = none) (he : IsEnum s.heap e it 0 .none) (hit : s.heap.IsListIter it l 0) (hl : s.heap.IsList l items) (hne : e ≠ it) (hle : l ≠ e) (hli : l ≠ it) (hn : items.size ≤ sizeLine)
    (hQ : ∀ h' tk acc c as, (∀ b o, b ≠ e → b ≠ it → s.heap.get? b = some o → h'.get? b = some o) → h'.get? s.heap.objs.size = some { cls := .type "list", dict := none, data := .seq acc c, slots := #[] } → as.length = items.size → EnG items s.heap.objs.size h' as →
      acc.toList = as.map Value.ref → Q (.ref s.heap.objs.size) { s with heap := h', toks := tk }) :
    wpAny (model prog w) A (call (.type "list") [.ref e]) Q E s := by
  refine callType_codes (Q₁ := fun obj s₁ => obj = .ref s.heap.objs.size ∧ s₁ = { s with heap := s.heap.push { cls := .type "list", data := .seq #[] } }) PySem.F.called_list (PySem.F.typeCall_list_1 _) PySem.F.entry_list_init
    (code_list_new _ ⟨rfl, rfl⟩) fun obj s₁ h₁ => ?_
  obtain ⟨rfl, rfl⟩ := h₁
  have hS : (s.heap.push { cls := .type "list", data := .seq #[] }).get? s.heap.objs.size = some { cls := .type "list", data := .seq #[] } := Heap.get?_push_size _ rfl
  have h1 : e < s.heap.objs.size := Heap.lt_size he
  have h2 : it < s.heap.objs.size := by obtain ⟨_, q, _⟩ := hit; exact Heap.lt_size q
  have h3 : l < s.heap.objs.size := by obtain ⟨_, q, _⟩ := hl; exact Heap.lt_size q
  refine ⟨⟨_, hS, rfl⟩, PySem.F.args_list_init_2 _ _, en_init (items := items) (A := A.in1) hh (Heap.get?_push_of_some _ he) (hit.at fun o q => Heap.get?_push_of_some _ q) (hl.at fun o q => Heap.get?_push_of_some _ q) _ hne h1 h2 (Nat.ne_of_lt h3) hle hli hS (fun h' tk acc c as hk hS' hl' hG hacc => ?_) hn⟩
  exact ⟨rfl, hQ h' tk acc c as (fun b o h2 h3 e => hk b o (Nat.ne_of_lt (Heap.lt_size e)) h2 h3 (Heap.get?_push_of_some _ e)) hS' hl' hG hacc⟩
end
end DN
namespace DN
open PySem PySem.Spec PyProof.Rows L2 Evl
/-- list(enumerate(xs)): the new list at l, its pairs at as -/
def tLE (K : PySem.W.Frag) (te : TE) : TE := fun σ H Q => te σ H fun v H1 => ∃ (a : Addr) (xs : List V), v = .ref a ∧ SqL K H1 a xs ∧
  ∀ (H2 : Hp) (l : Addr) (as : List Addr), (∀ b o, H1 b = some o → H2 b = some o) → as.length = xs.length → as.Nodup → l ∉ as → H1 l = none → (∀ b ∈ as, H1 b = none) →
    (∀ (j : Nat) (b : Addr), as[j]? = some b → ∃ x, xs[j]? = some x ∧ H2 b = some (.tup [.int (j : Nat), x])) → H2 l = some (.lst (as.map V.ref)) → Q (.ref l) H2
theorem vals_refs : ∀ (as : List Addr), Vals (as.map V.ref) (as.map Value.ref)
  | [] => .nil
  | a :: as => .cons rfl (vals_refs as)
section
variable {X : Cx} {e : Expr} {te : TE} {p p2 pos pos2 : Pos}
theorem pe_listEnum (hc : X.calm = true) (hg : Gl X "list") (hm : X.mg "list" = none) (hg2 : Gl X "enumerate") (hm2 : X.mg "enumerate" = none) (he : PE X e te)
    (na : starEach [e] X.env = (false, eval e X.env) :: starEach [] X.env := by rfl)
    (nb : starEach [.Call (.Name "enumerate" p2) [e] [] pos] X.env = (false, eval (.Call (.Name "enumerate" p2) [e] [] pos) X.env) :: starEach [] X.env := by rfl) :
    PE X (.Call (.Name "list" p) [.Call (.Name "enumerate" p2) [e] [] pos] [] pos2) (tLE X.K te) := by
  refine ⟨fun pins s σ H Q I h => ?_⟩
  refine Call_ (ld_blt I hg hm boot_list (PyProof.Rows.callWith_type1 (args_cons ?_ nb) nb))
  refine Call_ (ld_blt I hg2 hm2 boot_enumerate (PyProof.Rows.callWith_type1 (args_cons (thn (he.run pins s σ H _ I h) fun v s1 ⟨x, H1, I1, r1, q1⟩ => args_nil ?_) na) na))
  obtain ⟨a, xs, rfl, hs, q⟩ := q1
  cases r1
  obtain ⟨its, rv, pl, hz⟩ := I1.list hs
  refine call_enumerate_list pl.isList fun h1 hen hit hsz hk => ?_
  have hla : a < s1.heap.objs.size := by obtain ⟨_, q0, _⟩ := pl.isList; exact Heap.lt_size q0
  have hlen : its.length = xs.length := rv.length.symm
  have ltE : ∀ b o, s1.heap.get? b = some o → b < s1.heap.objs.size := fun b o e => Heap.lt_size e
  refine args_nil ?_
  refine en_call (items := its.toArray) (s := { s1 with heap := h1 }) (I1.ok.hd hc) hen hit (pl.isList.at fun o q => hk a o q) (Nat.succ_ne_self _) (Nat.ne_of_lt (Nat.lt_succ_of_lt hla)) (Nat.ne_of_lt hla) (by rw [List.size_toArray, hlen]; exact hz) fun h2 tk acc c as hkk hS hal hG hacc => ?_
  have kS : ∀ b o, s1.heap.get? b = some o → h2.get? b = some o := fun b o e => hkk b o (Nat.ne_of_lt (Nat.lt_succ_of_lt (ltE b o e))) (Nat.ne_of_lt (ltE b o e)) (hk b o e)
  have hS' : h2.get? h1.objs.size = some { cls := .type "list", dict := none, data := .seq acc c, slots := #[] } := hS
  replace hG : EnG its.toArray h1.objs.size h2 as := hG
  have I2 : Inv X pins σ H1 { s1 with heap := h2, toks := tk } := I1.kept (t' := tk) kS
  have hS1 : s1.heap.objs.size ≤ h1.objs.size := by omega
  have nd : as.Nodup := hG.rise.imp Nat.ne_of_lt
  have hn0 : H1 h1.objs.size = none := I1.hok.fresh hS1
  have rvl : Vals (as.map V.ref) acc.toList := by rw [hacc]; exact vals_refs as
  have hszz : (as.map V.ref).length ≤ sizeLine := by
    rw [List.length_map, hal, List.size_toArray, hlen]; exact hz
  have I3 : Inv X pins σ (upd H1 h1.objs.size (.lst (as.map V.ref))) { s1 with heap := h2, toks := tk } :=
    I2.take (h' := h2) (t' := tk) (fun b ob _ e => e) (I1.fpOk hS1 hn0) ⟨hszz, acc.toList, c, rvl, hS'⟩
  have hne : ∀ b ∈ as, b ≠ h1.objs.size := fun b hb => Nat.ne_of_gt (hG.above b hb)
  obtain ⟨H2, I4, g, qt⟩   := L2.DX.takeT (P := fun b vs => ∃ (j : Nat) (x : V), as[j]? = some b ∧ xs[j]? = some x ∧ vs = [.int j, x]) I1 as _ I3 nd fun b hb => by
    obtain ⟨j, hj⟩ := List.mem_iff_getElem?.mp hb
    obtain ⟨t, u, hu, hg⟩ := hG.pairs j b hj
    have hbl : s1.heap.objs.size ≤ b := Nat.le_trans hS1 (Nat.le_of_lt (hG.above b hb))
    have hu2 : its[j]? = some u := by simpa using hu
    have hjl : j < xs.length := by rw [← hlen]; exact (List.getElem?_eq_some_iff.mp hu2).1
    obtain ⟨x, hx⟩ : ∃ x, xs[j]? = some x := ⟨xs[j], List.getElem?_eq_getElem hjl⟩
    have rx : RelV x u := by
      obtain ⟨u', hu', r'⟩ := Vals.get rv hx
      rw [hu2] at hu'; cases hu'; exact r'
    refine ⟨hbl, ?_, [.int j, x], ⟨j, x, hj, hx, rfl⟩, fun H3 => ⟨(by rw [sizeLine_eq]; show 2 ≤ 16777216; omega), [Value.int j t, u], .cons ⟨t, rfl⟩ (.cons rx .nil), ⟨_, hg, rfl, 0, rfl⟩⟩⟩
    rw [upd_ne (hne b hb)]
    exact I1.hok.fresh hbl
  refine ⟨.ref h1.objs.size, H2, I4, rfl, q H2 h1.objs.size as (fun b o e => g b o (by rw [upd_ne (ne_of_none e hn0)]; exact e)) (by rw [hal, List.size_toArray, hlen]) nd (fun hm => hne _ hm rfl) hn0 (fun b hb => ?_) (fun j b hj => ?_) (g _ _ upd_same)⟩
  · exact I1.hok.fresh (Nat.le_trans hS1 (Nat.le_of_lt (hG.above b hb)))
  · obtain ⟨vs, ⟨i, x, i1, i2, ev⟩, hH⟩ := qt b (List.mem_of_getElem? hj)
    have eij : j = i := (List.getElem?_inj (List.getElem?_eq_some_iff.mp hj).1 nd).mp (hj.trans i1.symm)
    subst eij
    exact ⟨x, i2, by rw [hH, ev]⟩
end
end DN
namespace DN
open PySem PySem.Spec PyProof.Rows L2 Evl
def enumP : Nat → List Dv → List Dv
  | _, [] => []
  | n, d :: l => .tup [.int n, d] :: enumP (n + 1) l
def gEnumL : Dv → Option Rt
  | .lst l => nL (enumP 0 l)
  | _ => none
def fEnumL (fa : FE) : FE := fun env S => (fa env S).bindV fun S1 a => g1 S1 a gEnumL
section
variable {Z : Zx} {X : Cx} {Ew : L2.St → XK} {S : Sto} {G H : Hp} {α : List Addr} {Q : VK} {E : XK}
theorem onl_enum : ∀ {l : List Dv} {xs : List V} {as : List Addr} {n : Nat}, OnL Z G l xs → as.length = xs.length →
    (∀ (j : Nat) (b : Addr), as[j]? = some b → ∃ x, xs[j]? = some x ∧ G b = some (.tup [.int ((n + j : Nat) : Int), x])) → OnL Z G (enumP n l) (as.map V.ref)
  | [], xs, as, n, h, hl, k => by
    unfold OnL at h
    subst h
    cases as with
    | nil => exact OnL.nil'
    | cons a as => cases hl
  | d :: l, xs, as, n, h, hl, k => by
    unfold OnL at h
    obtain ⟨y, ys, rfl, h1, h2⟩ := h
    cases as with
    | nil => cases hl
    | cons a as =>
      unfold enumP OnL
      obtain ⟨x, ex, eg⟩ := k 0 a rfl
      cases ex
      refine ⟨.ref a, as.map V.ref, rfl, ?_, onl_enum h2 (by simpa using hl) fun j b hj => ?_⟩
      · unfold On
        refine ⟨a, _, rfl, eg, ?_⟩
        unfold OnL
        refine ⟨_, _, rfl, by unfold On; simp, ?_⟩
        unfold OnL
        exact ⟨_, _, rfl, h1, OnL.nil'⟩
      · obtain ⟨x, e1, e2⟩ := k (j + 1) b (by simpa using hj)
        refine ⟨x, by simpa using e1, ?_⟩
        rw [e2]
        congr 4
        omega
theorem se_enumL {ta : TE} {fa : FE} (hK : X.K = Z.K) (ha : SE Z Ew ta fa) : SE Z Ew (tLE X.K ta) (fEnumL fa) := fun env σ G α S H Q hd oe w =>
  ha.bind hd oe w fun S2 a x H2 G2 α2 f2 hd2 oe2 ox w2 => by
    cases e : snap S2 a with
    | none => unfold g1 at w2; rw [e] at w2; exact w2.elim
    | some d =>
      have oh := snap_on hd2 ox e
      unfold g1 at w2
      rw [e] at w2
      cases d with
      | lst l =>
        obtain ⟨p, xs, rfl, h1, h2⟩ := oh
        have w3 : Wk Z (R.of S2 (nL (enumP 0 l))) G2 α2 H2 (pRt Z Q) (Ew σ) := w2
        refine ⟨p, xs, rfl, SqL.of h1, fun Hx q as ext hal nd nin hq hn hpr hl => ?_⟩
        have ex : Ex H2 Hx := fun b o e => ext b o e
        have hd3 := hd2.grow ex
        have f3 := Fr.grow hd2 ex
        obtain ⟨G3, hd4, f4, k4⟩ := learns (Z := Z) (f := fun b => match as.idxOf? b with | some j => [V.int (j : Nat), xs.getD j .non] | none => []) (bs := as) hd3 (fun b hb => by
          obtain ⟨j, hj⟩ := List.mem_iff_getElem?.mp hb
          obtain ⟨y, e1, e2⟩ := hpr j b hj
          have hjl : j < as.length := (List.getElem?_eq_some_iff.mp hj).1
          have ei : as.idxOf? b = some j := by
            rw [List.idxOf?_eq_some_iff]
            have hbj : as[j] = b := (List.getElem?_eq_some_iff.mp hj).2
            refine ⟨hjl, by simp [hbj], fun i hi => ?_⟩
            intro he
            have := (List.getElem?_inj (by omega : i < as.length) nd).mp ((List.getElem?_eq_some_iff.mpr ⟨by omega, he⟩).trans hj.symm)
            omega
          rw [ei, e2]
          have : xs.getD j .non = y := by rw [List.getD_eq_getElem?_getD, e1]; rfl
          simp only [this])
        have gq : G2 q = none := by
          cases g : G2 q with
          | none => rfl
          | some o => have := hd2.ex _ _ g; rw [hq] at this; cases this
        have nq : q ∉ α2 := fun m => hd2.live m hq
        have gq3 : G3 q = none := f4.n q _ gq hl (fun xs h => nomatch h) nq
        refine w3 Hx G3 α2 (f3.trans f4) hd4 q ⟨hq, gq3, nq, ?_⟩
        refine ⟨as.map V.ref, hl, onl_enum (n := 0) (h2.up (f3.trans f4).g) hal fun j b hj => ?_⟩
        obtain ⟨y, e1, e2⟩ := hpr j b hj
        refine ⟨y, e1, ?_⟩
        have hb := k4 b (List.mem_of_getElem? hj)
        have := hd4.ex _ _ hb
        rw [e2] at this
        rw [hb, ← this]
        simp
      | _ => exact w2.elim
theorem pf_listEnum {e : Expr} {fa : FE} {p p2 pos pos2 : Pos} (hc : X.calm = true) (hK : X.K = Z.K) (hg : Gl X "list") (hm : X.mg "list" = none) (hg2 : Gl X "enumerate") (hm2 : X.mg "enumerate" = none) (ha : PF Z Ew X e fa)
    (na : starEach [e] X.env = (false, eval e X.env) :: starEach [] X.env := by rfl)
    (nb : starEach [.Call (.Name "enumerate" p2) [e] [] pos] X.env = (false, eval (.Call (.Name "enumerate" p2) [e] [] pos) X.env) :: starEach [] X.env := by rfl) :
    PF Z Ew X (.Call (.Name "list" p) [.Call (.Name "enumerate" p2) [e] [] pos] [] pos2) (fEnumL fa) := by
  obtain ⟨te, h1, h2⟩ := ha.ex
  exact ⟨_, pe_listEnum hc hg hm hg2 hm2 h1 na nb, se_enumL hK h2⟩
end
end DN
namespace DN
open PySem PySem.Spec PyProof.Rows L2 Evl OP
end DN
namespace DN
open PySem PySem.Spec PyProof.Rows L2 Evl OP
theorem adjust_back (n : Nat) : Builtin.Slice.sliceAdjust none none (-1) (n : Int) = ((n : Int) - 1, -1) := by
  unfold Builtin.Slice.sliceAdjust
  simp
theorem places_back (n : Nat) : Builtin.Slice.slicePlaces ((n : Int) - 1) (-1) (-1) = n := by
  unfold Builtin.Slice.slicePlaces
  have h1 : ¬ ((-1 : Int) > 0) := by omega
  simp only [h1, if_false, Int.neg_neg, Int.ediv_one]
  split <;> omega
theorem pick_back (xs : Array Value) : ((List.range xs.size).filterMap fun (k : Nat) => xs[(((xs.size : Int) - 1) + (k : Int) * (-1)).toNat]?).toArray = xs.toList.reverse.toArray := by
  have e : ∀ n, n ≤ xs.size → (List.range n).filterMap (fun (k : Nat) => xs[(((xs.size : Int) - 1) + (k : Int) * (-1)).toNat]?) = xs.toList.reverse.take n := by
    intro n
    induction n with
    | zero => intro _; rfl
    | succ n ih =>
      intro hn
      have e1 : (((xs.size : Int) - 1) + (n : Int) * (-1)).toNat = xs.size - 1 - n := by omega
      have e2 : xs.toList.reverse[n]? = xs[xs.size - 1 - n]? := by
        rw [List.getElem?_reverse (by simp; omega)]; simp
      rw [List.range_succ, List.filterMap_append, ih (by omega), List.take_succ, e2]
      congr 1
      simp only [List.filterMap_cons, List.filterMap_nil, e1]
      cases xs[xs.size - 1 - n]? <;> rfl
  rw [e xs.size (Nat.le_refl _), List.take_of_length_le (by simp)]
section
variable {prog : Program} {w : World} {A : Around} {E : Value → Shared → Prop} {s : Shared}
theorem getItem_tuple_back {t sl : Addr} {items : Array Value} {u : Value} {Q : Value → Shared → Prop} (ht : IsTup s.heap t items) (hs : s.heap.IsSliceOf sl .none .none u) (pu : IsPart u (some (-1)))
    (h : Q (.ref s.heap.objs.size) { s with heap := s.heap.push { cls := .type "tuple", data := .seq items.toList.reverse.toArray } })
    (hsz : items.size ≤ sizeLine) : wpAny (model prog w) A (getItem (.ref t) (.ref sl)) Q E s := by
  have hfit : sizeOk (.seq items.toList.reverse.toArray) := by
    show items.toList.reverse.toArray.size ≤ sizeLine
    simpa using hsz
  obtain ⟨os, hos, hcs, hds⟩ := id hs
  have hTs : s.TypeIs (.ref sl) "slice" := ⟨os, hos, hcs⟩
  have applied : ∀ {A : Around} {Q : Int × Int × Nat → Shared → Prop}, Q ((items.size : Int) - 1, -1, items.size) s → wpAny (model prog w) A (Builtin.Slice.sliceApplied (.ref sl) (pure (items.size : Int))) Q E s := fun {A Q} hq => by
    unfold Builtin.Slice.sliceApplied Builtin.Slice.sliceFields
    refine wpAny_bind (wpAny_bind (wpAny_field hos hds (x := .none) rfl (wpAny_bind (wpAny_field hos hds (x := .none) rfl (wpAny_bind (wpAny_field hos hds (x := u) rfl (wpAny_pure ?_)))))))
    refine wpAny_bind (HT.slicePart_ pu ?_)
    show wpAny _ _ (if ((-1 : Int) == 0) = true then _ else _) _ _ s
    rw [if_neg (by decide)]
    refine wpAny_bind (slicePart_none (wpAny_bind (slicePart_none (wpAny_bind (wpAny_pure ?_)))))
    show wpAny _ _ (match Builtin.Slice.sliceAdjust none none (-1) (items.size : Int) with | (lo, hi) => pure (lo, (-1 : Int), Builtin.Slice.slicePlaces lo hi (-1))) _ _ s
    rw [adjust_back]
    show wpAny _ _ (pure ((items.size : Int) - 1, (-1 : Int), Builtin.Slice.slicePlaces ((items.size : Int) - 1) (-1) (-1))) _ _ s
    rw [places_back]
    exact wpAny_pure hq
  unfold getItem
  try with_reducible refine wpAny_holding ?_
  first | refine wpAny_bind (wpAny_pure ?_) | skip
  refine wpAny_bind (wpAny_sequenceKey ht.typeIs (by decide) ?_)
  refine wpAny_bind (wpAny_callSpecial?_slot (name := Str.ofString "__getitem__") ht.typeIs slot_tuple_getitem
    (wpAny_call_entry slot_tuple_getitem ht.typeIs entry_tuple_getitem ?_ (args_tuple_getitem _ _)))
  show wpAny _ _ (Builtin.Tuple.tupleItemsOf (.ref t) >>= _) _ _ s
  refine wpAny_bind (tupleItemsOf_ ht ?_)
  refine wpAny_bind (wpAny_typeOf hTs ?_)
  rw [if_pos (by decide)]
  refine wpAny_bind (applied ?_)
  have hno : ¬ ((((items.size : Int) - 1) == 0 && (-1 : Int) == 1 && items.size == items.size) = true) := by
    have : ((-1 : Int) == 1) = false := by decide
    rw [this]; simp
  show wpAny _ _ (if (((items.size : Int) - 1) == 0 && (-1 : Int) == 1 && items.size == items.size) = true then _ else _) _ _ s
  rw [if_neg hno, pick_back items]
  first
    | exact wpAny_bind (m := Builtin.Tuple.tupleExact _) (wpAny_newObj_type (wpAny_pure ⟨_, rfl, wpAny_pure h⟩) hfit)
    | exact wpAny_bind (m := Builtin.Tuple.tupleExact _) (wpAny_newObj_type (wpAny_bind (wpAny_pure (wpAny_pure ⟨_, rfl, wpAny_pure h⟩))) hfit)
    | exact wpAny_bind (wpAny_bind (m := Builtin.Tuple.tupleExact _) (wpAny_newObj_type (wpAny_pure (wpAny_pure ⟨_, rfl, wpAny_pure h⟩)) hfit))
    | exact wpAny_bind (wpAny_bind (m := Builtin.Tuple.tupleExact _) (wpAny_newObj_type (wpAny_pure ⟨_, rfl, wpAny_pure h⟩) hfit))
end
section
variable {Z : Zx} {X : Cx} {Ew : L2.St → XK} {fa : FE} {e : Expr} {te : TE} {k : Nat} {p1 p2 p3 pos : Pos}
/-- xs[::-1], a list or a tuple -/
def tRevA (K : PySem.W.Frag) (te : TE) : TE := fun σ H Q => te σ H fun x H1 => ∃ a xs, x = .ref a ∧ ((SqL K H1 a xs ∧ ∀ p, H1 p = none → Q (.ref p) (upd H1 p (.lst xs.reverse))) ∨ (SqT K H1 a xs ∧ ∀ p, H1 p = none → Q (.ref p) (upd H1 p (.tup xs.reverse))))
theorem pe_revA (he : PE X e te) : PE X (.Subscript e (.Slice none none (some (.UnaryOp .USub (.Constant (.int 1) k p1) p2)) p3) pos) (tRevA X.K te) := by
  refine ⟨fun pins s σ H Q I h => ?_⟩
  refine Subscript_ (thn (he.run pins s σ H _ I h) fun v s1 ⟨x, H1, I1, r1, q1⟩ => ?_)
  obtain ⟨a, xs, ex, hx⟩ := q1
  subst ex
  cases r1
  have hst : PO X (some (.UnaryOp .USub (.Constant (.int 1) k p1) p2)) (tPart (tUn (L2.rU fun i => .int (-i)) (tC (.int 1)))) := po_some (pe_un un_neg pe_int)
  refine wpAny_Slice (thn (po_none.run pins s1 σ H1 (fun o H2 => o = none ∧ H2 = H1) I1 ⟨rfl, rfl⟩) fun vl s2 ⟨l, H2, I2, pl, el, e2⟩ => ?_)
  subst el e2
  refine thn (po_none.run pins s2 σ H2 (fun o H3 => o = none ∧ H3 = H2) I2 ⟨rfl, rfl⟩) fun vu s3 ⟨u, H3, I3, pu, eu, e3⟩ => ?_
  subst eu e3
  refine thn (hst.run pins s3 σ H3 (fun o H4 => o = some (-1) ∧ H4 = H3) I3 ⟨1, rfl, -1, rfl, rfl, rfl⟩) fun vs s4 ⟨o, H4, I4, ps, eo, e4⟩ => ?_
  subst eo e4
  cases pl
  cases pu
  have I5 : Inv X pins σ H4 { s4 with heap := s4.heap.push { cls := .type "slice", data := .fields #[.none, .none, vs] } } := I4.kept (t' := s4.toks) fun b ob q => Heap.get?_push_of_some _ q
  show wpAny (model X.prog X.w) X.A (subscriptTail e (.Slice none none (some (.UnaryOp .USub (.Constant (.int 1) k p1) p2)) p3) (.ref a) (.ref s4.heap.objs.size)) (EP X pins σ Q) X.xe { s4 with heap := s4.heap.push { cls := .type "slice", data := .fields #[.none, .none, vs] } }
  rcases hx with ⟨hx, q⟩ | ⟨hx, q⟩
  · obtain ⟨its, r, ht, hz⟩ := I5.list hx
    have hlen := r.length
    refine tail_any (ops := [.ref a, .ref s4.heap.objs.size]) ht.isList.typeIs (PySem.slot_list_getitem.lookup) ?_ (by with_unfolding_all rfl)
    refine wpAny_getItem_list_slice ht.isList (Heap.IsSliceOf.new _ .none .none vs) .none .none ps (by decide) ?_ (by rw [List.size_toArray]; omega)
    rw [PySem.W.krv_pick]
    refine ⟨.ref _, _, I5.laid (t' := s4.toks) (o := .lst xs.reverse) (fun b ob q => Heap.get?_push_of_some _ q) (Nat.le_refl _) ?_, rfl, q _ (I5.hok.fresh (Nat.le_refl _))⟩
    exact ⟨by rw [List.length_reverse]; exact hz, _, 0, r.reverse, Heap.get?_push_size _ rfl⟩
  · obtain ⟨its, r, ht, hz⟩ := I5.tuple hx
    have hlen := r.length
    refine tail_any (ops := [.ref a, .ref s4.heap.objs.size]) ht.typeIs (PyProof.Rows.slot_tuple_getitem.lookup) ?_ (by with_unfolding_all rfl)
    refine getItem_tuple_back ht (Heap.IsSliceOf.new _ .none .none vs) ps ?_ (by rw [List.size_toArray]; omega)
    refine ⟨.ref _, _, I5.laid (t' := s4.toks) (o := .tup xs.reverse) (fun b ob q => Heap.get?_push_of_some _ q) (Nat.le_refl _) ?_, rfl, q _ (I5.hok.fresh (Nat.le_refl _))⟩
    exact ⟨by rw [List.length_reverse]; exact hz, _, r.reverse, ⟨_, Heap.get?_push_size _ rfl, rfl, 0, rfl⟩⟩
def gRevA : Dv → Option Rt
  | .lst l => nL l.reverse
  | .tup l => vT l.reverse
  | _ => none
theorem pf_revA (hK : X.K = Z.K) (ha : PF Z Ew X e fa) : PF Z Ew X (.Subscript e (.Slice none none (some (.UnaryOp .USub (.Constant (.int 1) k p1) p2)) p3) pos) (fUn gRevA fa) := by
  obtain ⟨ta, h1, h2⟩ := ha.ex
  refine ⟨_, pe_revA h1, fun env σ G α S H Q hd oe w => h2.bind hd oe w fun S2 d x H2 G2 α2 f2 hd2 oe2 ox w2 => ?_⟩
  obtain ⟨G3, α3, S3, u, hd3, hu, w3⟩ := g1_ok hd2 ox w2
  cases u with
  | lst l =>
    obtain ⟨p, xs, rfl, h3, h4⟩ := hu
    exact ⟨p, xs, rfl, .inl ⟨hK ▸ SqL.of h3, fun q hq => wL w3 hd3 h4.rev hq⟩⟩
  | tup l =>
    obtain ⟨p, xs, rfl, h3, h4⟩ := hu
    exact ⟨p, xs, rfl, .inr ⟨hK ▸ SqT.of (hd3.ex _ _ h3), fun q hq => wT w3 hd3 h4.rev hq⟩⟩
  | _ => exact w3.elim
end
end DN
namespace DN
open PySem PySem.Spec PyProof.Rows L2 Evl OP
section
variable {prog : Program} {w : World} {A : Around} {E : Value → Shared → Prop} {s : Shared}
variable {z TI TO i1 i2 : Addr} {fp1 fp2 : List Addr} {n i : Nat} {P1 P2 : Nat → Value → Prop} {St1 St2 : Nat → Heap → Prop}
theorem py_zip_next {Q : Option Value → Shared → Prop} (S : ZipSep2 z TI TO i1 i2 fp1 fp2) (D1 : Draws prog w A.in1 i1 fp1 n P1 St1) (D2 : Draws prog w A.in1 i2 fp2 n P2 St2) (Z : ZipSt z TI TO i1 i2 St1 St2 i s.heap) (hlt : i < n)
    (hQ : ∀ x1 x2 h' tk, P1 i x1 → P2 i x2 → ZipSt z TI TO i1 i2 St1 St2 (i + 1) h' → IsTupOf2 h' s.heap.objs.size x1 x2 → h'.objs.size = s.heap.objs.size + 1 →
      (∀ c o, c ≠ z → c ≠ TO → c ≠ i1 → c ≠ i2 → s.heap.get? c = some o → h'.get? c = some o) → Q (some (.ref s.heap.objs.size)) { s with heap := h', toks := tk }) :
    wpAny (model prog w) A (pyNext (.ref z)) Q E s := by
  obtain ⟨⟨f0, f1, hz, hf⟩, hTI, ⟨a1, a2, hTO⟩, st1, st2⟩ := Z
  have hT : s.TypeIs (.ref z) "zip" := ⟨_, hz, rfl⟩
  unfold pyNext
  refine wpAny_bind (wpAny_attempt (wpAny_callSpecial?_slot (name := Str.ofString "__next__") hT F.slot_zip_next (wpAny_call_entry F.slot_zip_next hT F.entry_zip_next
    (zip_next_any S D1 D2 hz hf hTI hTO st1 st2 hlt fun x1 x2 h' tk g0 g1 b1 b2 y1 y2 c1 c2 c3 c4 c5 c6 c7 c8 => ?_) (F.args_zip_next_1 _))))
  have hTI' : IsTupOf2 h' TI (.ref i1) (.ref i2) := c8 TI _ S.TIz S.TITO S.TIi1 S.TIi2 hTI
  exact wpAny_pure (hQ x1 x2 h' tk y1 y2 ⟨⟨g0, g1, c1, c2⟩, hTI', ⟨b1, b2, c3⟩, c4, c5⟩ c6 c7 c8)
theorem py_zip_end {Q : Option Value → Shared → Prop} (S : ZipSep2 z TI TO i1 i2 fp1 fp2) (D1 : Draws prog w A.in1 i1 fp1 n P1 St1) (Z : ZipSt z TI TO i1 i2 St1 St2 n s.heap)
    (hQ : ∀ h', (∀ c o, c ≠ z → c ≠ i1 → s.heap.get? c = some o → h'.get? c = some o) → Q none { s with heap := h' }) :
    wpAny (model prog w) A (pyNext (.ref z)) Q E s := by
  obtain ⟨⟨f0, f1, hz, hf⟩, hTI, ⟨a1, a2, hTO⟩, st1, st2⟩ := Z
  have hT : s.TypeIs (.ref z) "zip" := ⟨_, hz, rfl⟩
  unfold pyNext
  refine wpAny_bind (wpAny_attempt (wpAny_callSpecial?_slot (name := Str.ofString "__next__") hT F.slot_zip_next
    (wpAny_call_entry F.slot_zip_next hT F.entry_zip_next (zip_end_any S D1 hz hf hTI st1 fun h' e hk he => ?_) (F.args_zip_next_1 _))))
  obtain ⟨o, ho, hc⟩ := he
  refine wpAny_bind (wpAny_isInstance (T := "StopIteration") (b := true) ⟨o, ho, hc⟩ isSubtype_stop ?_)
  exact wpAny_pure (hQ _ hk)
theorem go_zipR {elts : List Expr} {x1} {pos : Pos} {T : Addr} {f0 : Value} {f1 : Bool} {Q : Unit → Shared → Prop} (hz : IsZipR s.heap z TI TO f0 f1) (hf : RawOr f0)
    (hQ : ∀ h' f0', IsZipR h' z TI TO f0' f1 → RawOr f0' → Heap.SameBut z s.heap h' → Q () { s with heap := h' }) :
    wpAny (model prog w) A (letOwnedTupleGo (.Tuple elts x1 pos) (.ref z) (.ref T)) Q E s := by
  unfold letOwnedTupleGo
  refine wpAny_bind (wpAny_load hz ?_)
  show wpAny _ _ (if (["enumerate", "zip", "dict_itemiterator", "dict_reverseitemiterator", "odict_iterator", "itertools.zip_longest", "itertools.pairwise"].contains "zip" &&
      (#[f0, .bool f1, .bool false, .ref TI, .ref TO] : Array Value)[0]? == some (rawInt T)) = true then _ else _) Q E s
  refine wpAny_ite_split (fun _ => ?_) (fun _ => wpAny_pure (hQ _ f0 hz hf (Heap.SameBut.refl _ _)))
  refine wpAny_bind (wpAny_rule ?_)
  show wpAny _ _ (setField (.ref z) 0 .none) Q E s
  exact wpAny_setField_rec hz (by simp) fun h' hz' hs' => hQ h' .none hz' (.inl rfl) hs'
theorem iter_zipR {f0 : Value} {f1 : Bool} {Q : Value → Shared → Prop} (hz : IsZipR s.heap z TI TO f0 f1) (h : Q (.ref z) s) : wpAny (model prog w) A (pyIter (.ref z)) Q E s := by
  have hT : s.TypeIs (.ref z) "zip" := ⟨_, hz, rfl⟩
  refine wpAny_pyIter_slot hT F.slot_zip_iter (wpAny_call_entry F.slot_zip_iter hT F.entry_zip_iter ?_ (F.args_zip_iter_1 _))
  show wpAny _ _ (ret (.ref z)) _ _ s
  exact wpAny_pure ⟨_, rfl, "zip", _, hT, F.slot_zip_next.lookup, h⟩
end
/-- zip(x, y) of two texts of one length -/
def Itzs (x y : Str) : It :=
  ⟨fun i _ => i < x.cps.size,
    fun i H v H' => ∃ T c d, v = .ref T ∧ H T = none ∧ H' = upd H T (.tup [.str ⟨#[c]⟩, .str ⟨#[d]⟩]) ∧ x.cps[i]? = some c ∧ y.cps[i]? = some d,
    fun i _ => i = x.cps.size⟩
theorem turn_zs {P : Program} {w : World} {K : PySem.W.Frag} {elts : List Expr} {kk : Nat} {tpos : Pos} {x y : Str} {t u : Tok} {z TI TO i1 i2 : Addr} (hxy : x.cps.size = y.cps.size) (S : ZipSep2 z TI TO i1 i2 [i1] [i2]) :
    Turn P w K (.Tuple elts kk tpos) (Itzs x y) [z, TI, TO, i1, i2] z
      (fun i h => ZipSt z TI TO i1 i2 (fun i h => h.IsStrIter i1 (strIterType x) x t i) (fun i h => h.IsStrIter i2 (strIterType y) y u i) i h) where
  mem := by simp
  obj := fun i h st c hc => by
    obtain ⟨⟨f0, f1, hz, _⟩, hTI, ⟨a, b, hTO⟩, ⟨o1, e1, _, d1⟩, ⟨o2, e2, _, d2⟩⟩ := st
    have e' : c = z ∨ c = TI ∨ c = TO ∨ c = i1 ∨ c = i2 := by simpa using hc
    rcases e' with q | q | q | q | q
    · rw [q]; exact ⟨_, hz, fun v q => nomatch q⟩
    · rw [q]; exact ⟨_, hTI, fun v q => nomatch q⟩
    · rw [q]; exact ⟨_, hTO, fun v q => nomatch q⟩
    · rw [q]; exact ⟨o1, e1, fun v q => by rw [d1] at q; cases q⟩
    · rw [q]; exact ⟨o2, e2, fun v q => by rw [d2] at q; cases q⟩
  keep := fun i h h' st k => by
    obtain ⟨⟨f0, f1, hz, hf⟩, hTI, ⟨a, b, hTO⟩, h1, h2⟩ := st
    exact ⟨⟨f0, f1, k z (by simp) _ hz, hf⟩, k TI (by simp) _ hTI, ⟨a, b, k TO (by simp) _ hTO⟩, let ⟨o1, e1, r1⟩ := h1; ⟨o1, k i1 (by simp) _ e1, r1⟩, let ⟨o2, e2, r2⟩ := h2; ⟨o2, k i2 (by simp) _ e2, r2⟩⟩
  item := by
    intro X hP hw hK hc i pins s σ H E I hf Z hg
    subst hP hw hK
    have hh : X.A.in1.handled = none := I.ok.hd hc
    have D1 : Draws X.prog X.w X.A.in1 i1 [i1] x.cps.size _ _ := Draws.text hh i1 x t
    have D2 : Draws X.prog X.w X.A.in1 i2 [i2] y.cps.size _ _ := Draws.text hh i2 y u
    rw [← hxy] at D2
    have hlts : ∀ c ∈ [z, TI, TO, i1, i2], c < s.heap.objs.size := fun c hcm => by
      obtain ⟨⟨f0, f1, hz, _⟩, hTI, ⟨a, b, hTO⟩, ⟨o1, e1, _⟩, ⟨o2, e2, _⟩⟩ := Z
      have e' : c = z ∨ c = TI ∨ c = TO ∨ c = i1 ∨ c = i2 := by simpa using hcm
      rcases e' with q | q | q | q | q
      · rw [q]; exact Heap.lt_size hz
      · rw [q]; exact Heap.lt_size hTI
      · rw [q]; exact Heap.lt_size hTO
      · rw [q]; exact Heap.lt_size e1
      · rw [q]; exact Heap.lt_size e2
    refine py_zip_next S D1 D2 Z hg fun x1 x2 h' tk q1 q2 Z' hT hsz hk => ?_
    obtain ⟨c, t1, hc1, rfl⟩ := q1
    obtain ⟨d, t2, hd1, rfl⟩ := q2
    obtain ⟨⟨g0, g1, hz', hf'⟩, hTI', ⟨b1, b2, hTO'⟩, s1', s2'⟩ := Z'
    refine ⟨_, rfl, go_zipR (s := { s with heap := h', toks := tk }) hz' hf' fun h'' g0' hz'' hf'' sb => ?_⟩
    replace sb : Heap.SameBut z h' h'' := sb
    have hzl := hlts z (by simp)
    have n1 : s.heap.objs.size ≠ z := Nat.ne_of_gt hzl
    have hT2 : h''.get? s.heap.objs.size = some { cls := .type "tuple", data := .seq #[.str ⟨#[c]⟩ t1, .str ⟨#[d]⟩ t2] } := sb.extBut _ _ n1 hT
    have hkk : ∀ b o, b ∉ [z, TI, TO, i1, i2] → s.heap.get? b = some o → h''.get? b = some o := fun b o hb q =>
      sb.extBut _ _ (fun r => hb (by simp [r])) (hk b o (fun r => hb (by simp [r])) (fun r => hb (by simp [r])) (fun r => hb (by simp [r])) (fun r => hb (by simp [r])) q)
    have new : ObjOk X.prog X.w (upd H s.heap.objs.size (.tup [.str ⟨#[c]⟩, .str ⟨#[d]⟩])) h'' s.heap.objs.size (.tup [.str ⟨#[c]⟩, .str ⟨#[d]⟩]) :=
      ⟨by show 2 ≤ sizeLine; decide, [.str ⟨#[c]⟩ t1, .str ⟨#[d]⟩ t2], .cons ⟨_, rfl⟩ (.cons ⟨_, rfl⟩ .nil), ⟨_, hT2, rfl, _, rfl⟩⟩
    have I1 : Inv X pins σ (upd H s.heap.objs.size (.tup [.str ⟨#[c]⟩, .str ⟨#[d]⟩])) { s with heap := h'', toks := tk } :=
      I.turnedNew (t' := tk) (ch := [z, TI, TO, i1, i2]) hkk hf (Nat.le_refl _) new
    have Z'' : ZipSt z TI TO i1 i2 (fun i h => h.IsStrIter i1 (strIterType x) x t i) (fun i h => h.IsStrIter i2 (strIterType y) y u i) (i + 1) h'' :=
      ⟨⟨g0', g1, hz'', hf''⟩, sb.extBut _ _ S.TIz hTI', ⟨b1, b2, sb.extBut _ _ S.TOz hTO'⟩, D1.over s1' sb S.zf1, D2.over s2' sb S.zf2⟩
    refine ⟨.ref s.heap.objs.size, _, I1, rfl, ⟨_, c, d, rfl, I.hok.fresh (Nat.le_refl _), rfl, hc1, hd1⟩, Z'', fun b hb => ?_⟩
    rw [upd_ne (Nat.ne_of_lt (hlts b hb))]
    exact (hf b hb).1
  done := by
    intro X hP hw hK hc i pins s σ H E I hf Z hg
    subst hP hw hK
    have hh : X.A.in1.handled = none := I.ok.hd hc
    have D1 : Draws X.prog X.w X.A.in1 i1 [i1] x.cps.size _ _ := Draws.text hh i1 x t
    have hg' : i = x.cps.size := hg
    subst hg'
    refine py_zip_end S D1 Z fun h' hk => ⟨rfl, I.turnedL (t' := s.toks) (ch := [z, TI, TO, i1, i2]) (fun b o hb q => hk b o (fun r => hb (by simp [r])) (fun r => hb (by simp [r])) q) hf⟩
  self := fun A i s Q E st h => by
    obtain ⟨⟨f0, f1, hz, _⟩, _⟩ := st
    exact iter_zipR hz h
/-- zip of two lists, two tuples or two texts of one length -/
def iZipX (K : PySem.W.Frag) (ta : TA) : TI := fun σ H R => ta σ H fun vs H1 => (∃ a b xs ys, vs = [.ref a, .ref b] ∧ SqL K H1 a xs ∧ SqL K H1 b ys ∧ R (Itz K a b) H1) ∨ (∃ a b xs ys, vs = [.ref a, .ref b] ∧ SqT K H1 a xs ∧ SqT K H1 b ys ∧ R (RZ.ItzT K a b) H1) ∨ ∃ x y : Str, vs = [.str x, .str y] ∧ x.cps.size = y.cps.size ∧ R (Itzs x y) H1
theorem pi_zs {X : Cx} {e e2 : Expr} {ta : TA} {p pos tpos : Pos} {elts : List Expr} {kk : Nat} (hg : Gl X "zip") (hm : X.mg "zip" = none) (ha : PA X [e, e2] ta)
    (hs : starEach [e, e2] X.env = (false, eval e X.env) :: starEach [e2] X.env := by rfl) (hpl : (backTo pos (starEach [e2] X.env)).any (·.1) = false := by rfl) :
    PI X (.Tuple elts kk tpos) (.Call (.Name "zip" p) [e, e2] [] pos) (iZipX X.K ta) := by
  refine ⟨fun pins s σ H R I h => ?_⟩
  refine Call_ (ld_blt I hg hm PyProof.Rows.boot_zip (PyProof.Rows.callWith_type1 (thn (ha.run pos pins s σ H _ I h) fun us s1 ⟨vs, H1, I1, r1, q1⟩ => ?_) hs hpl))
  have fresh5 : ∀ c, c ∈ [s1.heap.objs.size + 4, s1.heap.objs.size + 2, s1.heap.objs.size + 3, s1.heap.objs.size, s1.heap.objs.size + 1] → FpOk X pins H1 c := fun c hcm => by
    have hle : s1.heap.objs.size ≤ c := by
      have key : ∀ N c : Nat, c ∈ [N + 4, N + 2, N + 3, N, N + 1] → N ≤ c := fun N c hm => by
        simp at hm
        omega
      exact key _ c hcm
    exact I1.fpOk hle (I1.hok.fresh hle)
  rcases q1 with ⟨a, b, xs, ys, rfl, hqx, hqy, q⟩ | ⟨a, b, xs, ys, rfl, hqx, hqy, q⟩ | ⟨x, y, rfl, hxy, q⟩
  · obtain ⟨u1, u2, rfl, e1, e2⟩ := vals2 r1
    cases e1
    cases e2
    obtain ⟨its, rv, p1, _⟩ := I1.list hqx
    obtain ⟨its2, rv2, p2, _⟩ := I1.list hqy
    refine call_zip_2 p1.isList p2.isList fun h' hz hTI hTO h1 h2 hsz hk => wpAny_pyIter_zip hz ?_
    have I2 : Inv X pins σ H1 { s1 with heap := h' } := I1.kept (t' := s1.toks) hk
    exact ⟨_, _, _, _, H1, rfl, I2, turn_zip (PySem.W.ktu_apart s1.heap.objs.size a b p1.lt p2.lt), ⟨hz, hTI, ⟨_, _, hTO⟩, h1, h2⟩, fresh5, q⟩
  · obtain ⟨u1, u2, rfl, e1, e2⟩ := vals2 r1
    cases e1
    cases e2
    obtain ⟨its, rv, p1, _⟩ := I1.tuple hqx
    obtain ⟨its2, rv2, p2, _⟩ := I1.tuple hqy
    obtain ⟨o1, ho1, _⟩ := id p1
    obtain ⟨o2, ho2, _⟩ := id p2
    refine RZ.call_zipT (show s1.heap.IsTuple a its.toArray from p1) (show s1.heap.IsTuple b its2.toArray from p2) fun h' hz hTI hTO h1 h2 hsz hk => wpAny_pyIter_zip hz ?_
    have I2 : Inv X pins σ H1 { s1 with heap := h' } := I1.kept (t' := s1.toks) hk
    exact ⟨_, _, _, _, H1, rfl, I2, RZ.turn_zipT (PySem.W.ktu_apart s1.heap.objs.size a b (Heap.lt_size ho1) (Heap.lt_size ho2)), ⟨hz, hTI, ⟨_, _, hTO⟩, h1, h2⟩, fresh5, q⟩
  obtain ⟨u1, u2, rfl, ⟨t, rfl⟩, ⟨u, rfl⟩⟩ := vals2 r1
  refine zip_begins2 (begins_text x t) (begins_text y u) trivial trivial fun h' hz hTI hTO h1 h2 hsz hk => ?_
  refine iter_zipR (f0 := .none) (f1 := false) hz ?_
  have I2 : Inv X pins σ H1 { s1 with heap := h' } := I1.kept (t' := s1.toks) hk
  have S : ZipSep2 (s1.heap.objs.size + 4) (s1.heap.objs.size + 2) (s1.heap.objs.size + 3) s1.heap.objs.size (s1.heap.objs.size + 1) [s1.heap.objs.size] [s1.heap.objs.size + 1] :=
    zip_sep2 (N := s1.heap.objs.size) (fp1 := []) (fp2 := []) (fun _ h => nomatch h) (fun _ h => nomatch h)
  refine ⟨s1.heap.objs.size + 4, [s1.heap.objs.size + 4, s1.heap.objs.size + 2, s1.heap.objs.size + 3, s1.heap.objs.size, s1.heap.objs.size + 1], _, _, H1, rfl, I2, turn_zs (t := t) (u := u) hxy S,
    ⟨⟨_, _, hz, .inl rfl⟩, hTI, ⟨_, _, hTO⟩, ⟨_, h1, rfl, rfl⟩, ⟨_, h2, rfl, rfl⟩⟩, fresh5, q⟩
section
variable {Z : Zx} {X : Cx} {Ew : L2.St → XK} {S : Sto} {G H : Hp} {α : List Addr} {Q : VK} {E : XK} {a b : Expr} {fl : FA} {elts : List Expr} {kk : Nat} {p pos tpos : Pos}
def itZipX (S : Sto) (l : List Vr) : R Its := match l with
  | [.d (.str x), .d (.str y)] => if x.cps.size = y.cps.size then .ok S (zipD (x.cps.toList.map fun c => .str ⟨#[c]⟩) (y.cps.toList.map fun c => .str ⟨#[c]⟩), none) else .no
  | _ => itZip S l
def iZipXD (fa : FA) : FI := fun env S => (fa env S).bind fun S1 l => itZipX S1 l
theorem gz_zs {x y : Str} {G2 : Hp} {α2 : List Addr} (hl : x.cps.size = y.cps.size) : Gz Z (Itzs x y) G2 α2 (zipD (x.cps.toList.map fun c => .str ⟨#[c]⟩) (y.cps.toList.map fun c => .str ⟨#[c]⟩), none) := by
  have hl2 : (zipD (x.cps.toList.map fun c => Dv.str ⟨#[c]⟩) (y.cps.toList.map fun c => .str ⟨#[c]⟩)).length = x.cps.size := by rw [zip_len, List.length_map, Array.length_toList, List.length_map, Array.length_toList, hl, Nat.min_self]
  refine ⟨fun i G' H hi ok => ?_, fun G' H ok => hl2, fun i G' H v H' hi ok y0 => ?_⟩
  · have hi : i < (zipD (x.cps.toList.map fun c => Dv.str ⟨#[c]⟩) (y.cps.toList.map fun c => .str ⟨#[c]⟩)).length := hi
    show i < x.cps.size
    omega
  · obtain ⟨T, c, d, rfl, hT, rfl, e1, e2⟩ := y0
    have g1 : (x.cps.toList.map fun c => Dv.str ⟨#[c]⟩)[i]? = some (.str ⟨#[c]⟩) := by rw [List.getElem?_map, Array.getElem?_toList, e1]; rfl
    have g2 : (y.cps.toList.map fun c => Dv.str ⟨#[c]⟩)[i]? = some (.str ⟨#[d]⟩) := by rw [List.getElem?_map, Array.getElem?_toList, e2]; rfl
    exact ⟨_, zip_at g1 g2, y_pair hT (by unfold On; rfl) (by unfold On; rfl)⟩
theorem zipX_cases {l : List Vr} {P : Pst Its} {E : XK} (w : Wk Z (itZipX S l) G α H P E) : (∃ x y : Str, l = [.d (.str x), .d (.str y)] ∧ x.cps.size = y.cps.size ∧ Wk Z (.ok S (zipD (x.cps.toList.map fun c => Dv.str ⟨#[c]⟩) (y.cps.toList.map fun c => .str ⟨#[c]⟩), none)) G α H P E) ∨ Wk Z (itZip S l) G α H P E := by
  unfold itZipX at w
  split at w
  · rename_i x y
    by_cases h : x.cps.size = y.cps.size
    · rw [if_pos h] at w; exact .inl ⟨x, y, rfl, h, w⟩
    · rw [if_neg h] at w; exact w.elim
  · exact .inr w
theorem pif_zipX (hK : X.K = Z.K) (hg : Gl X "zip") (hm : X.mg "zip" = none) (ha : PAF Z Ew X [a, b] fl)
    (hs : starEach [a, b] X.env = (false, eval a X.env) :: starEach [b] X.env := by rfl) (hpl : (backTo pos (starEach [b] X.env)).any (·.1) = false := by rfl) : PIF Z Ew X (.Tuple elts kk tpos) (.Call (.Name "zip" p) [a, b] [] pos) (iZipXD fl) := by
  obtain ⟨ta, h1, h2⟩ := ha.ex
  refine ⟨_, pi_zs hg hm h1 hs hpl, fun env σ G α S H R' hd oe w => h2.bind hd oe w fun S2 l vs H2 G2 α2 f2 hd2 oe2 ol w2 => ?_⟩
  rcases zipX_cases w2 with ⟨x, y, rfl, hl, w3⟩ | w2
  · obtain ⟨y1, ys, rfl, o1, z, zs, rfl, o2, o3⟩ := ol
    cases (show zs = [] from o3)
    have o1 : On Z G2 (.str x) y1 := o1
    have o2 : On Z G2 (.str y) z := o2
    unfold On at o1 o2
    subst o1 o2
    exact .inr (.inr ⟨x, y, rfl, hl, w3 H2 G2 α2 (Fr.refl _ _ _) hd2 _ (gz_zs hl)⟩)
  obtain ⟨c, d, e, w3⟩ := zip_cases w2
  rcases e with rfl | rfl
  · obtain ⟨y, ys, rfl, o1, z, zs, rfl, o2, o3⟩ := ol
    cases (show zs = [] from o3)
    have o1 : On Z G2 (.lst c) y := o1
    have o2 : On Z G2 (.lst d) z := o2
    unfold On at o1 o2
    obtain ⟨a1, xs, rfl, e1, e2⟩ := o1
    obtain ⟨a2, ys, rfl, e3, e4⟩ := o2
    exact .inl ⟨a1, a2, xs, ys, rfl, SqL.of (hd2.ex _ _ e1), SqL.of (hd2.ex _ _ e3), w3 H2 G2 α2 (Fr.refl _ _ _) hd2 _ (gz_zip e1 e2 e3 e4)⟩
  · obtain ⟨y, ys, rfl, o1, z, zs, rfl, o2, o3⟩ := ol
    cases (show zs = [] from o3)
    have o1 : On Z G2 (.tup c) y := o1
    have o2 : On Z G2 (.tup d) z := o2
    unfold On at o1 o2
    obtain ⟨a1, xs, rfl, e1, e2⟩ := o1
    obtain ⟨a2, ys, rfl, e3, e4⟩ := o2
    exact .inr (.inl ⟨a1, a2, xs, ys, rfl, SqT.of (hd2.ex _ _ e1), SqT.of (hd2.ex _ _ e3), w3 H2 G2 α2 (Fr.refl _ _ _) hd2 _ (gz_zipT e1 e2 e3 e4)⟩)
end
end DN
namespace DN
open PySem PySem.Spec PyProof.Rows L2
/-- a clause: its class, the slot of its name, its suite -/
abbrev ClA := Value × Option Nat × (Addr → Value → Option Addr → TS)
/-- the clause's name -/
inductive NameA (X : Cx) : Option Str → Option Nat → Prop
  | no : NameA X none none
  | as {n : Str} {i : Nat} (hi : X.N[i]? = some n) (hln : X.env.kindOf n = some .local) : NameA X (some n) (some i)
inductive HdsA (X : Cx) : List ExceptHandler → List ClA → Prop
  | nil : HdsA X [] []
  | cons {x : Str} {c : Value} {nm : Option Str} {o : Option Nat} {ts : Addr → Value → Option Addr → TS} {b₀ : Stmt} {suite : List Stmt} {np pos' : Pos} {hds : List ExceptHandler} {l : List ClA} (hc : Names X x c) (hn : NameA X nm o)
      (hsu : ∀ (a : Addr) (oe : Obj) (cls : Value) (d : Option Addr) (pn : List (Addr × Obj)), L2N.Zn cls d oe → (∃ vs, oe.data = .fields vs) → PSs (X.suite a ((a, oe) :: pn)) (b₀ :: suite) (ts a cls d)) (r : HdsA X hds l) :
      HdsA X (.ExceptHandler (some (.Name x np)) nm (b₀ :: suite) pos' :: hds) ((c, o, ts) :: l)
end DN
namespace DN
open PySem PySem.Spec PyProof.Rows L2 Evl
end DN
namespace DN
open PySem PySem.Spec PyProof.Rows L2 Evl
section
variable {Z : Zx} {W : WX} {X : Cx} {S : Sto} {G H : Hp} {α : List Addr} {e : Expr} {fe : FE} {pos pos' p : Pos} {env : Env} {σ : L2.St} {D : Ends}
/-- in a suite nothing is raised -/
abbrev W0 : WX := fun _ _ _ _ => False
abbrev Zx.at (Z : Zx) (a : Addr) (cls : Value) (d : Option Addr) : Zx := ⟨Z.toZt, some (a, cls, d), Z.cl⟩
theorem AllC.imp {P Q : String → Prop} (h : ∀ c, P c → Q c) : ∀ {cs : List String}, AllC P cs → AllC Q cs
  | [], _ => trivial
  | _ :: _, ⟨h1, h2⟩ => ⟨h _ h1, AllC.imp h h2⟩
abbrev Cl := String × Option Nat × FS
inductive HdF (Z : Zx) (X : Cx) : List ExceptHandler → List Cl → Prop
  | nil : HdF Z X [] []
  | cons {x : Str} {c : String} {nm : Option Str} {o : Option Nat} {f : FS} {b₀ : Stmt} {suite : List Stmt} {np pos' : Pos} {hds : List ExceptHandler} {l : List Cl} (hc : Names X x (.ref (Z.cm c))) (hn : NameA X nm o)
      (hsu : ∀ (a : Addr) (oe : Obj) (cls : Value) (d : Option Addr) (pn : List (Addr × Obj)), L2N.Zn cls d oe → (∃ vs, oe.data = .fields vs) → PSsF (Z.at a cls d) W0 (X.suite a ((a, oe) :: pn)) (b₀ :: suite) f) (r : HdF Z X hds l) :
      HdF Z X (.ExceptHandler (some (.Name x np)) nm (b₀ :: suite) pos' :: hds) ((c, o, f) :: l)
abbrev clA (Z : Zx) (k : Cl) : ClA := (.ref (Z.cm k.1), k.2.1, fun a cls d => tS (Z.at a cls d) W0 k.2.2)
theorem HdF.a : ∀ {hds : List ExceptHandler} {l : List Cl}, HdF Z X hds l → HdsA X hds (l.map (clA Z))
  | _, _, .nil => .nil
  | _, _, .cons hc hn hsu r => .cons hc hn (fun a oe cls d pn h1 h2 => (hsu a oe cls d pn h1 h2).ps) r.a
end
end DN
namespace DN
open PySem PySem.Spec PyProof.Rows L2 Evl
end DN
namespace DN
open PySem PySem.Spec PyProof.Rows L2 Evl
end DN
namespace PySem
open Sem (wp)
open AutoSeq1 (wpAny_loadPart')
theorem meets_enumerate_newT (l : Addr) (items : Array Value) (n : Nat) (dct : Option Addr) (sl : Array (Option Value)) :
    Meets (Builtin.«enumerate.__new__» ⟨[.type "enumerate", .ref l], []⟩) (fun _ R s => s.heap.get? l = some { cls := .type "tuple", dict := dct, data := .seq items n, slots := sl } ∧
      R (.ok (.ret (.ref (s.heap.push { cls := .type "tuple_iterator", data := .fields #[.ref l, .int 0 0] }).objs.size)))
        { s with heap := (s.heap.push { cls := .type "tuple_iterator", data := .fields #[.ref l, .int 0 0] }).push { cls := .type "enumerate", data := .fields #[.none, .bool false, .ref s.heap.objs.size, rawInt 0, .none, .none] } }) :=
  .of_wp fun prog w A R s h => by
    obtain ⟨hp, g, d, tk, os⟩ := s; obtain ⟨hl, h⟩ := h
    have hsub := sub_enumerate
    have hL : Heap.IsTuple (Shared.heap ⟨hp, g, d, tk, os⟩) l items := ⟨_, hl, rfl, n, rfl⟩
    wp_walk using wpAny_loadPart' hl
    refine wpAny_stack_any fun st => wpAny_pure ?_
    split
    · rename_i c _ _ _ _ _
      cases (c == Value.type "enumerate")
      · wp_walk using wpAny_loadPart' hl, wpAny_pyIter_tuple hL
        exact ⟨_, rfl, h⟩
      · wp_walk using wpAny_loadPart' hl, wpAny_pyIter_tuple hL
        exact ⟨_, rfl, h⟩
    · wp_walk using wpAny_loadPart' hl, wpAny_pyIter_tuple hL
      exact ⟨_, rfl, h⟩
section
variable {prog : Program} {w : World} {A : Around} {E : Value → Shared → Prop} {s : Shared}
theorem call_enumerate_tuple {l : Addr} {items : Array Value} {Q : Value → Shared → Prop} (hL : s.heap.IsTuple l items)
    (h : ∀ h', IsEnum h' (s.heap.objs.size + 1) s.heap.objs.size 0 .none → h'.IsTupleIter s.heap.objs.size l 0 → h'.objs.size = s.heap.objs.size + 2 →
      (∀ b o, s.heap.get? b = some o → h'.get? b = some o) → Q (.ref (s.heap.objs.size + 1)) { s with heap := h' }) :
    wpAny (model prog w) A (call (.type "enumerate") [.ref l]) Q E s := by
  obtain ⟨⟨c, dct, dt, sl⟩, hl, hc, n, hd⟩ := hL
  replace hc : c = .type "tuple" := hc
  replace hd : dt = .seq items n := hd
  subst hc hd
  refine callType_new F.called_enumerate (by decide) (F.typeCall_enumerate_1 _) (F.newCall_enumerate_1 _) (fun obj => F.args_object_init_2 obj _) F.entry_enumerate_new
    (meets_enumerate_newT l items n dct sl) ⟨hl, ?_⟩
  have hz : (s.heap.push { cls := .type "tuple_iterator", data := .fields #[.ref l, .int 0 0] }).objs.size = s.heap.objs.size + 1 := Heap.size_push ..
  show _ ∧ _
  rw [hz]
  have he : IsEnum ((s.heap.push { cls := .type "tuple_iterator", data := .fields #[.ref l, .int 0 0] }).push
      { cls := .type "enumerate", data := .fields #[.none, .bool false, .ref s.heap.objs.size, rawInt 0, .none, .none] }) (s.heap.objs.size + 1) s.heap.objs.size 0 .none := by
    have := Heap.get?_push_size (s.heap.push { cls := .type "tuple_iterator", data := .fields #[.ref l, .int 0 0] })
      (o := { cls := .type "enumerate", data := .fields #[.none, .bool false, .ref s.heap.objs.size, rawInt 0, .none, .none] }) rfl
    rw [hz] at this; exact this
  refine ⟨⟨_, he, rfl⟩, h _ he ⟨_, Heap.get?_push_of_some _ (Heap.get?_push_size _ rfl), rfl, rfl⟩ (by rw [Heap.size_push, hz]) fun b o x => Heap.get?_push_of_some _ (Heap.get?_push_of_some _ x)⟩
end
end PySem
namespace OP
open PySem PySem.Spec PyProof.Rows L2 Evl
/-- enumerate(tuple): the i-th turn gives a new pair of i and the item -/
def Itet (K : PySem.W.Frag) (a : Addr) : It :=
  ⟨fun i H => ∃ (xs : List V) (x : V), SqT K H a xs ∧ xs[i]? = some x, fun i H v H' => ∃ T x, v = .ref T ∧ H T = none ∧ H' = upd H T (.tup [.int (i : Nat), x]) ∧ ∀ xs, SqT K H a xs → xs[i]? = some x, fun i H => ∃ xs : List V, SqT K H a xs ∧ xs.length = i⟩
theorem turn_et {P : Program} {w : World} {K : PySem.W.Frag} {elts : List Expr} {kk : Nat} {tpos : Pos} {a e it : Addr} (hne : e ≠ it) (h1 : a ≠ it) (h2 : e ≠ a) :
    Turn P w K (.Tuple elts kk tpos) (Itet K a) [e, it] e (fun i h => (∃ old, IsEnum h e it i old) ∧ h.IsTupleIter it a i) where
  mem := by simp
  obj := fun i h st b hb => by
    obtain ⟨⟨old, he⟩, o, ho, hc, hd⟩ := st
    have e' : b = e ∨ b = it := by simpa using hb
    rcases e' with z | z
    · rw [z]; exact ⟨_, he, fun v q => nomatch q⟩
    · rw [z]; exact ⟨o, ho, fun v q => by rw [hd] at q; cases q⟩
  keep := fun i h h' st k => let ⟨⟨old, he⟩, o, ho, r⟩ := st; ⟨⟨old, k e (by simp) _ he⟩, o, k it (by simp) _ ho, r⟩
  item := by
    intro X hP hw hK hc i pins s σ H E I hf st hg
    subst hP hw hK
    obtain ⟨⟨old, he⟩, hit⟩ := st
    obtain ⟨xs, x, hq, hx⟩ := hg
    obtain ⟨its, rv, p, hz⟩ := I.tuple hq
    obtain ⟨u, hu, ru⟩ := rv.get hx
    have hh : X.A.in1.handled = none := I.ok.hd hc
    have D1 := Draws.tuple (prog := X.prog) (w := X.w) (A := X.A.in1.in1) hh it a h1 its.toArray
    have hel : e < s.heap.objs.size := Heap.lt_size he
    have hil : it < s.heap.objs.size := by obtain ⟨_, q, _⟩ := hit; exact Heap.lt_size q
    have hi : i < its.toArray.size := by
      have := (List.getElem?_eq_some_iff.mp hu).1
      simpa using this
    refine wpAny_pyNext_enum_itemD (Draws.of_in1 D1) he ⟨hit, p⟩ hi hne (by simp [hne, h2]) fun v h' tk hP ho hit' hT hsz hk => ?_
    have hv : v = u := by
      have : its.toArray[i]? = some v := hP
      rw [List.getElem?_toArray, hu] at this
      cases this
      rfl
    subst hv
    refine ⟨_, rfl, wpAny_letOwnedTupleGo_enum (s := { s with heap := h', toks := tk + 1 }) ho fun h'' he' sb => ?_⟩
    have hT2 : h''.get? s.heap.objs.size = some { cls := .type "tuple", data := .seq #[.int i tk, v] } := (sb.2 _ (Nat.ne_of_gt hel)).trans hT
    have new : ObjOk X.prog X.w (upd H s.heap.objs.size (.tup [.int (i : Nat), x])) h'' s.heap.objs.size (.tup [.int (i : Nat), x]) :=
      ⟨by show 2 ≤ sizeLine; decide, [.int i tk, v], .cons ⟨_, rfl⟩ (.cons ru .nil), ⟨_, hT2, rfl, _, rfl⟩⟩
    have I1 : Inv X pins σ (upd H s.heap.objs.size (.tup [.int (i : Nat), x])) { s with heap := h'', toks := tk + 1 } :=
      I.turnedNew (ch := [e, it]) (fun b ob hb q => (sb.2 b (fun z => hb (by simp [z]))).trans (hk b ob (fun z => hb (by simp [z])) (fun z => hb (by simp [z])) q)) hf (Nat.le_refl _) new
    refine ⟨.ref s.heap.objs.size, _, I1, rfl, ⟨_, x, rfl, I.hok.fresh (Nat.le_refl _), rfl, fun ys hy => by rw [I.tuple_inj hy hq]; exact hx⟩, ⟨⟨v, ?_⟩, hit'.1.at fun o q => (sb.2 it (Ne.symm hne)).trans q⟩, fun b hb => ?_⟩
    · have e1 : ((i + 1 : Nat) : Int) = (i : Int) + 1 := by omega
      rw [e1]; exact he'
    · have hb' : b < s.heap.objs.size := by
        have e' : b = e ∨ b = it := by simpa using hb
        rcases e' with z | z
        · rw [z]; exact hel
        · rw [z]; exact hil
      rw [upd_ne (Nat.ne_of_lt hb')]
      exact (hf b hb).1
  done := by
    intro X hP hw hK hc i pins s σ H E I hf st hg
    subst hP hw hK
    obtain ⟨⟨old, he⟩, hit⟩ := st
    obtain ⟨xs, hq, hx⟩ := hg
    obtain ⟨its, rv, p, hz⟩ := I.tuple hq
    have hh : X.A.in1.handled = none := I.ok.hd hc
    have D1 := Draws.tuple (prog := X.prog) (w := X.w) (A := X.A.in1.in1) hh it a h1 its.toArray
    have hi : i = its.toArray.size := by rw [← hx, rv.length]; simp
    subst hi
    obtain ⟨f0, f1, f2, f3, f4, f5⟩ := hf it (by simp)
    exact wpAny_pyNext_enum_endD (Draws.of_in1 D1) he ⟨hit, p⟩ fun h' eb => ⟨rfl, I.turned (t' := s.toks) (fun b o hb q => eb b o hb q) f0 f1 f3 f4 f5⟩
  self := fun A i s Q E st h => let ⟨⟨_, he⟩, _⟩ := st; wpAny_pyIter_enum he h
def iEt (K : PySem.W.Frag) (te : TE) : TI := fun σ H R => te σ H fun v H1 => ∃ a xs, v = .ref a ∧ SqT K H1 a xs ∧ R (Itet K a) H1
theorem pi_enumT {X : Cx} {e : Expr} {te : TE} {p pos tpos : Pos} {elts : List Expr} {kk : Nat} (hg : Gl X "enumerate") (hm : X.mg "enumerate" = none) (ha : PE X e te) (hs : starEach [e] X.env = [(false, eval e X.env)] := by rfl) :
    PI X (.Tuple elts kk tpos) (.Call (.Name "enumerate" p) [e] [] pos) (iEt X.K te) := by
  refine ⟨fun pins s σ H R I h => ?_⟩
  refine Call_ (ld_blt I hg hm boot_enumerate (PyProof.Rows.callWith_type1 ?_ hs rfl))
  rw [hs]
  show wpAny _ _ (spliced [(false, eval e X.env)]) _ _ s
  refine Calls.spliced_cons (thn (ha.run pins s σ H _ I h) fun u s1 ⟨v, H1, I1, r1, a, xs, ev, hq, q⟩ => Calls.spliced_nil ?_)
  subst ev
  cases r1
  obtain ⟨its, rv, p', hz⟩ := I1.tuple hq
  have ha : a < s1.heap.objs.size := by obtain ⟨o, ho, _⟩ := p'; exact Heap.lt_size ho
  refine call_enumerate_tuple p' fun h' he hit hsz hk => wpAny_pyIter_enum he ?_
  have I2 : Inv X pins σ H1 { s1 with heap := h' } := I1.kept (t' := s1.toks) hk
  refine ⟨s1.heap.objs.size + 1, [s1.heap.objs.size + 1, s1.heap.objs.size], _, _, H1, rfl, I2, turn_et (Nat.succ_ne_self _) (Nat.ne_of_lt ha) (Nat.ne_of_gt (Nat.lt_succ_of_lt ha)), ⟨⟨.none, he⟩, hit⟩, fun b hb => ?_, q⟩
  have e' : b = s1.heap.objs.size + 1 ∨ b = s1.heap.objs.size := by simpa using hb
  have hle : s1.heap.objs.size ≤ b := by
    rcases e' with z | z
    · rw [z]; exact Nat.le_add_right _ _
    · rw [z]; exact Nat.le_refl _
  exact I1.fpOk hle (I1.hok.fresh hle)
end OP
namespace DN
open PySem PySem.Spec PyProof.Rows L2 Evl
section
variable {Z : Zx} {X : Cx} {Ew : L2.St → XK} {a : Expr} {fa : FE} {p pos tpos : Pos} {elts : List Expr} {kk : Nat}
def itEnumT (S : Sto) (a : Vr) : R Its := match a with
  | .d (.tup l) => .ok S (enumD l, none)
  | .d (.ktp l) => .ok S (enumD l, none)
  | _ => .no
def iEnumT (fa : FE) : FI := fun env S => (fa env S).bindV fun S1 a => itEnumT S1 a
theorem gz_enumT {K : PySem.W.Frag} {a : Addr} {l : List Dv} {xs : List V} {G2 : Hp} {α2 : List Addr} (h1 : ∀ H, Ex G2 H → SqT K H a xs) (h2 : OnL Z G2 l xs) : Gz Z (OP.Itet K a) G2 α2 (enumD l, none) := by
  have sq : ∀ {G' H}, OkI Z G2 α2 (enumD l, none) G' H → SqT K H a xs := fun ok => h1 _ (ok.1.trans ok.2.1)
  refine ⟨fun i G' H hi ok => ?_, fun G' H ok => ⟨xs, sq ok, by rw [h2.len, enum_len]⟩, fun i G' H x H' hi ok y => ?_⟩
  · have hi : i < xs.length := by rw [h2.len]; rw [enum_len] at hi; exact hi
    exact ⟨xs, xs[i], sq ok, List.getElem?_eq_getElem hi⟩
  · obtain ⟨T, x', rfl, hT, rfl, h4⟩ := y
    obtain ⟨d, e, o⟩ := h2.got (h4 xs (sq ok))
    exact ⟨_, enum_at e, y_pair hT on_int (o.up ok.1)⟩
theorem pi_enumDT (hK : X.K = Z.K) (hg : Gl X "enumerate") (hm : X.mg "enumerate" = none) (h : PF Z Ew X a fa) (hs : starEach [a] X.env = [(false, eval a X.env)] := by rfl) : PIF Z Ew X (.Tuple elts kk tpos) (.Call (.Name "enumerate" p) [a] [] pos) (iEnumT fa) := by
  obtain ⟨te, h1, h2⟩ := h.ex
  refine ⟨_, OP.pi_enumT hg hm h1 hs, fun env σ G α S H R' hd oe w => ?_⟩
  refine h2.bind hd oe w fun S2 d x H2 G2 α2 f2 hd2 oe2 ox w2 => ?_
  cases d with
  | r n => exact w2.elim
  | d d =>
    cases d with
    | tup l =>
      have ox : On Z G2 (.tup l) x := ox
      unfold On at ox
      obtain ⟨a, xs, rfl, e1, e2⟩ := ox
      exact ⟨a, xs, rfl, SqT.of (hd2.ex _ _ e1), w2 H2 G2 α2 (Fr.refl _ _ _) hd2 _ (gz_enumT (fun H e => SqT.of (e _ _ e1)) e2)⟩
    | ktp l =>
      have ox : On Z G2 (.ktp l) x := ox
      unfold On at ox
      obtain ⟨a, xs, rfl, e1, e2⟩ := ox
      exact ⟨a, xs, rfl, hK ▸ e1.sq hd2.ex, w2 H2 G2 α2 (Fr.refl _ _ _) hd2 _ (gz_enumT (fun H e => hK ▸ e1.sq e) e2)⟩
    | _ => exact w2.elim
def TupN (K : PySem.W.Frag) (x : V) (H : Hp) : Prop := ∃ a o, x = .ref a ∧ o.cls = .type "tuple" ∧ o.dict = none ∧ (K.lookup a = some o ∨ ∃ xs, H a = some (.frz o (.tup xs)))
def tBMT (K : PySem.W.Frag) (r : V → List V → Hp → VK → Prop) (to : TE) (t : TA) : TE := fun σ H Q => to σ H fun x H1 => TupN K x H1 ∧ t σ H1 fun xs H2 => r x xs H2 Q
theorem TupN.is {pins : List (Addr × Obj)} {σ : L2.St} {H : Hp} {s : Shared} {x : V} {v : Value} (I : L2.Inv X pins σ H s) (r : RelV x v) (ty : TupN X.K x H) : s.TypeIs v "tuple" ∧ ∀ a, v = .ref a → ∃ ob, s.heap.get? a = some ob ∧ ob.dict = none := by
  obtain ⟨a, o, rfl, h1, h2, h3⟩ := ty
  cases r
  have hg : s.heap.get? a = some o := by
    rcases h3 with h3 | ⟨xs, h3⟩
    · exact I.kIn a o h3
    · exact (I.hok a _ h3).1
  refine ⟨⟨o, hg, h1⟩, fun b e => ?_⟩
  cases e
  exact ⟨o, hg, h2⟩
section
variable {o e : Expr} {es : List Expr} {to : TE} {t : TA} {name : Str} {apos cpos : Pos} {id : String} {r : V → List V → Hp → VK → Prop}
theorem pe_bmT (pa : PlainAttrs "tuple") (slot : Slot "tuple" name id) (hty : typeOf (.builtin id) = pure (.type "method_descriptor")) (hm : MtR X id r) (ho : PE X o to) (ha : PA X (e :: es) t)
    (hbase : attributeBase o name X.env (eval o X.env) = eval o X.env := by rfl)
    (hfew : ((backTo cpos (starEach (e :: es) X.env)).all (fun x => !x.1) && (backToKw cpos (keywordEach [] X.env)).all (fun x => x.1.isSome) && decide ((e :: es).length + ([] : List Keyword).length + (if ([] : List Keyword).isEmpty then 0 else 1) < 30)) = true := by rfl)
    (hline : (apos.endLine == cpos.line) = true := by rfl) (hs : starEach (e :: es) X.env = (false, eval e X.env) :: starEach es X.env := by rfl) (hplain : (backTo cpos (starEach es X.env)).any (·.1) = false := by rfl) :
    PE X (.Call (.Attribute o name apos) (e :: es) [] cpos) (tBMT X.K r to t) := by
  refine ⟨fun pins s σ H Q I h => ?_⟩
  refine wpAny_Call_method_late hbase hfew hline rfl (thn (ho.run pins s σ H _ I h) fun v s1 ⟨x, H1, I1, r1, ty, q1⟩ => ?_)
  obtain ⟨h1, h2⟩ := TupN.is I1 r1 ty
  refine ⟨"tuple", id, pa, slot, hty, h1, h2, ?_⟩
  have hA := ha.run cpos pins s1 σ H1 _ I1 q1
  rw [hs] at hA ⊢
  refine Calls.callWith_builtin (by show (false || (backTo cpos (starEach es X.env)).any (·.1)) = false; rw [hplain] <;> rfl) (Calls.evalArgs_plain ?_)
  exact thn hA fun us s2 ⟨vs, H2, I2, r2, q2⟩ => hm pins s2 σ H2 x vs v us Q I2 r1 r2 q2
end
def onTT {β : Type} (S : Sto) (a : Vr) (r : R β) : R β := match a with
  | .d (.ktp _) => r
  | _ => .no
def fMethT (g : Dv → List Dv → Option Rt) (fo : FE) (fa : FA) : FE := fun env S => (fo env S).bindV fun S1 a => onTT S1 a ((fa env S1).bind fun S2 l => gM S2 a l g)
theorem onTT_ok {β : Type} {G H : Hp} {α : List Addr} {S : Sto} {E : XK} {a : Vr} {x : V} {r : R β} {P : Pst β} (hd : Hd Z G α S H) (ox : OnR Z G α a x) (w : Wk Z (onTT S a r) G α H P E) : TupN Z.K x H ∧ Wk Z r G α H P E := by
  cases a with
  | r n => exact w.elim
  | d d =>
    cases d with
    | ktp l =>
      have ox : On Z G (.ktp l) x := ox
      unfold On at ox
      obtain ⟨b, xs, rfl, h1, h2⟩ := ox
      rcases h1 with ⟨_, o, q1, q2, q3⟩ | ⟨o, q1, q2, q3⟩
      · exact ⟨⟨b, o, rfl, q2, q3, .inl q1⟩, w⟩
      · exact ⟨⟨b, o, rfl, q1, q2, .inr ⟨xs, hd.ex _ _ q3⟩⟩, w⟩
    | _ => exact w.elim
section
variable {name : Str} {id : String} {o e : Expr} {es : List Expr} {apos cpos : Pos} {fo : FE} {fa2 : FA}
theorem pf_methT {g : Dv → List Dv → Option Rt} (hm : MtR X id (rM Z g)) (pa : PlainAttrs "tuple") (slot : Slot "tuple" name id) (hty : typeOf (.builtin id) = pure (.type "method_descriptor")) (hK : X.K = Z.K) (ho : PF Z Ew X o fo) (ha : PAF Z Ew X (e :: es) fa2)
    (hbase : attributeBase o name X.env (eval o X.env) = eval o X.env := by rfl)
    (hfew : ((backTo cpos (starEach (e :: es) X.env)).all (fun x => !x.1) && (backToKw cpos (keywordEach [] X.env)).all (fun x => x.1.isSome) && decide ((e :: es).length + ([] : List Keyword).length + (if ([] : List Keyword).isEmpty then 0 else 1) < 30)) = true := by rfl)
    (hline : (apos.endLine == cpos.line) = true := by rfl) (hst : starEach (e :: es) X.env = (false, eval e X.env) :: starEach es X.env := by rfl) (hpl : (backTo cpos (starEach es X.env)).any (·.1) = false := by rfl) :
    PF Z Ew X (.Call (.Attribute o name apos) (e :: es) [] cpos) (fMethT g fo fa2) := by
  obtain ⟨to, h1, h2⟩ := ho.ex
  obtain ⟨ta, h3, h4⟩ := ha.ex
  refine ⟨_, pe_bmT pa slot hty hm h1 h3 hbase hfew hline hst hpl, fun env σ G α S H Q hd oe w => ?_⟩
  exact h2.bind hd oe w fun S2 a x H2 G2 α2 f2 hd2 oe2 ox w2 => by
    obtain ⟨t, w3⟩ := onTT_ok hd2 ox w2
    exact ⟨hK ▸ t, h4.bind hd2 oe2 w3 fun S3 l vs H3 G3 α3 f3 hd3 oe3 ol w4 => gM_ok hd3 (ox.up f3.g f3.a) ol w4⟩
end
def gTupleK : List Dv → Option Rt := arg1 fun d => match d with
  | .lst l => vD (.ktp l)
  | _ => none
theorem cd_tupleK (hK : X.K = Z.K) : CallR X (.type "tuple") (rA Z gTupleK) := by
  intro pins s σ H xs us Q I r h
  obtain ⟨G, α, S, l, hd, hl, w⟩ := h
  obtain ⟨x, y, rfl, hx, w⟩ := arg1_ok hl w
  cases x with
  | lst l =>
    have w' : Wk Z (R.of S (vD (.ktp l))) G α H (pRt Z Q) E0 := w
    obtain ⟨a, xs, rfl, h1, h2⟩ := hx
    obtain ⟨u, rfl, rx⟩ := vals1 r
    cases rx
    obtain ⟨its, r', pl, hz⟩ := I.list (SqL.of h1)
    have hlen := r'.length
    refine call_tuple_list pl.isList (fun h' kp => ?_) (by simp only [List.size_toArray] <;> omega)
    have I1 : Inv X pins σ H { s with heap := h' } := I.kept (t' := s.toks) kp
    have hp : H h'.objs.size = none := I1.hok.fresh (Nat.le_refl _)
    have I2 : Inv X pins σ (upd H h'.objs.size (.frz { cls := .type "tuple", data := .seq its.toArray } (.tup xs))) { s with heap := h'.push { cls := .type "tuple", data := .seq its.toArray } } :=
      I1.laid (t' := s.toks) (fun b o e => Heap.get?_push_of_some _ e) (Nat.le_refl _) (show ObjOk X.prog X.w _ _ _ (.frz _ (.tup xs)) from ⟨Heap.get?_push_size _ rfl, hz, its, r', IsTup.new _ _⟩)
    obtain ⟨h3, f3⟩ := hd.know (o := .frz { cls := .type "tuple", data := .seq its.toArray } (.tup xs)) hp
    refine ⟨.ref h'.objs.size, _, I2, rfl, w' _ _ _ f3 h3 _ ?_⟩
    show On _ _ _ _
    unfold On
    exact ⟨_, xs, rfl, .inr ⟨_, rfl, rfl, upd_same⟩, h2.up f3.g⟩
  | _ => exact w.elim
end
end DN
namespace DN
open PySem PySem.Spec PyProof.Rows L2 Evl
end DN
namespace DN
open PySem PySem.Spec PyProof.Rows L2 Evl OP
section
variable {Z : Zx} {X : Cx} {Ew : L2.St → XK} {S : Sto} {G H : Hp} {α : List Addr} {Q : VK} {E : XK}
def gSortedXQ1 : Dv → Option Rt
  | .tup l => gSorted2 (.tup l)
  | d => gSortedX1 d
def gSortedXQ : List Dv → Option Rt := arg1 gSortedXQ1
theorem cd_sortedXQ (hK : X.K = Z.K) : CallR X (.builtin "sorted") (rA Z gSortedXQ) := by
  intro pins s σ H xs us Q I r h
  obtain ⟨G, α, S, l, hd, hl, w⟩ := h
  cases l with
  | nil => exact w.elim
  | cons x r2 =>
    cases r2 with
    | cons _ _ => exact w.elim
    | nil =>
      cases x with
      | tup l => exact cd_sortedQ hK pins s σ H xs us Q I r ⟨G, α, S, [.tup l], hd, hl, w⟩
      | lst l => exact cd_sortedX hK pins s σ H xs us Q I r ⟨G, α, S, [.lst l], hd, hl, w⟩
      | _ => exact w.elim
end
end DN
namespace DN
open PySem PySem.Spec PyProof.Rows L2 Evl
def isKtpR : R Rt → Bool
  | .ok _ (.val (.d (.ktp _))) => true
  | _ => false
def gIndexK : Dv → List Dv → Option Rt
  | .ktp l, [.int z] => (match ints? l with
    | some ys => (match ys.findIdx? (· == z) with
      | some j => vI j
      | none => none)
    | none => none)
  | _, _ => none
def gSortedXK1 : Dv → Option Rt
  | .ktp l => onI (ints? l) fun ns => nL ((sortI ns).map .int)
  | d => gSortedXQ1 d
def gSortedXK : List Dv → Option Rt := arg1 gSortedXK1
section
variable {Z : Zx} {X : Cx} {Ew : L2.St → XK} {G H : Hp} {α : List Addr} {S : Sto}
theorem md_indexK (hK : X.K = Z.K) : MtR X "tuple.index" (rM Z gIndexK) := by
  intro pins s σ H x xs v us Q I rx rxs h
  obtain ⟨G, α, S, d, l, hd, od, ol, w⟩ := h
  by_cases c : ∃ l0 z, d = .ktp l0 ∧ l = [.int z]
  · obtain ⟨l0, z, rfl, rfl⟩ := c
    have w' : Wk Z (R.of S (match ints? l0 with | some ys => (match ys.findIdx? (· == z) with | some j => vI j | none => none) | none => none)) G α H (pRt Z Q) E0 := w
    cases q : ints? l0 with
    | none => rw [q] at w'; exact w'.elim
    | some ys =>
      rw [q] at w'
      simp only at w'
      cases q2 : ys.findIdx? (· == z) with
      | none => rw [q2] at w'; exact w'.elim
      | some j =>
        rw [q2] at w'
        have w2 : Wk Z (R.of S (vI j)) G α H (pRt Z Q) E0 := w'
        obtain ⟨pa, zs, rfl, h1, h2⟩ := od
        have ex := ints_on q h2
        subst ex
        obtain ⟨y, ys2, rfl, o1, o2⟩ := ol
        cases o2
        cases o1
        exact mt_tup_indexI pins s σ H _ _ v us Q I rx rxs ⟨pa, ys, z, j, rfl, rfl, hK ▸ h1.sq hd.ex, q2, wI w2 hd⟩
  · have : gIndexK d l = none := by
      unfold gIndexK
      split
      · exact absurd ⟨_, _, rfl, rfl⟩ c
      · rfl
    rw [this] at w
    exact w.elim
theorem cd_sortedXK (hK : X.K = Z.K) : CallR X (.builtin "sorted") (rA Z gSortedXK) := by
  intro pins s σ H xs us Q I r h
  obtain ⟨G, α, S, l, hd, hl, w⟩ := h
  obtain ⟨x, y, rfl, hx, w⟩ := arg1_ok hl w
  cases x with
      | ktp l =>
        obtain ⟨a, xs, rfl, h1, h2⟩ := hx
        have w' : Wk Z (R.of S (onI (ints? l) fun ns => nL ((sortI ns).map .int))) G α H (pRt Z Q) E0 := w
        cases q : ints? l with
        | none => rw [q] at w'; exact w'.elim
        | some ns =>
          rw [q] at w'
          have ex := ints_on q h2
          subst ex
          obtain ⟨its, rv, p, hz⟩ := I.tuple (hK ▸ h1.sq hd.ex)
          rw [Vals.ref1 r]
          have hi := rv.ints
          refine sorted_tup SrtO.swo_int p (by rw [← rv.length]; exact hz) (fun h2 A' s' a' => SrtO.ints_sortable hi h2) fun out h1' h' e hs hb k1 k2 he => ?_
          obtain ⟨c1, c2, c3⟩ := SrtO.ints_out hi hs hb
          have hlen : ((out.map SrtO.iv).map V.int).length ≤ sizeLine := by
            rw [List.length_map, c2.length_eq]
            rw [List.length_map] at hz
            exact hz
          have I1 : Inv X pins σ H { s with heap := h1' } := I.kept (t' := s.toks) k1
          have e2 : out.map SrtO.iv = sortI ns := pw_perm_eq (c2.trans (sortI_perm ns).symm) c3 (sortI_pw ns)
          refine ⟨.ref _, upd H h1'.objs.size (.lst ((out.map SrtO.iv).map V.int)), I1.laid (t' := s.toks) k2 (Nat.le_refl _) ⟨hlen, out, e, vals_of_ints c1, he⟩, rfl, ?_⟩
          rw [e2]
          exact wL w' hd (on_ints _) (I1.hok.fresh (Nat.le_refl _))
      | tup l => exact cd_sortedXQ hK pins s σ H _ us Q I r ⟨G, α, S, [.tup l], hd, ⟨_, _, rfl, hx, rfl⟩, w⟩
      | lst l => exact cd_sortedXQ hK pins s σ H _ us Q I r ⟨G, α, S, [.lst l], hd, ⟨_, _, rfl, hx, rfl⟩, w⟩
      | _ => exact w.elim
end
end DN
namespace DN
open PySem PySem.Spec PyProof.Rows L2 Evl OP
/-- the tuple at a and the list at b, of one length, as they stand at each turn, the items in new pairs -/
def Itzu (K : PySem.W.Frag) (a b : Addr) : It :=
  ⟨fun i H => ∃ (xs ys : List V), SqT K H a xs ∧ SqL K H b ys ∧ xs.length = ys.length ∧ i < xs.length,
    fun i H v H' => ∃ T x y, v = .ref T ∧ H T = none ∧ H' = upd H T (.tup [x, y]) ∧ (∀ xs, SqT K H a xs → xs[i]? = some x) ∧ ∀ ys, SqL K H b ys → ys[i]? = some y,
    fun i H => ∃ xs ys : List V, SqT K H a xs ∧ SqL K H b ys ∧ xs.length = ys.length ∧ i = xs.length⟩
theorem turn_zu {P : Program} {w : World} {K : PySem.W.Frag} {elts : List Expr} {kk : Nat} {tpos : Pos} {a b z TI TO i1 i2 : Addr} (S : ZipSep2 z TI TO i1 i2 [i1, a] [i2, b]) (n1 : a ≠ i1) (n2 : b ≠ i2) :
    Turn P w K (.Tuple elts kk tpos) (Itzu K a b) [z, TI, TO, i1, i2] z
      (fun i h => ZipSt z TI TO i1 i2 (fun i h => h.IsTupleIter i1 a i) (fun i h => h.IsListIter i2 b i) i h) where
  mem := by simp
  obj := fun i h st c hc => by
    obtain ⟨⟨f0, f1, hz, _⟩, hTI, ⟨x, y, hTO⟩, ⟨o1, e1, _, d1⟩, ⟨o2, e2, _, d2⟩⟩ := st
    have e' : c = z ∨ c = TI ∨ c = TO ∨ c = i1 ∨ c = i2 := by simpa using hc
    rcases e' with q | q | q | q | q
    · rw [q]; exact ⟨_, hz, fun v q => nomatch q⟩
    · rw [q]; exact ⟨_, hTI, fun v q => nomatch q⟩
    · rw [q]; exact ⟨_, hTO, fun v q => nomatch q⟩
    · rw [q]; exact ⟨o1, e1, fun v q => by rw [d1] at q; cases q⟩
    · rw [q]; exact ⟨o2, e2, fun v q => by rw [d2] at q; cases q⟩
  keep := fun i h h' st k => by
    obtain ⟨⟨f0, f1, hz, hf⟩, hTI, ⟨a, b, hTO⟩, h1, h2⟩ := st
    exact ⟨⟨f0, f1, k z (by simp) _ hz, hf⟩, k TI (by simp) _ hTI, ⟨a, b, k TO (by simp) _ hTO⟩, h1.at fun o q => k i1 (by simp) o q, h2.at fun o q => k i2 (by simp) o q⟩
  item := by
    intro X hP hw hK hc i pins s σ H E I hf Z hg
    subst hP hw hK
    have hh : X.A.in1.handled = none := I.ok.hd hc
    obtain ⟨xs, ys, hqx, hqy, hl, hi⟩ := hg
    obtain ⟨its, rv, p, _⟩ := I.tuple hqx
    obtain ⟨its2, rv2, p2, _⟩ := I.list hqy
    have l1 := rv.length
    have l2 := rv2.length
    have D1 : Draws X.prog X.w X.A.in1 i1 [i1, a] its.toArray.size _ _ := Draws.tuple hh i1 a n1 its.toArray
    have D2 : Draws X.prog X.w X.A.in1 i2 [i2, b] its2.toArray.size _ _ := Draws.list hh i2 b n2 its2.toArray
    have es : its2.toArray.size = its.toArray.size := by simp; omega
    rw [es] at D2
    have hlts : ∀ c ∈ [z, TI, TO, i1, i2], c < s.heap.objs.size := fun c hcm => by
      obtain ⟨⟨f0, f1, hz, _⟩, hTI, ⟨a, b, hTO⟩, ⟨o1, e1, _⟩, ⟨o2, e2, _⟩⟩ := Z
      have e' : c = z ∨ c = TI ∨ c = TO ∨ c = i1 ∨ c = i2 := by simpa using hcm
      rcases e' with q | q | q | q | q
      · rw [q]; exact Heap.lt_size hz
      · rw [q]; exact Heap.lt_size hTI
      · rw [q]; exact Heap.lt_size hTO
      · rw [q]; exact Heap.lt_size e1
      · rw [q]; exact Heap.lt_size e2
    have Z0 : ZipSt z TI TO i1 i2 (fun i h => h.IsTupleIter i1 a i ∧ h.IsTuple a its.toArray) (fun i h => h.IsListIter i2 b i ∧ h.IsList b its2.toArray) i s.heap := by
      obtain ⟨g1, g2, g3, g4, g5⟩ := Z
      exact ⟨g1, g2, g3, ⟨g4, p⟩, ⟨g5, p2.isList⟩⟩
    refine py_zip_next S D1 D2 Z0 (by simp; omega) fun x1 x2 h' tk q1 q2 Z' hT hsz hk => ?_
    obtain ⟨⟨g0, g1, hz', hf'⟩, hTI', ⟨b1, b2, hTO'⟩, s1', s2'⟩ := Z'
    refine ⟨_, rfl, go_zipR (s := { s with heap := h', toks := tk }) hz' hf' fun h'' g0' hz'' hf'' sb => ?_⟩
    replace sb : Heap.SameBut z h' h'' := sb
    have hzl := hlts z (by simp)
    have nz : s.heap.objs.size ≠ z := Nat.ne_of_gt hzl
    have hT2 : h''.get? s.heap.objs.size = some { cls := .type "tuple", data := .seq #[x1, x2] } := sb.extBut _ _ nz hT
    have hkk : ∀ b o, b ∉ [z, TI, TO, i1, i2] → s.heap.get? b = some o → h''.get? b = some o := fun b o hb q =>
      sb.extBut _ _ (fun r => hb (by simp [r])) (hk b o (fun r => hb (by simp [r])) (fun r => hb (by simp [r])) (fun r => hb (by simp [r])) (fun r => hb (by simp [r])) q)
    have hx : xs[i]? = some xs[i] := List.getElem?_eq_getElem hi
    have hy : ys[i]? = some (ys[i]'(by omega)) := List.getElem?_eq_getElem (by omega)
    obtain ⟨u, hu, ru⟩ := rv.get hx
    obtain ⟨u2, hu2, ru2⟩ := rv2.get hy
    have q1 : its.toArray[i]? = some x1 := q1
    have q2 : its2.toArray[i]? = some x2 := q2
    have ex1 : u = x1 := by
      have : its[i]? = some x1 := by simpa using q1
      rw [hu] at this
      exact Option.some.inj this
    have ex2 : u2 = x2 := by
      have : its2[i]? = some x2 := by simpa using q2
      rw [hu2] at this
      exact Option.some.inj this
    subst ex1 ex2
    have new : ObjOk X.prog X.w (upd H s.heap.objs.size (.tup [xs[i], ys[i]'(by omega)])) h'' s.heap.objs.size (.tup [xs[i], ys[i]'(by omega)]) :=
      ⟨by show 2 ≤ sizeLine; decide, [u, u2], .cons ru (.cons ru2 .nil), ⟨_, hT2, rfl, _, rfl⟩⟩
    have I1 : Inv X pins σ (upd H s.heap.objs.size (.tup [xs[i], ys[i]'(by omega)])) { s with heap := h'', toks := tk } :=
      I.turnedNew (t' := tk) (ch := [z, TI, TO, i1, i2]) hkk hf (Nat.le_refl _) new
    have Z'' : ZipSt z TI TO i1 i2 (fun i h => h.IsTupleIter i1 a i) (fun i h => h.IsListIter i2 b i) (i + 1) h'' :=
      ⟨⟨g0', g1, hz'', hf''⟩, sb.extBut _ _ S.TIz hTI', ⟨b1, b2, sb.extBut _ _ S.TOz hTO'⟩, (D1.over s1' sb S.zf1).1, (D2.over s2' sb S.zf2).1⟩
    refine ⟨.ref s.heap.objs.size, _, I1, rfl, ⟨_, xs[i], ys[i]'(by omega), rfl, I.hok.fresh (Nat.le_refl _), rfl, fun l hl => by rw [I.tuple_inj hl hqx]; exact hx, fun l hl => by rw [I.list_inj hl hqy]; exact hy⟩, Z'', fun b hb => ?_⟩
    rw [upd_ne (Nat.ne_of_lt (hlts b hb))]
    exact (hf b hb).1
  done := by
    intro X hP hw hK hc i pins s σ H E I hf Z hg
    subst hP hw hK
    have hh : X.A.in1.handled = none := I.ok.hd hc
    obtain ⟨xs, ys, hqx, hqy, hl, rfl⟩ := hg
    obtain ⟨its, rv, p, _⟩ := I.tuple hqx
    obtain ⟨its2, rv2, p2, _⟩ := I.list hqy
    have l1 := rv.length
    have D1 : Draws X.prog X.w X.A.in1 i1 [i1, a] its.toArray.size _ _ := Draws.tuple hh i1 a n1 its.toArray
    have es : xs.length = its.toArray.size := by simp; omega
    have Z0 : ZipSt z TI TO i1 i2 (fun i h => h.IsTupleIter i1 a i ∧ h.IsTuple a its.toArray) (fun i h => h.IsListIter i2 b i ∧ h.IsList b its2.toArray) its.toArray.size s.heap := by
      obtain ⟨g1, g2, g3, g4, g5⟩ := Z
      rw [es] at g4 g5
      exact ⟨g1, g2, g3, ⟨g4, p⟩, ⟨g5, p2.isList⟩⟩
    refine py_zip_end S D1 Z0 fun h' hk => ⟨rfl, I.turnedL (t' := s.toks) (ch := [z, TI, TO, i1, i2]) (fun b o hb q => hk b o (fun r => hb (by simp [r])) (fun r => hb (by simp [r])) q) hf⟩
  self := fun A i s Q E st h => by
    obtain ⟨⟨f0, f1, hz, _⟩, _⟩ := st
    exact iter_zipR hz h
/-- zip of a tuple and a list of one length -/
def iZipU (K : PySem.W.Frag) (ta : TA) : TI := fun σ H R => ta σ H fun vs H1 => ∃ a b xs ys, vs = [.ref a, .ref b] ∧ SqT K H1 a xs ∧ SqL K H1 b ys ∧ R (Itzu K a b) H1
theorem pi_zu {X : Cx} {e e2 : Expr} {ta : TA} {p pos tpos : Pos} {elts : List Expr} {kk : Nat} (hg : Gl X "zip") (hm : X.mg "zip" = none) (ha : PA X [e, e2] ta)
    (hs : starEach [e, e2] X.env = (false, eval e X.env) :: starEach [e2] X.env := by rfl) (hpl : (backTo pos (starEach [e2] X.env)).any (·.1) = false := by rfl) :
    PI X (.Tuple elts kk tpos) (.Call (.Name "zip" p) [e, e2] [] pos) (iZipU X.K ta) := by
  refine ⟨fun pins s σ H R I h => ?_⟩
  refine Call_ (ld_blt I hg hm PyProof.Rows.boot_zip (PyProof.Rows.callWith_type1 (thn (ha.run pos pins s σ H _ I h) fun us s1 ⟨vs, H1, I1, r1, q1⟩ => ?_) hs hpl))
  have fresh5 : ∀ c, c ∈ [s1.heap.objs.size + 4, s1.heap.objs.size + 2, s1.heap.objs.size + 3, s1.heap.objs.size, s1.heap.objs.size + 1] → FpOk X pins H1 c := fun c hcm => by
    have hle : s1.heap.objs.size ≤ c := by
      have key : ∀ N c : Nat, c ∈ [N + 4, N + 2, N + 3, N, N + 1] → N ≤ c := fun N c hm => by
        simp at hm
        omega
      exact key _ c hcm
    exact I1.fpOk hle (I1.hok.fresh hle)
  obtain ⟨a, b, xs, ys, rfl, hqx, hqy, q⟩ := q1
  obtain ⟨u1, u2, rfl, e1, e2⟩ := vals2 r1
  cases e1
  cases e2
  obtain ⟨its, rv, p1, _⟩ := I1.tuple hqx
  obtain ⟨its2, rv2, p2, _⟩ := I1.list hqy
  obtain ⟨o2, ho2, _⟩ := id p1
  have la : a < s1.heap.objs.size := Heap.lt_size ho2
  have lb : b < s1.heap.objs.size := p2.lt
  refine zip_begins2 (begins_tuple a its.toArray) (begins_list b its2.toArray) (show s1.heap.IsTuple a its.toArray from p1) p2.isList fun h' hz hTI hTO h1 h2 hsz hk => ?_
  refine iter_zipR (f0 := .none) (f1 := false) hz ?_
  have I2 : Inv X pins σ H1 { s1 with heap := h' } := I1.kept (t' := s1.toks) hk
  have S : ZipSep2 (s1.heap.objs.size + 4) (s1.heap.objs.size + 2) (s1.heap.objs.size + 3) s1.heap.objs.size (s1.heap.objs.size + 1) [s1.heap.objs.size, a] [s1.heap.objs.size + 1, b] :=
    zip_sep2 (N := s1.heap.objs.size) (fp1 := [a]) (fp2 := [b]) (fun c h => by cases List.mem_singleton.mp h; exact la) (fun c h => by cases List.mem_singleton.mp h; exact lb)
  refine ⟨s1.heap.objs.size + 4, [s1.heap.objs.size + 4, s1.heap.objs.size + 2, s1.heap.objs.size + 3, s1.heap.objs.size, s1.heap.objs.size + 1], _, _, H1, rfl, I2, turn_zu (a := a) (b := b) S (Nat.ne_of_lt la) (Nat.ne_of_lt (Nat.lt_succ_of_lt lb)),
    ⟨⟨_, _, hz, .inl rfl⟩, hTI, ⟨_, _, hTO⟩, ⟨_, h1, rfl, rfl⟩, ⟨_, h2, rfl, rfl⟩⟩, fresh5, q⟩
section
variable {Z : Zx} {X : Cx} {Ew : L2.St → XK} {S : Sto} {G H : Hp} {α : List Addr} {Q : VK} {E : XK} {a b : Expr} {fl : FA} {elts : List Expr} {kk : Nat} {p pos tpos : Pos}
def itZipU (S : Sto) (l : List Vr) : R Its := match l with
  | [.d (.tup x), .d (.lst y)] => if x.length = y.length then .ok S (zipD x y, none) else .no
  | _ => .no
def iZipUD (fa : FA) : FI := fun env S => (fa env S).bind fun S1 l => itZipU S1 l
theorem gz_zu {K : PySem.W.Frag} {a b : Addr} {l m : List Dv} {xs ys : List V} {G2 : Hp} {α2 : List Addr} (hl : l.length = m.length) (h1 : G2 a = some (.tup xs)) (h2 : OnL Z G2 l xs) (h3 : G2 b = some (.lst ys)) (h4 : OnL Z G2 m ys) : Gz Z (Itzu K a b) G2 α2 (zipD l m, none) := by
  have sq : ∀ {G' H}, OkI Z G2 α2 (zipD l m, none) G' H → SqT K H a xs ∧ SqL K H b ys := fun ok => ⟨SqT.of (ok.2.1 _ _ (ok.1 _ _ h1)), SqL.of (ok.2.1 _ _ (ok.1 _ _ h3))⟩
  have hn : (zipD l m).length = xs.length := by have := zip_len l m; have := h2.len; have := h4.len; omega
  have e : xs.length = ys.length := by have := h2.len; have := h4.len; omega
  refine ⟨fun i G' H hi ok => ?_, fun G' H ok => ?_, fun i G' H x H' hi ok y => ?_⟩
  · obtain ⟨s1, s2⟩ := sq ok
    exact ⟨xs, ys, s1, s2, e, hn ▸ hi⟩
  · obtain ⟨s1, s2⟩ := sq ok
    exact ⟨xs, ys, s1, s2, e, hn⟩
  · obtain ⟨s1, s2⟩ := sq ok
    obtain ⟨T, x', y', rfl, hT, rfl, e1, e2⟩ := y
    obtain ⟨c, e3, o3⟩ := h2.got (e1 xs s1)
    obtain ⟨d, e4, o4⟩ := h4.got (e2 ys s2)
    exact ⟨_, zip_at e3 e4, y_pair hT (o3.up ok.1) (o4.up ok.1)⟩
theorem zipU_cases {l : List Vr} {P : Pst Its} {E : XK} (w : Wk Z (itZipU S l) G α H P E) : ∃ x y, l = [.d (.tup x), .d (.lst y)] ∧ x.length = y.length ∧ Wk Z (.ok S (zipD x y, none)) G α H P E := by
  unfold itZipU at w
  split at w
  · split at w
    · rename_i h
      exact ⟨_, _, rfl, h, w⟩
    · exact w.elim
  · exact w.elim
theorem pif_zipU (hK : X.K = Z.K) (hg : Gl X "zip") (hm : X.mg "zip" = none) (ha : PAF Z Ew X [a, b] fl)
    (hs : starEach [a, b] X.env = (false, eval a X.env) :: starEach [b] X.env := by rfl) (hpl : (backTo pos (starEach [b] X.env)).any (·.1) = false := by rfl) : PIF Z Ew X (.Tuple elts kk tpos) (.Call (.Name "zip" p) [a, b] [] pos) (iZipUD fl) := by
  obtain ⟨ta, h1, h2⟩ := ha.ex
  refine ⟨_, pi_zu hg hm h1 hs hpl, fun env σ G α S H R' hd oe w => h2.bind hd oe w fun S2 l vs H2 G2 α2 f2 hd2 oe2 ol w2 => ?_⟩
  obtain ⟨c, d, rfl, hl, w3⟩ := zipU_cases w2
  obtain ⟨y, ys, rfl, o1, z, zs, rfl, o2, o3⟩ := ol
  cases (show zs = [] from o3)
  have o1 : On Z G2 (.tup c) y := o1
  have o2 : On Z G2 (.lst d) z := o2
  unfold On at o1 o2
  obtain ⟨a1, xs, rfl, e1, e2⟩ := o1
  obtain ⟨a2, ys, rfl, e3, e4⟩ := o2
  exact ⟨a1, a2, xs, ys, rfl, SqT.of (hd2.ex _ _ e1), SqL.of (hd2.ex _ _ e3), w3 H2 G2 α2 (Fr.refl _ _ _) hd2 _ (gz_zu hl e1 e2 e3 e4)⟩
end
end DN
namespace DN
open PySem PySem.Spec PyProof.Rows L2 Evl OP
theorem go_zipN {prog : Program} {w : World} {A : Around} {s : Shared} {E : Value → Shared → Prop} {z TI TO : Addr} {nm : Str} {npos : Pos} {T : Addr} {f0 : Value} {f1 : Bool} {Q : Unit → Shared → Prop} (hz : IsZipR s.heap z TI TO f0 f1) (hf : RawOr f0)
    (hQ : ∀ h' f0', IsZipR h' z TI TO f0' f1 → RawOr f0' → Heap.SameBut z s.heap h' → Q () { s with heap := h' }) :
    wpAny (model prog w) A (letOwnedTupleGo (.Name nm npos) (.ref z) (.ref T)) Q E s := wpAny_pure (hQ _ f0 hz hf (Heap.SameBut.refl _ _))
theorem turn_zsN {P : Program} {w : World} {K : PySem.W.Frag} {nm : Str} {npos : Pos} {x y : Str} {t u : Tok} {z TI TO i1 i2 : Addr} (hxy : x.cps.size = y.cps.size) (S : ZipSep2 z TI TO i1 i2 [i1] [i2]) :
    Turn P w K (.Name nm npos) (Itzs x y) [z, TI, TO, i1, i2] z
      (fun i h => ZipSt z TI TO i1 i2 (fun i h => h.IsStrIter i1 (strIterType x) x t i) (fun i h => h.IsStrIter i2 (strIterType y) y u i) i h) where
  mem := by simp
  obj := fun i h st c hc => by
    obtain ⟨⟨f0, f1, hz, _⟩, hTI, ⟨a, b, hTO⟩, ⟨o1, e1, _, d1⟩, ⟨o2, e2, _, d2⟩⟩ := st
    have e' : c = z ∨ c = TI ∨ c = TO ∨ c = i1 ∨ c = i2 := by simpa using hc
    rcases e' with q | q | q | q | q
    · rw [q]; exact ⟨_, hz, fun v q => nomatch q⟩
    · rw [q]; exact ⟨_, hTI, fun v q => nomatch q⟩
    · rw [q]; exact ⟨_, hTO, fun v q => nomatch q⟩
    · rw [q]; exact ⟨o1, e1, fun v q => by rw [d1] at q; cases q⟩
    · rw [q]; exact ⟨o2, e2, fun v q => by rw [d2] at q; cases q⟩
  keep := fun i h h' st k => by
    obtain ⟨⟨f0, f1, hz, hf⟩, hTI, ⟨a, b, hTO⟩, h1, h2⟩ := st
    exact ⟨⟨f0, f1, k z (by simp) _ hz, hf⟩, k TI (by simp) _ hTI, ⟨a, b, k TO (by simp) _ hTO⟩, let ⟨o1, e1, r1⟩ := h1; ⟨o1, k i1 (by simp) _ e1, r1⟩, let ⟨o2, e2, r2⟩ := h2; ⟨o2, k i2 (by simp) _ e2, r2⟩⟩
  item := by
    intro X hP hw hK hc i pins s σ H E I hf Z hg
    subst hP hw hK
    have hh : X.A.in1.handled = none := I.ok.hd hc
    have D1 : Draws X.prog X.w X.A.in1 i1 [i1] x.cps.size _ _ := Draws.text hh i1 x t
    have D2 : Draws X.prog X.w X.A.in1 i2 [i2] y.cps.size _ _ := Draws.text hh i2 y u
    rw [← hxy] at D2
    have hlts : ∀ c ∈ [z, TI, TO, i1, i2], c < s.heap.objs.size := fun c hcm => by
      obtain ⟨⟨f0, f1, hz, _⟩, hTI, ⟨a, b, hTO⟩, ⟨o1, e1, _⟩, ⟨o2, e2, _⟩⟩ := Z
      have e' : c = z ∨ c = TI ∨ c = TO ∨ c = i1 ∨ c = i2 := by simpa using hcm
      rcases e' with q | q | q | q | q
      · rw [q]; exact Heap.lt_size hz
      · rw [q]; exact Heap.lt_size hTI
      · rw [q]; exact Heap.lt_size hTO
      · rw [q]; exact Heap.lt_size e1
      · rw [q]; exact Heap.lt_size e2
    refine py_zip_next S D1 D2 Z hg fun x1 x2 h' tk q1 q2 Z' hT hsz hk => ?_
    obtain ⟨c, t1, hc1, rfl⟩ := q1
    obtain ⟨d, t2, hd1, rfl⟩ := q2
    obtain ⟨⟨g0, g1, hz', hf'⟩, hTI', ⟨b1, b2, hTO'⟩, s1', s2'⟩ := Z'
    refine ⟨_, rfl, go_zipN (s := { s with heap := h', toks := tk }) hz' hf' fun h'' g0' hz'' hf'' sb => ?_⟩
    replace sb : Heap.SameBut z h' h'' := sb
    have hzl := hlts z (by simp)
    have n1 : s.heap.objs.size ≠ z := Nat.ne_of_gt hzl
    have hT2 : h''.get? s.heap.objs.size = some { cls := .type "tuple", data := .seq #[.str ⟨#[c]⟩ t1, .str ⟨#[d]⟩ t2] } := sb.extBut _ _ n1 hT
    have hkk : ∀ b o, b ∉ [z, TI, TO, i1, i2] → s.heap.get? b = some o → h''.get? b = some o := fun b o hb q =>
      sb.extBut _ _ (fun r => hb (by simp [r])) (hk b o (fun r => hb (by simp [r])) (fun r => hb (by simp [r])) (fun r => hb (by simp [r])) (fun r => hb (by simp [r])) q)
    have new : ObjOk X.prog X.w (upd H s.heap.objs.size (.tup [.str ⟨#[c]⟩, .str ⟨#[d]⟩])) h'' s.heap.objs.size (.tup [.str ⟨#[c]⟩, .str ⟨#[d]⟩]) :=
      ⟨by show 2 ≤ sizeLine; decide, [.str ⟨#[c]⟩ t1, .str ⟨#[d]⟩ t2], .cons ⟨_, rfl⟩ (.cons ⟨_, rfl⟩ .nil), ⟨_, hT2, rfl, _, rfl⟩⟩
    have I1 : Inv X pins σ (upd H s.heap.objs.size (.tup [.str ⟨#[c]⟩, .str ⟨#[d]⟩])) { s with heap := h'', toks := tk } :=
      I.turnedNew (t' := tk) (ch := [z, TI, TO, i1, i2]) hkk hf (Nat.le_refl _) new
    have Z'' : ZipSt z TI TO i1 i2 (fun i h => h.IsStrIter i1 (strIterType x) x t i) (fun i h => h.IsStrIter i2 (strIterType y) y u i) (i + 1) h'' :=
      ⟨⟨g0', g1, hz'', hf''⟩, sb.extBut _ _ S.TIz hTI', ⟨b1, b2, sb.extBut _ _ S.TOz hTO'⟩, D1.over s1' sb S.zf1, D2.over s2' sb S.zf2⟩
    refine ⟨.ref s.heap.objs.size, _, I1, rfl, ⟨_, c, d, rfl, I.hok.fresh (Nat.le_refl _), rfl, hc1, hd1⟩, Z'', fun b hb => ?_⟩
    rw [upd_ne (Nat.ne_of_lt (hlts b hb))]
    exact (hf b hb).1
  done := by
    intro X hP hw hK hc i pins s σ H E I hf Z hg
    subst hP hw hK
    have hh : X.A.in1.handled = none := I.ok.hd hc
    have D1 : Draws X.prog X.w X.A.in1 i1 [i1] x.cps.size _ _ := Draws.text hh i1 x t
    have hg' : i = x.cps.size := hg
    subst hg'
    refine py_zip_end S D1 Z fun h' hk => ⟨rfl, I.turnedL (t' := s.toks) (ch := [z, TI, TO, i1, i2]) (fun b o hb q => hk b o (fun r => hb (by simp [r])) (fun r => hb (by simp [r])) q) hf⟩
  self := fun A i s Q E st h => by
    obtain ⟨⟨f0, f1, hz, _⟩, _⟩ := st
    exact iter_zipR hz h
/-- zip of two texts of one length -/
def iZipN (ta : TA) : TI := fun σ H R => ta σ H fun vs H1 => ∃ x y : Str, vs = [.str x, .str y] ∧ x.cps.size = y.cps.size ∧ R (Itzs x y) H1
theorem pi_zsN {X : Cx} {e e2 : Expr} {ta : TA} {p pos npos : Pos} {nm : Str} (hg : Gl X "zip") (hm : X.mg "zip" = none) (ha : PA X [e, e2] ta)
    (hs : starEach [e, e2] X.env = (false, eval e X.env) :: starEach [e2] X.env := by rfl) (hpl : (backTo pos (starEach [e2] X.env)).any (·.1) = false := by rfl) :
    PI X (.Name nm npos) (.Call (.Name "zip" p) [e, e2] [] pos) (iZipN ta) := by
  refine ⟨fun pins s σ H R I h => ?_⟩
  refine Call_ (ld_blt I hg hm PyProof.Rows.boot_zip (PyProof.Rows.callWith_type1 (thn (ha.run pos pins s σ H _ I h) fun us s1 ⟨vs, H1, I1, r1, q1⟩ => ?_) hs hpl))
  have fresh5 : ∀ c, c ∈ [s1.heap.objs.size + 4, s1.heap.objs.size + 2, s1.heap.objs.size + 3, s1.heap.objs.size, s1.heap.objs.size + 1] → FpOk X pins H1 c := fun c hcm => by
    have hle : s1.heap.objs.size ≤ c := by
      have key : ∀ N c : Nat, c ∈ [N + 4, N + 2, N + 3, N, N + 1] → N ≤ c := fun N c hm => by
        simp at hm
        omega
      exact key _ c hcm
    exact I1.fpOk hle (I1.hok.fresh hle)
  obtain ⟨x, y, rfl, hxy, q⟩ := q1
  obtain ⟨u1, u2, rfl, ⟨t, rfl⟩, ⟨u, rfl⟩⟩ := vals2 r1
  refine zip_begins2 (begins_text x t) (begins_text y u) trivial trivial fun h' hz hTI hTO h1 h2 hsz hk => ?_
  refine iter_zipR (f0 := .none) (f1 := false) hz ?_
  have I2 : Inv X pins σ H1 { s1 with heap := h' } := I1.kept (t' := s1.toks) hk
  have S : ZipSep2 (s1.heap.objs.size + 4) (s1.heap.objs.size + 2) (s1.heap.objs.size + 3) s1.heap.objs.size (s1.heap.objs.size + 1) [s1.heap.objs.size] [s1.heap.objs.size + 1] :=
    zip_sep2 (N := s1.heap.objs.size) (fp1 := []) (fp2 := []) (fun _ h => nomatch h) (fun _ h => nomatch h)
  refine ⟨s1.heap.objs.size + 4, [s1.heap.objs.size + 4, s1.heap.objs.size + 2, s1.heap.objs.size + 3, s1.heap.objs.size, s1.heap.objs.size + 1], _, _, H1, rfl, I2, turn_zsN (t := t) (u := u) hxy S,
    ⟨⟨_, _, hz, .inl rfl⟩, hTI, ⟨_, _, hTO⟩, ⟨_, h1, rfl, rfl⟩, ⟨_, h2, rfl, rfl⟩⟩, fresh5, q⟩
section
variable {Z : Zx} {X : Cx} {Ew : L2.St → XK} {S : Sto} {G H : Hp} {α : List Addr} {Q : VK} {E : XK} {a b : Expr} {fl : FA} {nm : Str} {p pos npos : Pos}
def itZipN (S : Sto) (l : List Vr) : R Its := match l with
  | [.d (.str x), .d (.str y)] => if x.cps.size = y.cps.size then .ok S (zipD (x.cps.toList.map fun c => .str ⟨#[c]⟩) (y.cps.toList.map fun c => .str ⟨#[c]⟩), none) else .no
  | _ => .no
def iZipND (fa : FA) : FI := fun env S => (fa env S).bind fun S1 l => itZipN S1 l
theorem pif_zipN (hg : Gl X "zip") (hm : X.mg "zip" = none) (ha : PAF Z Ew X [a, b] fl)
    (hs : starEach [a, b] X.env = (false, eval a X.env) :: starEach [b] X.env := by rfl) (hpl : (backTo pos (starEach [b] X.env)).any (·.1) = false := by rfl) : PIF Z Ew X (.Name nm npos) (.Call (.Name "zip" p) [a, b] [] pos) (iZipND fl) := by
  obtain ⟨ta, h1, h2⟩ := ha.ex
  refine ⟨_, pi_zsN hg hm h1 hs hpl, fun env σ G α S H R' hd oe w => h2.bind hd oe w fun S2 l vs H2 G2 α2 f2 hd2 oe2 ol w2 => ?_⟩
  unfold itZipN at w2
  split at w2
  · rename_i x y
    by_cases hl : x.cps.size = y.cps.size
    · rw [if_pos hl] at w2
      obtain ⟨y1, ys, rfl, o1, z, zs, rfl, o2, o3⟩ := ol
      cases (show zs = [] from o3)
      have o1 : On Z G2 (.str x) y1 := o1
      have o2 : On Z G2 (.str y) z := o2
      unfold On at o1 o2
      subst o1 o2
      exact ⟨x, y, rfl, hl, w2 H2 G2 α2 (Fr.refl _ _ _) hd2 _ (gz_zs hl)⟩
    · rw [if_neg hl] at w2; exact w2.elim
  · exact w2.elim
end
end DN
namespace DN
open PySem PySem.Spec PyProof.Rows L2 Evl
def fKIx (tbl : List (Str × Str)) (fb : FE) : FE := fun env S => (fb env S).bindV fun S1 b => match b with
  | .d (.str s) => (match tbl.lookup s with
    | some t => .ok S1 (.val (.d (.str t)))
    | none => .no)
  | _ => .no
section
variable {Z : Zx} {X : Cx} {Ew : L2.St → XK} {b : Expr} {fb : FE} {pos p : Pos} {x : Str} {a : Addr} {tbl : List (Str × Str)}
theorem pf_kix (hg : Gl X x) (hm : X.mg x = some (.ref a)) (kd : ∀ q ∈ tbl, L2.KDct X.K X.w a q.1 (.str q.2)) (hb : PF Z Ew X b fb) (hs : PlainIx b := by exact fun _ _ => rfl) (hd : (x == ("__debug__" : Str)) = false := by decide) : PF Z Ew X (.Subscript (.Name x p) b pos) (fKIx tbl fb) := by
  obtain ⟨tb, h3, h4⟩ := hb.ex
  refine ⟨_, pe_ix ix_kdict (pe_glob (v := .ref a) hg hm rfl hd) h3 hs, fun env σ G α S H Q hd oe w => ?_⟩
  refine h4.bind hd oe w fun S2 d y H2 G2 α2 f2 hd2 oe2 oy w2 => ?_
  cases d with
  | r n => exact w2.elim
  | d d =>
    cases d with
    | str s =>
      simp only at w2
      cases q : tbl.lookup s with
      | none => rw [q] at w2; exact w2.elim
      | some t =>
        rw [q] at w2
        have hy : On Z G2 (.str s) y := oy
        unfold On at hy
        subst hy
        exact ⟨a, s, .str t, rfl, rfl, kd (s, t) (mem_of_lookup q), w2 H2 G2 α2 (Fr.refl _ _ _) hd2 _ (on_str (Z := Z) (G := G2))⟩
    | _ => exact w2.elim
end
/-- the walk under the written head (a top with a dict display is not run by the kernel: the hash of a text stands for any number) -/
theorem walk_ofW {l : PySem.W.OpenLaw} {n k : Nat} {q : Program} {loose : List Str} {XP : (Str → Option Value) → Heap → Prop} {YP : World → Heap → Prop} {d : DefRec} {K : Params → PySem.W.Frag} {CX : World → CXT} {sp : World → Sp} {x : Str}
    (hn : l.most = some n) (hn2 : n ≤ sizeLine) (hdf : d.params.defaults = []) (hr : RoomG true k callerA)
    (hY : ∀ (w : World) (h : Heap), YP w h → (K w.params).In h)
    (F : ∀ (w : World) (mg : Str → Option Value) (fa : Addr) (h : Heap), (K w.params).In h → h.Ns mainGlobals mg → mg d.name = some (.ref fa) →
      ∃ fd : FuncData, (∀ (s : Shared) (u : Value), BindsTo s fd ⟨[u], []⟩ [(x, u)]) ∧
        ∀ base : Heap, (K w.params).In base → base.Ns mainGlobals mg → FnG true l.prog w (K w.params) mg base (CX w) k fa fd [x] (sp w))
    (hsp : ∀ (w : World) (H : Hp) (a : Addr) (ns : List Int), ns.length ≤ n → Only H → SqL (K w.params) H a (ns.map V.int) → sp w [.ref a] H (fun v _ => v = .bl true) fun _ _ _ => False)
    (hCX : ∀ (w : World) (H : Hp) (s : Shared) (e : Value) (s' : Shared), CX w [] H s (fun _ _ _ => False) e s' → False) :
    PySem.W.WalkO q loose XP YP l.row.toRowW d [] (fun f vs => PySem.call f vs) := by
  refine Att.attach_call hn hdf fun w s₀ s₁ mg mb fa o pm cd doc a vs ns G Y ho hd hcd hmg hobj hints hlen hg => ?_
  have KX := hY w _ Y
  obtain ⟨fd, hb, hF⟩ := F w mg fa _ KX G.T.g hmg
  exact lawG_call KX G.T.g G.T.b G.T.builtins G.T.nolimit hg hobj hints (Nat.le_trans hlen hn2) hr (fun base h1 h2 _ => hF base h1 h2) hb (fun H hO hS => hsp w H a ns hlen hO hS) fun H e s' => hCX w H s₁ e s'
/-- it is known that sys.modules stands in the base -/
class SMb (base : Heap) : Prop where
  h : (base.get? sysModules).isSome = true
instance smb_cx {c : CXT} {P : Program} {w : World} {K : PySem.W.Frag} {mg : Str → Option Value} {base : Heap} {N : List Str} {x : Str} {sc : Scope} {f : Addr} {cdv : Value} {A : Around} {outer : List PySem.Env} {s : Shared} {H : Hp} {E : XK} [h : SMb base] : SMb (cxOf c P w K mg base N x sc f cdv A outer s H E).base := h
instance smb_blk {X : Cx} {s : Shared} {H : Hp} {sc : Scope} {e : PySem.Env} {as : List Addr} [h : SMb X.base] : SMb (X.blk s H sc e as).base := h
instance smb_tr {X : Cx} {pn : List (Addr × Obj)} {xe : Value → Shared → Prop} [h : SMb X.base] : SMb (X.tr pn xe).base := h
instance smb_suite {X : Cx} {a : Addr} {pn : List (Addr × Obj)} [h : SMb X.base] : SMb (X.suite a pn).base := h
end DN
namespace Q14
open DN
abbrev B_law_box : FS :=
  (kRet (fLst (fCons (fCall gMax (fCons (fC (.int 0)) (fCons (fOp gSub (fVar 0) (fOp gPow (fC (.int 10)) (fC (.int 18)))) fNil))) (fCons (fOp gMod (fCall gInt (fCons (fVar 0) fNil)) (fC (.int 2147483629))) (fCons (fC (.int 0)) fNil)))))
def D_law_box : FD := defD 1 B_law_box
abbrev B_Addresses_len : FS :=
  (kRet (fCall gLen (fCons (fUn (gFld ["Addresses"] "kept") (fVar 0)) fNil)))
def D_Addresses_len : FD := defD 1 B_Addresses_len
abbrev B_is_word : FS :=
  (kRet (fAnd (fCall (arg2 (gIsi ["Addresses"])) (fCons (fVar 0) (fCons (fC (.ty "str")) fNil))) (fAnd (fOp gLe (fLenD [("Addresses", 1, D_Addresses_len)] (fCons (fVar 0) fNil)) (fC (.int 60))) (fCall gAll (fCons (fLc (iVal (fVar 0)) (tgN 1) kYes (fOp gIn (fVar 1) (fC (.str "01*"))) [1]) fNil)))))
def D_is_word : FD := defD 2 B_is_word
abbrev B_is_integer : FS :=
  (kRet (fAnd (fCall (arg2 (gIsi ["Addresses"])) (fCons (fVar 0) (fCons (fC (.ty "int")) fNil))) (fNot (fCall (arg2 (gIsi ["Addresses"])) (fCons (fVar 0) (fCons (fC (.ty "bool")) fNil))))))
def D_is_integer : FD := defD 1 B_is_integer
abbrev B_Addresses_check_house : FS :=
  (kIf (kOr (kNot (kVal (fCallD 1 D_is_integer (fCons (fVar 1) fNil)))) (kNot (kVal (fChain gLe gLt (fC (.int 0)) (fVar 1) (fCall gLen (fCons (fUn (gFld ["Addresses"] "kept") (fVar 0)) fNil)))))) kNo kNext)
def D_Addresses_check_house : FD := defD 2 B_Addresses_check_house
abbrev B_Addresses_getitem : FS :=
  (kSeq (kExpr (fMethD [("Addresses", 2, D_Addresses_check_house)] (fVar 0) (fCons (fVar 1) fNil)))
    (kRet (fOp gIx (fUn (gFld ["Addresses"] "kept") (fVar 0)) (fVar 1))))
def D_Addresses_getitem : FD := defD 2 B_Addresses_getitem
abbrev B_are_words : FS :=
  (kSeq (kIf (kOr (kNot (kVal (fCall (arg2 (gIsi ["Addresses"])) (fCons (fVar 0) (fCons (fTup (fCons (fC (.ty "list")) (fCons (fC (.ty "tuple")) fNil))) fNil))))) (kNot (kVal (fChain gLe gLe (fC (.int 1)) (fLenD [("Addresses", 1, D_Addresses_len)] (fCons (fVar 0) fNil)) (fC (.int 40)))))) (kRet (fC (.bl false))) kNext)
    (kRet (fAnd (fCall gAll (fCons (fLc (iVal (fVar 0)) (tgN 1) kYes (fCallD 1 D_is_word (fCons (fVar 1) fNil)) [1]) fNil)) (fCall gAll (fCons (fLc (iVal (fVar 0)) (tgN 1) kYes (fOp gEq (fLenD [("Addresses", 1, D_Addresses_len)] (fCons (fVar 1) fNil)) (fLenD [("Addresses", 1, D_Addresses_len)] (fCons (fIxD [("Addresses", 2, D_Addresses_getitem)] (fVar 0) (fC (.int 0))) fNil))) [1]) fNil)))))
def D_are_words : FD := defD 2 B_are_words
abbrev B_Addresses_init : FS :=
  (kSeq (kIf (kNot (kVal (fCallD 1 D_are_words (fCons (fVar 1) fNil)))) kNo kNext)
    (kFld ["Addresses"] "kept" (fVar 0) (fCall gTuple (fCons (fVar 1) fNil))))
def D_Addresses_init : FD := defD 2 B_Addresses_init
abbrev B_law_cell_at : FS :=
  (kSeq (kIf (kVal (fOp gLt (fVar 1) (fLenD [("Addresses", 1, D_Addresses_len)] (fCons (fVar 0) fNil)))) (kRet (fIxD [("Addresses", 2, D_Addresses_getitem)] (fVar 0) (fVar 1))) kNext)
    (kRet (fOp gAdd (fOp gMul (fC (.int 15485863)) (fVar 1)) (fC (.int 7919)))))
def D_law_cell_at : FD := defD 2 B_law_cell_at
abbrev B_law_take : FS :=
  (kSeq (kIf (kVal (fOp gGt (fIxD [("Addresses", 2, D_Addresses_getitem)] (fVar 0) (fC (.int 0))) (fC (.int 0)))) (kSeq (kSet 2 (fOp gMod (fCall gInt (fCons (fIxD [("Addresses", 2, D_Addresses_getitem)] (fVar 0) (fC (.int 0))) fNil)) (fVar 1)))
    (kSeq (kSub (fVar 0) (fC (.int 0)) (fOp gDiv (fIxD [("Addresses", 2, D_Addresses_getitem)] (fVar 0) (fC (.int 0))) (fVar 1)))
    (kRet (fVar 2)))) kNext)
    (kSeq (kSub (fVar 0) (fC (.int 2)) (fOp gAdd (fIxD [("Addresses", 2, D_Addresses_getitem)] (fVar 0) (fC (.int 2))) (fC (.int 1))))
    (kSeq (kSet 3 (fOp gMod (fOp gPow (fCall gInt (fCons (fOp gAdd (fOp gAdd (fIxD [("Addresses", 2, D_Addresses_getitem)] (fVar 0) (fC (.int 1))) (fOp gMul (fC (.int 7727)) (fIxD [("Addresses", 2, D_Addresses_getitem)] (fVar 0) (fC (.int 2))))) (fC (.int 173))) fNil)) (fC (.int 5))) (fC (.int 2147483647))))
    (kSeq (kSet 3 (fOp gMod (fOp gPow (fCall gInt (fCons (fOp gAdd (fVar 3) (fOp gMul (fC (.int 86243)) (fIxD [("Addresses", 2, D_Addresses_getitem)] (fVar 0) (fC (.int 2))))) fNil)) (fC (.int 3))) (fC (.int 2147483587))))
    (kRet (fOp gMod (fCall gInt (fCons (fOp gDiv (fVar 3) (fC (.int 32))) fNil)) (fVar 1)))))))
def D_law_take : FD := defD 4 B_law_take
abbrev B_Addresses_eq : FS :=
  (kRet (fAnd (fCall (arg2 (gIsi ["Addresses"])) (fCons (fVar 1) (fCons (fC (.cls "Addresses")) fNil))) (fOp gEq (fUn (gFld ["Addresses"] "kept") (fVar 0)) (fUn (gFld ["Addresses"] "kept") (fVar 1)))))
def D_Addresses_eq : FD := defD 2 B_Addresses_eq
abbrev B_law_signs : FS :=
  (kSeq (kSet 2 (fCallD 2 D_law_take (fCons (fVar 0) (fCons (fC (.int 3)) fNil))))
    (kRet (fMeth "str" gJoin (fC (.str "")) (fCons (fLc (iRange1 (fCons (fVar 1) fNil)) (tgN 3) kYes (fOp gIx (fC (.str "01**01001*")) (fCallD 2 D_law_take (fCons (fVar 0) (fCons (fOp gIx (fLst (fCons (fC (.int 4)) (fCons (fC (.int 2)) (fCons (fC (.int 10)) fNil)))) (fVar 2)) fNil)))) [3]) fNil))))
def D_law_signs : FD := defD 4 B_law_signs
abbrev B_Addresses_words : FS :=
  (kRet (fUn (gFld ["Addresses"] "kept") (fVar 0)))
def D_Addresses_words : FD := defD 1 B_Addresses_words
abbrev B_check_addresses : FS :=
  (kIf (kNot (kVal (fCall (arg2 (gIsi ["Addresses"])) (fCons (fVar 0) (fCons (fC (.cls "Addresses")) fNil))))) kNo kNext)
def D_check_addresses : FD := defD 1 B_check_addresses
abbrev B_Addresses_length : FS :=
  (kRet (fCall gLen (fCons (fOp gIx (fUn (gFld ["Addresses"] "kept") (fVar 0)) (fC (.int 0))) fNil)))
def D_Addresses_length : FD := defD 1 B_Addresses_length
abbrev B_pairs_of : FS :=
  (kSeq (kExpr (fCallD 1 D_check_addresses (fCons (fVar 0) fNil)))
    (kSeq (kSetC 1 (fLst fNil))
    (kSeq (kFor (iRange1 (fCons (fPropD [("Addresses", 1, D_Addresses_length)] (fVar 0)) fNil)) (tgN 2)
      (kSeq (kSet 3 (fEnumL (fLc (iVal (fPropD [("Addresses", 1, D_Addresses_words)] (fVar 0))) (tgN 4) kYes (fIxD [("Addresses", 2, D_Addresses_getitem)] (fVar 4) (fVar 2)) [4])))
    (kSeq (kSet 5 (fCall gTuple (fCons (fLc (iVal (fVar 3)) (tgT (tgCons (tgN 6) (tgCons (tgN 7) tgNil))) (kVal (fEqD ["Addresses"] [("Addresses", 2, D_Addresses_eq)] false (fVar 7) (fC (.str "0")))) (fVar 6) [6, 7]) fNil)))
    (kExpr (fMut gAppend (fVar 1) (fCons (fTup (fCons (fVar 5) (fCons (fCall gTuple (fCons (fLc (iVal (fVar 3)) (tgT (tgCons (tgN 6) (tgCons (tgN 7) tgNil))) (kVal (fEqD ["Addresses"] [("Addresses", 2, D_Addresses_eq)] false (fVar 7) (fC (.str "1")))) (fVar 6) [6, 7]) fNil)) fNil))) fNil))))))
    (kRet (fVar 1)))))
def D_pairs_of : FD := defD 8 B_pairs_of
abbrev B_needless : FS :=
  (kSeq (kExpr (fCallD 1 D_check_addresses (fCons (fVar 0) fNil)))
    (kSeq (kSetC 1 (fLst fNil))
    (kSeq (kFor (iRange1 (fCons (fPropD [("Addresses", 1, D_Addresses_length)] (fVar 0)) fNil)) (tgN 2)
      (kSeq (kSet 3 (fLc (iVal (fPropD [("Addresses", 1, D_Addresses_words)] (fVar 0))) (tgN 4) kYes (fIxD [("Addresses", 2, D_Addresses_getitem)] (fVar 4) (fVar 2)) [4]))
    (kIf (kOr (kVal (fOp gNotIn (fC (.str "0")) (fVar 3))) (kVal (fOp gNotIn (fC (.str "1")) (fVar 3)))) (kExpr (fMut gAppend (fVar 1) (fCons (fVar 2) fNil))) kNext)))
    (kRet (fVar 1)))))
def D_needless : FD := defD 5 B_needless
abbrev B_check_word : FS :=
  (kIf (kNot (kVal (fCallD 1 D_is_word (fCons (fVar 0) fNil)))) kNo kNext)
def D_check_word : FD := defD 1 B_check_word
abbrev B_differing : FS :=
  (kSeq (kExpr (fCallD 1 D_check_word (fCons (fVar 0) fNil)))
    (kSeq (kExpr (fCallD 1 D_check_word (fCons (fVar 1) fNil)))
    (kSeq (kIf (kVal (fOp gNe (fLenD [("Addresses", 1, D_Addresses_len)] (fCons (fVar 0) fNil)) (fLenD [("Addresses", 1, D_Addresses_len)] (fCons (fVar 1) fNil)))) kNo kNext)
    (kRet (fLc (iEz (fCons (fVar 0) (fCons (fVar 1) fNil))) (tgT (tgCons (tgN 2) (tgCons (tgN 3) tgNil))) (kVal (fOp gIn (fVar 3) (fTup (fCons (fTup (fCons (fC (.str "0")) (fCons (fC (.str "1")) fNil))) (fCons (fTup (fCons (fC (.str "1")) (fCons (fC (.str "0")) fNil))) fNil))))) (fVar 2) [2, 3])))))
def D_differing : FD := defD 4 B_differing
abbrev B_meets : FS :=
  (kRet (fEqD ["Addresses"] [("Addresses", 2, D_Addresses_eq)] false (fCallD 2 D_differing (fCons (fVar 0) (fCons (fVar 1) fNil))) (fLst fNil)))
def D_meets : FD := defD 2 B_meets
abbrev B_held_by_both : FS :=
  (kRet (fMeth "str" gJoin (fC (.str "")) (fCons (fLc (iZipND (fCons (fVar 0) (fCons (fVar 1) fNil))) (tgN 2) kYes (fIf (kVal (fOp gIn (fC (.str "1")) (fVar 2))) (fC (.str "1")) (fC (.str "0"))) [2]) fNil)))
def D_held_by_both : FD := defD 3 B_held_by_both
abbrev B_meeting : FS :=
  (kSeq (kExpr (fCallD 1 D_check_addresses (fCons (fVar 0) fNil)))
    (kSeq (kFor (iEnumT (fPropD [("Addresses", 1, D_Addresses_words)] (fVar 0))) (tgT (tgCons (tgN 1) (tgCons (tgN 2) tgNil)))
      (kFor (iRange2 (fCons (fOp gAdd (fVar 1) (fC (.int 1))) (fCons (fCall gLen (fCons (fPropD [("Addresses", 1, D_Addresses_words)] (fVar 0)) fNil)) fNil))) (tgN 3)
      (kIf (kVal (fCallD 2 D_meets (fCons (fVar 2) (fCons (fOp gIx (fPropD [("Addresses", 1, D_Addresses_words)] (fVar 0)) (fVar 3)) fNil)))) (kRet (fTup (fCons (fVar 1) (fCons (fVar 3) (fCons (fCallD 2 D_held_by_both (fCons (fVar 2) (fCons (fOp gIx (fPropD [("Addresses", 1, D_Addresses_words)] (fVar 0)) (fVar 3)) fNil))) fNil))))) kNext)))
    (kRet (fC .non))))
def D_meeting : FD := defD 4 B_meeting
abbrev B_apart : FS :=
  (kRet (fLenD [("Addresses", 1, D_Addresses_len)] (fCons (fCallD 2 D_differing (fCons (fVar 0) (fCons (fVar 1) fNil))) fNil)))
def D_apart : FD := defD 2 B_apart
abbrev B_Addresses_table : FS :=
  (kRet (fLc (iVal (fUn (gFld ["Addresses"] "kept") (fVar 0))) (tgN 2) kYes (fCall gTuple (fCons (fLc (iVal (fUn (gFld ["Addresses"] "kept") (fVar 0))) (tgN 1) kYes (fCallD 2 D_apart (fCons (fVar 2) (fCons (fVar 1) fNil))) [1]) fNil)) [2]))
def D_Addresses_table : FD := defD 3 B_Addresses_table
abbrev B_trimmed : FS :=
  (kSeq (kSet 1 (fCallD 1 D_needless (fCons (fVar 0) fNil)))
    (kSeq (kSet 2 (fLc (iRange1 (fCons (fPropD [("Addresses", 1, D_Addresses_length)] (fVar 0)) fNil)) (tgN 3) (kVal (fOp gNotIn (fVar 3) (fVar 1))) (fVar 3) [3]))
    (kRet (fMakeD "Addresses" [] 2 D_Addresses_init (fCons (fLc (iVal (fPropD [("Addresses", 1, D_Addresses_words)] (fVar 0))) (tgN 4) kYes (fMeth "str" gJoin (fC (.str "")) (fCons (fLc (iVal (fVar 2)) (tgN 3) kYes (fIxD [("Addresses", 2, D_Addresses_getitem)] (fVar 4) (fVar 3)) [3]) fNil)) [4]) fNil)))))
def D_trimmed : FD := defD 5 B_trimmed
abbrev B_law_told : FS :=
  (kRet (fLst (fCons (fCallD 1 D_pairs_of (fCons (fVar 0) fNil)) (fCons (fCallD 1 D_needless (fCons (fVar 0) fNil)) (fCons (fCallD 1 D_meeting (fCons (fVar 0) fNil)) (fCons (fPropD [("Addresses", 1, D_Addresses_words)] (fCallD 1 D_trimmed (fCons (fVar 0) fNil))) (fCons (fMethD [("Addresses", 1, D_Addresses_table)] (fVar 0) fNil) fNil)))))))
def D_law_told : FD := defD 1 B_law_told
abbrev B_Addresses_renamed : FS :=
  (kSeq (kIf (kOr (kNot (kVal (fCall (arg2 (gIsi ["Addresses"])) (fCons (fVar 1) (fCons (fTup (fCons (fC (.ty "list")) (fCons (fC (.ty "tuple")) fNil))) fNil))))) (kNot (kVal (fCall gAll (fCons (fLc (iVal (fVar 1)) (tgN 2) kYes (fCallD 1 D_is_integer (fCons (fVar 2) fNil)) [2]) fNil))))) kNo kNext)
    (kSeq (kIf (kVal (fOp gNe (fCall gSortedXK (fCons (fVar 1) fNil)) (fRg1 (fCall gLen (fCons (fUn (gFld ["Addresses"] "kept") (fVar 0)) fNil))))) kNo kNext)
    (kRet (fMakeD "Addresses" [] 2 D_Addresses_init (fCons (fLc (iRange1 (fCons (fCall gLen (fCons (fUn (gFld ["Addresses"] "kept") (fVar 0)) fNil)) fNil)) (tgN 2) kYes (fOp gIx (fUn (gFld ["Addresses"] "kept") (fVar 0)) (fAlt (fun env S => isKtpR ((fVar 1) env S)) (fMethT gIndexK (fVar 1) (fCons (fVar 2) fNil)) (fMeth "list" gIndex (fVar 1) (fCons (fVar 2) fNil)))) [2]) fNil)))))
def D_Addresses_renamed : FD := defD 3 B_Addresses_renamed
abbrev B_Addresses_followed : FS :=
  (kSeq (kIf (kOr (kNot (kVal (fCall (arg2 (gIsi ["Addresses"])) (fCons (fVar 1) (fCons (fC (.cls "Addresses")) fNil))))) (kVal (fOp gNe (fLenD [("Addresses", 1, D_Addresses_len)] (fCons (fVar 1) fNil)) (fCall gLen (fCons (fUn (gFld ["Addresses"] "kept") (fVar 0)) fNil))))) kNo kNext)
    (kSeq (kIf (kVal (fOp gGt (fOp gAdd (fPropD [("Addresses", 1, D_Addresses_length)] (fVar 0)) (fPropD [("Addresses", 1, D_Addresses_length)] (fVar 1))) (fC (.int 60)))) kNo kNext)
    (kRet (fMakeD "Addresses" [] 2 D_Addresses_init (fCons (fLc (iZipXD (fCons (fUn (gFld ["Addresses"] "kept") (fVar 0)) (fCons (fPropD [("Addresses", 1, D_Addresses_words)] (fVar 1)) fNil))) (tgT (tgCons (tgN 2) (tgCons (tgN 3) tgNil))) kYes (fOp gAdd (fVar 2) (fVar 3)) [2, 3]) fNil)))))
def D_Addresses_followed : FD := defD 4 B_Addresses_followed
abbrev B_Addresses_check_place : FS :=
  (kIf (kOr (kNot (kVal (fCallD 1 D_is_integer (fCons (fVar 1) fNil)))) (kNot (kVal (fChain gLe gLt (fC (.int 0)) (fVar 1) (fPropD [("Addresses", 1, D_Addresses_length)] (fVar 0)))))) kNo kNext)
def D_Addresses_check_place : FD := defD 2 B_Addresses_check_place
abbrev B_flipped : FS :=
  (kSeq (kExpr (fCallD 1 D_check_word (fCons (fVar 0) fNil)))
    (kRet (fMeth "str" gJoin (fC (.str "")) (fCons (fLc (iVal (fVar 0)) (tgN 1) kYes (fKIx [("0", "1"), ("1", "0"), ("*", "*")] (fVar 1)) [1]) fNil))))
def D_flipped : FD := defD 2 B_flipped
abbrev B_Addresses_flipped : FS :=
  (kSeq (kExpr (fMethD [("Addresses", 2, D_Addresses_check_place)] (fVar 0) (fCons (fVar 1) fNil)))
    (kRet (fMakeD "Addresses" [] 2 D_Addresses_init (fCons (fLc (iVal (fUn (gFld ["Addresses"] "kept") (fVar 0))) (tgN 2) kYes (fOp gAdd (fOp gAdd (fSl (fVar 2) fNoPart (fPart (fVar 1))) (fCallD 1 D_flipped (fCons (fOp gIx (fVar 2) (fVar 1)) fNil))) (fSl (fVar 2) (fPart (fOp gAdd (fVar 1) (fC (.int 1)))) fNoPart)) [2]) fNil))))
def D_Addresses_flipped : FD := defD 3 B_Addresses_flipped
abbrev B_Addresses_without : FS :=
  (kSeq (kExpr (fMethD [("Addresses", 2, D_Addresses_check_place)] (fVar 0) (fCons (fVar 1) fNil)))
    (kRet (fMakeD "Addresses" [] 2 D_Addresses_init (fCons (fLc (iVal (fUn (gFld ["Addresses"] "kept") (fVar 0))) (tgN 2) kYes (fOp gAdd (fSl (fVar 2) fNoPart (fPart (fVar 1))) (fSl (fVar 2) (fPart (fOp gAdd (fVar 1) (fC (.int 1)))) fNoPart)) [2]) fNil))))
def D_Addresses_without : FD := defD 3 B_Addresses_without
abbrev B_law_behind_right : FS :=
  (kSeq (kSet 4 (fCallD 1 D_law_told (fCons (fVar 2) fNil)))
    (kSeq (kSet 5 (fRg1 (fLenD [("Addresses", 1, D_Addresses_len)] (fCons (fVar 1) fNil))))
    (kSeq (kSet 6 (fLst (fCons (fMethD [("Addresses", 2, D_Addresses_renamed)] (fVar 2) (fCons (fUn gRevA (fVar 5)) fNil)) (fCons (fMethD [("Addresses", 2, D_Addresses_followed)] (fVar 2) (fCons (fVar 3) fNil)) fNil))))
    (kSeq (kIf (kVal (fOp gGt (fPropD [("Addresses", 1, D_Addresses_length)] (fVar 2)) (fC (.int 0)))) (kSeq (kSet 7 (fCallD 2 D_law_take (fCons (fVar 0) (fCons (fPropD [("Addresses", 1, D_Addresses_length)] (fVar 2)) fNil))))
    (kSet 6 (fOp gAdd (fVar 6) (fLst (fCons (fMethD [("Addresses", 2, D_Addresses_flipped)] (fVar 2) (fCons (fVar 7) fNil)) (fCons (fMethD [("Addresses", 2, D_Addresses_without)] (fVar 2) (fCons (fVar 7) fNil)) fNil)))))) kNext)
    (kSeq (kFor (iVal (fVar 6)) (tgN 8)
      (kIf (kVal (fEqD ["Addresses"] [("Addresses", 2, D_Addresses_eq)] true (fCallD 1 D_law_told (fCons (fVar 8) fNil)) (fCallD 1 D_law_told (fCons (fMakeD "Addresses" [] 2 D_Addresses_init (fCons (fCall gList (fCons (fPropD [("Addresses", 1, D_Addresses_words)] (fVar 8)) fNil)) fNil)) fNil)))) (kRet (fC (.bl false))) kNext))
    (kRet (fAnd (fEqD ["Addresses"] [("Addresses", 2, D_Addresses_eq)] false (fVar 4) (fCallD 1 D_law_told (fCons (fMakeD "Addresses" [] 2 D_Addresses_init (fCons (fVar 1) fNil)) fNil))) (fEqD ["Addresses"] [("Addresses", 2, D_Addresses_eq)] false (fCallD 1 D_law_told (fCons (fVar 2) fNil)) (fVar 4)))))))))
def D_law_behind_right : FD := defD 9 B_law_behind_right
abbrev B_law_flipped : FS :=
  (kRet (fLc (iVal (fVar 0)) (tgN 2) kYes (fOp gAdd (fOp gAdd (fSl (fVar 2) fNoPart (fPart (fVar 1))) (fOp gIx (fDisp [.str "0", .str "1", .str "*"] [.str "1", .str "0", .str "*"]) (fIxD [("Addresses", 2, D_Addresses_getitem)] (fVar 2) (fVar 1)))) (fSl (fVar 2) (fPart (fOp gAdd (fVar 1) (fC (.int 1)))) fNoPart)) [2]))
def D_law_flipped : FD := defD 3 B_law_flipped
abbrev B_law_without : FS :=
  (kRet (fLc (iVal (fVar 0)) (tgN 2) kYes (fOp gAdd (fSl (fVar 2) fNoPart (fPart (fVar 1))) (fSl (fVar 2) (fPart (fOp gAdd (fVar 1) (fC (.int 1)))) fNoPart)) [2]))
def D_law_without : FD := defD 3 B_law_without
abbrev B_law_apart : FS :=
  (kRet (fCall gLen (fCons (fLc (iRange1 (fCons (fLenD [("Addresses", 1, D_Addresses_len)] (fCons (fVar 0) fNil)) fNil)) (tgN 2) (kVal (fOp gIn (fLst (fCons (fIxD [("Addresses", 2, D_Addresses_getitem)] (fVar 0) (fVar 2)) (fCons (fIxD [("Addresses", 2, D_Addresses_getitem)] (fVar 1) (fVar 2)) fNil))) (fLst (fCons (fLst (fCons (fC (.str "0")) (fCons (fC (.str "1")) fNil))) (fCons (fLst (fCons (fC (.str "1")) (fCons (fC (.str "0")) fNil))) fNil))))) (fVar 2) [2]) fNil)))
def D_law_apart : FD := defD 3 B_law_apart
abbrev B_law_places_right : FS :=
  (kSeq (kSet 2 (fMethD [("Addresses", 1, D_Addresses_table)] (fVar 1) fNil))
    (kSeq (kFor (iRange1 (fCons (fLenD [("Addresses", 1, D_Addresses_len)] (fCons (fIxD [("Addresses", 2, D_Addresses_getitem)] (fVar 0) (fC (.int 0))) fNil)) fNil)) (tgN 3)
      (kSeq (kPar 4 5 (fCons (fMethD [("Addresses", 2, D_Addresses_flipped)] (fVar 1) (fCons (fVar 3) fNil)) (fCons (fMethD [("Addresses", 2, D_Addresses_without)] (fVar 1) (fCons (fVar 3) fNil)) fNil)))
    (kSeq (kIf (kOr (kVal (fOp gNe (fCall gList (fCons (fPropD [("Addresses", 1, D_Addresses_words)] (fVar 4)) fNil)) (fCallD 2 D_law_flipped (fCons (fVar 0) (fCons (fVar 3) fNil))))) (kVal (fEqD ["Addresses"] [("Addresses", 2, D_Addresses_eq)] true (fMethD [("Addresses", 1, D_Addresses_table)] (fVar 4) fNil) (fVar 2)))) (kRet (fC (.bl false))) kNext)
    (kSeq (kSet 6 (fMethD [("Addresses", 1, D_Addresses_table)] (fVar 5) fNil))
    (kSeq (kIf (kOr (kVal (fOp gNe (fCall gList (fCons (fPropD [("Addresses", 1, D_Addresses_words)] (fVar 5)) fNil)) (fCallD 2 D_law_without (fCons (fVar 0) (fCons (fVar 3) fNil))))) (kVal (fOp gNe (fPropD [("Addresses", 1, D_Addresses_length)] (fVar 5)) (fOp gSub (fLenD [("Addresses", 1, D_Addresses_len)] (fCons (fIxD [("Addresses", 2, D_Addresses_getitem)] (fVar 0) (fC (.int 0))) fNil)) (fC (.int 1)))))) (kRet (fC (.bl false))) kNext)
    (kSeq (kFor (iEnumD (fVar 0)) (tgT (tgCons (tgN 7) (tgCons (tgN 8) tgNil)))
      (kSeq (kSet 9 (fLc (iVal (fVar 0)) (tgN 10) kYes (fCallD 2 D_law_apart (fCons (fIxD [("Addresses", 2, D_Addresses_getitem)] (fVar 8) (fVar 3)) (fCons (fIxD [("Addresses", 2, D_Addresses_getitem)] (fVar 10) (fVar 3)) fNil))) [10]))
    (kIf (kVal (fOp gNe (fLc (iZipUD (fCons (fIxD [("Addresses", 2, D_Addresses_getitem)] (fVar 6) (fVar 7)) (fCons (fVar 9) fNil))) (tgT (tgCons (tgN 11) (tgCons (tgN 12) tgNil))) kYes (fOp gAdd (fVar 11) (fVar 12)) [11, 12]) (fCall gList (fCons (fIxD [("Addresses", 2, D_Addresses_getitem)] (fVar 2) (fVar 7)) fNil)))) (kRet (fC (.bl false))) kNext)))
    (kIf (kVal (fEqD ["Addresses"] [("Addresses", 2, D_Addresses_eq)] true (fMethD [("Addresses", 2, D_Addresses_flipped)] (fVar 4) (fCons (fVar 3) fNil)) (fVar 1))) (kRet (fC (.bl false))) kNext)))))))
    (kRet (fC (.bl true)))))
def D_law_places_right : FD := defD 13 B_law_places_right
abbrev B_law_mixed : FS :=
  (kSeq (kSetC 2 (fCall gList (fCons (fVar 1) fNil)))
    (kRet (fLc (iRange1 (fCons (fLenD [("Addresses", 1, D_Addresses_len)] (fCons (fVar 1) fNil)) fNil)) (tgN 3) kYes (fMut gPopAt (fVar 2) (fCons (fCallD 2 D_law_take (fCons (fVar 0) (fCons (fLenD [("Addresses", 1, D_Addresses_len)] (fCons (fVar 2) fNil)) fNil))) fNil)) [3])))
def D_law_mixed : FD := defD 4 B_law_mixed
abbrev B_Addresses_apart : FS :=
  (kSeq (kExpr (fMethD [("Addresses", 2, D_Addresses_check_house)] (fVar 0) (fCons (fVar 1) fNil)))
    (kSeq (kExpr (fMethD [("Addresses", 2, D_Addresses_check_house)] (fVar 0) (fCons (fVar 2) fNil)))
    (kRet (fCallD 2 D_apart (fCons (fOp gIx (fUn (gFld ["Addresses"] "kept") (fVar 0)) (fVar 1)) (fCons (fOp gIx (fUn (gFld ["Addresses"] "kept") (fVar 0)) (fVar 2)) fNil))))))
def D_Addresses_apart : FD := defD 3 B_Addresses_apart
abbrev B_law_order_right : FS :=
  (kSeq (kSet 3 (fCallD 2 D_law_mixed (fCons (fVar 0) (fCons (fRg1 (fLenD [("Addresses", 1, D_Addresses_len)] (fCons (fVar 1) fNil))) fNil))))
    (kSeq (kSet 4 (fMethD [("Addresses", 2, D_Addresses_renamed)] (fVar 2) (fCons (fVar 3) fNil)))
    (kSeq (kIf (kOr (kVal (fOp gNe (fLc (iRange1 (fCons (fLenD [("Addresses", 1, D_Addresses_len)] (fCons (fVar 1) fNil)) fNil)) (tgN 5) kYes (fIxD [("Addresses", 2, D_Addresses_getitem)] (fVar 4) (fIxD [("Addresses", 2, D_Addresses_getitem)] (fVar 3) (fVar 5))) [5]) (fVar 1))) (kVal (fEqD ["Addresses"] [("Addresses", 2, D_Addresses_eq)] true (fMethD [("Addresses", 2, D_Addresses_renamed)] (fVar 2) (fCons (fCall gTupleK (fCons (fVar 3) fNil)) fNil)) (fVar 4)))) (kRet (fC (.bl false))) kNext)
    (kSeq (kAsg (tgT (tgCons (tgN 6) (tgCons (tgN 7) tgNil))) (fTup (fCons (fMethD [("Addresses", 1, D_Addresses_table)] (fVar 2) fNil) (fCons (fMethD [("Addresses", 1, D_Addresses_table)] (fVar 4) fNil) fNil))))
    (kSeq (kFor (iRange1 (fCons (fLenD [("Addresses", 1, D_Addresses_len)] (fCons (fVar 1) fNil)) fNil)) (tgN 5)
      (kSeq (kIf (kVal (fOp gNe (fLc (iRange1 (fCons (fLenD [("Addresses", 1, D_Addresses_len)] (fCons (fVar 1) fNil)) fNil)) (tgN 8) kYes (fIxD [("Addresses", 2, D_Addresses_getitem)] (fIxD [("Addresses", 2, D_Addresses_getitem)] (fVar 7) (fIxD [("Addresses", 2, D_Addresses_getitem)] (fVar 3) (fVar 5))) (fIxD [("Addresses", 2, D_Addresses_getitem)] (fVar 3) (fVar 8))) [8]) (fCall gList (fCons (fIxD [("Addresses", 2, D_Addresses_getitem)] (fVar 6) (fVar 5)) fNil)))) (kRet (fC (.bl false))) kNext)
    (kIf (kVal (fEqD ["Addresses"] [("Addresses", 2, D_Addresses_eq)] true (fMethD [("Addresses", 3, D_Addresses_apart)] (fVar 4) (fCons (fIxD [("Addresses", 2, D_Addresses_getitem)] (fVar 3) (fVar 5)) (fCons (fIxD [("Addresses", 2, D_Addresses_getitem)] (fVar 3) (fC (.int 0))) fNil))) (fIxD [("Addresses", 2, D_Addresses_getitem)] (fIxD [("Addresses", 2, D_Addresses_getitem)] (fVar 6) (fVar 5)) (fC (.int 0))))) (kRet (fC (.bl false))) kNext)))
    (kSeq (kSet 9 (fLc (iRange1 (fCons (fLenD [("Addresses", 1, D_Addresses_len)] (fCons (fVar 1) fNil)) fNil)) (tgN 5) kYes (fMeth "list" gIndex (fVar 3) (fCons (fVar 5) fNil)) [5]))
    (kRet (fEqD ["Addresses"] [("Addresses", 2, D_Addresses_eq)] false (fMethD [("Addresses", 2, D_Addresses_renamed)] (fVar 4) (fCons (fVar 9) fNil)) (fVar 2)))))))))
def D_law_order_right : FD := defD 10 B_law_order_right
abbrev B_law_sum_right : FS :=
  (kSeq (kSet 4 (fMethD [("Addresses", 2, D_Addresses_followed)] (fVar 1) (fCons (fVar 3) fNil)))
    (kSeq (kIf (kVal (fOp gNe (fCall gList (fCons (fPropD [("Addresses", 1, D_Addresses_words)] (fVar 4)) fNil)) (fLc (iZipXD (fCons (fVar 0) (fCons (fVar 2) fNil))) (tgT (tgCons (tgN 5) (tgCons (tgN 6) tgNil))) kYes (fOp gAdd (fVar 5) (fVar 6)) [5, 6]))) (kRet (fC (.bl false))) kNext)
    (kSeq (kPar3 7 8 9 (fCons (fMethD [("Addresses", 1, D_Addresses_table)] (fVar 4) fNil) (fCons (fMethD [("Addresses", 1, D_Addresses_table)] (fVar 1) fNil) (fCons (fMethD [("Addresses", 1, D_Addresses_table)] (fVar 3) fNil) fNil))))
    (kSeq (kFor (iRange1 (fCons (fLenD [("Addresses", 1, D_Addresses_len)] (fCons (fVar 0) fNil)) fNil)) (tgN 10)
      (kIf (kVal (fOp gNe (fCall gList (fCons (fIxD [("Addresses", 2, D_Addresses_getitem)] (fVar 7) (fVar 10)) fNil)) (fLc (iZipXD (fCons (fIxD [("Addresses", 2, D_Addresses_getitem)] (fVar 8) (fVar 10)) (fCons (fIxD [("Addresses", 2, D_Addresses_getitem)] (fVar 9) (fVar 10)) fNil))) (tgT (tgCons (tgN 11) (tgCons (tgN 6) tgNil))) kYes (fOp gAdd (fVar 11) (fVar 6)) [11, 6]))) (kRet (fC (.bl false))) kNext))
    (kRet (fOp gEq (fPropD [("Addresses", 1, D_Addresses_length)] (fVar 4)) (fOp gAdd (fPropD [("Addresses", 1, D_Addresses_length)] (fVar 1)) (fPropD [("Addresses", 1, D_Addresses_length)] (fVar 3)))))))))
def D_law_sum_right : FD := defD 12 B_law_sum_right
abbrev B_law : FS :=
  (kSeq (kFor (iRange1 (fCons (fCall gMax (fCons (fC (.int 2)) (fCons (fCall gMin (fCons (fC (.int 6)) (fCons (fLenD [("Addresses", 1, D_Addresses_len)] (fCons (fVar 0) fNil)) fNil))) fNil))) fNil)) (tgN 1)
      (kSeq (kSetC 2 (fCallD 1 D_law_box (fCons (fCallD 2 D_law_cell_at (fCons (fVar 0) (fCons (fVar 1) fNil))) fNil)))
    (kSeq (kAsg (tgT (tgCons (tgN 3) (tgCons (tgN 4) tgNil))) (fTup (fCons (fOp gAdd (fC (.int 1)) (fCallD 2 D_law_take (fCons (fVar 2) (fCons (fC (.int 8)) fNil)))) (fCons (fOp gIx (fLst (fCons (fC (.int 10)) (fCons (fC (.int 30)) fNil))) (fCall gInt (fCons (fEqD ["Addresses"] [("Addresses", 2, D_Addresses_eq)] false (fCallD 2 D_law_take (fCons (fVar 2) (fCons (fC (.int 6)) fNil))) (fC (.int 0))) fNil))) fNil))))
    (kSeq (kSet 5 (fLc (iVal (fLst (fCons (fCallD 2 D_law_take (fCons (fVar 2) (fCons (fVar 4) fNil))) (fCons (fCallD 2 D_law_take (fCons (fVar 2) (fCons (fC (.int 6)) fNil))) fNil)))) (tgN 7) kYes (fLc (iRange1 (fCons (fVar 3) fNil)) (tgN 6) kYes (fCallD 2 D_law_signs (fCons (fVar 2) (fCons (fVar 7) fNil))) [6]) [7]))
    (kSeq (kSet 8 (fLc (iVal (fVar 5)) (tgN 9) kYes (fMakeD "Addresses" [] 2 D_Addresses_init (fCons (fVar 9) fNil)) [9]))
    (kFor (iRange1 (fCons (fC (.int 2)) fNil)) (tgN 10)
      (kSeq (kIf (kOr (kNot (kVal (fCallD 2 D_law_places_right (fCons (fIxD [("Addresses", 2, D_Addresses_getitem)] (fVar 5) (fC (.int 0))) (fCons (fIxD [("Addresses", 2, D_Addresses_getitem)] (fVar 8) (fC (.int 0))) fNil))))) (kNot (kVal (fCallD 3 D_law_order_right (fCons (fVar 2) (fCons (fIxD [("Addresses", 2, D_Addresses_getitem)] (fVar 5) (fC (.int 0))) (fCons (fIxD [("Addresses", 2, D_Addresses_getitem)] (fVar 8) (fC (.int 0))) fNil))))))) (kRet (fC (.bl false))) kNext)
    (kSeq (kFor (iVal (fLst (fCons (fTup (fCons (fC (.int 0)) (fCons (fC (.int 1)) fNil))) (fCons (fTup (fCons (fC (.int 1)) (fCons (fC (.int 0)) fNil))) (fCons (fTup (fCons (fC (.int 0)) (fCons (fC (.int 0)) fNil))) fNil))))) (tgT (tgCons (tgN 11) (tgCons (tgN 12) tgNil)))
      (kIf (kNot (kVal (fCallD 4 D_law_sum_right (fCons (fIxD [("Addresses", 2, D_Addresses_getitem)] (fVar 5) (fVar 11)) (fCons (fIxD [("Addresses", 2, D_Addresses_getitem)] (fVar 8) (fVar 11)) (fCons (fIxD [("Addresses", 2, D_Addresses_getitem)] (fVar 5) (fVar 12)) (fCons (fIxD [("Addresses", 2, D_Addresses_getitem)] (fVar 8) (fVar 12)) fNil))))))) (kRet (fC (.bl false))) kNext))
    (kSeq (kIf (kOr (kVal (fOp gNe (fPropD [("Addresses", 1, D_Addresses_words)] (fIxD [("Addresses", 2, D_Addresses_getitem)] (fVar 8) (fC (.int 0)))) (fCall gTuple (fCons (fIxD [("Addresses", 2, D_Addresses_getitem)] (fVar 5) (fC (.int 0))) fNil)))) (kVal (fOp gNe (fPropD [("Addresses", 1, D_Addresses_words)] (fIxD [("Addresses", 2, D_Addresses_getitem)] (fVar 8) (fC (.int 1)))) (fCall gTuple (fCons (fIxD [("Addresses", 2, D_Addresses_getitem)] (fVar 5) (fC (.int 1))) fNil))))) (kRet (fC (.bl false))) kNext)
    (kIf (kNot (kVal (fCallD 4 D_law_behind_right (fCons (fVar 2) (fCons (fIxD [("Addresses", 2, D_Addresses_getitem)] (fVar 5) (fC (.int 0))) (fCons (fIxD [("Addresses", 2, D_Addresses_getitem)] (fVar 8) (fC (.int 0))) (fCons (fIxD [("Addresses", 2, D_Addresses_getitem)] (fVar 8) (fC (.int 1))) fNil))))))) (kRet (fC (.bl false))) kNext))))))))))
    (kRet (fC (.bl true))))
def D_law : FD := defD 13 B_law
end Q14
namespace Q14
open PySem PySem.Spec PyProof.Rows L2 OP Evl
def topS (i : Nat) : Stmt := PySem.Challenge.pw_openposts_k14_addresses_changed.main.body.getD i (.Pass ⟨0, 0, 0, 0⟩)
abbrev PP : Program := PySem.Challenge.pw_openposts_k14_addresses_changed
abbrev s_law_box : Stmt := topS 40
abbrev N_law_box : List Str := ["_law_cell"]
theorem sc_law_box : FnScope N_law_box ["_law_cell"] (defScope s_law_box) := ⟨rfl, rfl, rfl, by decide +kernel, rfl, by decide +kernel, by decide +kernel⟩
abbrev s_Addresses_len : Stmt := inClass (topS 27) 4
abbrev N_Addresses_len : List Str := ["self"]
theorem sc_Addresses_len : FnScope N_Addresses_len ["self"] (defScope s_Addresses_len) := ⟨rfl, rfl, rfl, by decide +kernel, rfl, by decide +kernel, by decide +kernel⟩
abbrev s_is_word : Stmt := topS 16
abbrev N_is_word : List Str := ["value", "sign"]
theorem sc_is_word : FnScope N_is_word ["value"] (defScope s_is_word) := ⟨rfl, rfl, rfl, by decide +kernel, rfl, by decide +kernel, by decide +kernel⟩
abbrev s_is_integer : Stmt := topS 15
abbrev N_is_integer : List Str := ["value"]
theorem sc_is_integer : FnScope N_is_integer ["value"] (defScope s_is_integer) := ⟨rfl, rfl, rfl, by decide +kernel, rfl, by decide +kernel, by decide +kernel⟩
abbrev s_Addresses_check_house : Stmt := inClass (topS 27) 10
abbrev N_Addresses_check_house : List Str := ["self", "house"]
theorem sc_Addresses_check_house : FnScope N_Addresses_check_house ["self", "house"] (defScope s_Addresses_check_house) := ⟨rfl, rfl, rfl, by decide +kernel, rfl, by decide +kernel, by decide +kernel⟩
abbrev s_Addresses_getitem : Stmt := inClass (topS 27) 6
abbrev N_Addresses_getitem : List Str := ["self", "house"]
theorem sc_Addresses_getitem : FnScope N_Addresses_getitem ["self", "house"] (defScope s_Addresses_getitem) := ⟨rfl, rfl, rfl, by decide +kernel, rfl, by decide +kernel, by decide +kernel⟩
abbrev s_are_words : Stmt := topS 26
abbrev N_are_words : List Str := ["value", "word"]
theorem sc_are_words : FnScope N_are_words ["value"] (defScope s_are_words) := ⟨rfl, rfl, rfl, by decide +kernel, rfl, by decide +kernel, by decide +kernel⟩
abbrev s_Addresses_init : Stmt := inClass (topS 27) 0
abbrev N_Addresses_init : List Str := ["self", "words"]
theorem sc_Addresses_init : FnScope N_Addresses_init ["self", "words"] (defScope s_Addresses_init) := ⟨rfl, rfl, rfl, by decide +kernel, rfl, by decide +kernel, by decide +kernel⟩
abbrev s_law_cell_at : Stmt := topS 39
abbrev N_law_cell_at : List Str := ["_law_script", "_law_k"]
theorem sc_law_cell_at : FnScope N_law_cell_at ["_law_script", "_law_k"] (defScope s_law_cell_at) := ⟨rfl, rfl, rfl, by decide +kernel, rfl, by decide +kernel, by decide +kernel⟩
abbrev s_law_take : Stmt := topS 41
abbrev N_law_take : List Str := ["_law_box_here", "_law_many", "_law_digit", "_law_mixed_here"]
theorem sc_law_take : FnScope N_law_take ["_law_box_here", "_law_many"] (defScope s_law_take) := ⟨rfl, rfl, rfl, by decide +kernel, rfl, by decide +kernel, by decide +kernel⟩
abbrev s_Addresses_eq : Stmt := inClass (topS 27) 7
abbrev N_Addresses_eq : List Str := ["self", "other"]
theorem sc_Addresses_eq : FnScope N_Addresses_eq ["self", "other"] (defScope s_Addresses_eq) := ⟨rfl, rfl, rfl, by decide +kernel, rfl, by decide +kernel, by decide +kernel⟩
abbrev s_law_signs : Stmt := topS 43
abbrev N_law_signs : List Str := ["_law_box_here", "_law_size", "_law_plan", "_law_k"]
theorem sc_law_signs : FnScope N_law_signs ["_law_box_here", "_law_size"] (defScope s_law_signs) := ⟨rfl, rfl, rfl, by decide +kernel, rfl, by decide +kernel, by decide +kernel⟩
abbrev s_Addresses_words : Stmt := inClass (topS 27) 2
abbrev N_Addresses_words : List Str := ["self"]
theorem sc_Addresses_words : FnScope N_Addresses_words ["self"] (defScope s_Addresses_words) := ⟨rfl, rfl, rfl, by decide +kernel, rfl, by decide +kernel, by decide +kernel⟩
abbrev s_check_addresses : Stmt := topS 28
abbrev N_check_addresses : List Str := ["value"]
theorem sc_check_addresses : FnScope N_check_addresses ["value"] (defScope s_check_addresses) := ⟨rfl, rfl, rfl, by decide +kernel, rfl, by decide +kernel, by decide +kernel⟩
abbrev s_Addresses_length : Stmt := inClass (topS 27) 3
abbrev N_Addresses_length : List Str := ["self"]
theorem sc_Addresses_length : FnScope N_Addresses_length ["self"] (defScope s_Addresses_length) := ⟨rfl, rfl, rfl, by decide +kernel, rfl, by decide +kernel, by decide +kernel⟩
abbrev s_pairs_of : Stmt := topS 37
abbrev N_pairs_of : List Str := ["addresses", "found", "place", "signs", "word", "zeros", "house", "sign"]
theorem sc_pairs_of : FnScope N_pairs_of ["addresses"] (defScope s_pairs_of) := ⟨rfl, rfl, rfl, by decide +kernel, rfl, by decide +kernel, by decide +kernel⟩
abbrev s_needless : Stmt := topS 30
abbrev N_needless : List Str := ["addresses", "found", "place", "signs", "word"]
theorem sc_needless : FnScope N_needless ["addresses"] (defScope s_needless) := ⟨rfl, rfl, rfl, by decide +kernel, rfl, by decide +kernel, by decide +kernel⟩
abbrev s_check_word : Stmt := topS 17
abbrev N_check_word : List Str := ["value"]
theorem sc_check_word : FnScope N_check_word ["value"] (defScope s_check_word) := ⟨rfl, rfl, rfl, by decide +kernel, rfl, by decide +kernel, by decide +kernel⟩
abbrev s_differing : Stmt := topS 18
abbrev N_differing : List Str := ["one", "other", "place", "signs"]
theorem sc_differing : FnScope N_differing ["one", "other"] (defScope s_differing) := ⟨rfl, rfl, rfl, by decide +kernel, rfl, by decide +kernel, by decide +kernel⟩
abbrev s_meets : Stmt := topS 33
abbrev N_meets : List Str := ["one", "other"]
theorem sc_meets : FnScope N_meets ["one", "other"] (defScope s_meets) := ⟨rfl, rfl, rfl, by decide +kernel, rfl, by decide +kernel, by decide +kernel⟩
abbrev s_held_by_both : Stmt := topS 34
abbrev N_held_by_both : List Str := ["one", "other", "signs"]
theorem sc_held_by_both : FnScope N_held_by_both ["one", "other"] (defScope s_held_by_both) := ⟨rfl, rfl, rfl, by decide +kernel, rfl, by decide +kernel, by decide +kernel⟩
abbrev s_meeting : Stmt := topS 35
abbrev N_meeting : List Str := ["addresses", "one", "word", "other"]
theorem sc_meeting : FnScope N_meeting ["addresses"] (defScope s_meeting) := ⟨rfl, rfl, rfl, by decide +kernel, rfl, by decide +kernel, by decide +kernel⟩
abbrev s_apart : Stmt := topS 19
abbrev N_apart : List Str := ["one", "other"]
theorem sc_apart : FnScope N_apart ["one", "other"] (defScope s_apart) := ⟨rfl, rfl, rfl, by decide +kernel, rfl, by decide +kernel, by decide +kernel⟩
abbrev s_Addresses_table : Stmt := inClass (topS 27) 13
abbrev N_Addresses_table : List Str := ["self", "other", "word"]
theorem sc_Addresses_table : FnScope N_Addresses_table ["self"] (defScope s_Addresses_table) := ⟨rfl, rfl, rfl, by decide +kernel, rfl, by decide +kernel, by decide +kernel⟩
abbrev s_trimmed : Stmt := topS 31
abbrev N_trimmed : List Str := ["addresses", "dropped", "kept", "place", "word"]
theorem sc_trimmed : FnScope N_trimmed ["addresses"] (defScope s_trimmed) := ⟨rfl, rfl, rfl, by decide +kernel, rfl, by decide +kernel, by decide +kernel⟩
abbrev s_law_told : Stmt := topS 50
abbrev N_law_told : List Str := ["_law_book"]
theorem sc_law_told : FnScope N_law_told ["_law_book"] (defScope s_law_told) := ⟨rfl, rfl, rfl, by decide +kernel, rfl, by decide +kernel, by decide +kernel⟩
abbrev s_Addresses_renamed : Stmt := inClass (topS 27) 16
abbrev N_Addresses_renamed : List Str := ["self", "order", "house"]
theorem sc_Addresses_renamed : FnScope N_Addresses_renamed ["self", "order"] (defScope s_Addresses_renamed) := ⟨rfl, rfl, rfl, by decide +kernel, rfl, by decide +kernel, by decide +kernel⟩
abbrev s_Addresses_followed : Stmt := inClass (topS 27) 9
abbrev N_Addresses_followed : List Str := ["self", "other", "word", "more"]
theorem sc_Addresses_followed : FnScope N_Addresses_followed ["self", "other"] (defScope s_Addresses_followed) := ⟨rfl, rfl, rfl, by decide +kernel, rfl, by decide +kernel, by decide +kernel⟩
abbrev s_Addresses_check_place : Stmt := inClass (topS 27) 11
abbrev N_Addresses_check_place : List Str := ["self", "place"]
theorem sc_Addresses_check_place : FnScope N_Addresses_check_place ["self", "place"] (defScope s_Addresses_check_place) := ⟨rfl, rfl, rfl, by decide +kernel, rfl, by decide +kernel, by decide +kernel⟩
abbrev s_flipped : Stmt := topS 21
abbrev N_flipped : List Str := ["word", "sign"]
theorem sc_flipped : FnScope N_flipped ["word"] (defScope s_flipped) := ⟨rfl, rfl, rfl, by decide +kernel, rfl, by decide +kernel, by decide +kernel⟩
abbrev s_Addresses_flipped : Stmt := inClass (topS 27) 14
abbrev N_Addresses_flipped : List Str := ["self", "place", "word"]
theorem sc_Addresses_flipped : FnScope N_Addresses_flipped ["self", "place"] (defScope s_Addresses_flipped) := ⟨rfl, rfl, rfl, by decide +kernel, rfl, by decide +kernel, by decide +kernel⟩
abbrev s_Addresses_without : Stmt := inClass (topS 27) 15
abbrev N_Addresses_without : List Str := ["self", "place", "word"]
theorem sc_Addresses_without : FnScope N_Addresses_without ["self", "place"] (defScope s_Addresses_without) := ⟨rfl, rfl, rfl, by decide +kernel, rfl, by decide +kernel, by decide +kernel⟩
abbrev s_law_behind_right : Stmt := topS 51
abbrev N_law_behind_right : List Str := ["_law_box_here", "_law_words", "_law_book", "_law_other", "_law_first", "_law_whole", "_law_books", "_law_place", "_law_told_here"]
theorem sc_law_behind_right : FnScope N_law_behind_right ["_law_box_here", "_law_words", "_law_book", "_law_other"] (defScope s_law_behind_right) := ⟨rfl, rfl, rfl, by decide +kernel, rfl, by decide +kernel, by decide +kernel⟩
abbrev s_law_flipped : Stmt := topS 45
abbrev N_law_flipped : List Str := ["_law_words", "_law_place", "_law_word"]
theorem sc_law_flipped : FnScope N_law_flipped ["_law_words", "_law_place"] (defScope s_law_flipped) := ⟨rfl, rfl, rfl, by decide +kernel, rfl, by decide +kernel, by decide +kernel⟩
abbrev s_law_without : Stmt := topS 46
abbrev N_law_without : List Str := ["_law_words", "_law_place", "_law_word"]
theorem sc_law_without : FnScope N_law_without ["_law_words", "_law_place"] (defScope s_law_without) := ⟨rfl, rfl, rfl, by decide +kernel, rfl, by decide +kernel, by decide +kernel⟩
abbrev s_law_apart : Stmt := topS 44
abbrev N_law_apart : List Str := ["_law_one", "_law_other", "_law_k"]
theorem sc_law_apart : FnScope N_law_apart ["_law_one", "_law_other"] (defScope s_law_apart) := ⟨rfl, rfl, rfl, by decide +kernel, rfl, by decide +kernel, by decide +kernel⟩
abbrev s_law_places_right : Stmt := topS 47
abbrev N_law_places_right : List Str := ["_law_words", "_law_book", "_law_whole", "_law_place", "_law_turned", "_law_less", "_law_fewer", "_law_k", "_law_word", "_law_row", "_law_other", "_law_far", "_law_own"]
theorem sc_law_places_right : FnScope N_law_places_right ["_law_words", "_law_book"] (defScope s_law_places_right) := ⟨rfl, rfl, rfl, by decide +kernel, rfl, by decide +kernel, by decide +kernel⟩
abbrev s_law_mixed : Stmt := topS 42
abbrev N_law_mixed : List Str := ["_law_box_here", "_law_items", "_law_rest", "_law_k"]
theorem sc_law_mixed : FnScope N_law_mixed ["_law_box_here", "_law_items"] (defScope s_law_mixed) := ⟨rfl, rfl, rfl, by decide +kernel, rfl, by decide +kernel, by decide +kernel⟩
abbrev s_Addresses_apart : Stmt := inClass (topS 27) 12
abbrev N_Addresses_apart : List Str := ["self", "one", "other"]
theorem sc_Addresses_apart : FnScope N_Addresses_apart ["self", "one", "other"] (defScope s_Addresses_apart) := ⟨rfl, rfl, rfl, by decide +kernel, rfl, by decide +kernel, by decide +kernel⟩
abbrev s_law_order_right : Stmt := topS 48
abbrev N_law_order_right : List Str := ["_law_box_here", "_law_words", "_law_book", "_law_order", "_law_told_here", "_law_k", "_law_whole", "_law_moved", "_law_j", "_law_back"]
theorem sc_law_order_right : FnScope N_law_order_right ["_law_box_here", "_law_words", "_law_book"] (defScope s_law_order_right) := ⟨rfl, rfl, rfl, by decide +kernel, rfl, by decide +kernel, by decide +kernel⟩
abbrev s_law_sum_right : Stmt := topS 49
abbrev N_law_sum_right : List Str := ["_law_words", "_law_book", "_law_other_words", "_law_other", "_law_told_here", "_law_word", "_law_more", "_law_sums", "_law_first", "_law_second", "_law_k", "_law_far"]
theorem sc_law_sum_right : FnScope N_law_sum_right ["_law_words", "_law_book", "_law_other_words", "_law_other"] (defScope s_law_sum_right) := ⟨rfl, rfl, rfl, by decide +kernel, rfl, by decide +kernel, by decide +kernel⟩
abbrev s_law : Stmt := topS 52
abbrev N_law : List Str := ["_law_script", "_law_k", "_law_box_here", "_law_count", "_law_most", "_law_rows", "_law_spot", "_law_size", "_law_books", "_law_words", "_law_turn", "_law_one", "_law_other"]
theorem sc_law : FnScope N_law ["_law_script"] (defScope s_law) := ⟨rfl, rfl, rfl, by decide +kernel, rfl, by decide +kernel, by decide +kernel⟩
structure TX (w : World) (K : PySem.W.Frag) (mg : Str → Option Value) : Type where
  C_Addresses : Addr
  gC_Addresses : mg "Addresses" = some (.ref C_Addresses)
  cl_Addresses : Cls K C_Addresses
  it_Addresses : InsT K C_Addresses
  kk_Addresses : PySem.W.kitOne K (.ref C_Addresses) (.ref C_Addresses) = some true
  na_Addresses_kept : NoAttr K C_Addresses "kept"
  f_law_box : Addr
  d_law_box : FuncData
  F_law_box : Fun K "_law_box" "_law_box" s_law_box f_law_box d_law_box
  b_law_box : Binds K d_law_box ["_law_cell"] []
  g_law_box : mg "_law_box" = some (.ref f_law_box)
  f_Addresses_len : Addr
  d_Addresses_len : FuncData
  F_Addresses_len : Fun K "__len__" "Addresses.__len__" s_Addresses_len f_Addresses_len d_Addresses_len
  b_Addresses_len : Binds K d_Addresses_len ["self"] []
  o_Addresses_len : OwnM K C_Addresses "__len__" f_Addresses_len
  f_is_word : Addr
  d_is_word : FuncData
  F_is_word : Fun K "is_word" "is_word" s_is_word f_is_word d_is_word
  b_is_word : Binds K d_is_word ["value"] []
  g_is_word : mg "is_word" = some (.ref f_is_word)
  f_is_integer : Addr
  d_is_integer : FuncData
  F_is_integer : Fun K "is_integer" "is_integer" s_is_integer f_is_integer d_is_integer
  b_is_integer : Binds K d_is_integer ["value"] []
  g_is_integer : mg "is_integer" = some (.ref f_is_integer)
  f_Addresses_check_house : Addr
  d_Addresses_check_house : FuncData
  F_Addresses_check_house : Fun K "check_house" "Addresses.check_house" s_Addresses_check_house f_Addresses_check_house d_Addresses_check_house
  b_Addresses_check_house : Binds K d_Addresses_check_house ["self", "house"] []
  m_Addresses_check_house : Meth K C_Addresses "check_house" f_Addresses_check_house
  f_Addresses_getitem : Addr
  d_Addresses_getitem : FuncData
  F_Addresses_getitem : Fun K "__getitem__" "Addresses.__getitem__" s_Addresses_getitem f_Addresses_getitem d_Addresses_getitem
  b_Addresses_getitem : Binds K d_Addresses_getitem ["self", "house"] []
  o_Addresses_getitem : OwnM K C_Addresses "__getitem__" f_Addresses_getitem
  f_are_words : Addr
  d_are_words : FuncData
  F_are_words : Fun K "are_words" "are_words" s_are_words f_are_words d_are_words
  b_are_words : Binds K d_are_words ["value"] []
  g_are_words : mg "are_words" = some (.ref f_are_words)
  f_Addresses_init : Addr
  d_Addresses_init : FuncData
  F_Addresses_init : Fun K "__init__" "Addresses.__init__" s_Addresses_init f_Addresses_init d_Addresses_init
  b_Addresses_init : Binds K d_Addresses_init ["self", "words"] []
  mk_Addresses : Mk K C_Addresses f_Addresses_init
  f_law_cell_at : Addr
  d_law_cell_at : FuncData
  F_law_cell_at : Fun K "_law_cell_at" "_law_cell_at" s_law_cell_at f_law_cell_at d_law_cell_at
  b_law_cell_at : Binds K d_law_cell_at ["_law_script", "_law_k"] []
  g_law_cell_at : mg "_law_cell_at" = some (.ref f_law_cell_at)
  f_law_take : Addr
  d_law_take : FuncData
  F_law_take : Fun K "_law_take" "_law_take" s_law_take f_law_take d_law_take
  b_law_take : Binds K d_law_take ["_law_box_here", "_law_many"] []
  g_law_take : mg "_law_take" = some (.ref f_law_take)
  f_Addresses_eq : Addr
  d_Addresses_eq : FuncData
  F_Addresses_eq : Fun K "__eq__" "Addresses.__eq__" s_Addresses_eq f_Addresses_eq d_Addresses_eq
  b_Addresses_eq : Binds K d_Addresses_eq ["self", "other"] []
  oe_Addresses : OwnE K C_Addresses f_Addresses_eq
  f_law_signs : Addr
  d_law_signs : FuncData
  F_law_signs : Fun K "_law_signs" "_law_signs" s_law_signs f_law_signs d_law_signs
  b_law_signs : Binds K d_law_signs ["_law_box_here", "_law_size"] []
  g_law_signs : mg "_law_signs" = some (.ref f_law_signs)
  f_Addresses_words : Addr
  d_Addresses_words : FuncData
  F_Addresses_words : Fun K "words" "Addresses.words" s_Addresses_words f_Addresses_words d_Addresses_words
  b_Addresses_words : Binds K d_Addresses_words ["self"] []
  q_Addresses_words : Addr
  p_Addresses_words : PropOf K C_Addresses "words" q_Addresses_words f_Addresses_words
  f_check_addresses : Addr
  d_check_addresses : FuncData
  F_check_addresses : Fun K "check_addresses" "check_addresses" s_check_addresses f_check_addresses d_check_addresses
  b_check_addresses : Binds K d_check_addresses ["value"] []
  g_check_addresses : mg "check_addresses" = some (.ref f_check_addresses)
  f_Addresses_length : Addr
  d_Addresses_length : FuncData
  F_Addresses_length : Fun K "length" "Addresses.length" s_Addresses_length f_Addresses_length d_Addresses_length
  b_Addresses_length : Binds K d_Addresses_length ["self"] []
  q_Addresses_length : Addr
  p_Addresses_length : PropOf K C_Addresses "length" q_Addresses_length f_Addresses_length
  f_pairs_of : Addr
  d_pairs_of : FuncData
  F_pairs_of : Fun K "pairs_of" "pairs_of" s_pairs_of f_pairs_of d_pairs_of
  b_pairs_of : Binds K d_pairs_of ["addresses"] []
  g_pairs_of : mg "pairs_of" = some (.ref f_pairs_of)
  f_needless : Addr
  d_needless : FuncData
  F_needless : Fun K "needless" "needless" s_needless f_needless d_needless
  b_needless : Binds K d_needless ["addresses"] []
  g_needless : mg "needless" = some (.ref f_needless)
  f_check_word : Addr
  d_check_word : FuncData
  F_check_word : Fun K "check_word" "check_word" s_check_word f_check_word d_check_word
  b_check_word : Binds K d_check_word ["value"] []
  g_check_word : mg "check_word" = some (.ref f_check_word)
  f_differing : Addr
  d_differing : FuncData
  F_differing : Fun K "differing" "differing" s_differing f_differing d_differing
  b_differing : Binds K d_differing ["one", "other"] []
  g_differing : mg "differing" = some (.ref f_differing)
  f_meets : Addr
  d_meets : FuncData
  F_meets : Fun K "meets" "meets" s_meets f_meets d_meets
  b_meets : Binds K d_meets ["one", "other"] []
  g_meets : mg "meets" = some (.ref f_meets)
  f_held_by_both : Addr
  d_held_by_both : FuncData
  F_held_by_both : Fun K "held_by_both" "held_by_both" s_held_by_both f_held_by_both d_held_by_both
  b_held_by_both : Binds K d_held_by_both ["one", "other"] []
  g_held_by_both : mg "held_by_both" = some (.ref f_held_by_both)
  f_meeting : Addr
  d_meeting : FuncData
  F_meeting : Fun K "meeting" "meeting" s_meeting f_meeting d_meeting
  b_meeting : Binds K d_meeting ["addresses"] []
  g_meeting : mg "meeting" = some (.ref f_meeting)
  f_apart : Addr
  d_apart : FuncData
  F_apart : Fun K "apart" "apart" s_apart f_apart d_apart
  b_apart : Binds K d_apart ["one", "other"] []
  g_apart : mg "apart" = some (.ref f_apart)
  f_Addresses_table : Addr
  d_Addresses_table : FuncData
  F_Addresses_table : Fun K "table" "Addresses.table" s_Addresses_table f_Addresses_table d_Addresses_table
  b_Addresses_table : Binds K d_Addresses_table ["self"] []
  m_Addresses_table : Meth K C_Addresses "table" f_Addresses_table
  f_trimmed : Addr
  d_trimmed : FuncData
  F_trimmed : Fun K "trimmed" "trimmed" s_trimmed f_trimmed d_trimmed
  b_trimmed : Binds K d_trimmed ["addresses"] []
  g_trimmed : mg "trimmed" = some (.ref f_trimmed)
  f_law_told : Addr
  d_law_told : FuncData
  F_law_told : Fun K "_law_told" "_law_told" s_law_told f_law_told d_law_told
  b_law_told : Binds K d_law_told ["_law_book"] []
  g_law_told : mg "_law_told" = some (.ref f_law_told)
  f_Addresses_renamed : Addr
  d_Addresses_renamed : FuncData
  F_Addresses_renamed : Fun K "renamed" "Addresses.renamed" s_Addresses_renamed f_Addresses_renamed d_Addresses_renamed
  b_Addresses_renamed : Binds K d_Addresses_renamed ["self", "order"] []
  m_Addresses_renamed : Meth K C_Addresses "renamed" f_Addresses_renamed
  f_Addresses_followed : Addr
  d_Addresses_followed : FuncData
  F_Addresses_followed : Fun K "followed" "Addresses.followed" s_Addresses_followed f_Addresses_followed d_Addresses_followed
  b_Addresses_followed : Binds K d_Addresses_followed ["self", "other"] []
  m_Addresses_followed : Meth K C_Addresses "followed" f_Addresses_followed
  f_Addresses_check_place : Addr
  d_Addresses_check_place : FuncData
  F_Addresses_check_place : Fun K "check_place" "Addresses.check_place" s_Addresses_check_place f_Addresses_check_place d_Addresses_check_place
  b_Addresses_check_place : Binds K d_Addresses_check_place ["self", "place"] []
  m_Addresses_check_place : Meth K C_Addresses "check_place" f_Addresses_check_place
  f_flipped : Addr
  d_flipped : FuncData
  F_flipped : Fun K "flipped" "flipped" s_flipped f_flipped d_flipped
  b_flipped : Binds K d_flipped ["word"] []
  g_flipped : mg "flipped" = some (.ref f_flipped)
  f_Addresses_flipped : Addr
  d_Addresses_flipped : FuncData
  F_Addresses_flipped : Fun K "flipped" "Addresses.flipped" s_Addresses_flipped f_Addresses_flipped d_Addresses_flipped
  b_Addresses_flipped : Binds K d_Addresses_flipped ["self", "place"] []
  m_Addresses_flipped : Meth K C_Addresses "flipped" f_Addresses_flipped
  f_Addresses_without : Addr
  d_Addresses_without : FuncData
  F_Addresses_without : Fun K "without" "Addresses.without" s_Addresses_without f_Addresses_without d_Addresses_without
  b_Addresses_without : Binds K d_Addresses_without ["self", "place"] []
  m_Addresses_without : Meth K C_Addresses "without" f_Addresses_without
  f_law_behind_right : Addr
  d_law_behind_right : FuncData
  F_law_behind_right : Fun K "_law_behind_right" "_law_behind_right" s_law_behind_right f_law_behind_right d_law_behind_right
  b_law_behind_right : Binds K d_law_behind_right ["_law_box_here", "_law_words", "_law_book", "_law_other"] []
  g_law_behind_right : mg "_law_behind_right" = some (.ref f_law_behind_right)
  f_law_flipped : Addr
  d_law_flipped : FuncData
  F_law_flipped : Fun K "_law_flipped" "_law_flipped" s_law_flipped f_law_flipped d_law_flipped
  b_law_flipped : Binds K d_law_flipped ["_law_words", "_law_place"] []
  g_law_flipped : mg "_law_flipped" = some (.ref f_law_flipped)
  f_law_without : Addr
  d_law_without : FuncData
  F_law_without : Fun K "_law_without" "_law_without" s_law_without f_law_without d_law_without
  b_law_without : Binds K d_law_without ["_law_words", "_law_place"] []
  g_law_without : mg "_law_without" = some (.ref f_law_without)
  f_law_apart : Addr
  d_law_apart : FuncData
  F_law_apart : Fun K "_law_apart" "_law_apart" s_law_apart f_law_apart d_law_apart
  b_law_apart : Binds K d_law_apart ["_law_one", "_law_other"] []
  g_law_apart : mg "_law_apart" = some (.ref f_law_apart)
  f_law_places_right : Addr
  d_law_places_right : FuncData
  F_law_places_right : Fun K "_law_places_right" "_law_places_right" s_law_places_right f_law_places_right d_law_places_right
  b_law_places_right : Binds K d_law_places_right ["_law_words", "_law_book"] []
  g_law_places_right : mg "_law_places_right" = some (.ref f_law_places_right)
  f_law_mixed : Addr
  d_law_mixed : FuncData
  F_law_mixed : Fun K "_law_mixed" "_law_mixed" s_law_mixed f_law_mixed d_law_mixed
  b_law_mixed : Binds K d_law_mixed ["_law_box_here", "_law_items"] []
  g_law_mixed : mg "_law_mixed" = some (.ref f_law_mixed)
  f_Addresses_apart : Addr
  d_Addresses_apart : FuncData
  F_Addresses_apart : Fun K "apart" "Addresses.apart" s_Addresses_apart f_Addresses_apart d_Addresses_apart
  b_Addresses_apart : Binds K d_Addresses_apart ["self", "one", "other"] []
  m_Addresses_apart : Meth K C_Addresses "apart" f_Addresses_apart
  f_law_order_right : Addr
  d_law_order_right : FuncData
  F_law_order_right : Fun K "_law_order_right" "_law_order_right" s_law_order_right f_law_order_right d_law_order_right
  b_law_order_right : Binds K d_law_order_right ["_law_box_here", "_law_words", "_law_book"] []
  g_law_order_right : mg "_law_order_right" = some (.ref f_law_order_right)
  f_law_sum_right : Addr
  d_law_sum_right : FuncData
  F_law_sum_right : Fun K "_law_sum_right" "_law_sum_right" s_law_sum_right f_law_sum_right d_law_sum_right
  b_law_sum_right : Binds K d_law_sum_right ["_law_words", "_law_book", "_law_other_words", "_law_other"] []
  g_law_sum_right : mg "_law_sum_right" = some (.ref f_law_sum_right)
  f_law : Addr
  d_law : FuncData
  F_law : Fun K "law" "law" s_law f_law d_law
  b_law : Binds K d_law ["_law_script"] []
  g_law : mg "law" = some (.ref f_law)
  g_apart_words : mg "apart_words" = some (.ref f_apart)
  g_flipped_words : mg "flipped_words" = some (.ref f_flipped)
  z_max : mg "max" = none
  z_int : mg "int" = none
  z_len : mg "len" = none
  z_isinstance : mg "isinstance" = none
  z_str : mg "str" = none
  z_all : mg "all" = none
  z_bool : mg "bool" = none
  z_list : mg "list" = none
  z_tuple : mg "tuple" = none
  z_range : mg "range" = none
  z_enumerate : mg "enumerate" = none
  z_zip : mg "zip" = none
  z_sorted : mg "sorted" = none
  z_min : mg "min" = none
  t_MOST_SIGNS_words : Tok
  c_MOST_SIGNS_words : mg "MOST_SIGNS_words" = some (.int 60 t_MOST_SIGNS_words)
  t_SIGNS : Tok
  c_SIGNS : mg "SIGNS" = some (.str "01*" t_SIGNS)
  t_MOST_HOUSES : Tok
  c_MOST_HOUSES : mg "MOST_HOUSES" = some (.int 40 t_MOST_HOUSES)
  t_MOST_SIGNS_addresses : Tok
  c_MOST_SIGNS_addresses : mg "MOST_SIGNS_addresses" = some (.int 60 t_MOST_SIGNS_addresses)
  kc_Addresses : PySem.W.kitOne K (.type "int") (.ref C_Addresses) = some false
  kb_Addresses_bool : PySem.W.kitOne K (.ref C_Addresses) (.type "bool") = some false
  kb_Addresses_int : PySem.W.kitOne K (.ref C_Addresses) (.type "int") = some false
  kb_Addresses_str : PySem.W.kitOne K (.ref C_Addresses) (.type "str") = some false
  kb_Addresses_list : PySem.W.kitOne K (.ref C_Addresses) (.type "list") = some false
  kb_Addresses_tuple : PySem.W.kitOne K (.ref C_Addresses) (.type "tuple") = some false
  kb_Addresses_dict : PySem.W.kitOne K (.ref C_Addresses) (.type "dict") = some false
  a_FLIPPED : Addr
  g_FLIPPED : mg "FLIPPED" = some (.ref a_FLIPPED)
  kd_FLIPPED : ∀ q ∈ ([("0", "1"), ("1", "0"), ("*", "*")] : List (Str × Str)), L2.KDct K w a_FLIPPED q.1 (.str q.2)
open DN
def zt {w : World} {K : PySem.W.Frag} {mg : Str → Option Value} (T : TX w K mg) : Zx := ⟨⟨K, fun c => if c = "Addresses" then T.C_Addresses else 0, fun _ => (0, "")⟩, none, none⟩
section
variable {w : World} {K : PySem.W.Frag} {mg : Str → Option Value}
theorem cm_Addresses (T : TX w K mg) : (zt T).cm "Addresses" = T.C_Addresses := by simp [zt]
theorem gZ_Addresses (T : TX w K mg) : mg "Addresses" = some (.ref ((zt T).cm "Addresses")) := by rw [cm_Addresses]; exact T.gC_Addresses
theorem clZ_Addresses (T : TX w K mg) : Cls K ((zt T).cm "Addresses") := by rw [cm_Addresses]; exact T.cl_Addresses
theorem fd_Addresses_kept (T : TX w K mg) : Fd (zt T) "kept" "Addresses" := ⟨clZ_Addresses T, by rw [cm_Addresses]; exact T.na_Addresses_kept⟩
theorem oZ_Addresses_len (T : TX w K mg) : OP.OwnM K ((zt T).cm "Addresses") "__len__" T.f_Addresses_len := by rw [cm_Addresses]; exact T.o_Addresses_len
theorem mZ_Addresses_check_house (T : TX w K mg) : Meth K ((zt T).cm "Addresses") "check_house" T.f_Addresses_check_house := by rw [cm_Addresses]; exact T.m_Addresses_check_house
theorem oZ_Addresses_getitem (T : TX w K mg) : OP.OwnM K ((zt T).cm "Addresses") "__getitem__" T.f_Addresses_getitem := by rw [cm_Addresses]; exact T.o_Addresses_getitem
theorem mkZ_Addresses (T : TX w K mg) : Mk K ((zt T).cm "Addresses") T.f_Addresses_init := by rw [cm_Addresses]; exact T.mk_Addresses
theorem oeZ_Addresses (T : TX w K mg) : OP.OwnE K ((zt T).cm "Addresses") T.f_Addresses_eq := by rw [cm_Addresses]; exact T.oe_Addresses
theorem pZ_Addresses_words (T : TX w K mg) : PropOf K ((zt T).cm "Addresses") "words" T.q_Addresses_words T.f_Addresses_words := by rw [cm_Addresses]; exact T.p_Addresses_words
theorem pZ_Addresses_length (T : TX w K mg) : PropOf K ((zt T).cm "Addresses") "length" T.q_Addresses_length T.f_Addresses_length := by rw [cm_Addresses]; exact T.p_Addresses_length
theorem mZ_Addresses_table (T : TX w K mg) : Meth K ((zt T).cm "Addresses") "table" T.f_Addresses_table := by rw [cm_Addresses]; exact T.m_Addresses_table
theorem mZ_Addresses_renamed (T : TX w K mg) : Meth K ((zt T).cm "Addresses") "renamed" T.f_Addresses_renamed := by rw [cm_Addresses]; exact T.m_Addresses_renamed
theorem mZ_Addresses_followed (T : TX w K mg) : Meth K ((zt T).cm "Addresses") "followed" T.f_Addresses_followed := by rw [cm_Addresses]; exact T.m_Addresses_followed
theorem mZ_Addresses_check_place (T : TX w K mg) : Meth K ((zt T).cm "Addresses") "check_place" T.f_Addresses_check_place := by rw [cm_Addresses]; exact T.m_Addresses_check_place
theorem mZ_Addresses_flipped (T : TX w K mg) : Meth K ((zt T).cm "Addresses") "flipped" T.f_Addresses_flipped := by rw [cm_Addresses]; exact T.m_Addresses_flipped
theorem mZ_Addresses_without (T : TX w K mg) : Meth K ((zt T).cm "Addresses") "without" T.f_Addresses_without := by rw [cm_Addresses]; exact T.m_Addresses_without
theorem mZ_Addresses_apart (T : TX w K mg) : Meth K ((zt T).cm "Addresses") "apart" T.f_Addresses_apart := by rw [cm_Addresses]; exact T.m_Addresses_apart
theorem csok (T : TX w K mg) : CsOk (zt T) ["Addresses"] := ⟨(AllC.cons ⟨clZ_Addresses T, by rw [cm_Addresses]; exact T.it_Addresses, by rw [cm_Addresses]; exact T.kc_Addresses, (AllC.cons (by rw [cm_Addresses]; exact T.kb_Addresses_bool) (AllC.cons (by rw [cm_Addresses]; exact T.kb_Addresses_int) (AllC.cons (by rw [cm_Addresses]; exact T.kb_Addresses_str) (AllC.cons (by rw [cm_Addresses]; exact T.kb_Addresses_list) (AllC.cons (by rw [cm_Addresses]; exact T.kb_Addresses_tuple) (AllC.cons (by rw [cm_Addresses]; exact T.kb_Addresses_dict) AllC.nil))))))⟩ AllC.nil), (AllC.cons (AllC.cons (.inl rfl) AllC.nil) AllC.nil)⟩
end
section
variable {w : World} {K : PySem.W.Frag} {mg : Str → Option Value} {base : Heap}
theorem G_law_box {b : Bool} (T : TX w K mg) : FnG b PP w K mg base (L2N.CX PP w) 1 T.f_law_box T.d_law_box ["_law_cell"] (spD (zt T) 1 D_law_box) :=
  fn_d (Z := zt T) (K := K) (N := N_law_box) (fb := B_law_box) (DN.Fun.d T.F_law_box) sc_law_box fun cdv A outer s H E hr =>
    (psf_one (psf_ret (pf_lst (paf_cons (pf_callB (cd_max rfl rfl) (by rfl) T.z_max (by decide +kernel) (paf_cons pf_int (paf_cons (pf_op od_sub (pf_var 0) (pf_op od_pow pf_int pf_int)) paf_nil))) (paf_cons (pf_op od_mod (pf_callT cd_int (by rfl) T.z_int (by decide +kernel) (paf_cons (pf_var 0) paf_nil)) pf_int) (paf_cons pf_int paf_nil))))))
theorem G_Addresses_len {b : Bool} (T : TX w K mg) : FnG b PP w K mg base (L2N.CX PP w) 1 T.f_Addresses_len T.d_Addresses_len ["self"] (spD (zt T) 1 D_Addresses_len) :=
  fn_d (Z := zt T) (K := K) (N := N_Addresses_len) (fb := B_Addresses_len) (DN.Fun.d T.F_Addresses_len) sc_Addresses_len fun cdv A outer s H E hr =>
    (psf_one (psf_ret (pf_callB (cd_len rfl) (by rfl) T.z_len (by decide +kernel) (paf_cons (pf_fld ["Addresses"] rfl (AllC.cons (fd_Addresses_kept T) AllC.nil) (pf_var 0)) paf_nil))))
theorem G_is_word {b : Bool} (T : TX w K mg) : FnG b PP w K mg base (L2N.CX PP w) 4 T.f_is_word T.d_is_word ["value"] (spD (zt T) 1 D_is_word) :=
  fn_d (Z := zt T) (K := K) (N := N_is_word) (fb := B_is_word) (DN.Fun.d T.F_is_word) sc_is_word fun cdv A outer s H E hr =>
    (psf_one (psf_ret (pf_and (pf_callB (cd_isi (csok T) rfl) (by rfl) T.z_isinstance (by decide +kernel) (paf_cons (pf_var 0) (paf_cons (pf_bltn (v := .ty "str") (u := .type "str") (by rfl) T.z_str (by decide +kernel) rfl (fun _ => on_ty)) paf_nil))) (pf_and (pf_cmp od_le (pf_lenO (AllM.cons ⟨⟨⟨_, _, _, _, _, hr.mono (by decide), oZ_Addresses_len T, G_Addresses_len T, T.b_Addresses_len⟩⟩⟩ AllM.nil) rfl (by rfl) T.z_len (paf_cons (pf_var 0) paf_nil)) (pf_glob (v := .int 60) rfl T.c_MOST_SIGNS_words ⟨_, rfl⟩ (fun _ => on_int)) (nomark _)) (pf_one (pf_callB (cd_all rfl) (by rfl) T.z_all (by decide +kernel) (paf_cons (pf_lc (own := [("sign", 1)]) rfl sc_is_word.nd (pif_val rfl (pf_var 0)) (blkOk_by (N := N_is_word) (sc := defScope s_is_word) (by decide +kernel)) (fun _ _ _ _ _ => (pgf_name 1 sc_is_word.nd rfl (by first | exact .inl rfl | exact .inr rfl))) (fun _ _ _ _ _ => ptsf_nil) (fun _ _ _ _ _ => (pf_cmp (od_in hr.u65 rfl) (pf_var 1) (pf_glob (v := .str "01*") rfl T.c_SIGNS ⟨_, rfl⟩ (fun _ => on_str)) (by rfl)))) paf_nil)))))))
theorem G_is_integer {b : Bool} (T : TX w K mg) : FnG b PP w K mg base (L2N.CX PP w) 1 T.f_is_integer T.d_is_integer ["value"] (spD (zt T) 1 D_is_integer) :=
  fn_d (Z := zt T) (K := K) (N := N_is_integer) (fb := B_is_integer) (DN.Fun.d T.F_is_integer) sc_is_integer fun cdv A outer s H E hr =>
    (psf_one (psf_ret (pf_and (pf_callB (cd_isi (csok T) rfl) (by rfl) T.z_isinstance (by decide +kernel) (paf_cons (pf_var 0) (paf_cons (pf_bltn (v := .ty "int") (u := .type "int") (by rfl) T.z_int (by decide +kernel) rfl (fun _ => on_ty)) paf_nil))) (pf_one (pf_not (pf_callB (cd_isi (csok T) rfl) (by rfl) T.z_isinstance (by decide +kernel) (paf_cons (pf_var 0) (paf_cons (pf_bltn (v := .ty "bool") (u := .type "bool") (by rfl) T.z_bool (by decide +kernel) rfl (fun _ => on_ty)) paf_nil))))))))
theorem G_Addresses_check_house {b : Bool} (T : TX w K mg) : FnG b PP w K mg base (L2N.CX PP w) 2 T.f_Addresses_check_house T.d_Addresses_check_house ["self", "house"] (spD (zt T) 2 D_Addresses_check_house) :=
  fn_d (Z := zt T) (K := K) (N := N_Addresses_check_house) (fb := B_Addresses_check_house) (DN.Fun.d T.F_Addresses_check_house) sc_Addresses_check_house fun cdv A outer s H E hr =>
    (psf_one (psf_if (ptf_w (pwf_or (ptf_not (ptf_val (pf_call (G_is_integer T) (hr.mono (by decide)) tkd (by rfl) T.g_is_integer T.F_is_integer.kp T.b_is_integer (paf_cons (pf_var 1) paf_nil)))) (pwf_one (ptf_not (ptf_chain od_le od_lt pf_int (pf_var 1) (pf_callB (cd_len rfl) (by rfl) T.z_len (by decide +kernel) (paf_cons (pf_fld ["Addresses"] rfl (AllC.cons (fd_Addresses_kept T) AllC.nil) (pf_var 0)) paf_nil))))))) (psf_one psf_no) psf_nil))
theorem G_Addresses_getitem {b : Bool} (T : TX w K mg) : FnG b PP w K mg base (L2N.CX PP w) 3 T.f_Addresses_getitem T.d_Addresses_getitem ["self", "house"] (spD (zt T) 2 D_Addresses_getitem) :=
  fn_d (Z := zt T) (K := K) (N := N_Addresses_getitem) (fb := B_Addresses_getitem) (DN.Fun.d T.F_Addresses_getitem) sc_Addresses_getitem fun cdv A outer s H E hr =>
    (psf_cons (psf_expr (pf_methD tkd (AllM.cons ⟨⟨⟨_, _, _, _, _, hr.mono (by decide), clZ_Addresses T, mZ_Addresses_check_house T, G_Addresses_check_house T, T.b_Addresses_check_house⟩⟩, by decide⟩ AllM.nil) (pf_var 0) (paf_cons (pf_var 1) paf_nil)))
    (psf_one (psf_ret (pf_ix (ix_d hr.u1 rfl) (pf_fld ["Addresses"] rfl (AllC.cons (fd_Addresses_kept T) AllC.nil) (pf_var 0)) (pf_var 1)))))
theorem G_are_words {b : Bool} (T : TX w K mg) : FnG b PP w K mg base (L2N.CX PP w) 6 T.f_are_words T.d_are_words ["value"] (spD (zt T) 1 D_are_words) :=
  fn_d (Z := zt T) (K := K) (N := N_are_words) (fb := B_are_words) (DN.Fun.d T.F_are_words) sc_are_words fun cdv A outer s H E hr =>
    (psf_cons (psf_if (ptf_w (pwf_or (ptf_not (ptf_val (pf_callB (cd_isi (csok T) rfl) (by rfl) T.z_isinstance (by decide +kernel) (paf_cons (pf_var 0) (paf_cons (pf_tup (paf_cons (pf_bltn (v := .ty "list") (u := .type "list") (by rfl) T.z_list (by decide +kernel) rfl (fun _ => on_ty)) (paf_cons (pf_bltn (v := .ty "tuple") (u := .type "tuple") (by rfl) T.z_tuple (by decide +kernel) rfl (fun _ => on_ty)) paf_nil))) paf_nil))))) (pwf_one (ptf_not (ptf_chain od_le od_le pf_int (pf_lenO (AllM.cons ⟨⟨⟨_, _, _, _, _, hr.mono (by decide), oZ_Addresses_len T, G_Addresses_len T, T.b_Addresses_len⟩⟩⟩ AllM.nil) rfl (by rfl) T.z_len (paf_cons (pf_var 0) paf_nil)) (pf_glob (v := .int 40) rfl T.c_MOST_HOUSES ⟨_, rfl⟩ (fun _ => on_int))))))) (psf_one (psf_ret pf_bl)) psf_nil)
    (psf_one (psf_ret (pf_and (pf_callB (cd_all rfl) (by rfl) T.z_all (by decide +kernel) (paf_cons (pf_lc (own := [("word", 1)]) rfl sc_are_words.nd (pif_val rfl (pf_var 0)) (blkOk_by (N := N_are_words) (sc := defScope s_are_words) (by decide +kernel)) (fun _ _ _ _ _ => (pgf_name 1 sc_are_words.nd rfl (by first | exact .inl rfl | exact .inr rfl))) (fun _ _ _ _ _ => ptsf_nil) (fun _ _ _ _ _ => (pf_call (G_is_word T) (hr.mono (by decide)) tk0 (by rfl) T.g_is_word T.F_is_word.kp T.b_is_word (paf_cons (pf_var 1) paf_nil)))) paf_nil)) (pf_one (pf_callB (cd_all rfl) (by rfl) T.z_all (by decide +kernel) (paf_cons (pf_lc (own := [("word", 1)]) rfl sc_are_words.nd (pif_val rfl (pf_var 0)) (blkOk_by (N := N_are_words) (sc := defScope s_are_words) (by decide +kernel)) (fun _ _ _ _ _ => (pgf_name 1 sc_are_words.nd rfl (by first | exact .inl rfl | exact .inr rfl))) (fun _ _ _ _ _ => ptsf_nil) (fun _ _ _ _ _ => (pf_cmp (od_eq hr.u64 rfl) (pf_lenO (AllM.cons ⟨⟨⟨_, _, _, _, _, hr.mono (by decide), oZ_Addresses_len T, G_Addresses_len T, T.b_Addresses_len⟩⟩⟩ AllM.nil) rfl (by rfl) T.z_len (paf_cons (pf_var 1) paf_nil)) (pf_lenO (AllM.cons ⟨⟨⟨_, _, _, _, _, hr.mono (by decide), oZ_Addresses_len T, G_Addresses_len T, T.b_Addresses_len⟩⟩⟩ AllM.nil) rfl (by rfl) T.z_len (paf_cons (pf_ixO (AllM.cons ⟨⟨⟨_, _, _, _, _, hr.mono (by decide), oZ_Addresses_getitem T, G_Addresses_getitem T, T.b_Addresses_getitem⟩⟩⟩ AllM.nil) hr.u1 rfl (pf_var 0) pf_int) paf_nil)) (nomark _)))) paf_nil)))))))
theorem G_Addresses_init {b : Bool} (T : TX w K mg) : FnG b PP w K mg base (L2N.CX PP w) 7 T.f_Addresses_init T.d_Addresses_init ["self", "words"] (spD (zt T) 2 D_Addresses_init) :=
  fn_d (Z := zt T) (K := K) (N := N_Addresses_init) (fb := B_Addresses_init) (DN.Fun.d T.F_Addresses_init) sc_Addresses_init fun cdv A outer s H E hr =>
    (psf_cons (psf_if (ptf_not (ptf_val (pf_call (G_are_words T) (hr.mono (by decide)) tkd (by rfl) T.g_are_words T.F_are_words.kp T.b_are_words (paf_cons (pf_var 1) paf_nil)))) (psf_one psf_no) psf_nil)
    (psf_one (psf_fld ["Addresses"] rfl (AllC.cons (fd_Addresses_kept T) AllC.nil) (pf_var 0) (pf_callT cd_tuple (by rfl) T.z_tuple (by decide +kernel) (paf_cons (pf_var 1) paf_nil)))))
theorem G_law_cell_at {b : Bool} (T : TX w K mg) : FnG b PP w K mg base (L2N.CX PP w) 6 T.f_law_cell_at T.d_law_cell_at ["_law_script", "_law_k"] (spD (zt T) 2 D_law_cell_at) :=
  fn_d (Z := zt T) (K := K) (N := N_law_cell_at) (fb := B_law_cell_at) (DN.Fun.d T.F_law_cell_at) sc_law_cell_at fun cdv A outer s H E hr =>
    (psf_cons (psf_if (ptf_cmp od_lt (pf_var 1) (pf_lenO (AllM.cons ⟨⟨⟨_, _, _, _, _, hr.mono (by decide), oZ_Addresses_len T, G_Addresses_len T, T.b_Addresses_len⟩⟩⟩ AllM.nil) rfl (by rfl) T.z_len (paf_cons (pf_var 0) paf_nil)) (nomark _)) (psf_one (psf_ret (pf_ixO (AllM.cons ⟨⟨⟨_, _, _, _, _, hr.mono (by decide), oZ_Addresses_getitem T, G_Addresses_getitem T, T.b_Addresses_getitem⟩⟩⟩ AllM.nil) hr.u1 rfl (pf_var 0) (pf_var 1)))) psf_nil)
    (psf_one (psf_ret (pf_op (od_add rfl) (pf_op od_mul pf_int (pf_var 1)) pf_int))))
theorem G_law_take {b : Bool} (T : TX w K mg) : FnG b PP w K mg base (L2N.CX PP w) 6 T.f_law_take T.d_law_take ["_law_box_here", "_law_many"] (spD (zt T) 2 D_law_take) :=
  fn_d (Z := zt T) (K := K) (N := N_law_take) (fb := B_law_take) (DN.Fun.d T.F_law_take) sc_law_take fun cdv A outer s H E hr =>
    (psf_cons (psf_if (ptf_cmp od_gt (pf_ixO (AllM.cons ⟨⟨⟨_, _, _, _, _, hr.mono (by decide), oZ_Addresses_getitem T, G_Addresses_getitem T, T.b_Addresses_getitem⟩⟩⟩ AllM.nil) hr.u1 rfl (pf_var 0) pf_int) pf_int (nomark _)) (psf_cons (psf_set 2 sc_law_take.nd rfl (.inl rfl) (pf_op od_mod (pf_callT cd_int (by rfl) T.z_int (by decide +kernel) (paf_cons (pf_ixO (AllM.cons ⟨⟨⟨_, _, _, _, _, hr.mono (by decide), oZ_Addresses_getitem T, G_Addresses_getitem T, T.b_Addresses_getitem⟩⟩⟩ AllM.nil) hr.u1 rfl (pf_var 0) pf_int) paf_nil)) (pf_var 1)))
    (psf_cons (psf_sub (pf_var 0) pf_int (pf_op od_div (pf_ixO (AllM.cons ⟨⟨⟨_, _, _, _, _, hr.mono (by decide), oZ_Addresses_getitem T, G_Addresses_getitem T, T.b_Addresses_getitem⟩⟩⟩ AllM.nil) hr.u1 rfl (pf_var 0) pf_int) (pf_var 1)))
    (psf_one (psf_ret (pf_var 2))))) psf_nil)
    (psf_cons (psf_sub (pf_var 0) pf_int (pf_op (od_add rfl) (pf_ixO (AllM.cons ⟨⟨⟨_, _, _, _, _, hr.mono (by decide), oZ_Addresses_getitem T, G_Addresses_getitem T, T.b_Addresses_getitem⟩⟩⟩ AllM.nil) hr.u1 rfl (pf_var 0) pf_int) pf_int))
    (psf_cons (psf_set 3 sc_law_take.nd rfl (.inl rfl) (pf_op od_mod (pf_op od_pow (pf_callT cd_int (by rfl) T.z_int (by decide +kernel) (paf_cons (pf_op (od_add rfl) (pf_op (od_add rfl) (pf_ixO (AllM.cons ⟨⟨⟨_, _, _, _, _, hr.mono (by decide), oZ_Addresses_getitem T, G_Addresses_getitem T, T.b_Addresses_getitem⟩⟩⟩ AllM.nil) hr.u1 rfl (pf_var 0) pf_int) (pf_op od_mul pf_int (pf_ixO (AllM.cons ⟨⟨⟨_, _, _, _, _, hr.mono (by decide), oZ_Addresses_getitem T, G_Addresses_getitem T, T.b_Addresses_getitem⟩⟩⟩ AllM.nil) hr.u1 rfl (pf_var 0) pf_int))) pf_int) paf_nil)) pf_int) pf_int))
    (psf_cons (psf_set 3 sc_law_take.nd rfl (.inl rfl) (pf_op od_mod (pf_op od_pow (pf_callT cd_int (by rfl) T.z_int (by decide +kernel) (paf_cons (pf_op (od_add rfl) (pf_var 3) (pf_op od_mul pf_int (pf_ixO (AllM.cons ⟨⟨⟨_, _, _, _, _, hr.mono (by decide), oZ_Addresses_getitem T, G_Addresses_getitem T, T.b_Addresses_getitem⟩⟩⟩ AllM.nil) hr.u1 rfl (pf_var 0) pf_int))) paf_nil)) pf_int) pf_int))
    (psf_one (psf_ret (pf_op od_mod (pf_callT cd_int (by rfl) T.z_int (by decide +kernel) (paf_cons (pf_op od_div (pf_var 3) pf_int) paf_nil)) (pf_var 1))))))))
theorem G_Addresses_eq {b : Bool} (T : TX w K mg) : FnG b PP w K mg base (L2N.CX PP w) 1 T.f_Addresses_eq T.d_Addresses_eq ["self", "other"] (spD (zt T) 2 D_Addresses_eq) :=
  fn_d (Z := zt T) (K := K) (N := N_Addresses_eq) (fb := B_Addresses_eq) (DN.Fun.d T.F_Addresses_eq) sc_Addresses_eq fun cdv A outer s H E hr =>
    (psf_one (psf_ret (pf_and (pf_callB (cd_isi (csok T) rfl) (by rfl) T.z_isinstance (by decide +kernel) (paf_cons (pf_var 1) (paf_cons (pf_glob (v := .ref _) rfl (gZ_Addresses T) rfl (fun _ => on_cls)) paf_nil))) (pf_one (pf_cmp (od_eq hr.u64 rfl) (pf_fld ["Addresses"] rfl (AllC.cons (fd_Addresses_kept T) AllC.nil) (pf_var 0)) (pf_fld ["Addresses"] rfl (AllC.cons (fd_Addresses_kept T) AllC.nil) (pf_var 1)) (nomark _))))))
theorem G_law_signs {b : Bool} (T : TX w K mg) : FnG b PP w K mg base (L2N.CX PP w) 7 T.f_law_signs T.d_law_signs ["_law_box_here", "_law_size"] (spD (zt T) 2 D_law_signs) :=
  fn_d (Z := zt T) (K := K) (N := N_law_signs) (fb := B_law_signs) (DN.Fun.d T.F_law_signs) sc_law_signs fun cdv A outer s H E hr =>
    (psf_cons (psf_set 2 sc_law_signs.nd rfl (.inr rfl) (pf_call (G_law_take T) (hr.mono (by decide)) tkd (by rfl) T.g_law_take T.F_law_take.kp T.b_law_take (paf_cons (pf_var 0) (paf_cons pf_int paf_nil))))
    (psf_one (psf_ret (pf_meth md_join PySem.F.plainAttrs_str PySem.F.slot_str_join PySem.F.type_str_join rfl pf_str (paf_cons (pf_lc (own := [("_law_k", 3)]) rfl sc_law_signs.nd (pif_range1 (by rfl) T.z_range (paf_cons (pf_var 1) paf_nil)) (blkOk_by (N := N_law_signs) (sc := defScope s_law_signs) (by decide +kernel)) (fun _ _ _ _ _ => (pgf_name 3 sc_law_signs.nd rfl (by first | exact .inl rfl | exact .inr rfl))) (fun _ _ _ _ _ => ptsf_nil) (fun _ _ _ _ _ => (pf_ix (ix_d hr.u1 rfl) pf_str (pf_call (G_law_take T) (hr.mono (by decide)) tk0 (by rfl) T.g_law_take T.F_law_take.kp T.b_law_take (paf_cons (pf_var 0) (paf_cons (pf_ix (ix_d hr.u1 rfl) (pf_lst (paf_cons pf_int (paf_cons pf_int (paf_cons pf_int paf_nil)))) (pf_var 2)) paf_nil)))))) paf_nil)))))
theorem G_Addresses_words {b : Bool} (T : TX w K mg) : FnG b PP w K mg base (L2N.CX PP w) 1 T.f_Addresses_words T.d_Addresses_words ["self"] (spD (zt T) 1 D_Addresses_words) :=
  fn_d (Z := zt T) (K := K) (N := N_Addresses_words) (fb := B_Addresses_words) (DN.Fun.d T.F_Addresses_words) sc_Addresses_words fun cdv A outer s H E hr =>
    (psf_one (psf_ret (pf_fld ["Addresses"] rfl (AllC.cons (fd_Addresses_kept T) AllC.nil) (pf_var 0))))
theorem G_check_addresses {b : Bool} (T : TX w K mg) : FnG b PP w K mg base (L2N.CX PP w) 1 T.f_check_addresses T.d_check_addresses ["value"] (spD (zt T) 1 D_check_addresses) :=
  fn_d (Z := zt T) (K := K) (N := N_check_addresses) (fb := B_check_addresses) (DN.Fun.d T.F_check_addresses) sc_check_addresses fun cdv A outer s H E hr =>
    (psf_one (psf_if (ptf_not (ptf_val (pf_callB (cd_isi (csok T) rfl) (by rfl) T.z_isinstance (by decide +kernel) (paf_cons (pf_var 0) (paf_cons (pf_glob (v := .ref _) rfl (gZ_Addresses T) rfl (fun _ => on_cls)) paf_nil))))) (psf_one psf_no) psf_nil))
theorem G_Addresses_length {b : Bool} (T : TX w K mg) : FnG b PP w K mg base (L2N.CX PP w) 1 T.f_Addresses_length T.d_Addresses_length ["self"] (spD (zt T) 1 D_Addresses_length) :=
  fn_d (Z := zt T) (K := K) (N := N_Addresses_length) (fb := B_Addresses_length) (DN.Fun.d T.F_Addresses_length) sc_Addresses_length fun cdv A outer s H E hr =>
    (psf_one (psf_ret (pf_callB (cd_len rfl) (by rfl) T.z_len (by decide +kernel) (paf_cons (pf_ix (ix_d hr.u1 rfl) (pf_fld ["Addresses"] rfl (AllC.cons (fd_Addresses_kept T) AllC.nil) (pf_var 0)) pf_int) paf_nil))))
theorem G_pairs_of {b : Bool} (T : TX w K mg) : FnG b PP w K mg base (L2N.CX PP w) 6 T.f_pairs_of T.d_pairs_of ["addresses"] (spD (zt T) 1 D_pairs_of) :=
  fn_d (Z := zt T) (K := K) (N := N_pairs_of) (fb := B_pairs_of) (DN.Fun.d T.F_pairs_of) sc_pairs_of fun cdv A outer s H E hr =>
    (psf_cons (psf_expr (pf_call (G_check_addresses T) (hr.mono (by decide)) tkd (by rfl) T.g_check_addresses T.F_check_addresses.kp T.b_check_addresses (paf_cons (pf_var 0) paf_nil)))
    (psf_cons (psf_setC 1 sc_pairs_of.nd rfl (.inl rfl) (pf_lst paf_nil))
    (psf_cons (psf_for pod rfl (pif_range1 (by rfl) T.z_range (paf_cons (pf_prop (T := [("Addresses", 1, D_Addresses_length)]) (AllM.cons ⟨⟨⟨_, _, _, _, _, _, hr.mono (by decide), clZ_Addresses T, pZ_Addresses_length T, G_Addresses_length T, T.b_Addresses_length⟩⟩⟩ AllM.nil) (pf_var 0)) paf_nil)) (pgf_name 2 sc_pairs_of.nd rfl (.inr rfl))
      (psf_cons (psf_set 3 sc_pairs_of.nd rfl (.inl rfl) (pf_listEnum rfl rfl (by rfl) T.z_list (by rfl) T.z_enumerate (pf_lc (own := [("word", 4)]) rfl sc_pairs_of.nd (pif_val rfl (pf_prop (T := [("Addresses", 1, D_Addresses_words)]) (AllM.cons ⟨⟨⟨_, _, _, _, _, _, hr.mono (by decide), clZ_Addresses T, pZ_Addresses_words T, G_Addresses_words T, T.b_Addresses_words⟩⟩⟩ AllM.nil) (pf_var 0))) (blkOk_by (N := N_pairs_of) (sc := defScope s_pairs_of) (by decide +kernel)) (fun _ _ _ _ _ => (pgf_name 4 sc_pairs_of.nd rfl (by first | exact .inl rfl | exact .inr rfl))) (fun _ _ _ _ _ => ptsf_nil) (fun _ _ _ _ _ => (pf_ixO (AllM.cons ⟨⟨⟨_, _, _, _, _, hr.mono (by decide), oZ_Addresses_getitem T, G_Addresses_getitem T, T.b_Addresses_getitem⟩⟩⟩ AllM.nil) hr.u1 rfl (pf_var 4) (pf_var 2))))))
    (psf_cons (psf_set 5 sc_pairs_of.nd rfl (.inl rfl) (pf_callT cd_tuple (by rfl) T.z_tuple (by decide +kernel) (paf_cons (pf_lc (own := [("house", 6), ("sign", 7)]) rfl sc_pairs_of.nd (pif_val rfl (pf_var 3)) (blkOk_by (N := N_pairs_of) (sc := defScope s_pairs_of) (by decide +kernel)) (fun _ _ _ _ _ => (pgf_tup rfl rfl (pgfs_cons (pgf_name 6 sc_pairs_of.nd rfl (by first | exact .inl rfl | exact .inr rfl)) (pgfs_cons (pgf_name 7 sc_pairs_of.nd rfl (by first | exact .inl rfl | exact .inr rfl)) pgfs_nil)))) (fun _ _ _ _ _ => (ptsf_one (ptf_eqO (csok T) (AllM.cons ⟨⟨⟨_, _, _, _, _, hr.mono (by decide), oeZ_Addresses T, G_Addresses_eq T, T.b_Addresses_eq⟩⟩⟩ AllM.nil) hr.u64 rfl (pf_var 7) pf_str (nomark _)))) (fun _ _ _ _ _ => (pf_var 6))) paf_nil)))
    (psf_one (psf_expr (pf_mut md_append PySem.F.slot_list_append PySem.F.type_list_append rfl (pf_var 1) (paf_cons (pf_tup (paf_cons (pf_var 5) (paf_cons (pf_callT cd_tuple (by rfl) T.z_tuple (by decide +kernel) (paf_cons (pf_lc (own := [("house", 6), ("sign", 7)]) rfl sc_pairs_of.nd (pif_val rfl (pf_var 3)) (blkOk_by (N := N_pairs_of) (sc := defScope s_pairs_of) (by decide +kernel)) (fun _ _ _ _ _ => (pgf_tup rfl rfl (pgfs_cons (pgf_name 6 sc_pairs_of.nd rfl (by first | exact .inl rfl | exact .inr rfl)) (pgfs_cons (pgf_name 7 sc_pairs_of.nd rfl (by first | exact .inl rfl | exact .inr rfl)) pgfs_nil)))) (fun _ _ _ _ _ => (ptsf_one (ptf_eqO (csok T) (AllM.cons ⟨⟨⟨_, _, _, _, _, hr.mono (by decide), oeZ_Addresses T, G_Addresses_eq T, T.b_Addresses_eq⟩⟩⟩ AllM.nil) hr.u64 rfl (pf_var 7) pf_str (nomark _)))) (fun _ _ _ _ _ => (pf_var 6))) paf_nil)) paf_nil))) paf_nil)))))))
    (psf_one (psf_ret (pf_var 1))))))
theorem G_needless {b : Bool} (T : TX w K mg) : FnG b PP w K mg base (L2N.CX PP w) 6 T.f_needless T.d_needless ["addresses"] (spD (zt T) 1 D_needless) :=
  fn_d (Z := zt T) (K := K) (N := N_needless) (fb := B_needless) (DN.Fun.d T.F_needless) sc_needless fun cdv A outer s H E hr =>
    (psf_cons (psf_expr (pf_call (G_check_addresses T) (hr.mono (by decide)) tkd (by rfl) T.g_check_addresses T.F_check_addresses.kp T.b_check_addresses (paf_cons (pf_var 0) paf_nil)))
    (psf_cons (psf_setC 1 sc_needless.nd rfl (.inl rfl) (pf_lst paf_nil))
    (psf_cons (psf_for pod rfl (pif_range1 (by rfl) T.z_range (paf_cons (pf_prop (T := [("Addresses", 1, D_Addresses_length)]) (AllM.cons ⟨⟨⟨_, _, _, _, _, _, hr.mono (by decide), clZ_Addresses T, pZ_Addresses_length T, G_Addresses_length T, T.b_Addresses_length⟩⟩⟩ AllM.nil) (pf_var 0)) paf_nil)) (pgf_name 2 sc_needless.nd rfl (.inr rfl))
      (psf_cons (psf_setLc 3 (own := [("word", 4)]) rfl sc_needless.nd rfl rfl (sw_true rfl rfl rfl (by decide +kernel)) (pif_val rfl (pf_prop (T := [("Addresses", 1, D_Addresses_words)]) (AllM.cons ⟨⟨⟨_, _, _, _, _, _, hr.mono (by decide), clZ_Addresses T, pZ_Addresses_words T, G_Addresses_words T, T.b_Addresses_words⟩⟩⟩ AllM.nil) (pf_var 0))) (blkOk_by (N := N_needless) (sc := defScope s_needless) (by decide +kernel)) (fun _ _ _ _ _ => (pgf_name 4 sc_needless.nd rfl (by first | exact .inl rfl | exact .inr rfl))) (fun _ _ _ _ _ => ptsf_nil) (fun _ _ _ _ _ => (pf_ixO (AllM.cons ⟨⟨⟨_, _, _, _, _, hr.mono (by decide), oZ_Addresses_getitem T, G_Addresses_getitem T, T.b_Addresses_getitem⟩⟩⟩ AllM.nil) hr.u1 rfl (pf_var 4) (pf_var 2))))
    (psf_one (psf_if (ptf_w (pwf_or (ptf_cmp (od_notin hr.u65 rfl) pf_str (pf_var 3) (by rfl)) (pwf_one (ptf_cmp (od_notin hr.u65 rfl) pf_str (pf_var 3) (by rfl))))) (psf_one (psf_expr (pf_mut md_append PySem.F.slot_list_append PySem.F.type_list_append rfl (pf_var 1) (paf_cons (pf_var 2) paf_nil)))) psf_nil))))
    (psf_one (psf_ret (pf_var 1))))))
theorem G_check_word {b : Bool} (T : TX w K mg) : FnG b PP w K mg base (L2N.CX PP w) 5 T.f_check_word T.d_check_word ["value"] (spD (zt T) 1 D_check_word) :=
  fn_d (Z := zt T) (K := K) (N := N_check_word) (fb := B_check_word) (DN.Fun.d T.F_check_word) sc_check_word fun cdv A outer s H E hr =>
    (psf_one (psf_if (ptf_not (ptf_val (pf_call (G_is_word T) (hr.mono (by decide)) tkd (by rfl) T.g_is_word T.F_is_word.kp T.b_is_word (paf_cons (pf_var 0) paf_nil)))) (psf_one psf_no) psf_nil))
theorem G_differing {b : Bool} (T : TX w K mg) : FnG b PP w K mg base (L2N.CX PP w) 6 T.f_differing T.d_differing ["one", "other"] (spD (zt T) 2 D_differing) :=
  fn_d (Z := zt T) (K := K) (N := N_differing) (fb := B_differing) (DN.Fun.d T.F_differing) sc_differing fun cdv A outer s H E hr =>
    (psf_cons (psf_expr (pf_call (G_check_word T) (hr.mono (by decide)) tkd (by rfl) T.g_check_word T.F_check_word.kp T.b_check_word (paf_cons (pf_var 0) paf_nil)))
    (psf_cons (psf_expr (pf_call (G_check_word T) (hr.mono (by decide)) tkd (by rfl) T.g_check_word T.F_check_word.kp T.b_check_word (paf_cons (pf_var 1) paf_nil)))
    (psf_cons (psf_if (ptf_cmp (od_ne hr.u64 rfl) (pf_lenO (AllM.cons ⟨⟨⟨_, _, _, _, _, hr.mono (by decide), oZ_Addresses_len T, G_Addresses_len T, T.b_Addresses_len⟩⟩⟩ AllM.nil) rfl (by rfl) T.z_len (paf_cons (pf_var 0) paf_nil)) (pf_lenO (AllM.cons ⟨⟨⟨_, _, _, _, _, hr.mono (by decide), oZ_Addresses_len T, G_Addresses_len T, T.b_Addresses_len⟩⟩⟩ AllM.nil) rfl (by rfl) T.z_len (paf_cons (pf_var 1) paf_nil)) (nomark _)) (psf_one psf_no) psf_nil)
    (psf_one (psf_ret (pf_lc (own := [("place", 2), ("signs", 3)]) rfl sc_differing.nd (pif_ez (by rfl) T.z_enumerate (by rfl) T.z_zip (paf_cons (pf_var 0) (paf_cons (pf_var 1) paf_nil))) (blkOk_by (N := N_differing) (sc := defScope s_differing) (by decide +kernel)) (fun _ _ _ _ _ => (pgf_tup rfl rfl (pgfs_cons (pgf_name 2 sc_differing.nd rfl (by first | exact .inl rfl | exact .inr rfl)) (pgfs_cons (pgf_name 3 sc_differing.nd rfl (by first | exact .inl rfl | exact .inr rfl)) pgfs_nil)))) (fun _ _ _ _ _ => (ptsf_one (ptf_cmp (od_in hr.u65 rfl) (pf_var 3) (pf_tup (paf_cons (pf_tup (paf_cons pf_str (paf_cons pf_str paf_nil))) (paf_cons (pf_tup (paf_cons pf_str (paf_cons pf_str paf_nil))) paf_nil))) (by rfl)))) (fun _ _ _ _ _ => (pf_var 2))))))))
theorem G_meets {b : Bool} (T : TX w K mg) : FnG b PP w K mg base (L2N.CX PP w) 7 T.f_meets T.d_meets ["one", "other"] (spD (zt T) 2 D_meets) :=
  fn_d (Z := zt T) (K := K) (N := N_meets) (fb := B_meets) (DN.Fun.d T.F_meets) sc_meets fun cdv A outer s H E hr =>
    (psf_one (psf_ret (pf_eqO (csok T) (AllM.cons ⟨⟨⟨_, _, _, _, _, hr.mono (by decide), oeZ_Addresses T, G_Addresses_eq T, T.b_Addresses_eq⟩⟩⟩ AllM.nil) hr.u64 rfl (pf_call (G_differing T) (hr.mono (by decide)) tkd (by rfl) T.g_differing T.F_differing.kp T.b_differing (paf_cons (pf_var 0) (paf_cons (pf_var 1) paf_nil))) (pf_lst paf_nil) (nomark _))))
theorem G_held_by_both {b : Bool} (T : TX w K mg) : FnG b PP w K mg base (L2N.CX PP w) 1 T.f_held_by_both T.d_held_by_both ["one", "other"] (spD (zt T) 2 D_held_by_both) :=
  fn_d (Z := zt T) (K := K) (N := N_held_by_both) (fb := B_held_by_both) (DN.Fun.d T.F_held_by_both) sc_held_by_both fun cdv A outer s H E hr =>
    (psf_one (psf_ret (pf_meth md_join PySem.F.plainAttrs_str PySem.F.slot_str_join PySem.F.type_str_join rfl pf_str (paf_cons (pf_lc (own := [("signs", 2)]) rfl sc_held_by_both.nd (pif_zipN (by rfl) T.z_zip (paf_cons (pf_var 0) (paf_cons (pf_var 1) paf_nil))) (blkOk_by (N := N_held_by_both) (sc := defScope s_held_by_both) (by decide +kernel)) (fun _ _ _ _ _ => (pgf_name 2 sc_held_by_both.nd rfl (by first | exact .inl rfl | exact .inr rfl))) (fun _ _ _ _ _ => ptsf_nil) (fun _ _ _ _ _ => (pf_if (ptf_cmp (od_in hr.u65 rfl) pf_str (pf_var 2) (by rfl)) pf_str pf_str))) paf_nil))))
theorem G_meeting {b : Bool} (T : TX w K mg) : FnG b PP w K mg base (L2N.CX PP w) 8 T.f_meeting T.d_meeting ["addresses"] (spD (zt T) 1 D_meeting) :=
  fn_d (Z := zt T) (K := K) (N := N_meeting) (fb := B_meeting) (DN.Fun.d T.F_meeting) sc_meeting fun cdv A outer s H E hr =>
    (psf_cons (psf_expr (pf_call (G_check_addresses T) (hr.mono (by decide)) tkd (by rfl) T.g_check_addresses T.F_check_addresses.kp T.b_check_addresses (paf_cons (pf_var 0) paf_nil)))
    (psf_cons (psf_for pod rfl (pi_enumDT rfl (by rfl) T.z_enumerate (pf_prop (T := [("Addresses", 1, D_Addresses_words)]) (AllM.cons ⟨⟨⟨_, _, _, _, _, _, hr.mono (by decide), clZ_Addresses T, pZ_Addresses_words T, G_Addresses_words T, T.b_Addresses_words⟩⟩⟩ AllM.nil) (pf_var 0))) (pgf_tup rfl rfl (pgfs_cons (pgf_name 1 sc_meeting.nd rfl (.inl rfl)) (pgfs_cons (pgf_name 2 sc_meeting.nd rfl (.inl rfl)) pgfs_nil)))
      (psf_one (psf_for pod rfl (pif_range2 (by rfl) T.z_range (paf_cons (pf_op (od_add rfl) (pf_var 1) pf_int) (paf_cons (pf_callB (cd_len rfl) (by rfl) T.z_len (by decide +kernel) (paf_cons (pf_prop (T := [("Addresses", 1, D_Addresses_words)]) (AllM.cons ⟨⟨⟨_, _, _, _, _, _, hr.mono (by decide), clZ_Addresses T, pZ_Addresses_words T, G_Addresses_words T, T.b_Addresses_words⟩⟩⟩ AllM.nil) (pf_var 0)) paf_nil)) paf_nil))) (pgf_name 3 sc_meeting.nd rfl (.inl rfl))
      (psf_one (psf_if (ptf_val (pf_call (G_meets T) (hr.mono (by decide)) tkd (by rfl) T.g_meets T.F_meets.kp T.b_meets (paf_cons (pf_var 2) (paf_cons (pf_ix (ix_d hr.u1 rfl) (pf_prop (T := [("Addresses", 1, D_Addresses_words)]) (AllM.cons ⟨⟨⟨_, _, _, _, _, _, hr.mono (by decide), clZ_Addresses T, pZ_Addresses_words T, G_Addresses_words T, T.b_Addresses_words⟩⟩⟩ AllM.nil) (pf_var 0)) (pf_var 3)) paf_nil)))) (psf_one (psf_ret (pf_tup (paf_cons (pf_var 1) (paf_cons (pf_var 3) (paf_cons (pf_call (G_held_by_both T) (hr.mono (by decide)) tkd (by rfl) T.g_held_by_both T.F_held_by_both.kp T.b_held_by_both (paf_cons (pf_var 2) (paf_cons (pf_ix (ix_d hr.u1 rfl) (pf_prop (T := [("Addresses", 1, D_Addresses_words)]) (AllM.cons ⟨⟨⟨_, _, _, _, _, _, hr.mono (by decide), clZ_Addresses T, pZ_Addresses_words T, G_Addresses_words T, T.b_Addresses_words⟩⟩⟩ AllM.nil) (pf_var 0)) (pf_var 3)) paf_nil))) paf_nil)))))) psf_nil)))))
    (psf_one (psf_ret pf_non))))
theorem G_apart {b : Bool} (T : TX w K mg) : FnG b PP w K mg base (L2N.CX PP w) 7 T.f_apart T.d_apart ["one", "other"] (spD (zt T) 2 D_apart) :=
  fn_d (Z := zt T) (K := K) (N := N_apart) (fb := B_apart) (DN.Fun.d T.F_apart) sc_apart fun cdv A outer s H E hr =>
    (psf_one (psf_ret (pf_lenO (AllM.cons ⟨⟨⟨_, _, _, _, _, hr.mono (by decide), oZ_Addresses_len T, G_Addresses_len T, T.b_Addresses_len⟩⟩⟩ AllM.nil) rfl (by rfl) T.z_len (paf_cons (pf_call (G_differing T) (hr.mono (by decide)) tkd (by rfl) T.g_differing T.F_differing.kp T.b_differing (paf_cons (pf_var 0) (paf_cons (pf_var 1) paf_nil))) paf_nil))))
theorem G_Addresses_table {b : Bool} (T : TX w K mg) : FnG b PP w K mg base (L2N.CX PP w) 8 T.f_Addresses_table T.d_Addresses_table ["self"] (spD (zt T) 1 D_Addresses_table) :=
  fn_d (Z := zt T) (K := K) (N := N_Addresses_table) (fb := B_Addresses_table) (DN.Fun.d T.F_Addresses_table) sc_Addresses_table fun cdv A outer s H E hr =>
    (psf_one (psf_ret (pf_lc (own := [("word", 2)]) rfl sc_Addresses_table.nd (pif_val rfl (pf_fld ["Addresses"] rfl (AllC.cons (fd_Addresses_kept T) AllC.nil) (pf_var 0))) (blkOk_by (N := N_Addresses_table) (sc := defScope s_Addresses_table) (by decide +kernel)) (fun _ _ _ _ _ => (pgf_name 2 sc_Addresses_table.nd rfl (by first | exact .inl rfl | exact .inr rfl))) (fun _ _ _ _ _ => ptsf_nil) (fun _ _ _ _ _ => (pf_callT cd_tuple (by rfl) T.z_tuple (by decide +kernel) (paf_cons (pf_lc (own := [("other", 1)]) rfl sc_Addresses_table.nd (pif_val rfl (pf_fld ["Addresses"] rfl (AllC.cons (fd_Addresses_kept T) AllC.nil) (pf_var 0))) (blkOk_by (by rfl)) (fun _ _ _ _ _ => (pgf_name 1 sc_Addresses_table.nd rfl (by first | exact .inl rfl | exact .inr rfl))) (fun _ _ _ _ _ => ptsf_nil) (fun _ _ _ _ _ => (pf_call (G_apart T) (hr.mono (by decide)) tk0 (by rfl) T.g_apart_words T.F_apart.kp T.b_apart (paf_cons (pf_var 2) (paf_cons (pf_var 1) paf_nil))))) paf_nil))))))
theorem G_trimmed {b : Bool} (T : TX w K mg) : FnG b PP w K mg base (L2N.CX PP w) 9 T.f_trimmed T.d_trimmed ["addresses"] (spD (zt T) 1 D_trimmed) :=
  fn_d (Z := zt T) (K := K) (N := N_trimmed) (fb := B_trimmed) (DN.Fun.d T.F_trimmed) sc_trimmed fun cdv A outer s H E hr =>
    (psf_cons (psf_set 1 sc_trimmed.nd rfl (.inr rfl) (pf_call (G_needless T) (hr.mono (by decide)) tkd (by rfl) T.g_needless T.F_needless.kp T.b_needless (paf_cons (pf_var 0) paf_nil)))
    (psf_cons (psf_set 2 sc_trimmed.nd rfl (.inr rfl) (pf_lc (own := [("place", 3)]) rfl sc_trimmed.nd (pif_range1 (by rfl) T.z_range (paf_cons (pf_prop (T := [("Addresses", 1, D_Addresses_length)]) (AllM.cons ⟨⟨⟨_, _, _, _, _, _, hr.mono (by decide), clZ_Addresses T, pZ_Addresses_length T, G_Addresses_length T, T.b_Addresses_length⟩⟩⟩ AllM.nil) (pf_var 0)) paf_nil)) (blkOk_by (N := N_trimmed) (sc := defScope s_trimmed) (by decide +kernel)) (fun _ _ _ _ _ => (pgf_name 3 sc_trimmed.nd rfl (by first | exact .inl rfl | exact .inr rfl))) (fun _ _ _ _ _ => (ptsf_one (ptf_cmp (od_notin hr.u65 rfl) (pf_var 3) (pf_var 1) (by rfl)))) (fun _ _ _ _ _ => (pf_var 3))))
    (psf_one (psf_ret (pf_make ⟨⟨_, _, _, _, _, _, _, hr.mono (by decide), mkZ_Addresses T, G_Addresses_init T, T.b_Addresses_init, .nil, fun _ => OnL.nil'⟩⟩ tkd (by rfl) (gZ_Addresses T) (paf_cons (pf_lc (own := [("word", 4)]) rfl sc_trimmed.nd (pif_val rfl (pf_prop (T := [("Addresses", 1, D_Addresses_words)]) (AllM.cons ⟨⟨⟨_, _, _, _, _, _, hr.mono (by decide), clZ_Addresses T, pZ_Addresses_words T, G_Addresses_words T, T.b_Addresses_words⟩⟩⟩ AllM.nil) (pf_var 0))) (blkOk_by (N := N_trimmed) (sc := defScope s_trimmed) (by decide +kernel)) (fun _ _ _ _ _ => (pgf_name 4 sc_trimmed.nd rfl (by first | exact .inl rfl | exact .inr rfl))) (fun _ _ _ _ _ => ptsf_nil) (fun _ _ _ _ _ => (pf_meth md_join PySem.F.plainAttrs_str PySem.F.slot_str_join PySem.F.type_str_join rfl pf_str (paf_cons (pf_lc (own := [("place", 3)]) rfl sc_trimmed.nd (pif_val rfl (pf_var 2)) (blkOk_by (by rfl)) (fun _ _ _ _ _ => (pgf_name 3 sc_trimmed.nd rfl (by first | exact .inl rfl | exact .inr rfl))) (fun _ _ _ _ _ => ptsf_nil) (fun _ _ _ _ _ => (pf_ixO (AllM.cons ⟨⟨⟨_, _, _, _, _, hr.mono (by decide), oZ_Addresses_getitem T, G_Addresses_getitem T, T.b_Addresses_getitem⟩⟩⟩ AllM.nil) hr.u1 rfl (pf_var 4) (pf_var 3)))) paf_nil)))) paf_nil))))))
theorem G_law_told {b : Bool} (T : TX w K mg) : FnG b PP w K mg base (L2N.CX PP w) 10 T.f_law_told T.d_law_told ["_law_book"] (spD (zt T) 1 D_law_told) :=
  fn_d (Z := zt T) (K := K) (N := N_law_told) (fb := B_law_told) (DN.Fun.d T.F_law_told) sc_law_told fun cdv A outer s H E hr =>
    (psf_one (psf_ret (pf_lst (paf_cons (pf_call (G_pairs_of T) (hr.mono (by decide)) tkd (by rfl) T.g_pairs_of T.F_pairs_of.kp T.b_pairs_of (paf_cons (pf_var 0) paf_nil)) (paf_cons (pf_call (G_needless T) (hr.mono (by decide)) tkd (by rfl) T.g_needless T.F_needless.kp T.b_needless (paf_cons (pf_var 0) paf_nil)) (paf_cons (pf_call (G_meeting T) (hr.mono (by decide)) tkd (by rfl) T.g_meeting T.F_meeting.kp T.b_meeting (paf_cons (pf_var 0) paf_nil)) (paf_cons (pf_prop (T := [("Addresses", 1, D_Addresses_words)]) (AllM.cons ⟨⟨⟨_, _, _, _, _, _, hr.mono (by decide), clZ_Addresses T, pZ_Addresses_words T, G_Addresses_words T, T.b_Addresses_words⟩⟩⟩ AllM.nil) (pf_call (G_trimmed T) (hr.mono (by decide)) tkd (by rfl) T.g_trimmed T.F_trimmed.kp T.b_trimmed (paf_cons (pf_var 0) paf_nil))) (paf_cons (pf_methD0 tkd (AllM.cons ⟨⟨⟨_, _, _, _, _, hr.mono (by decide), clZ_Addresses T, mZ_Addresses_table T, G_Addresses_table T, T.b_Addresses_table⟩⟩, by decide⟩ AllM.nil) (pf_var 0)) paf_nil))))))))
theorem G_Addresses_renamed {b : Bool} (T : TX w K mg) : FnG b PP w K mg base (L2N.CX PP w) 9 T.f_Addresses_renamed T.d_Addresses_renamed ["self", "order"] (spD (zt T) 2 D_Addresses_renamed) :=
  fn_d (Z := zt T) (K := K) (N := N_Addresses_renamed) (fb := B_Addresses_renamed) (DN.Fun.d T.F_Addresses_renamed) sc_Addresses_renamed fun cdv A outer s H E hr =>
    (psf_cons (psf_if (ptf_w (pwf_or (ptf_not (ptf_val (pf_callB (cd_isi (csok T) rfl) (by rfl) T.z_isinstance (by decide +kernel) (paf_cons (pf_var 1) (paf_cons (pf_tup (paf_cons (pf_bltn (v := .ty "list") (u := .type "list") (by rfl) T.z_list (by decide +kernel) rfl (fun _ => on_ty)) (paf_cons (pf_bltn (v := .ty "tuple") (u := .type "tuple") (by rfl) T.z_tuple (by decide +kernel) rfl (fun _ => on_ty)) paf_nil))) paf_nil))))) (pwf_one (ptf_not (ptf_val (pf_callB (cd_all rfl) (by rfl) T.z_all (by decide +kernel) (paf_cons (pf_lc (own := [("house", 2)]) rfl sc_Addresses_renamed.nd (pif_val rfl (pf_var 1)) (blkOk_by (N := N_Addresses_renamed) (sc := defScope s_Addresses_renamed) (by decide +kernel)) (fun _ _ _ _ _ => (pgf_name 2 sc_Addresses_renamed.nd rfl (by first | exact .inl rfl | exact .inr rfl))) (fun _ _ _ _ _ => ptsf_nil) (fun _ _ _ _ _ => (pf_call (G_is_integer T) (hr.mono (by decide)) tk0 (by rfl) T.g_is_integer T.F_is_integer.kp T.b_is_integer (paf_cons (pf_var 2) paf_nil)))) paf_nil))))))) (psf_one psf_no) psf_nil)
    (psf_cons (psf_if (ptf_cmp (od_ne hr.u64 rfl) (pf_callB (cd_sortedXK rfl) (by rfl) T.z_sorted (by decide +kernel) (paf_cons (pf_var 1) paf_nil)) (pf_listRg1 rfl (by rfl) T.z_list (by rfl) T.z_range (pf_callB (cd_len rfl) (by rfl) T.z_len (by decide +kernel) (paf_cons (pf_fld ["Addresses"] rfl (AllC.cons (fd_Addresses_kept T) AllC.nil) (pf_var 0)) paf_nil))) (nomark _)) (psf_one psf_no) psf_nil)
    (psf_one (psf_ret (pf_make ⟨⟨_, _, _, _, _, _, _, hr.mono (by decide), mkZ_Addresses T, G_Addresses_init T, T.b_Addresses_init, .nil, fun _ => OnL.nil'⟩⟩ tkd (by rfl) (gZ_Addresses T) (paf_cons (pf_lc (own := [("house", 2)]) rfl sc_Addresses_renamed.nd (pif_range1 (by rfl) T.z_range (paf_cons (pf_callB (cd_len rfl) (by rfl) T.z_len (by decide +kernel) (paf_cons (pf_fld ["Addresses"] rfl (AllC.cons (fd_Addresses_kept T) AllC.nil) (pf_var 0)) paf_nil)) paf_nil)) (blkOk_by (N := N_Addresses_renamed) (sc := defScope s_Addresses_renamed) (by decide +kernel)) (fun _ _ _ _ _ => (pgf_name 2 sc_Addresses_renamed.nd rfl (by first | exact .inl rfl | exact .inr rfl))) (fun _ _ _ _ _ => ptsf_nil) (fun _ _ _ _ _ => (pf_ix (ix_d hr.u1 rfl) (pf_fld ["Addresses"] rfl (AllC.cons (fd_Addresses_kept T) AllC.nil) (pf_var 0)) (pf_alt2 _ (pf_methT (md_indexK rfl) PySem.F.plainAttrs_tuple PySem.F.slot_tuple_index PySem.F.type_tuple_index rfl (pf_var 1) (paf_cons (pf_var 2) paf_nil)) (pf_meth (md_index hr.u65 rfl) PySem.F.plainAttrs_list PySem.F.slot_list_index PySem.F.type_list_index rfl (pf_var 1) (paf_cons (pf_var 2) paf_nil)))))) paf_nil))))))
theorem G_Addresses_followed {b : Bool} (T : TX w K mg) : FnG b PP w K mg base (L2N.CX PP w) 9 T.f_Addresses_followed T.d_Addresses_followed ["self", "other"] (spD (zt T) 2 D_Addresses_followed) :=
  fn_d (Z := zt T) (K := K) (N := N_Addresses_followed) (fb := B_Addresses_followed) (DN.Fun.d T.F_Addresses_followed) sc_Addresses_followed fun cdv A outer s H E hr =>
    (psf_cons (psf_if (ptf_w (pwf_or (ptf_not (ptf_val (pf_callB (cd_isi (csok T) rfl) (by rfl) T.z_isinstance (by decide +kernel) (paf_cons (pf_var 1) (paf_cons (pf_glob (v := .ref _) rfl (gZ_Addresses T) rfl (fun _ => on_cls)) paf_nil))))) (pwf_one (ptf_cmp (od_ne hr.u64 rfl) (pf_lenO (AllM.cons ⟨⟨⟨_, _, _, _, _, hr.mono (by decide), oZ_Addresses_len T, G_Addresses_len T, T.b_Addresses_len⟩⟩⟩ AllM.nil) rfl (by rfl) T.z_len (paf_cons (pf_var 1) paf_nil)) (pf_callB (cd_len rfl) (by rfl) T.z_len (by decide +kernel) (paf_cons (pf_fld ["Addresses"] rfl (AllC.cons (fd_Addresses_kept T) AllC.nil) (pf_var 0)) paf_nil)) (nomark _))))) (psf_one psf_no) psf_nil)
    (psf_cons (psf_if (ptf_cmp od_gt (pf_op (od_add rfl) (pf_prop (T := [("Addresses", 1, D_Addresses_length)]) (AllM.cons ⟨⟨⟨_, _, _, _, _, _, hr.mono (by decide), clZ_Addresses T, pZ_Addresses_length T, G_Addresses_length T, T.b_Addresses_length⟩⟩⟩ AllM.nil) (pf_var 0)) (pf_prop (T := [("Addresses", 1, D_Addresses_length)]) (AllM.cons ⟨⟨⟨_, _, _, _, _, _, hr.mono (by decide), clZ_Addresses T, pZ_Addresses_length T, G_Addresses_length T, T.b_Addresses_length⟩⟩⟩ AllM.nil) (pf_var 1))) (pf_glob (v := .int 60) rfl T.c_MOST_SIGNS_addresses ⟨_, rfl⟩ (fun _ => on_int)) (nomark _)) (psf_one psf_no) psf_nil)
    (psf_one (psf_ret (pf_make ⟨⟨_, _, _, _, _, _, _, hr.mono (by decide), mkZ_Addresses T, G_Addresses_init T, T.b_Addresses_init, .nil, fun _ => OnL.nil'⟩⟩ tkd (by rfl) (gZ_Addresses T) (paf_cons (pf_lc (own := [("word", 2), ("more", 3)]) rfl sc_Addresses_followed.nd (pif_zipX rfl (by rfl) T.z_zip (paf_cons (pf_fld ["Addresses"] rfl (AllC.cons (fd_Addresses_kept T) AllC.nil) (pf_var 0)) (paf_cons (pf_prop (T := [("Addresses", 1, D_Addresses_words)]) (AllM.cons ⟨⟨⟨_, _, _, _, _, _, hr.mono (by decide), clZ_Addresses T, pZ_Addresses_words T, G_Addresses_words T, T.b_Addresses_words⟩⟩⟩ AllM.nil) (pf_var 1)) paf_nil))) (blkOk_by (N := N_Addresses_followed) (sc := defScope s_Addresses_followed) (by decide +kernel)) (fun _ _ _ _ _ => (pgf_tup rfl rfl (pgfs_cons (pgf_name 2 sc_Addresses_followed.nd rfl (by first | exact .inl rfl | exact .inr rfl)) (pgfs_cons (pgf_name 3 sc_Addresses_followed.nd rfl (by first | exact .inl rfl | exact .inr rfl)) pgfs_nil)))) (fun _ _ _ _ _ => ptsf_nil) (fun _ _ _ _ _ => (pf_op (od_add rfl) (pf_var 2) (pf_var 3)))) paf_nil))))))
theorem G_Addresses_check_place {b : Bool} (T : TX w K mg) : FnG b PP w K mg base (L2N.CX PP w) 3 T.f_Addresses_check_place T.d_Addresses_check_place ["self", "place"] (spD (zt T) 2 D_Addresses_check_place) :=
  fn_d (Z := zt T) (K := K) (N := N_Addresses_check_place) (fb := B_Addresses_check_place) (DN.Fun.d T.F_Addresses_check_place) sc_Addresses_check_place fun cdv A outer s H E hr =>
    (psf_one (psf_if (ptf_w (pwf_or (ptf_not (ptf_val (pf_call (G_is_integer T) (hr.mono (by decide)) tkd (by rfl) T.g_is_integer T.F_is_integer.kp T.b_is_integer (paf_cons (pf_var 1) paf_nil)))) (pwf_one (ptf_not (ptf_chain od_le od_lt pf_int (pf_var 1) (pf_prop (T := [("Addresses", 1, D_Addresses_length)]) (AllM.cons ⟨⟨⟨_, _, _, _, _, _, hr.mono (by decide), clZ_Addresses T, pZ_Addresses_length T, G_Addresses_length T, T.b_Addresses_length⟩⟩⟩ AllM.nil) (pf_var 0))))))) (psf_one psf_no) psf_nil))
theorem G_flipped {b : Bool} (T : TX w K mg) : FnG b PP w K mg base (L2N.CX PP w) 6 T.f_flipped T.d_flipped ["word"] (spD (zt T) 1 D_flipped) :=
  fn_d (Z := zt T) (K := K) (N := N_flipped) (fb := B_flipped) (DN.Fun.d T.F_flipped) sc_flipped fun cdv A outer s H E hr =>
    (psf_cons (psf_expr (pf_call (G_check_word T) (hr.mono (by decide)) tkd (by rfl) T.g_check_word T.F_check_word.kp T.b_check_word (paf_cons (pf_var 0) paf_nil)))
    (psf_one (psf_ret (pf_meth md_join PySem.F.plainAttrs_str PySem.F.slot_str_join PySem.F.type_str_join rfl pf_str (paf_cons (pf_lc (own := [("sign", 1)]) rfl sc_flipped.nd (pif_val rfl (pf_var 0)) (blkOk_by (N := N_flipped) (sc := defScope s_flipped) (by decide +kernel)) (fun _ _ _ _ _ => (pgf_name 1 sc_flipped.nd rfl (by first | exact .inl rfl | exact .inr rfl))) (fun _ _ _ _ _ => ptsf_nil) (fun _ _ _ _ _ => (pf_kix (a := T.a_FLIPPED) (by rfl) T.g_FLIPPED T.kd_FLIPPED (pf_var 1)))) paf_nil)))))
theorem G_Addresses_flipped {b : Bool} (T : TX w K mg) : FnG b PP w K mg base (L2N.CX PP w) 9 T.f_Addresses_flipped T.d_Addresses_flipped ["self", "place"] (spD (zt T) 2 D_Addresses_flipped) :=
  fn_d (Z := zt T) (K := K) (N := N_Addresses_flipped) (fb := B_Addresses_flipped) (DN.Fun.d T.F_Addresses_flipped) sc_Addresses_flipped fun cdv A outer s H E hr =>
    (psf_cons (psf_expr (pf_methD tkd (AllM.cons ⟨⟨⟨_, _, _, _, _, hr.mono (by decide), clZ_Addresses T, mZ_Addresses_check_place T, G_Addresses_check_place T, T.b_Addresses_check_place⟩⟩, by decide⟩ AllM.nil) (pf_var 0) (paf_cons (pf_var 1) paf_nil)))
    (psf_one (psf_ret (pf_make ⟨⟨_, _, _, _, _, _, _, hr.mono (by decide), mkZ_Addresses T, G_Addresses_init T, T.b_Addresses_init, .nil, fun _ => OnL.nil'⟩⟩ tkd (by rfl) (gZ_Addresses T) (paf_cons (pf_lc (own := [("word", 2)]) rfl sc_Addresses_flipped.nd (pif_val rfl (pf_fld ["Addresses"] rfl (AllC.cons (fd_Addresses_kept T) AllC.nil) (pf_var 0))) (blkOk_by (N := N_Addresses_flipped) (sc := defScope s_Addresses_flipped) (by decide +kernel)) (fun _ _ _ _ _ => (pgf_name 2 sc_Addresses_flipped.nd rfl (by first | exact .inl rfl | exact .inr rfl))) (fun _ _ _ _ _ => ptsf_nil) (fun _ _ _ _ _ => (pf_op (od_add rfl) (pf_op (od_add rfl) (pf_slice rfl (pf_var 2) pof_none (pof_some (pf_var 1))) (pf_call (G_flipped T) (hr.mono (by decide)) tk0 (by rfl) T.g_flipped_words T.F_flipped.kp T.b_flipped (paf_cons (pf_ix (ix_d hr.u1 rfl) (pf_var 2) (pf_var 1)) paf_nil))) (pf_slice rfl (pf_var 2) (pof_some (pf_op (od_add rfl) (pf_var 1) pf_int)) pof_none)))) paf_nil)))))
theorem G_Addresses_without {b : Bool} (T : TX w K mg) : FnG b PP w K mg base (L2N.CX PP w) 9 T.f_Addresses_without T.d_Addresses_without ["self", "place"] (spD (zt T) 2 D_Addresses_without) :=
  fn_d (Z := zt T) (K := K) (N := N_Addresses_without) (fb := B_Addresses_without) (DN.Fun.d T.F_Addresses_without) sc_Addresses_without fun cdv A outer s H E hr =>
    (psf_cons (psf_expr (pf_methD tkd (AllM.cons ⟨⟨⟨_, _, _, _, _, hr.mono (by decide), clZ_Addresses T, mZ_Addresses_check_place T, G_Addresses_check_place T, T.b_Addresses_check_place⟩⟩, by decide⟩ AllM.nil) (pf_var 0) (paf_cons (pf_var 1) paf_nil)))
    (psf_one (psf_ret (pf_make ⟨⟨_, _, _, _, _, _, _, hr.mono (by decide), mkZ_Addresses T, G_Addresses_init T, T.b_Addresses_init, .nil, fun _ => OnL.nil'⟩⟩ tkd (by rfl) (gZ_Addresses T) (paf_cons (pf_lc (own := [("word", 2)]) rfl sc_Addresses_without.nd (pif_val rfl (pf_fld ["Addresses"] rfl (AllC.cons (fd_Addresses_kept T) AllC.nil) (pf_var 0))) (blkOk_by (N := N_Addresses_without) (sc := defScope s_Addresses_without) (by decide +kernel)) (fun _ _ _ _ _ => (pgf_name 2 sc_Addresses_without.nd rfl (by first | exact .inl rfl | exact .inr rfl))) (fun _ _ _ _ _ => ptsf_nil) (fun _ _ _ _ _ => (pf_op (od_add rfl) (pf_slice rfl (pf_var 2) pof_none (pof_some (pf_var 1))) (pf_slice rfl (pf_var 2) (pof_some (pf_op (od_add rfl) (pf_var 1) pf_int)) pof_none)))) paf_nil)))))
theorem G_law_behind_right {b : Bool} (T : TX w K mg) : FnG b PP w K mg base (L2N.CX PP w) 11 T.f_law_behind_right T.d_law_behind_right ["_law_box_here", "_law_words", "_law_book", "_law_other"] (spD (zt T) 4 D_law_behind_right) :=
  fn_d (Z := zt T) (K := K) (N := N_law_behind_right) (fb := B_law_behind_right) (DN.Fun.d T.F_law_behind_right) sc_law_behind_right fun cdv A outer s H E hr =>
    (psf_cons (psf_set 4 sc_law_behind_right.nd rfl (.inl rfl) (pf_call (G_law_told T) (hr.mono (by decide)) tkd (by rfl) T.g_law_told T.F_law_told.kp T.b_law_told (paf_cons (pf_var 2) paf_nil)))
    (psf_cons (psf_set 5 sc_law_behind_right.nd rfl (.inl rfl) (pf_listRg1 rfl (by rfl) T.z_list (by rfl) T.z_range (pf_lenO (AllM.cons ⟨⟨⟨_, _, _, _, _, hr.mono (by decide), oZ_Addresses_len T, G_Addresses_len T, T.b_Addresses_len⟩⟩⟩ AllM.nil) rfl (by rfl) T.z_len (paf_cons (pf_var 1) paf_nil))))
    (psf_cons (psf_set 6 sc_law_behind_right.nd rfl (.inl rfl) (pf_lst (paf_cons (pf_methD tkd (AllM.cons ⟨⟨⟨_, _, _, _, _, hr.mono (by decide), clZ_Addresses T, mZ_Addresses_renamed T, G_Addresses_renamed T, T.b_Addresses_renamed⟩⟩, by decide⟩ AllM.nil) (pf_var 2) (paf_cons (pf_revA rfl (pf_var 5)) paf_nil)) (paf_cons (pf_methD tkd (AllM.cons ⟨⟨⟨_, _, _, _, _, hr.mono (by decide), clZ_Addresses T, mZ_Addresses_followed T, G_Addresses_followed T, T.b_Addresses_followed⟩⟩, by decide⟩ AllM.nil) (pf_var 2) (paf_cons (pf_var 3) paf_nil)) paf_nil))))
    (psf_cons (psf_if (ptf_cmp od_gt (pf_prop (T := [("Addresses", 1, D_Addresses_length)]) (AllM.cons ⟨⟨⟨_, _, _, _, _, _, hr.mono (by decide), clZ_Addresses T, pZ_Addresses_length T, G_Addresses_length T, T.b_Addresses_length⟩⟩⟩ AllM.nil) (pf_var 2)) pf_int (nomark _)) (psf_cons (psf_set 7 sc_law_behind_right.nd rfl (.inl rfl) (pf_call (G_law_take T) (hr.mono (by decide)) tkd (by rfl) T.g_law_take T.F_law_take.kp T.b_law_take (paf_cons (pf_var 0) (paf_cons (pf_prop (T := [("Addresses", 1, D_Addresses_length)]) (AllM.cons ⟨⟨⟨_, _, _, _, _, _, hr.mono (by decide), clZ_Addresses T, pZ_Addresses_length T, G_Addresses_length T, T.b_Addresses_length⟩⟩⟩ AllM.nil) (pf_var 2)) paf_nil))))
    (psf_one (psf_set 6 sc_law_behind_right.nd rfl (.inl rfl) (pf_op (od_add rfl) (pf_var 6) (pf_lst (paf_cons (pf_methD tkd (AllM.cons ⟨⟨⟨_, _, _, _, _, hr.mono (by decide), clZ_Addresses T, mZ_Addresses_flipped T, G_Addresses_flipped T, T.b_Addresses_flipped⟩⟩, by decide⟩ AllM.nil) (pf_var 2) (paf_cons (pf_var 7) paf_nil)) (paf_cons (pf_methD tkd (AllM.cons ⟨⟨⟨_, _, _, _, _, hr.mono (by decide), clZ_Addresses T, mZ_Addresses_without T, G_Addresses_without T, T.b_Addresses_without⟩⟩, by decide⟩ AllM.nil) (pf_var 2) (paf_cons (pf_var 7) paf_nil)) paf_nil))))))) psf_nil)
    (psf_cons (psf_for pod rfl (pif_val rfl (pf_var 6)) (pgf_name 8 sc_law_behind_right.nd rfl (.inl rfl))
      (psf_one (psf_if (ptf_neO (csok T) (AllM.cons ⟨⟨⟨_, _, _, _, _, hr.mono (by decide), oeZ_Addresses T, G_Addresses_eq T, T.b_Addresses_eq⟩⟩⟩ AllM.nil) hr.u64 rfl (pf_call (G_law_told T) (hr.mono (by decide)) tkd (by rfl) T.g_law_told T.F_law_told.kp T.b_law_told (paf_cons (pf_var 8) paf_nil)) (pf_call (G_law_told T) (hr.mono (by decide)) tkd (by rfl) T.g_law_told T.F_law_told.kp T.b_law_told (paf_cons (pf_make ⟨⟨_, _, _, _, _, _, _, hr.mono (by decide), mkZ_Addresses T, G_Addresses_init T, T.b_Addresses_init, .nil, fun _ => OnL.nil'⟩⟩ tkd (by rfl) (gZ_Addresses T) (paf_cons (pf_callT (cd_list rfl rfl) (by rfl) T.z_list (by decide +kernel) (paf_cons (pf_prop (T := [("Addresses", 1, D_Addresses_words)]) (AllM.cons ⟨⟨⟨_, _, _, _, _, _, hr.mono (by decide), clZ_Addresses T, pZ_Addresses_words T, G_Addresses_words T, T.b_Addresses_words⟩⟩⟩ AllM.nil) (pf_var 8)) paf_nil)) paf_nil)) paf_nil)) (nomark _)) (psf_one (psf_ret pf_bl)) psf_nil)))
    (psf_one (psf_ret (pf_and (pf_eqO (csok T) (AllM.cons ⟨⟨⟨_, _, _, _, _, hr.mono (by decide), oeZ_Addresses T, G_Addresses_eq T, T.b_Addresses_eq⟩⟩⟩ AllM.nil) hr.u64 rfl (pf_var 4) (pf_call (G_law_told T) (hr.mono (by decide)) tkd (by rfl) T.g_law_told T.F_law_told.kp T.b_law_told (paf_cons (pf_make ⟨⟨_, _, _, _, _, _, _, hr.mono (by decide), mkZ_Addresses T, G_Addresses_init T, T.b_Addresses_init, .nil, fun _ => OnL.nil'⟩⟩ tkd (by rfl) (gZ_Addresses T) (paf_cons (pf_var 1) paf_nil)) paf_nil)) (nomark _)) (pf_one (pf_eqO (csok T) (AllM.cons ⟨⟨⟨_, _, _, _, _, hr.mono (by decide), oeZ_Addresses T, G_Addresses_eq T, T.b_Addresses_eq⟩⟩⟩ AllM.nil) hr.u64 rfl (pf_call (G_law_told T) (hr.mono (by decide)) tkd (by rfl) T.g_law_told T.F_law_told.kp T.b_law_told (paf_cons (pf_var 2) paf_nil)) (pf_var 4) (nomark _)))))))))))
theorem G_law_flipped {b : Bool} (T : TX w K mg) : FnG b PP w K mg base (L2N.CX PP w) 6 T.f_law_flipped T.d_law_flipped ["_law_words", "_law_place"] (spD (zt T) 2 D_law_flipped) :=
  fn_d (Z := zt T) (K := K) (N := N_law_flipped) (fb := B_law_flipped) (DN.Fun.d T.F_law_flipped) sc_law_flipped fun cdv A outer s H E hr =>
    (psf_one (psf_ret (pf_lc (own := [("_law_word", 2)]) rfl sc_law_flipped.nd (pif_val rfl (pf_var 0)) (blkOk_by (N := N_law_flipped) (sc := defScope s_law_flipped) (by decide +kernel)) (fun _ _ _ _ _ => (pgf_name 2 sc_law_flipped.nd rfl (by first | exact .inl rfl | exact .inr rfl))) (fun _ _ _ _ _ => ptsf_nil) (fun _ _ _ _ _ => (pf_op (od_add rfl) (pf_op (od_add rfl) (pf_slice rfl (pf_var 2) pof_none (pof_some (pf_var 1))) (pf_ix (ix_d hr.u1 rfl) (pf_disp [(.inr "0", .str "1"), (.inr "1", .str "0"), (.inr "*", .str "*")] [.str "0", .str "1", .str "*"] [.str "1", .str "0", .str "*"] (pps_cons pe_str pe_str (pps_cons pe_str pe_str (pps_cons pe_str pe_str pps_nil))) rfl (fun _ => (OnL.cons' on_str (OnL.cons' on_str (OnL.cons' on_str OnL.nil')))) rfl (by decide)) (pf_ixO (AllM.cons ⟨⟨⟨_, _, _, _, _, hr.mono (by decide), oZ_Addresses_getitem T, G_Addresses_getitem T, T.b_Addresses_getitem⟩⟩⟩ AllM.nil) hr.u1 rfl (pf_var 2) (pf_var 1)))) (pf_slice rfl (pf_var 2) (pof_some (pf_op (od_add rfl) (pf_var 1) pf_int)) pof_none))))))
theorem G_law_without {b : Bool} (T : TX w K mg) : FnG b PP w K mg base (L2N.CX PP w) 1 T.f_law_without T.d_law_without ["_law_words", "_law_place"] (spD (zt T) 2 D_law_without) :=
  fn_d (Z := zt T) (K := K) (N := N_law_without) (fb := B_law_without) (DN.Fun.d T.F_law_without) sc_law_without fun cdv A outer s H E hr =>
    (psf_one (psf_ret (pf_lc (own := [("_law_word", 2)]) rfl sc_law_without.nd (pif_val rfl (pf_var 0)) (blkOk_by (N := N_law_without) (sc := defScope s_law_without) (by decide +kernel)) (fun _ _ _ _ _ => (pgf_name 2 sc_law_without.nd rfl (by first | exact .inl rfl | exact .inr rfl))) (fun _ _ _ _ _ => ptsf_nil) (fun _ _ _ _ _ => (pf_op (od_add rfl) (pf_slice rfl (pf_var 2) pof_none (pof_some (pf_var 1))) (pf_slice rfl (pf_var 2) (pof_some (pf_op (od_add rfl) (pf_var 1) pf_int)) pof_none))))))
theorem G_law_apart {b : Bool} (T : TX w K mg) : FnG b PP w K mg base (L2N.CX PP w) 6 T.f_law_apart T.d_law_apart ["_law_one", "_law_other"] (spD (zt T) 2 D_law_apart) :=
  fn_d (Z := zt T) (K := K) (N := N_law_apart) (fb := B_law_apart) (DN.Fun.d T.F_law_apart) sc_law_apart fun cdv A outer s H E hr =>
    (psf_one (psf_ret (pf_callB (cd_len rfl) (by rfl) T.z_len (by decide +kernel) (paf_cons (pf_lc (own := [("_law_k", 2)]) rfl sc_law_apart.nd (pif_range1 (by rfl) T.z_range (paf_cons (pf_lenO (AllM.cons ⟨⟨⟨_, _, _, _, _, hr.mono (by decide), oZ_Addresses_len T, G_Addresses_len T, T.b_Addresses_len⟩⟩⟩ AllM.nil) rfl (by rfl) T.z_len (paf_cons (pf_var 0) paf_nil)) paf_nil)) (blkOk_by (N := N_law_apart) (sc := defScope s_law_apart) (by decide +kernel)) (fun _ _ _ _ _ => (pgf_name 2 sc_law_apart.nd rfl (by first | exact .inl rfl | exact .inr rfl))) (fun _ _ _ _ _ => (ptsf_one (ptf_cmp (od_in hr.u65 rfl) (pf_lst (paf_cons (pf_ixO (AllM.cons ⟨⟨⟨_, _, _, _, _, hr.mono (by decide), oZ_Addresses_getitem T, G_Addresses_getitem T, T.b_Addresses_getitem⟩⟩⟩ AllM.nil) hr.u1 rfl (pf_var 0) (pf_var 2)) (paf_cons (pf_ixO (AllM.cons ⟨⟨⟨_, _, _, _, _, hr.mono (by decide), oZ_Addresses_getitem T, G_Addresses_getitem T, T.b_Addresses_getitem⟩⟩⟩ AllM.nil) hr.u1 rfl (pf_var 1) (pf_var 2)) paf_nil))) (pf_lst (paf_cons (pf_lst (paf_cons pf_str (paf_cons pf_str paf_nil))) (paf_cons (pf_lst (paf_cons pf_str (paf_cons pf_str paf_nil))) paf_nil))) (by rfl)))) (fun _ _ _ _ _ => (pf_var 2))) paf_nil))))
theorem G_law_places_right {b : Bool} (T : TX w K mg) : FnG b PP w K mg base (L2N.CX PP w) 10 T.f_law_places_right T.d_law_places_right ["_law_words", "_law_book"] (spD (zt T) 2 D_law_places_right) :=
  fn_d (Z := zt T) (K := K) (N := N_law_places_right) (fb := B_law_places_right) (DN.Fun.d T.F_law_places_right) sc_law_places_right fun cdv A outer s H E hr =>
    (psf_cons (psf_set 2 sc_law_places_right.nd rfl (.inl rfl) (pf_methD0 tkd (AllM.cons ⟨⟨⟨_, _, _, _, _, hr.mono (by decide), clZ_Addresses T, mZ_Addresses_table T, G_Addresses_table T, T.b_Addresses_table⟩⟩, by decide⟩ AllM.nil) (pf_var 1)))
    (psf_cons (psf_for pod rfl (pif_range1 (by rfl) T.z_range (paf_cons (pf_lenO (AllM.cons ⟨⟨⟨_, _, _, _, _, hr.mono (by decide), oZ_Addresses_len T, G_Addresses_len T, T.b_Addresses_len⟩⟩⟩ AllM.nil) rfl (by rfl) T.z_len (paf_cons (pf_ixO (AllM.cons ⟨⟨⟨_, _, _, _, _, hr.mono (by decide), oZ_Addresses_getitem T, G_Addresses_getitem T, T.b_Addresses_getitem⟩⟩⟩ AllM.nil) hr.u1 rfl (pf_var 0) pf_int) paf_nil)) paf_nil)) (pgf_name 3 sc_law_places_right.nd rfl (.inr rfl))
      (psf_cons (psf_par 4 5 (by rfl) sc_law_places_right.nd rfl rfl (by decide) rfl rfl (paf_cons (pf_methD tkd (AllM.cons ⟨⟨⟨_, _, _, _, _, hr.mono (by decide), clZ_Addresses T, mZ_Addresses_flipped T, G_Addresses_flipped T, T.b_Addresses_flipped⟩⟩, by decide⟩ AllM.nil) (pf_var 1) (paf_cons (pf_var 3) paf_nil)) (paf_cons (pf_methD tkd (AllM.cons ⟨⟨⟨_, _, _, _, _, hr.mono (by decide), clZ_Addresses T, mZ_Addresses_without T, G_Addresses_without T, T.b_Addresses_without⟩⟩, by decide⟩ AllM.nil) (pf_var 1) (paf_cons (pf_var 3) paf_nil)) paf_nil)) (by rfl))
    (psf_cons (psf_if (ptf_w (pwf_or (ptf_cmp (od_ne hr.u64 rfl) (pf_callT (cd_list rfl rfl) (by rfl) T.z_list (by decide +kernel) (paf_cons (pf_prop (T := [("Addresses", 1, D_Addresses_words)]) (AllM.cons ⟨⟨⟨_, _, _, _, _, _, hr.mono (by decide), clZ_Addresses T, pZ_Addresses_words T, G_Addresses_words T, T.b_Addresses_words⟩⟩⟩ AllM.nil) (pf_var 4)) paf_nil)) (pf_call (G_law_flipped T) (hr.mono (by decide)) tkd (by rfl) T.g_law_flipped T.F_law_flipped.kp T.b_law_flipped (paf_cons (pf_var 0) (paf_cons (pf_var 3) paf_nil))) (nomark _)) (pwf_one (ptf_neO (csok T) (AllM.cons ⟨⟨⟨_, _, _, _, _, hr.mono (by decide), oeZ_Addresses T, G_Addresses_eq T, T.b_Addresses_eq⟩⟩⟩ AllM.nil) hr.u64 rfl (pf_methD0 tkd (AllM.cons ⟨⟨⟨_, _, _, _, _, hr.mono (by decide), clZ_Addresses T, mZ_Addresses_table T, G_Addresses_table T, T.b_Addresses_table⟩⟩, by decide⟩ AllM.nil) (pf_var 4)) (pf_var 2) (nomark _))))) (psf_one (psf_ret pf_bl)) psf_nil)
    (psf_cons (psf_set 6 sc_law_places_right.nd rfl (.inl rfl) (pf_methD0 tkd (AllM.cons ⟨⟨⟨_, _, _, _, _, hr.mono (by decide), clZ_Addresses T, mZ_Addresses_table T, G_Addresses_table T, T.b_Addresses_table⟩⟩, by decide⟩ AllM.nil) (pf_var 5)))
    (psf_cons (psf_if (ptf_w (pwf_or (ptf_cmp (od_ne hr.u64 rfl) (pf_callT (cd_list rfl rfl) (by rfl) T.z_list (by decide +kernel) (paf_cons (pf_prop (T := [("Addresses", 1, D_Addresses_words)]) (AllM.cons ⟨⟨⟨_, _, _, _, _, _, hr.mono (by decide), clZ_Addresses T, pZ_Addresses_words T, G_Addresses_words T, T.b_Addresses_words⟩⟩⟩ AllM.nil) (pf_var 5)) paf_nil)) (pf_call (G_law_without T) (hr.mono (by decide)) tkd (by rfl) T.g_law_without T.F_law_without.kp T.b_law_without (paf_cons (pf_var 0) (paf_cons (pf_var 3) paf_nil))) (nomark _)) (pwf_one (ptf_cmp (od_ne hr.u64 rfl) (pf_prop (T := [("Addresses", 1, D_Addresses_length)]) (AllM.cons ⟨⟨⟨_, _, _, _, _, _, hr.mono (by decide), clZ_Addresses T, pZ_Addresses_length T, G_Addresses_length T, T.b_Addresses_length⟩⟩⟩ AllM.nil) (pf_var 5)) (pf_op od_sub (pf_lenO (AllM.cons ⟨⟨⟨_, _, _, _, _, hr.mono (by decide), oZ_Addresses_len T, G_Addresses_len T, T.b_Addresses_len⟩⟩⟩ AllM.nil) rfl (by rfl) T.z_len (paf_cons (pf_ixO (AllM.cons ⟨⟨⟨_, _, _, _, _, hr.mono (by decide), oZ_Addresses_getitem T, G_Addresses_getitem T, T.b_Addresses_getitem⟩⟩⟩ AllM.nil) hr.u1 rfl (pf_var 0) pf_int) paf_nil)) pf_int) (nomark _))))) (psf_one (psf_ret pf_bl)) psf_nil)
    (psf_cons (psf_for pod rfl (pi_enumD rfl (by rfl) T.z_enumerate (pf_var 0)) (pgf_tup rfl rfl (pgfs_cons (pgf_name 7 sc_law_places_right.nd rfl (.inl rfl)) (pgfs_cons (pgf_name 8 sc_law_places_right.nd rfl (.inr rfl)) pgfs_nil)))
      (psf_cons (psf_setLc 9 (own := [("_law_other", 10)]) rfl sc_law_places_right.nd rfl rfl (sw_true rfl rfl rfl (by decide +kernel)) (pif_val rfl (pf_var 0)) (blkOk_by (N := N_law_places_right) (sc := defScope s_law_places_right) (by decide +kernel)) (fun _ _ _ _ _ => (pgf_name 10 sc_law_places_right.nd rfl (by first | exact .inl rfl | exact .inr rfl))) (fun _ _ _ _ _ => ptsf_nil) (fun _ _ _ _ _ => (pf_call (G_law_apart T) (hr.mono (by decide)) tk0 (by rfl) T.g_law_apart T.F_law_apart.kp T.b_law_apart (paf_cons (pf_ixO (AllM.cons ⟨⟨⟨_, _, _, _, _, hr.mono (by decide), oZ_Addresses_getitem T, G_Addresses_getitem T, T.b_Addresses_getitem⟩⟩⟩ AllM.nil) hr.u1 rfl (pf_var 8) (pf_var 3)) (paf_cons (pf_ixO (AllM.cons ⟨⟨⟨_, _, _, _, _, hr.mono (by decide), oZ_Addresses_getitem T, G_Addresses_getitem T, T.b_Addresses_getitem⟩⟩⟩ AllM.nil) hr.u1 rfl (pf_var 10) (pf_var 3)) paf_nil)))))
    (psf_one (psf_if (ptf_cmp (od_ne hr.u64 rfl) (pf_lc (own := [("_law_far", 11), ("_law_own", 12)]) rfl sc_law_places_right.nd (pif_zipU rfl (by rfl) T.z_zip (paf_cons (pf_ixO (AllM.cons ⟨⟨⟨_, _, _, _, _, hr.mono (by decide), oZ_Addresses_getitem T, G_Addresses_getitem T, T.b_Addresses_getitem⟩⟩⟩ AllM.nil) hr.u1 rfl (pf_var 6) (pf_var 7)) (paf_cons (pf_var 9) paf_nil))) (blkOk_by (N := N_law_places_right) (sc := defScope s_law_places_right) (by decide +kernel)) (fun _ _ _ _ _ => (pgf_tup rfl rfl (pgfs_cons (pgf_name 11 sc_law_places_right.nd rfl (by first | exact .inl rfl | exact .inr rfl)) (pgfs_cons (pgf_name 12 sc_law_places_right.nd rfl (by first | exact .inl rfl | exact .inr rfl)) pgfs_nil)))) (fun _ _ _ _ _ => ptsf_nil) (fun _ _ _ _ _ => (pf_op (od_add rfl) (pf_var 11) (pf_var 12)))) (pf_callT (cd_list rfl rfl) (by rfl) T.z_list (by decide +kernel) (paf_cons (pf_ixO (AllM.cons ⟨⟨⟨_, _, _, _, _, hr.mono (by decide), oZ_Addresses_getitem T, G_Addresses_getitem T, T.b_Addresses_getitem⟩⟩⟩ AllM.nil) hr.u1 rfl (pf_var 2) (pf_var 7)) paf_nil)) (nomark _)) (psf_one (psf_ret pf_bl)) psf_nil))))
    (psf_one (psf_if (ptf_neO (csok T) (AllM.cons ⟨⟨⟨_, _, _, _, _, hr.mono (by decide), oeZ_Addresses T, G_Addresses_eq T, T.b_Addresses_eq⟩⟩⟩ AllM.nil) hr.u64 rfl (pf_methD tkd (AllM.cons ⟨⟨⟨_, _, _, _, _, hr.mono (by decide), clZ_Addresses T, mZ_Addresses_flipped T, G_Addresses_flipped T, T.b_Addresses_flipped⟩⟩, by decide⟩ AllM.nil) (pf_var 4) (paf_cons (pf_var 3) paf_nil)) (pf_var 1) (nomark _)) (psf_one (psf_ret pf_bl)) psf_nil))))))))
    (psf_one (psf_ret pf_bl))))
theorem G_law_mixed {b : Bool} (T : TX w K mg) : FnG b PP w K mg base (L2N.CX PP w) 7 T.f_law_mixed T.d_law_mixed ["_law_box_here", "_law_items"] (spD (zt T) 2 D_law_mixed) :=
  fn_d (Z := zt T) (K := K) (N := N_law_mixed) (fb := B_law_mixed) (DN.Fun.d T.F_law_mixed) sc_law_mixed fun cdv A outer s H E hr =>
    (psf_cons (psf_setC 2 sc_law_mixed.nd rfl (.inr rfl) (pf_callT (cd_list rfl rfl) (by rfl) T.z_list (by decide +kernel) (paf_cons (pf_var 1) paf_nil)))
    (psf_one (psf_ret (pf_lc (own := [("_law_k", 3)]) rfl sc_law_mixed.nd (pif_range1 (by rfl) T.z_range (paf_cons (pf_lenO (AllM.cons ⟨⟨⟨_, _, _, _, _, hr.mono (by decide), oZ_Addresses_len T, G_Addresses_len T, T.b_Addresses_len⟩⟩⟩ AllM.nil) rfl (by rfl) T.z_len (paf_cons (pf_var 1) paf_nil)) paf_nil)) (blkOk_by (N := N_law_mixed) (sc := defScope s_law_mixed) (by decide +kernel)) (fun _ _ _ _ _ => (pgf_name 3 sc_law_mixed.nd rfl (by first | exact .inl rfl | exact .inr rfl))) (fun _ _ _ _ _ => ptsf_nil) (fun _ _ _ _ _ => (pf_mut md_popAt PySem.F.slot_list_pop PySem.F.type_list_pop rfl (pf_var 2) (paf_cons (pf_call (G_law_take T) (hr.mono (by decide)) tk0 (by rfl) T.g_law_take T.F_law_take.kp T.b_law_take (paf_cons (pf_var 0) (paf_cons (pf_lenO (AllM.cons ⟨⟨⟨_, _, _, _, _, hr.mono (by decide), oZ_Addresses_len T, G_Addresses_len T, T.b_Addresses_len⟩⟩⟩ AllM.nil) rfl (by rfl) T.z_len (paf_cons (pf_var 2) paf_nil)) paf_nil))) paf_nil)))))))
theorem G_Addresses_apart {b : Bool} (T : TX w K mg) : FnG b PP w K mg base (L2N.CX PP w) 8 T.f_Addresses_apart T.d_Addresses_apart ["self", "one", "other"] (spD (zt T) 3 D_Addresses_apart) :=
  fn_d (Z := zt T) (K := K) (N := N_Addresses_apart) (fb := B_Addresses_apart) (DN.Fun.d T.F_Addresses_apart) sc_Addresses_apart fun cdv A outer s H E hr =>
    (psf_cons (psf_expr (pf_methD tkd (AllM.cons ⟨⟨⟨_, _, _, _, _, hr.mono (by decide), clZ_Addresses T, mZ_Addresses_check_house T, G_Addresses_check_house T, T.b_Addresses_check_house⟩⟩, by decide⟩ AllM.nil) (pf_var 0) (paf_cons (pf_var 1) paf_nil)))
    (psf_cons (psf_expr (pf_methD tkd (AllM.cons ⟨⟨⟨_, _, _, _, _, hr.mono (by decide), clZ_Addresses T, mZ_Addresses_check_house T, G_Addresses_check_house T, T.b_Addresses_check_house⟩⟩, by decide⟩ AllM.nil) (pf_var 0) (paf_cons (pf_var 2) paf_nil)))
    (psf_one (psf_ret (pf_call (G_apart T) (hr.mono (by decide)) tkd (by rfl) T.g_apart_words T.F_apart.kp T.b_apart (paf_cons (pf_ix (ix_d hr.u1 rfl) (pf_fld ["Addresses"] rfl (AllC.cons (fd_Addresses_kept T) AllC.nil) (pf_var 0)) (pf_var 1)) (paf_cons (pf_ix (ix_d hr.u1 rfl) (pf_fld ["Addresses"] rfl (AllC.cons (fd_Addresses_kept T) AllC.nil) (pf_var 0)) (pf_var 2)) paf_nil)))))))
theorem G_law_order_right {b : Bool} (T : TX w K mg) : FnG b PP w K mg base (L2N.CX PP w) 10 T.f_law_order_right T.d_law_order_right ["_law_box_here", "_law_words", "_law_book"] (spD (zt T) 3 D_law_order_right) :=
  fn_d (Z := zt T) (K := K) (N := N_law_order_right) (fb := B_law_order_right) (DN.Fun.d T.F_law_order_right) sc_law_order_right fun cdv A outer s H E hr =>
    (psf_cons (psf_set 3 sc_law_order_right.nd rfl (.inr rfl) (pf_call (G_law_mixed T) (hr.mono (by decide)) tkd (by rfl) T.g_law_mixed T.F_law_mixed.kp T.b_law_mixed (paf_cons (pf_var 0) (paf_cons (pf_listRg1 rfl (by rfl) T.z_list (by rfl) T.z_range (pf_lenO (AllM.cons ⟨⟨⟨_, _, _, _, _, hr.mono (by decide), oZ_Addresses_len T, G_Addresses_len T, T.b_Addresses_len⟩⟩⟩ AllM.nil) rfl (by rfl) T.z_len (paf_cons (pf_var 1) paf_nil))) paf_nil))))
    (psf_cons (psf_set 4 sc_law_order_right.nd rfl (.inr rfl) (pf_methD tkd (AllM.cons ⟨⟨⟨_, _, _, _, _, hr.mono (by decide), clZ_Addresses T, mZ_Addresses_renamed T, G_Addresses_renamed T, T.b_Addresses_renamed⟩⟩, by decide⟩ AllM.nil) (pf_var 2) (paf_cons (pf_var 3) paf_nil)))
    (psf_cons (psf_if (ptf_w (pwf_or (ptf_cmp (od_ne hr.u64 rfl) (pf_lc (own := [("_law_k", 5)]) rfl sc_law_order_right.nd (pif_range1 (by rfl) T.z_range (paf_cons (pf_lenO (AllM.cons ⟨⟨⟨_, _, _, _, _, hr.mono (by decide), oZ_Addresses_len T, G_Addresses_len T, T.b_Addresses_len⟩⟩⟩ AllM.nil) rfl (by rfl) T.z_len (paf_cons (pf_var 1) paf_nil)) paf_nil)) (blkOk_by (N := N_law_order_right) (sc := defScope s_law_order_right) (by decide +kernel)) (fun _ _ _ _ _ => (pgf_name 5 sc_law_order_right.nd rfl (by first | exact .inl rfl | exact .inr rfl))) (fun _ _ _ _ _ => ptsf_nil) (fun _ _ _ _ _ => (pf_ixO (AllM.cons ⟨⟨⟨_, _, _, _, _, hr.mono (by decide), oZ_Addresses_getitem T, G_Addresses_getitem T, T.b_Addresses_getitem⟩⟩⟩ AllM.nil) hr.u1 rfl (pf_var 4) (pf_ixO (AllM.cons ⟨⟨⟨_, _, _, _, _, hr.mono (by decide), oZ_Addresses_getitem T, G_Addresses_getitem T, T.b_Addresses_getitem⟩⟩⟩ AllM.nil) hr.u1 rfl (pf_var 3) (pf_var 5))))) (pf_var 1) (nomark _)) (pwf_one (ptf_neO (csok T) (AllM.cons ⟨⟨⟨_, _, _, _, _, hr.mono (by decide), oeZ_Addresses T, G_Addresses_eq T, T.b_Addresses_eq⟩⟩⟩ AllM.nil) hr.u64 rfl (pf_methD tkd (AllM.cons ⟨⟨⟨_, _, _, _, _, hr.mono (by decide), clZ_Addresses T, mZ_Addresses_renamed T, G_Addresses_renamed T, T.b_Addresses_renamed⟩⟩, by decide⟩ AllM.nil) (pf_var 2) (paf_cons (pf_callT (cd_tupleK rfl) (by rfl) T.z_tuple (by decide +kernel) (paf_cons (pf_var 3) paf_nil)) paf_nil)) (pf_var 4) (nomark _))))) (psf_one (psf_ret pf_bl)) psf_nil)
    (psf_cons (psf_asg (pf_tup (paf_cons (pf_methD0 tkd (AllM.cons ⟨⟨⟨_, _, _, _, _, hr.mono (by decide), clZ_Addresses T, mZ_Addresses_table T, G_Addresses_table T, T.b_Addresses_table⟩⟩, by decide⟩ AllM.nil) (pf_var 2)) (paf_cons (pf_methD0 tkd (AllM.cons ⟨⟨⟨_, _, _, _, _, hr.mono (by decide), clZ_Addresses T, mZ_Addresses_table T, G_Addresses_table T, T.b_Addresses_table⟩⟩, by decide⟩ AllM.nil) (pf_var 4)) paf_nil))) (pgf_tup rfl rfl (pgfs_cons (pgf_name 6 sc_law_order_right.nd rfl (.inl rfl)) (pgfs_cons (pgf_name 7 sc_law_order_right.nd rfl (.inr rfl)) pgfs_nil))))
    (psf_cons (psf_for pod rfl (pif_range1 (by rfl) T.z_range (paf_cons (pf_lenO (AllM.cons ⟨⟨⟨_, _, _, _, _, hr.mono (by decide), oZ_Addresses_len T, G_Addresses_len T, T.b_Addresses_len⟩⟩⟩ AllM.nil) rfl (by rfl) T.z_len (paf_cons (pf_var 1) paf_nil)) paf_nil)) (pgf_name 5 sc_law_order_right.nd rfl (.inr rfl))
      (psf_cons (psf_if (ptf_cmp (od_ne hr.u64 rfl) (pf_lc (own := [("_law_j", 8)]) rfl sc_law_order_right.nd (pif_range1 (by rfl) T.z_range (paf_cons (pf_lenO (AllM.cons ⟨⟨⟨_, _, _, _, _, hr.mono (by decide), oZ_Addresses_len T, G_Addresses_len T, T.b_Addresses_len⟩⟩⟩ AllM.nil) rfl (by rfl) T.z_len (paf_cons (pf_var 1) paf_nil)) paf_nil)) (blkOk_by (N := N_law_order_right) (sc := defScope s_law_order_right) (by decide +kernel)) (fun _ _ _ _ _ => (pgf_name 8 sc_law_order_right.nd rfl (by first | exact .inl rfl | exact .inr rfl))) (fun _ _ _ _ _ => ptsf_nil) (fun _ _ _ _ _ => (pf_ixO (AllM.cons ⟨⟨⟨_, _, _, _, _, hr.mono (by decide), oZ_Addresses_getitem T, G_Addresses_getitem T, T.b_Addresses_getitem⟩⟩⟩ AllM.nil) hr.u1 rfl (pf_ixO (AllM.cons ⟨⟨⟨_, _, _, _, _, hr.mono (by decide), oZ_Addresses_getitem T, G_Addresses_getitem T, T.b_Addresses_getitem⟩⟩⟩ AllM.nil) hr.u1 rfl (pf_var 7) (pf_ixO (AllM.cons ⟨⟨⟨_, _, _, _, _, hr.mono (by decide), oZ_Addresses_getitem T, G_Addresses_getitem T, T.b_Addresses_getitem⟩⟩⟩ AllM.nil) hr.u1 rfl (pf_var 3) (pf_var 5))) (pf_ixO (AllM.cons ⟨⟨⟨_, _, _, _, _, hr.mono (by decide), oZ_Addresses_getitem T, G_Addresses_getitem T, T.b_Addresses_getitem⟩⟩⟩ AllM.nil) hr.u1 rfl (pf_var 3) (pf_var 8))))) (pf_callT (cd_list rfl rfl) (by rfl) T.z_list (by decide +kernel) (paf_cons (pf_ixO (AllM.cons ⟨⟨⟨_, _, _, _, _, hr.mono (by decide), oZ_Addresses_getitem T, G_Addresses_getitem T, T.b_Addresses_getitem⟩⟩⟩ AllM.nil) hr.u1 rfl (pf_var 6) (pf_var 5)) paf_nil)) (nomark _)) (psf_one (psf_ret pf_bl)) psf_nil)
    (psf_one (psf_if (ptf_neO (csok T) (AllM.cons ⟨⟨⟨_, _, _, _, _, hr.mono (by decide), oeZ_Addresses T, G_Addresses_eq T, T.b_Addresses_eq⟩⟩⟩ AllM.nil) hr.u64 rfl (pf_methD tkd (AllM.cons ⟨⟨⟨_, _, _, _, _, hr.mono (by decide), clZ_Addresses T, mZ_Addresses_apart T, G_Addresses_apart T, T.b_Addresses_apart⟩⟩, by decide⟩ AllM.nil) (pf_var 4) (paf_cons (pf_ixO (AllM.cons ⟨⟨⟨_, _, _, _, _, hr.mono (by decide), oZ_Addresses_getitem T, G_Addresses_getitem T, T.b_Addresses_getitem⟩⟩⟩ AllM.nil) hr.u1 rfl (pf_var 3) (pf_var 5)) (paf_cons (pf_ixO (AllM.cons ⟨⟨⟨_, _, _, _, _, hr.mono (by decide), oZ_Addresses_getitem T, G_Addresses_getitem T, T.b_Addresses_getitem⟩⟩⟩ AllM.nil) hr.u1 rfl (pf_var 3) pf_int) paf_nil))) (pf_ixO (AllM.cons ⟨⟨⟨_, _, _, _, _, hr.mono (by decide), oZ_Addresses_getitem T, G_Addresses_getitem T, T.b_Addresses_getitem⟩⟩⟩ AllM.nil) hr.u1 rfl (pf_ixO (AllM.cons ⟨⟨⟨_, _, _, _, _, hr.mono (by decide), oZ_Addresses_getitem T, G_Addresses_getitem T, T.b_Addresses_getitem⟩⟩⟩ AllM.nil) hr.u1 rfl (pf_var 6) (pf_var 5)) pf_int) (nomark _)) (psf_one (psf_ret pf_bl)) psf_nil))))
    (psf_cons (psf_setLc 9 (own := [("_law_k", 5)]) rfl sc_law_order_right.nd rfl rfl (sw_true rfl rfl rfl (by decide +kernel)) (pif_range1 (by rfl) T.z_range (paf_cons (pf_lenO (AllM.cons ⟨⟨⟨_, _, _, _, _, hr.mono (by decide), oZ_Addresses_len T, G_Addresses_len T, T.b_Addresses_len⟩⟩⟩ AllM.nil) rfl (by rfl) T.z_len (paf_cons (pf_var 1) paf_nil)) paf_nil)) (blkOk_by (N := N_law_order_right) (sc := defScope s_law_order_right) (by decide +kernel)) (fun _ _ _ _ _ => (pgf_name 5 sc_law_order_right.nd rfl (by first | exact .inl rfl | exact .inr rfl))) (fun _ _ _ _ _ => ptsf_nil) (fun _ _ _ _ _ => (pf_meth (md_index hr.u65 rfl) PySem.F.plainAttrs_list PySem.F.slot_list_index PySem.F.type_list_index rfl (pf_var 3) (paf_cons (pf_var 5) paf_nil))))
    (psf_one (psf_ret (pf_eqO (csok T) (AllM.cons ⟨⟨⟨_, _, _, _, _, hr.mono (by decide), oeZ_Addresses T, G_Addresses_eq T, T.b_Addresses_eq⟩⟩⟩ AllM.nil) hr.u64 rfl (pf_methD tkd (AllM.cons ⟨⟨⟨_, _, _, _, _, hr.mono (by decide), clZ_Addresses T, mZ_Addresses_renamed T, G_Addresses_renamed T, T.b_Addresses_renamed⟩⟩, by decide⟩ AllM.nil) (pf_var 4) (paf_cons (pf_var 9) paf_nil)) (pf_var 2) (nomark _))))))))))
theorem G_law_sum_right {b : Bool} (T : TX w K mg) : FnG b PP w K mg base (L2N.CX PP w) 10 T.f_law_sum_right T.d_law_sum_right ["_law_words", "_law_book", "_law_other_words", "_law_other"] (spD (zt T) 4 D_law_sum_right) :=
  fn_d (Z := zt T) (K := K) (N := N_law_sum_right) (fb := B_law_sum_right) (DN.Fun.d T.F_law_sum_right) sc_law_sum_right fun cdv A outer s H E hr =>
    (psf_cons (psf_set 4 sc_law_sum_right.nd rfl (.inl rfl) (pf_methD tkd (AllM.cons ⟨⟨⟨_, _, _, _, _, hr.mono (by decide), clZ_Addresses T, mZ_Addresses_followed T, G_Addresses_followed T, T.b_Addresses_followed⟩⟩, by decide⟩ AllM.nil) (pf_var 1) (paf_cons (pf_var 3) paf_nil)))
    (psf_cons (psf_if (ptf_cmp (od_ne hr.u64 rfl) (pf_callT (cd_list rfl rfl) (by rfl) T.z_list (by decide +kernel) (paf_cons (pf_prop (T := [("Addresses", 1, D_Addresses_words)]) (AllM.cons ⟨⟨⟨_, _, _, _, _, _, hr.mono (by decide), clZ_Addresses T, pZ_Addresses_words T, G_Addresses_words T, T.b_Addresses_words⟩⟩⟩ AllM.nil) (pf_var 4)) paf_nil)) (pf_lc (own := [("_law_word", 5), ("_law_more", 6)]) rfl sc_law_sum_right.nd (pif_zipX rfl (by rfl) T.z_zip (paf_cons (pf_var 0) (paf_cons (pf_var 2) paf_nil))) (blkOk_by (N := N_law_sum_right) (sc := defScope s_law_sum_right) (by decide +kernel)) (fun _ _ _ _ _ => (pgf_tup rfl rfl (pgfs_cons (pgf_name 5 sc_law_sum_right.nd rfl (by first | exact .inl rfl | exact .inr rfl)) (pgfs_cons (pgf_name 6 sc_law_sum_right.nd rfl (by first | exact .inl rfl | exact .inr rfl)) pgfs_nil)))) (fun _ _ _ _ _ => ptsf_nil) (fun _ _ _ _ _ => (pf_op (od_add rfl) (pf_var 5) (pf_var 6)))) (nomark _)) (psf_one (psf_ret pf_bl)) psf_nil)
    (psf_cons (psf_par3 7 8 9 (by rfl) sc_law_sum_right.nd rfl rfl rfl (by decide) (by decide) (by decide) rfl rfl rfl (paf_cons (pf_methD0 tkd (AllM.cons ⟨⟨⟨_, _, _, _, _, hr.mono (by decide), clZ_Addresses T, mZ_Addresses_table T, G_Addresses_table T, T.b_Addresses_table⟩⟩, by decide⟩ AllM.nil) (pf_var 4)) (paf_cons (pf_methD0 tkd (AllM.cons ⟨⟨⟨_, _, _, _, _, hr.mono (by decide), clZ_Addresses T, mZ_Addresses_table T, G_Addresses_table T, T.b_Addresses_table⟩⟩, by decide⟩ AllM.nil) (pf_var 1)) (paf_cons (pf_methD0 tkd (AllM.cons ⟨⟨⟨_, _, _, _, _, hr.mono (by decide), clZ_Addresses T, mZ_Addresses_table T, G_Addresses_table T, T.b_Addresses_table⟩⟩, by decide⟩ AllM.nil) (pf_var 3)) paf_nil))) (by rfl))
    (psf_cons (psf_for pod rfl (pif_range1 (by rfl) T.z_range (paf_cons (pf_lenO (AllM.cons ⟨⟨⟨_, _, _, _, _, hr.mono (by decide), oZ_Addresses_len T, G_Addresses_len T, T.b_Addresses_len⟩⟩⟩ AllM.nil) rfl (by rfl) T.z_len (paf_cons (pf_var 0) paf_nil)) paf_nil)) (pgf_name 10 sc_law_sum_right.nd rfl (.inl rfl))
      (psf_one (psf_if (ptf_cmp (od_ne hr.u64 rfl) (pf_callT (cd_list rfl rfl) (by rfl) T.z_list (by decide +kernel) (paf_cons (pf_ixO (AllM.cons ⟨⟨⟨_, _, _, _, _, hr.mono (by decide), oZ_Addresses_getitem T, G_Addresses_getitem T, T.b_Addresses_getitem⟩⟩⟩ AllM.nil) hr.u1 rfl (pf_var 7) (pf_var 10)) paf_nil)) (pf_lc (own := [("_law_far", 11), ("_law_more", 6)]) rfl sc_law_sum_right.nd (pif_zipX rfl (by rfl) T.z_zip (paf_cons (pf_ixO (AllM.cons ⟨⟨⟨_, _, _, _, _, hr.mono (by decide), oZ_Addresses_getitem T, G_Addresses_getitem T, T.b_Addresses_getitem⟩⟩⟩ AllM.nil) hr.u1 rfl (pf_var 8) (pf_var 10)) (paf_cons (pf_ixO (AllM.cons ⟨⟨⟨_, _, _, _, _, hr.mono (by decide), oZ_Addresses_getitem T, G_Addresses_getitem T, T.b_Addresses_getitem⟩⟩⟩ AllM.nil) hr.u1 rfl (pf_var 9) (pf_var 10)) paf_nil))) (blkOk_by (N := N_law_sum_right) (sc := defScope s_law_sum_right) (by decide +kernel)) (fun _ _ _ _ _ => (pgf_tup rfl rfl (pgfs_cons (pgf_name 11 sc_law_sum_right.nd rfl (by first | exact .inl rfl | exact .inr rfl)) (pgfs_cons (pgf_name 6 sc_law_sum_right.nd rfl (by first | exact .inl rfl | exact .inr rfl)) pgfs_nil)))) (fun _ _ _ _ _ => ptsf_nil) (fun _ _ _ _ _ => (pf_op (od_add rfl) (pf_var 11) (pf_var 6)))) (nomark _)) (psf_one (psf_ret pf_bl)) psf_nil)))
    (psf_one (psf_ret (pf_cmp (od_eq hr.u64 rfl) (pf_prop (T := [("Addresses", 1, D_Addresses_length)]) (AllM.cons ⟨⟨⟨_, _, _, _, _, _, hr.mono (by decide), clZ_Addresses T, pZ_Addresses_length T, G_Addresses_length T, T.b_Addresses_length⟩⟩⟩ AllM.nil) (pf_var 4)) (pf_op (od_add rfl) (pf_prop (T := [("Addresses", 1, D_Addresses_length)]) (AllM.cons ⟨⟨⟨_, _, _, _, _, _, hr.mono (by decide), clZ_Addresses T, pZ_Addresses_length T, G_Addresses_length T, T.b_Addresses_length⟩⟩⟩ AllM.nil) (pf_var 1)) (pf_prop (T := [("Addresses", 1, D_Addresses_length)]) (AllM.cons ⟨⟨⟨_, _, _, _, _, _, hr.mono (by decide), clZ_Addresses T, pZ_Addresses_length T, G_Addresses_length T, T.b_Addresses_length⟩⟩⟩ AllM.nil) (pf_var 3))) (nomark _))))))))
theorem G_law_end (T : TX w K mg) {f : Addr} {fd : FuncData} (F : Fun K "law" "law" s_law f fd) : FnG true PP w K mg base (L2N.CX PP w) 12 f fd ["_law_script"] (spD (zt T) 1 D_law) :=
  fn_d (Z := zt T) (K := K) (N := N_law) (fb := B_law) (DN.Fun.d F) sc_law fun cdv A outer s H E hr =>
    (psf_cons (psf_for pod rfl (pif_range1 (by rfl) T.z_range (paf_cons (pf_callB (cd_max rfl rfl) (by rfl) T.z_max (by decide +kernel) (paf_cons pf_int (paf_cons (pf_callB (cd_min rfl rfl) (by rfl) T.z_min (by decide +kernel) (paf_cons pf_int (paf_cons (pf_lenO (AllM.cons ⟨⟨⟨_, _, _, _, _, hr.mono (by decide), oZ_Addresses_len T, G_Addresses_len T, T.b_Addresses_len⟩⟩⟩ AllM.nil) rfl (by rfl) T.z_len (paf_cons (pf_var 0) paf_nil)) paf_nil))) paf_nil))) paf_nil)) (pgf_name 1 sc_law.nd rfl (.inl rfl))
      (psf_cons (psf_setC 2 sc_law.nd rfl (.inr rfl) (pf_call (G_law_box T) (hr.mono (by decide)) tkd (by rfl) T.g_law_box T.F_law_box.kp T.b_law_box (paf_cons (pf_call (G_law_cell_at T) (hr.mono (by decide)) tkd (by rfl) T.g_law_cell_at T.F_law_cell_at.kp T.b_law_cell_at (paf_cons (pf_var 0) (paf_cons (pf_var 1) paf_nil))) paf_nil)))
    (psf_cons (psf_asg (pf_tup (paf_cons (pf_op (od_add rfl) pf_int (pf_call (G_law_take T) (hr.mono (by decide)) tkd (by rfl) T.g_law_take T.F_law_take.kp T.b_law_take (paf_cons (pf_var 2) (paf_cons pf_int paf_nil)))) (paf_cons (pf_ix (ix_d hr.u1 rfl) (pf_lst (paf_cons pf_int (paf_cons pf_int paf_nil))) (pf_callT cd_int (by rfl) T.z_int (by decide +kernel) (paf_cons (pf_eqO (csok T) (AllM.cons ⟨⟨⟨_, _, _, _, _, hr.mono (by decide), oeZ_Addresses T, G_Addresses_eq T, T.b_Addresses_eq⟩⟩⟩ AllM.nil) hr.u64 rfl (pf_call (G_law_take T) (hr.mono (by decide)) tkd (by rfl) T.g_law_take T.F_law_take.kp T.b_law_take (paf_cons (pf_var 2) (paf_cons pf_int paf_nil))) pf_int (nomark _)) paf_nil))) paf_nil))) (pgf_tup rfl rfl (pgfs_cons (pgf_name 3 sc_law.nd rfl (.inr rfl)) (pgfs_cons (pgf_name 4 sc_law.nd rfl (.inl rfl)) pgfs_nil))))
    (psf_cons (psf_setLc 5 (own := [("_law_size", 7)]) rfl sc_law.nd rfl rfl (sw_true rfl rfl rfl (by decide +kernel)) (pif_val rfl (pf_lst (paf_cons (pf_call (G_law_take T) (hr.mono (by decide)) tkd (by rfl) T.g_law_take T.F_law_take.kp T.b_law_take (paf_cons (pf_var 2) (paf_cons (pf_var 4) paf_nil))) (paf_cons (pf_call (G_law_take T) (hr.mono (by decide)) tkd (by rfl) T.g_law_take T.F_law_take.kp T.b_law_take (paf_cons (pf_var 2) (paf_cons pf_int paf_nil))) paf_nil)))) (blkOk_by (N := N_law) (sc := defScope s_law) (by decide +kernel)) (fun _ _ _ _ _ => (pgf_name 7 sc_law.nd rfl (by first | exact .inl rfl | exact .inr rfl))) (fun _ _ _ _ _ => ptsf_nil) (fun _ _ _ _ _ => (pf_lc (own := [("_law_spot", 6)]) rfl sc_law.nd (pif_range1 (by rfl) T.z_range (paf_cons (pf_var 3) paf_nil)) (blkOk_by (by rfl)) (fun _ _ _ _ _ => (pgf_name 6 sc_law.nd rfl (by first | exact .inl rfl | exact .inr rfl))) (fun _ _ _ _ _ => ptsf_nil) (fun _ _ _ _ _ => (pf_call (G_law_signs T) (hr.mono (by decide)) tk0 (by rfl) T.g_law_signs T.F_law_signs.kp T.b_law_signs (paf_cons (pf_var 2) (paf_cons (pf_var 7) paf_nil)))))))
    (psf_cons (psf_setLc 8 (own := [("_law_words", 9)]) rfl sc_law.nd rfl rfl (sw_true rfl rfl rfl (by decide +kernel)) (pif_val rfl (pf_var 5)) (blkOk_by (N := N_law) (sc := defScope s_law) (by decide +kernel)) (fun _ _ _ _ _ => (pgf_name 9 sc_law.nd rfl (by first | exact .inl rfl | exact .inr rfl))) (fun _ _ _ _ _ => ptsf_nil) (fun _ _ _ _ _ => (pf_make ⟨⟨_, _, _, _, _, _, _, hr.mono (by decide), mkZ_Addresses T, G_Addresses_init T, T.b_Addresses_init, .nil, fun _ => OnL.nil'⟩⟩ tk0 (by rfl) (gZ_Addresses T) (paf_cons (pf_var 9) paf_nil))))
    (psf_one (psf_for pod rfl (pif_range1 (by rfl) T.z_range (paf_cons pf_int paf_nil)) (pgf_name 10 sc_law.nd rfl (.inl rfl))
      (psf_cons (psf_if (ptf_w (pwf_or (ptf_not (ptf_val (pf_call (G_law_places_right T) (hr.mono (by decide)) tkd (by rfl) T.g_law_places_right T.F_law_places_right.kp T.b_law_places_right (paf_cons (pf_ixO (AllM.cons ⟨⟨⟨_, _, _, _, _, hr.mono (by decide), oZ_Addresses_getitem T, G_Addresses_getitem T, T.b_Addresses_getitem⟩⟩⟩ AllM.nil) hr.u1 rfl (pf_var 5) pf_int) (paf_cons (pf_ixO (AllM.cons ⟨⟨⟨_, _, _, _, _, hr.mono (by decide), oZ_Addresses_getitem T, G_Addresses_getitem T, T.b_Addresses_getitem⟩⟩⟩ AllM.nil) hr.u1 rfl (pf_var 8) pf_int) paf_nil))))) (pwf_one (ptf_not (ptf_val (pf_call (G_law_order_right T) (hr.mono (by decide)) tkd (by rfl) T.g_law_order_right T.F_law_order_right.kp T.b_law_order_right (paf_cons (pf_var 2) (paf_cons (pf_ixO (AllM.cons ⟨⟨⟨_, _, _, _, _, hr.mono (by decide), oZ_Addresses_getitem T, G_Addresses_getitem T, T.b_Addresses_getitem⟩⟩⟩ AllM.nil) hr.u1 rfl (pf_var 5) pf_int) (paf_cons (pf_ixO (AllM.cons ⟨⟨⟨_, _, _, _, _, hr.mono (by decide), oZ_Addresses_getitem T, G_Addresses_getitem T, T.b_Addresses_getitem⟩⟩⟩ AllM.nil) hr.u1 rfl (pf_var 8) pf_int) paf_nil))))))))) (psf_one (psf_ret pf_bl)) psf_nil)
    (psf_cons (psf_for pod rfl (pif_val rfl (pf_lst (paf_cons (pf_tup (paf_cons pf_int (paf_cons pf_int paf_nil))) (paf_cons (pf_tup (paf_cons pf_int (paf_cons pf_int paf_nil))) (paf_cons (pf_tup (paf_cons pf_int (paf_cons pf_int paf_nil))) paf_nil))))) (pgf_tup rfl rfl (pgfs_cons (pgf_name 11 sc_law.nd rfl (.inl rfl)) (pgfs_cons (pgf_name 12 sc_law.nd rfl (.inl rfl)) pgfs_nil)))
      (psf_one (psf_if (ptf_not (ptf_val (pf_call (G_law_sum_right T) (hr.mono (by decide)) tkd (by rfl) T.g_law_sum_right T.F_law_sum_right.kp T.b_law_sum_right (paf_cons (pf_ixO (AllM.cons ⟨⟨⟨_, _, _, _, _, hr.mono (by decide), oZ_Addresses_getitem T, G_Addresses_getitem T, T.b_Addresses_getitem⟩⟩⟩ AllM.nil) hr.u1 rfl (pf_var 5) (pf_var 11)) (paf_cons (pf_ixO (AllM.cons ⟨⟨⟨_, _, _, _, _, hr.mono (by decide), oZ_Addresses_getitem T, G_Addresses_getitem T, T.b_Addresses_getitem⟩⟩⟩ AllM.nil) hr.u1 rfl (pf_var 8) (pf_var 11)) (paf_cons (pf_ixO (AllM.cons ⟨⟨⟨_, _, _, _, _, hr.mono (by decide), oZ_Addresses_getitem T, G_Addresses_getitem T, T.b_Addresses_getitem⟩⟩⟩ AllM.nil) hr.u1 rfl (pf_var 5) (pf_var 12)) (paf_cons (pf_ixO (AllM.cons ⟨⟨⟨_, _, _, _, _, hr.mono (by decide), oZ_Addresses_getitem T, G_Addresses_getitem T, T.b_Addresses_getitem⟩⟩⟩ AllM.nil) hr.u1 rfl (pf_var 8) (pf_var 12)) paf_nil))))))) (psf_one (psf_ret pf_bl)) psf_nil)))
    (psf_cons (psf_if (ptf_w (pwf_or (ptf_cmp (od_ne hr.u64 rfl) (pf_prop (T := [("Addresses", 1, D_Addresses_words)]) (AllM.cons ⟨⟨⟨_, _, _, _, _, _, hr.mono (by decide), clZ_Addresses T, pZ_Addresses_words T, G_Addresses_words T, T.b_Addresses_words⟩⟩⟩ AllM.nil) (pf_ixO (AllM.cons ⟨⟨⟨_, _, _, _, _, hr.mono (by decide), oZ_Addresses_getitem T, G_Addresses_getitem T, T.b_Addresses_getitem⟩⟩⟩ AllM.nil) hr.u1 rfl (pf_var 8) pf_int)) (pf_callT cd_tuple (by rfl) T.z_tuple (by decide +kernel) (paf_cons (pf_ixO (AllM.cons ⟨⟨⟨_, _, _, _, _, hr.mono (by decide), oZ_Addresses_getitem T, G_Addresses_getitem T, T.b_Addresses_getitem⟩⟩⟩ AllM.nil) hr.u1 rfl (pf_var 5) pf_int) paf_nil)) (nomark _)) (pwf_one (ptf_cmp (od_ne hr.u64 rfl) (pf_prop (T := [("Addresses", 1, D_Addresses_words)]) (AllM.cons ⟨⟨⟨_, _, _, _, _, _, hr.mono (by decide), clZ_Addresses T, pZ_Addresses_words T, G_Addresses_words T, T.b_Addresses_words⟩⟩⟩ AllM.nil) (pf_ixO (AllM.cons ⟨⟨⟨_, _, _, _, _, hr.mono (by decide), oZ_Addresses_getitem T, G_Addresses_getitem T, T.b_Addresses_getitem⟩⟩⟩ AllM.nil) hr.u1 rfl (pf_var 8) pf_int)) (pf_callT cd_tuple (by rfl) T.z_tuple (by decide +kernel) (paf_cons (pf_ixO (AllM.cons ⟨⟨⟨_, _, _, _, _, hr.mono (by decide), oZ_Addresses_getitem T, G_Addresses_getitem T, T.b_Addresses_getitem⟩⟩⟩ AllM.nil) hr.u1 rfl (pf_var 5) pf_int) paf_nil)) (nomark _))))) (psf_one (psf_ret pf_bl)) psf_nil)
    (psf_one (psf_if (ptf_not (ptf_val (pf_call (G_law_behind_right T) (hr.mono (by decide)) tkd (by rfl) T.g_law_behind_right T.F_law_behind_right.kp T.b_law_behind_right (paf_cons (pf_var 2) (paf_cons (pf_ixO (AllM.cons ⟨⟨⟨_, _, _, _, _, hr.mono (by decide), oZ_Addresses_getitem T, G_Addresses_getitem T, T.b_Addresses_getitem⟩⟩⟩ AllM.nil) hr.u1 rfl (pf_var 5) pf_int) (paf_cons (pf_ixO (AllM.cons ⟨⟨⟨_, _, _, _, _, hr.mono (by decide), oZ_Addresses_getitem T, G_Addresses_getitem T, T.b_Addresses_getitem⟩⟩⟩ AllM.nil) hr.u1 rfl (pf_var 8) pf_int) (paf_cons (pf_ixO (AllM.cons ⟨⟨⟨_, _, _, _, _, hr.mono (by decide), oZ_Addresses_getitem T, G_Addresses_getitem T, T.b_Addresses_getitem⟩⟩⟩ AllM.nil) hr.u1 rfl (pf_var 8) pf_int) paf_nil))))))) (psf_one (psf_ret pf_bl)) psf_nil))))))))))))
    (psf_one (psf_ret pf_bl)))
end
end Q14
namespace Q14
open DN PySem
theorem take_pos {n : Nat} {a b c m : Int} {T : Sto} (h : T[n]? = some (box a b c)) (ha : 0 < a) (hm : 0 < m) (hm2 : m < 1073741824) : D_law_take [.r n, .d (.int m)] T = .ok (T.set n (box (a.fdiv m) b c)) (.val (.d (.int (a.fmod m)))) := by
  unfold D_law_take defD
  simp_arith [gInt_, h, ix_0, ix_1, ix_2, gMod_ hm, gDiv_ hm hm2, gGt_, decide_eq_true ha, gt_iff_lt, set_ix0 h, exit_d, take_set]
theorem take_neg {n : Nat} {a b c m : Int} {T : Sto} (h : T[n]? = some (box a b c)) (ha : ¬ 0 < a) (hm : 0 < m) (hb : 0 ≤ b) (hb2 : b < 2147483629) (hc : 0 ≤ c) (hc2 : c < 1000000000) : 
    D_law_take [.r n, .d (.int m)] T = .ok (T.set n (box a b (c + 1))) (.val (.d (.int (((((b + 7727 * (c + 1) + 173) ^ 5).fmod 2147483647 + 86243 * (c + 1)) ^ 3).fmod 2147483587 |>.fdiv 32 |>.fmod m)))) := by
  have q1 : 0 ≤ ((b + 7727 * (c + 1) + 173) ^ 5).fmod 2147483647 := Int.fmod_nonneg_of_pos _ (by decide)
  have q2 : ((b + 7727 * (c + 1) + 173) ^ 5).fmod 2147483647 < 2147483647 := Int.fmod_lt_of_pos _ (by decide)
  unfold D_law_take defD
  have h' : (T.set n (.lst [Dv.int a, .int b, .int (c + 1)]))[n]? = some (box a b (c + 1)) := get_set h
  simp_arith [gInt_, h, ix_0, ix_1, ix_2, gGt_, decide_eq_false ha, gt_iff_lt, gAdd_, set_ix2 h, h', gMul_ (show -(2 ^ 64) < (7727 : Int) by decide) (show (7727 : Int) < 2 ^ 64 by decide)]
  rw [show (Dv.int 5) = Dv.int ((5 : Nat) : Int) from rfl, gPow_ (i := b + 7727 * (c + 1) + 173) (j := 5) (by omega) (by decide)]
  simp_arith [gInt_, h', gMod_ (show (0 : Int) < 2147483647 by decide), ix_2, gAdd_, gMul_ (show -(2 ^ 64) < (86243 : Int) by decide) (show (86243 : Int) < 2 ^ 64 by decide)]
  rw [show (Dv.int 3) = Dv.int ((3 : Nat) : Int) from rfl, gPow_ (j := 3) (by omega) (by decide)]
  simp_arith [gInt_, gMod_ hm, gMod_ (show (0 : Int) < 2147483587 by decide), gDiv_ (show (0 : Int) < 32 by decide) (show (32 : Int) < 1073741824 by decide), exit_d, take_set]
/-- the box at cell n -/
abbrev Bx (n : Nat) (k : Cell) : Prop := BxC 2147483629 n k
theorem take_ok {k : Cell} {n j : Nat} {m : Int} {T : Sto} (h : Bx j k) (hn : n < T.length) (hj : j < 1000000000) (hm : 0 < m) (hm2 : m < 1073741824) : ∃ (d : Nat) (k' : Cell), (d : Int) < m ∧ Bx (j + 1) k' ∧
    D_law_take [.r n, .d (.int m)] (T.set n k) = .ok (T.set n k') (.val (.d (.int d))) := by
  obtain ⟨a, b, c, rfl, h1, h2, h3, h4⟩ := h
  have hT : (T.set n (box a b c))[n]? = some (box a b c) := List.getElem?_set_self hn
  by_cases ha : 0 < a
  · refine ⟨(a.fmod m).toNat, box (a.fdiv m) b c, ?_, ⟨_, b, c, rfl, h1, h2, h3, by omega⟩, ?_⟩
    · have := Int.fmod_nonneg_of_pos a hm; have := Int.fmod_lt_of_pos a hm; omega
    · rw [take_pos hT ha hm hm2, List.set_set, Int.toNat_of_nonneg (Int.fmod_nonneg_of_pos _ hm)]
  · refine ⟨_, box a b (c + 1), ?_, ⟨a, b, c + 1, rfl, h1, h2, by omega, by omega⟩, by rw [take_neg hT ha hm h1 h2 h3 (by omega), List.set_set, ← Int.toNat_of_nonneg (Int.fmod_nonneg_of_pos _ hm)]⟩
    rw [Int.toNat_of_nonneg (Int.fmod_nonneg_of_pos _ hm)]
    exact Int.fmod_lt_of_pos _ hm
theorem cell_at_ok {ns : List Int} {k : Nat} {S : Sto} (hn : ns.length ≤ 63) : ∃ v : Int, D_law_cell_at [.d (.scr ns), .d (.int k)] S = .ok S (.val (.d (.int v))) := by
  by_cases h : k < ns.length
  · refine ⟨ns[k], def_pure ?_⟩
    simp_arith [gLen_scr, gLt_, decide_eq_true (show (k : Int) < (ns.length : Int) by omega), gIx_scr (List.getElem?_eq_getElem h)]
  · refine ⟨15485863 * k + 7919, def_pure ?_⟩
    simp_arith [gLen_scr, gLt_, decide_eq_false (show ¬ (k : Int) < (ns.length : Int) by omega), gMul_ (show -(2 ^ 64) < (15485863 : Int) by decide) (show (15485863 : Int) < 2 ^ 64 by decide), gAdd_]
theorem box_ok {v : Int} {S : Sto} : ∃ k, Bx 0 k ∧ D_law_box [.d (.int v)] S = .ok S (.new k) := by
  refine ⟨box (max 0 (v - 10 ^ 18)) (v.fmod 2147483629) 0, ⟨_, _, _, rfl, Int.fmod_nonneg_of_pos _ (by decide), Int.fmod_lt_of_pos _ (by decide), by omega, by omega⟩, def_new ?_⟩
  have e : (if v - 10 ^ 18 > 0 then v - 10 ^ 18 else 0) = max 0 (v - 10 ^ 18) := by omega
  simp_arith [gInt_, gMax2_, gMod_ (show (0 : Int) < 2147483629 by decide), gSub_]
  rw [show (Dv.int 18) = Dv.int ((18 : Nat) : Int) from rfl, gPow_ (j := 18) (by decide) (by decide)]
  simp_arith [gInt_, gMax2_, gMax2, gMod_ (show (0 : Int) < 2147483629 by decide), gSub_]
  rw [e]
end Q14
namespace Q14
open DN PySem
abbrev CL : List String := ["Addresses"]
abbrev CT : MT := [("Addresses", 2, D_Addresses_eq)]
section
variable {n : Nat} {S : Sto}
theorem is_integer_ok {i : Int} : D_is_integer [.d (.int i)] S = .ok S (.val (.d (.bl true))) := by
  refine def_pure ?_
  simp_arith []
end
end Q14
namespace Q14
open DN PySem
/-- a word of n signs -/
structure Wd (n : Nat) (s : Str) : Prop where
  len : s.cps.toList.length = n
  le : n ≤ 60
  ok : ∀ c ∈ s.cps.toList, OP.okc c = true
theorem Wd.length {n : Nat} {s : Str} (h : Wd n s) : s.length = n := h.len
theorem Wd.sz {n : Nat} {s : Str} (h : Wd n s) : s.length ≤ 100000 := by have := h.length; have := h.le; omega
theorem Wd.lay {n : Nat} {s : Str} (h : Wd n s) : PyData.strOk s = true := OP.strOk_of fun c hc => OP.okc_lt (h.ok c hc)
theorem okc_in {c : Nat} (h : OP.okc c = true) : gIn (.str ⟨#[c]⟩) (.str "01*") = vB true := by
  show vB (inS ⟨#[c]⟩ "01*") = _
  have : inS ⟨#[c]⟩ "01*" = OP.okc c := rfl
  rw [this, h]
theorem is_word_ok {n : Nat} {s : Str} {S : Sto} (h : Wd n s) : D_is_word [.d (.str s)] S = .ok S (.val (.d (.bl true))) := by
  refine def_pure ?_
  have e := fLc_it (fa := fVar 0) (fe := fOp gIn (fVar 1) (fC (.str "01*"))) (vs := [1]) (env := [.v (.d (.str s)), .u]) (S := S) (i := 1) (fun _ => .bl true) rfl rfl (by rw [List.length_map]; exact h.sz) (fun x hx => by
    obtain ⟨c, hc, rfl⟩ := List.mem_map.mp hx
    simp_arith [wipeE, okc_in (h.ok c hc)]
    exact got_val)
  have hl := h.length
  have h60 := h.le
  simp_arith [e, gLen_str h.sz, hl, gLe_, decide_eq_true (show (n : Int) ≤ 60 by omega), gAll_true]
/-- words of one length for some houses -/
structure Ws (n : Nat) (ws : List Str) : Prop where
  all : ∀ w ∈ ws, Wd n w
  pos : 1 ≤ ws.length
  le : ws.length ≤ 40
theorem Ws.ok {n : Nat} {ws : List Str} (h : Ws n ws) (m : Nat) : okNs m (ws.map .str) = true := okNs_all fun d hd => by
  obtain ⟨w, hw, rfl⟩ := List.mem_map.mp hd
  rw [okN_str]
  exact (h.all w hw).lay
theorem Ws.head {n : Nat} {ws : List Str} (h : Ws n ws) : ∃ w, ws[0]? = some w ∧ Wd n w := by
  have := h.pos
  exact ⟨ws[0], List.getElem?_eq_getElem (by omega), h.all _ (List.getElem_mem _)⟩
theorem are_words_ok {n : Nat} {ws : List Str} {S : Sto} {a : Vr} (h : Ws n ws) (q : Sq S a (ws.map .str)) : D_are_words [a] S = .ok S (.val (.d (.bl true))) := by
  refine def_pure ?_
  obtain ⟨w0, h0, g0⟩ := h.head
  obtain ⟨d, h1, h2, h3, _, _, h4⟩ := q.sn
  have hc := q.cl
  have hp := h.pos
  have hl := h.le
  have i0 : gIx d (.int 0) = vD (.str w0) := h4 0 _ (by simp [List.getElem?_map, h0])
  have e1 := fLc_sq (fa := fVar 0) (fe := fCallD 1 D_is_word (fCons (fVar 1) fNil)) (vs := [1]) (env := [.v a, .u]) (S := S) (i := 1) (fun _ => .bl true) rfl q (by simp; omega) (fun x hx => by
    obtain ⟨w, hw, rfl⟩ := List.mem_map.mp hx
    simp_arith [wipeE, is_word_ok (h.all w hw)]
    exact got_val)
  have e2 := fLc_sq (fa := fVar 0) (fe := fOp gEq (fLenD [("Addresses", 1, D_Addresses_len)] (fCons (fVar 1) fNil)) (fLenD [("Addresses", 1, D_Addresses_len)] (fCons (fIxD [("Addresses", 2, D_Addresses_getitem)] (fVar 0) (fC (.int 0))) fNil))) (vs := [1]) (env := [.v a, .u]) (S := S) (i := 1) (fun _ => .bl true) rfl q (by simp; omega) (fun x hx => by
    obtain ⟨w, hw, rfl⟩ := List.mem_map.mp hx
    have hw' := h.all w hw
    simp_arith [wipeE, hc, h1, i0, gLen_str hw'.sz, gLen_str g0.sz, gEq_int, hw'.length, g0.length, decide_true]
    exact got_val)
  simp_arith [hc, h1, h2, h3, gLe_, List.length_map, decide_eq_true (show (1 : Int) ≤ (ws.length : Int) by omega), decide_eq_true (show (ws.length : Int) ≤ 40 by omega), e1, e2, gAll_true]
abbrev Ao (ws : List Str) : Dv := .obj "Addresses" [.tup (ws.map .str)]
theorem Sq.app {S : Sto} {a : Vr} {ds : List Dv} {c : Cell} (h : Sq S a ds) : Sq (S ++ [c]) a ds := by
  cases a with
  | d x =>
    obtain ⟨⟨t, h1, h2, h3⟩, h4, h5⟩ := h
    refine ⟨⟨t, ?_, h2, ?_⟩, h4, ?_⟩
    · unfold itOf at h1 ⊢
      cases q : iterD x with
      | none => simp only [q] at h1; cases h1
      | some l => simp only [q] at h1 ⊢; cases h1; rfl
    · unfold itOf at h1
      cases q : iterD x with
      | none => simp only [q] at h1; cases h1
      | some l => simp only [q] at h1; cases h1; rfl
    · cases x <;> first | rfl | exact h5
  | r n =>
    obtain ⟨t, h1, h2, h3⟩ := h.it
    cases q : S[n]? with
    | none => simp [itOf, q] at h1
    | some k =>
      cases k with
      | lst l =>
        have : t = (l, some n) := by simp [itOf, q] at h1; exact h1.symm
        subst this
        cases h2
        exact Sq.cell (by rw [List.getElem?_append_left (List.getElem?_eq_some_iff.mp q).1]; exact q)
      | ob c l => simp [itOf, q] at h1
      | dc t k l => simp [itOf, q] at h1
      | dead => simp [itOf, q] at h1
      | tab l => simp [itOf, q] at h1
theorem ainit_ok {n : Nat} {ws : List Str} {S : Sto} {a : Vr} (h : Ws n ws) (q : Sq S a (ws.map .str)) : D_Addresses_init [.r S.length, a] (S ++ [.ob "Addresses" []]) = .ok (S ++ [.ob "Addresses" [.tup (ws.map .str)]]) (.val (.d .non)) := by
  have q' := Sq.app (c := .ob "Addresses" []) q
  obtain ⟨d, h1, h2, h3, h4, _, _⟩ := q'.sn
  have e : setFd ["Addresses"] "kept" [.v (.r S.length), .v a] (S ++ [.ob "Addresses" []]) (.r S.length) (.d (.tup (ws.map .str))) = .nx [.v (.r S.length), .v a] (S ++ [.ob "Addresses" [.tup (ws.map .str)]]) := by
    have e1 : (S ++ [Cell.ob "Addresses" []])[S.length]? = some (.ob "Addresses" []) := by simp
    unfold setFd
    simp only [e1]
    show RS.nx _ ((S ++ [Cell.ob "Addresses" []]).set S.length (.ob "Addresses" [.tup (ws.map .str)])) = _
    rw [List.set_append_right _ _ (Nat.le_refl _), Nat.sub_self]
    rfl
  unfold D_Addresses_init defD
  simp_arith [are_words_ok h q', h1, h4, e]
  rw [exit_d, List.take_of_length_le (by simp)]
theorem amake_ok {n : Nat} {ws : List Str} {S S' : Sto} {a : Vr} {fa : FA} {env : DN.Env} (h : Ws n ws) (e : fa env S = .ok S' [a]) (q : Sq S' a (ws.map .str)) : fMakeD "Addresses" [] 2 D_Addresses_init fa env S = .ok S' (.new (.ob "Addresses" [.tup (ws.map .str)])) := by
  simp_arith [e, ainit_ok h q]
section
variable {n : Nat} {ws : List Str} {S : Sto}
theorem kept_ok : gFld ["Addresses"] "kept" (Ao ws) = vT (ws.map .str) := rfl
theorem alen_ok : D_Addresses_len [.d (Ao ws)] S = .ok S (.val (.d (.int ws.length))) := by
  refine def_pure ?_
  simp_arith [kept_ok, gLen_tup, List.length_map]
theorem acheck_house_ok {i : Nat} (h : i < ws.length) : D_Addresses_check_house [.d (Ao ws), .d (.int i)] S = .ok S (.val (.d .non)) := by
  refine def_pure ?_
  simp_arith [is_integer_ok, kept_ok, gLen_tup, gLe_, gLt_, List.length_map, decide_eq_true (show (0 : Int) ≤ (i : Int) by omega), decide_eq_true (show (i : Int) < (ws.length : Int) by omega)]
theorem getitem_ok {i : Nat} {w : Str} (h : ws[i]? = some w) : D_Addresses_getitem [.d (Ao ws), .d (.int i)] S = .ok S (.val (.d (.str w))) := by
  refine def_pure ?_
  have hi := (List.getElem?_eq_some_iff.mp h).1
  have i0 : gIx (.tup (ws.map .str)) (.int i) = vD (.str w) := gIx_tup (by simp [List.getElem?_map, h])
  have cc : clsV S (.d (Ao ws)) = some "Addresses" := rfl
  have b1 : ("Web" == "Addresses") = false := by decide
  simp_arith [cc, b1, acheck_house_ok hi, kept_ok, i0]
end
section
variable {m n : Nat} {ws : List Str} {S : Sto}
theorem length_ok {ws : List Str} (h : Ws m ws) : D_Addresses_length [.d (Ao ws)] S = .ok S (.val (.d (.int m))) := by
  obtain ⟨x, h0, hx⟩ := h.head
  have i0 : gIx (.tup (ws.map .str)) (.int ((0 : Nat) : Int)) = vD (.str x) := gIx_tup (by simp [List.getElem?_map, h0])
  rw [show (((0 : Nat) : Int)) = 0 from rfl] at i0
  refine def_pure ?_
  simp_arith [kept_ok, i0, gLen_str hx.sz, hx.length]
end
end Q14
namespace Q14
open DN PySem L2
section
variable {S S1 S2 S' T : Sto} {env env' : DN.Env} {fa fb fe : FE} {fl : FA} {l : List Vr} {a b c v : Dv} {x : Xn} {m j n : Nat}
theorem op_ok {g : Dv → Dv → Option Rt} (ha : fa env S = .ok S (.val (.d a))) (hb : fb env S = .ok S (.val (.d b))) (hg : g a b = vD c) : fOp g fa fb env S = .ok S (.val (.d c)) := by
  simp_arith [ha, hb, hg]
theorem un_ok {g : Dv → Option Rt} (ha : fa env S = .ok S (.val (.d a))) (hg : g a = vD c) : fUn g fa env S = .ok S (.val (.d c)) := by
  simp_arith [ha, hg]
theorem call_ok {g : List Dv → Option Rt} (ha : fa env S = .ok S (.val (.d a))) (hg : g [a] = vD c) : fCall g (fCons fa fNil) env S = .ok S (.val (.d c)) := by
  simp_arith [ha, hg]
theorem call_new {g : List Dv → Option Rt} {k : List Dv} (ha : fa env S = .ok S (.val (.d a))) (hg : g [a] = nL k) : fCall g (fCons fa fNil) env S = .ok S (.new (.lst k)) := by
  simp_arith [ha, hg]
theorem call_okL {g : List Dv → Option Rt} {k : List Dv} (ha : fa env S = .ok S (.new (.lst k))) (hg : g [.lst k] = vD c) : fCall g (fCons fa fNil) env S = .ok S (.val (.d c)) := by
  simp_arith [ha, hg]
theorem var_ok {i : Nat} (h : env[i]? = some (.v (.d a))) : fVar i env S = .ok S (.val (.d a)) := by
  simp_arith [h]
theorem c_ok : fC a env S = .ok S (.val (.d a)) := rfl
theorem nil_ok : fNil env S = .ok S [] := rfl
theorem cons_v {v : Vr} (h : fa env S = .ok S1 (.val v)) (hl : fl env S1 = .ok S2 l) : fCons fa fl env S = .ok S2 (v :: l) := by
  unfold fCons
  rw [h]
  show R.bind (fl env S1) _ = _
  rw [hl]
  rfl
theorem cons_d (h : fa env S = .ok S1 (.val (.d a))) (hl : fl env S1 = .ok S2 l) : fCons fa fl env S = .ok S2 (.d a :: l) := cons_v h hl
theorem cons_L {k : List Dv} (h : fa env S = .ok S1 (.new (.lst k))) (hl : fl env S1 = .ok S2 l) : fCons fa fl env S = .ok S2 (.d (.lst k) :: l) := by
  unfold fCons
  rw [h]
  show R.bind (fl env S1) _ = _
  rw [hl]
  rfl
theorem cons_O {o : String} {k : List Dv} (h : fa env S = .ok S1 (.new (.ob o k))) (hl : fl env S1 = .ok S2 l) : fCons fa fl env S = .ok S2 (.d (.obj o k) :: l) := by
  unfold fCons
  rw [h]
  show R.bind (fl env S1) _ = _
  rw [hl]
  rfl
theorem tup_ok {m : List Dv} (hl : fl env S = .ok S1 l) (hg : gTupD l = vT m) : fTup fl env S = .ok S1 (.val (.d (.tup m))) := by
  unfold fTup
  rw [hl]
  show R.of S1 (gTupD l) = _
  rw [hg]
  rfl
theorem lst_ok {m : List Dv} (hl : fl env S = .ok S1 l) (hg : gLstD l = nL m) : fLst fl env S = .ok S1 (.new (.lst m)) := by
  unfold fLst
  rw [hl]
  show R.of S1 (gLstD l) = _
  rw [hg]
  rfl
theorem callD {m : Nat} {D : FD} {r : R Rt} (h1 : fl env S = .ok S1 l) (hm : l.length = m) (h2 : D l S1 = r) : fCallD m D fl env S = r := by
  show (fl env S).bind (fun S1 l => if l.length = m then D l S1 else .no) = r
  rw [h1]
  show (if l.length = m then D l S1 else .no) = r
  rw [if_pos hm, h2]
theorem st_set {i : Nat} {v : Vr} (h : fe env S = .ok S1 (.val v)) (he : env.set i (.v v) = env') : kSet i fe env S = .nx env' S1 := by
  rw [kSet_, h, ← he]
  rfl
theorem st_setL {i : Nat} {k : List Dv} (h : fe env S = .ok S1 (.new (.lst k))) (he : env.set i (.v (.d (.lst k))) = env') : kSet i fe env S = .nx env' S1 := by
  rw [kSet_, h, ← he]
  rfl
theorem st_setO {i : Nat} {o : String} {k : List Dv} (h : fe env S = .ok S1 (.new (.ob o k))) (he : env.set i (.v (.d (.obj o k))) = env') : kSet i fe env S = .nx env' S1 := by
  rw [kSet_, h, ← he]
  rfl
theorem seq_nx {k1 k2 : FS} {r : RS} (h1 : k1 env S = .nx env' S1) (h2 : k2 env' S1 = r) : kSeq k1 k2 env S = r := by
  rw [kSeq_, h1]
  exact h2
theorem seq_rt {k1 k2 : FS} {r : Rt} (h1 : k1 env S = .rt S1 r) : kSeq k1 k2 env S = .rt S1 r := by
  rw [kSeq_, h1]
  rfl
theorem st_ifB {ft : FT} {k1 k2 : FS} {t : Bool} (h : ft env S = .ok S1 t) : kIf ft k1 k2 env S = if t then k1 env S1 else k2 env S1 := by
  rw [kIf_, h, sB_ok]
theorem if_yes {ft : FT} {k1 k2 : FS} {r : RS} (h : ft env S = .ok S1 true) (h2 : k1 env S1 = r) : kIf ft k1 k2 env S = r := by
  rw [st_ifB h, if_pos rfl, h2]
theorem if_no {ft : FT} {k1 k2 : FS} {r : RS} (h : ft env S = .ok S1 false) (h2 : k2 env S1 = r) : kIf ft k1 k2 env S = r := by
  rw [st_ifB h, if_neg (by decide), h2]
theorem val_s {t : Bool} (h : fe env S = .ok S1 (.val (.d (.bl t)))) : kVal fe env S = .ok S1 t := by
  simp_arith [h]
theorem notB {t1 : FT} {b1 : Bool} (h1 : t1 env S = .ok S1 b1) : kNot t1 env S = .ok S1 (!b1) := by
  simp_arith [h1]
theorem ret_ok {r : Rt} (h : fe env S = .ok S1 r) : kRet fe env S = .rt S1 r := by
  rw [kRet_, h]
  rfl
theorem exp_ok {v : Vr} (h : fe env S = .ok S1 (.val v)) : kExpr fe env S = .nx env S1 := by
  rw [kExpr_, h]
  cases v <;> rfl
theorem got_of {r : R Rt} {d : Dv} (h : r = .ok S (.val (.d d))) : DN.Got r S (.d d) := h ▸ .val _ _
theorem def_st {n : Nat} {body : FS} {args : List Vr} {S U : Sto} {d : Dv} (h : outS (body (startE n args) S) = .ok U (.val (.d d))) (hl : U.length ≤ S.length) : defD n body args S = .ok U (.val (.d d)) := by
  unfold defD
  rw [h]
  show R.ok (U.take S.length) _ = _
  rw [List.take_of_length_le hl]
theorem ifS {ft : FT} {x y : FE} {r : R Rt} {b : Bool} (h : ft env S = .ok S1 b) (h2 : (if b then x else y) env S1 = r) : fIf ft x y env S = r := by
  rw [fIf_, h, bind_ok]
  cases b <;> exact h2
theorem var_v {i : Nat} {v : Vr} (h : env[i]? = some (.v v)) : fVar i env S = .ok S (.val v) := by
  simp_arith [h]
theorem op_L {g : Dv → Dv → Option Rt} {m : List Dv} (ha : fa env S = .ok S1 (.new (.lst m))) (hb : fb env S1 = .ok S2 (.val (.d b))) (hg : g (.lst m) b = vD c) : fOp g fa fb env S = .ok S2 (.val (.d c)) := by
  simp_arith [ha, hb, hg]
theorem op_LL {g : Dv → Dv → Option Rt} {m m' : List Dv} (ha : fa env S = .ok S1 (.new (.lst m))) (hb : fb env S1 = .ok S2 (.new (.lst m'))) (hg : g (.lst m) (.lst m') = vD c) : fOp g fa fb env S = .ok S2 (.val (.d c)) := by
  simp_arith [ha, hb, hg]
theorem join_at {ys : List Dv} {s : Str} (h : fa env S = .ok S1 (.new (.lst ys))) (hg : gJoin (.str "") [.lst ys] = vS s) : fMeth "str" gJoin (fC (.str "")) (fCons fa fNil) env S = .ok S1 (.val (.d (.str s))) := by
  simp_arith [h, hg]
end
section
variable {S S1 S2 : Sto} {env : DN.Env} {fa fb fe : FE} {fl : FA} {m j n : Nat} {a b v : Vr} {d c : Dv} {s t u : Str} {x : Xn}
theorem and_no (h : fa env S = .ok S1 (.val (.d (.bl false)))) : fAnd fa fb env S = .ok S1 (.val (.d (.bl false))) := by
  simp_arith [h]
theorem and_yes {r : Dv} (h : fa env S = .ok S1 (.val (.d (.bl true)))) (h2 : fb env S1 = .ok S2 (.val (.d r))) : fAnd fa fb env S = .ok S2 (.val (.d r)) := by
  simp_arith [h, h2]
theorem not_val {t : Bool} (h : fa env S = .ok S1 (.val (.d (.bl t)))) : fNot fa env S = .ok S1 (.val (.d (.bl (!t)))) := by
  cases t <;> simp_arith [h]
theorem lc_mp {β : Type} {t : Its} {tg : FG} {ft : FT} {fe : FE} (f : β → Dv) (p : β → Bool) (g : β → Dv) (hk : lockOk t S = true) : ∀ {l : List β} {acc : List Dv},
    (∀ x ∈ l, ∃ env', tg (f x) env = some env' ∧ ft env' S = .ok S (p x) ∧ (p x = true → Got (fe env' S) S (.d (g x)))) → acc.length + l.length ≤ 100000 → lcGo t tg ft fe env (l.map f) S acc = .ok S (acc ++ (l.filter p).map g)
  | [], acc, h, hl => by simp [lcGo, hk]
  | d :: l, acc, h, hl => by
    obtain ⟨env', h1, h2, h3⟩ := h d List.mem_cons_self
    have ih := fun acc => lc_mp (t := t) (tg := tg) (ft := ft) (fe := fe) f p g hk (l := l) (acc := acc) fun x hx => h x (List.mem_cons_of_mem _ hx)
    have hl' : acc.length + l.length + 1 ≤ 100000 := by simpa [Nat.add_assoc] using hl
    simp only [List.map_cons, lcGo, hk, if_true, h1, h2, noex_ok, R.bind]
    cases q : p d with
    | false =>
      simp only [Bool.false_eq_true, if_false]
      rw [ih acc (by omega), List.filter_cons, q]
      rfl
    | true =>
      have g3 := h3 q
      simp only [if_true]
      have e : (fe env' S).noex.bindV (fun S2 v => onD v fun y => if acc.length < 100000 then lcGo t tg ft fe env (l.map f) S2 (acc ++ [y]) else .no) = lcGo t tg ft fe env (l.map f) S (acc ++ [g d]) := by
        generalize fe env' S = r at g3
        cases g3 with
        | val =>
          simp only [noex_ok, R.bindV, onD]
          rw [if_pos (by omega)]
        | new S c d' hc => rw [noex_ok, bindV_new hc]; simp only [onD]; rw [if_pos (by omega)]
      rw [e, ih (acc ++ [g d]) (by simp; omega), List.filter_cons, q]
      simp
theorem fLc_mp {β : Type} {fi : FI} {tg : FG} {ft : FT} {fe : FE} {vs : List Nat} (f : β → Dv) (l : List β) (p : β → Bool) (g : β → Dv) (hi : fi env S = .ok S (l.map f, none)) (hl : l.length ≤ 100000)
    (h : ∀ x ∈ l, ∃ env', tg (f x) (wipeE env vs) = some env' ∧ ft env' S = .ok S (p x) ∧ (p x = true → Got (fe env' S) S (.d (g x)))) : fLc fi tg ft fe vs env S = .ok S (.new (.lst ((l.filter p).map g))) := by
  unfold fLc
  rw [hi]
  simp only [R.bind]
  rw [lc_mp f p g rfl h (by simpa using hl)]
  rfl
theorem orNo {t1 t2 : FT} {r : Bool} (h : t1 env S = .ok S false) (h2 : t2 env S = .ok S r) : kOr t1 t2 env S = .ok S r := by
  simp_arith [h, h2]
end
end Q14
set_option maxHeartbeats 1000000
namespace Q14
open DN PySem L2
section
variable {S S1 S2 : Sto} {env env' : DN.Env} {fa fb fe : FE} {fl : FA} {m n i j k q p : Nat} {a b v : Vr} {d c w x : Dv} {l l1 l2 : List Dv} {s t u : Str} {xn : Xn} {T : List (Int × Int)} {ws vs : List Str}
theorem isi_at {t : Bool} {x : Dv} (h : fa env S = .ok S (.val (.d d))) (hg : gIsi CL d x = vB t) : fCall (arg2 (gIsi CL)) (fCons fa (fCons (fC x) fNil)) env S = .ok S (.val (.d (.bl t))) := by
  simp_arith [h, hg]
theorem isint_no (h : gIsi CL d (.ty "int") = vB false) : D_is_integer [.d d] S = .ok S (.val (.d (.bl false))) := by
  refine def_pure ?_
  exact congrArg outS (show B_is_integer [.v (.d d)] S = _ from ret_ok (and_no (isi_at (var_v rfl) h)))
theorem isint_bl {t : Bool} : D_is_integer [.d (.bl t)] S = .ok S (.val (.d (.bl false))) := by
  refine def_pure ?_
  exact congrArg outS (show B_is_integer [.v (.d (.bl t))] S = _ from ret_ok (and_yes (isi_at (t := true) (var_v rfl) rfl) (not_val (t := true) (isi_at (var_v rfl) rfl))))
theorem isint_ok {i : Int} : D_is_integer [.d (.int i)] S = .ok S (.val (.d (.bl true))) := by
  refine def_pure ?_
  exact congrArg outS (show B_is_integer [.v (.d (.int i))] S = _ from ret_ok (and_yes (isi_at (t := true) (var_v rfl) rfl) (not_val (t := false) (isi_at (var_v rfl) rfl))))
theorem chain_ok {i : Int} {q : Nat} (h : fe env S = .ok S (.val (.d (.int n)))) (h1 : env[q]? = some (.v (.d (.int i)))) : fChain gLe gLt (fC (.int 0)) (fVar q) fe env S = .ok S (.val (.d (.bl (decide (0 ≤ i) && decide (i < n))))) := by
  have e2 : fVar q env S = .ok S (.val (.d (.int i))) := var_ok h1
  generalize fVar q = F at e2 ⊢
  by_cases z : 0 ≤ i
  · rw [decide_eq_true z, Bool.true_and]
    simp_arith [h, e2, gLe_, gLt_, decide_eq_true z]
  · rw [decide_eq_false z, Bool.false_and]
    simp_arith [h, e2, gLe_, gLt_, decide_eq_false z]
/-- the test of a house at q, among what fe counts -/
abbrev HT (q : Nat) (fe : FE) : FT := kOr (kNot (kVal (fCallD 1 D_is_integer (fCons (fVar q) fNil)))) (kNot (kVal (fChain gLe gLt (fC (.int 0)) (fVar q) fe)))
theorem ht_ok {k q : Nat} (hk : k < n) (h : fe env S = .ok S (.val (.d (.int n)))) (h1 : env[q]? = some (.v (.d (.int k)))) : HT q fe env S = .ok S false := by
  have c := chain_ok (i := k) h h1
  rw [decide_eq_true (by omega), decide_eq_true (by omega)] at c
  exact orNo (notB (b1 := true) (val_s (callD (l := [.d (.int k)]) (cons_v (var_v h1) nil_ok) rfl isint_ok))) (notB (b1 := true) (val_s c))
theorem kept_at {q : Nat} (hl : ws.length ≤ 100000) (h : env[q]? = some (.v (.d (Ao ws)))) : fCall gLen (fCons (fUn (gFld ["Addresses"] "kept") (fVar q)) fNil) env S = .ok S (.val (.d (.int ws.length))) :=
  call_ok (un_ok (c := .tup (ws.map .str)) (var_ok h) kept_ok) (by
    show vI ((ws.map Dv.str).length : Nat) = _
    rw [List.length_map]
    rfl)
end
section
variable {S S1 S2 : Sto} {env env' : DN.Env} {fa fb fe : FE} {fl : FA} {m n i j k q p : Nat} {a b c d x v w : Dv} {l l1 l2 : List Dv} {ws vs : List Str} {s t u : Str} {T : List (Int × Int)} {ks hs : List Nat} {xn : Xn}
abbrev EQt : MT := [("Addresses", 2, D_Addresses_eq)]
abbrev LNt : MT := [("Addresses", 1, D_Addresses_len)]
theorem meth {t : MT} {o : Vr} {c : String} {m : Nat} {D : FD} {r : R Rt} {l : List Vr} (h0 : fa env S = .ok S1 (.val o)) (hc : clsV S1 o = some c) (ht : t.at c = some (m, D)) (h1 : fl env S1 = .ok S2 l) (hm : (o :: l).length = m) (h2 : D (o :: l) S2 = r) : fMethD t fa fl env S = r := by
  unfold fMethD
  rw [h0]
  show (match clsV S1 o with
    | some c => match t.at c with
      | some (n, D) => (fl env S1).bind fun S2 l => if (o :: l).length = n then D (o :: l) S2 else R.no
      | none => R.no
    | none => R.no) = r
  rw [hc]
  show (match t.at c with
      | some (n, D) => (fl env S1).bind fun S2 l => if (o :: l).length = n then D (o :: l) S2 else R.no
      | none => R.no) = r
  rw [ht]
  show ((fl env S1).bind fun S2 l => if (o :: l).length = m then D (o :: l) S2 else R.no) = r
  rw [h1]
  show (if (o :: l).length = m then D (o :: l) S2 else R.no) = r
  rw [if_pos hm, h2]
theorem okR_v {S : Sto} {d : Dv} : okR (.ok S (.val (.d d))) = .ok S (.val (.d d)) := rfl
theorem propV {D : FD} {fo : FE} {x : Dv} (h1 : fo env S = .ok S (.val (.d (Ao ws)))) (h2 : D [.d (Ao ws)] S = .ok S (.val (.d x))) : fPropD [("Addresses", 1, D)] fo env S = .ok S (.val (.d x)) := by
  simp_arith [h1, h2, okR_v]
theorem lenD_s {T : MT} {fa : FA} {env : DN.Env} {S : Sto} {o : Vr} {c : String} {r : R Rt} (h1 : fa env S = .ok S [o]) (h2 : clsV S o = some c) (h3 : onlyV pInt (askT T c [o] S) = r) : fLenD T fa env S = r := by
  rw [fLenD_, h1, bind_ok, lenR_, h2, lenC_s, h3]
theorem size_at (h : Ws m ws) (he : env[q]? = some (.v (.d (Ao ws)))) : fPropD [("Addresses", 1, D_Addresses_length)] (fVar q) env S = .ok S (.val (.d (.int m))) := propV (var_ok he) (length_ok h)
theorem awords_ok : D_Addresses_words [.d (Ao ws)] S = .ok S (.val (.d (.tup (ws.map .str)))) := def_pure (congrArg outS (show B_Addresses_words [.v (.d (Ao ws))] S = _ from ret_ok (un_ok (c := .tup (ws.map .str)) (var_ok rfl) kept_ok)))
theorem words_at (he : env[q]? = some (.v (.d (Ao ws)))) : fPropD [("Addresses", 1, D_Addresses_words)] (fVar q) env S = .ok S (.val (.d (.tup (ws.map .str)))) := propV (var_ok he) awords_ok
theorem Wd.app (h : Wd m s) (g : Wd n t) (hl : m + n ≤ 60) : Wd (m + n) (s ++ t) := by
  have e : (s ++ t).cps.toList = s.cps.toList ++ t.cps.toList := by
    show (s.cps ++ t.cps).toList = _
    simp
  exact ⟨by rw [e, List.length_append, h.len, g.len], hl, fun c hc => by
    rw [e] at hc
    rcases List.mem_append.mp hc with hc | hc
    · exact h.ok c hc
    · exact g.ok c hc⟩
theorem gcat (h : Wd m s) (g : Wd n t) : gAdd (.str s) (.str t) = vS (s ++ t) := by
  have := h.length
  have := h.le
  have := g.length
  have := g.le
  exact gAdd_str (by omega)
theorem cat_at (ha : fa env S = .ok S (.val (.d (.str s)))) (hb : fb env S = .ok S (.val (.d (.str t)))) (h : Wd m s) (g : Wd n t) : fOp gAdd fa fb env S = .ok S (.val (.d (.str (s ++ t)))) := op_ok ha hb (gcat h g)
theorem add_vl (h1 : fa env S = .ok S1 (.val (.d (.lst l1)))) (h2 : fb env S1 = .ok S2 (.new (.lst l2))) (hl : l1.length + l2.length ≤ 1000) : fOp gAdd fa fb env S = .ok S2 (.new (.lst (l1 ++ l2))) := by
  have g : gAdd (.lst l1) (.lst l2) = nL (l1 ++ l2) := gAdd_lst (by omega)
  simp_arith [h1, h2, g]
theorem wds_at (he : fe env S = .ok S (.val (.d (.tup l)))) : iVal fe env S = .ok S (l, none) := by
  show (fe env S).bindV (fun S1 a => itOf S1 a) = _
  rw [he]
  rfl
theorem amake_done {D : FD} {env : DN.Env} {ws : List Str} (h : Ws n ws) (e : fe env S = .ok S (.new (.lst (ws.map .str)))) : fMakeD "Addresses" [] 2 D_Addresses_init (fCons fe fNil) env S = .ok S (.new (.ob "Addresses" [.tup (ws.map .str)])) :=
  amake_ok h (cons_L e nil_ok) Sq.lst
def Itm (x : Dv) : Prop := gIsi CL x (.ty "int") = vB false ∨ (∃ b, x = .bl b) ∨ ∃ i : Int, x = .int i
def toI (l : List Dv) : List Int := l.map fun x => match x with | .int i => i | _ => 0
theorem isi_lt {t : Bool} (h : fa env S = .ok S (.val (.d d))) (hg : gIsi CL d (.tup [.ty "list", .ty "tuple"]) = vB t) : fCall (arg2 (gIsi CL)) (fCons fa (fCons (fTup (fCons (fC (.ty "list")) (fCons (fC (.ty "tuple")) fNil))) fNil)) env S = .ok S (.val (.d (.bl t))) := by
  simp_arith [h, hg]
/-- a sequence of these items -/
def Seqv (d : Dv) (l : List Dv) : Prop := d = .lst l ∨ d = .tup l ∨ d = .ktp l
theorem Seqv.isi (h : Seqv d l) : gIsi CL d (.tup [.ty "list", .ty "tuple"]) = vB true := by
  rcases h with rfl | rfl | rfl <;> rfl
theorem Seqv.len (h : Seqv d l) (he : fa env S = .ok S (.val (.d d))) : fLenD LNt (fCons fa fNil) env S = .ok S (.val (.d (.int l.length))) := by
  rcases h with rfl | rfl | rfl
  · simp_arith [he, gLen_lst]
  · simp_arith [he, gLen_tup]
  · have g : gLen [.ktp l] = vI (l.length : Nat) := rfl
    have c : clsV S (.d (.ktp l)) = none := rfl
    simp_arith [he, c, g]
theorem Seqv.it (h : Seqv d l) (he : fe env S = .ok S (.val (.d d))) : iVal fe env S = .ok S (l, none) := by
  show (fe env S).bindV (fun S1 a => itOf S1 a) = _
  rw [he]
  rcases h with rfl | rfl | rfl <;> rfl
theorem gAll_b {β : Type} (p : β → Bool) (l : List β) : gAll [.lst (l.map fun x => Dv.bl (p x))] = vB (l.all p) := by
  have e : (l.map fun x => Dv.bl (p x)) = (l.map p).map .bl := by rw [List.map_map]; rfl
  show gAll1 (.lst _) = _
  rw [e]
  simp only [gAll1, bools_map]
  congr 1
  simp
theorem eqd_LL {t : Bool} (ha : fa env S = .ok S (.new (.lst l1))) (hb : fb env S = .ok S (.new (.lst l2))) (hg : gEq (.lst l1) (.lst l2) = vB t) : fEqD CL EQt false fa fb env S = .ok S (.val (.d (.bl t))) := by
  unfold fEqD
  rw [ha]
  show (fb env S).bindV _ = _
  rw [hb]
  show g2 S (.d (.lst l1)) (.d (.lst l2)) gEq = _
  simp_arith [hg]
/-- a plain text of at most m signs -/
structure Pl (m : Nat) (s : Str) : Prop where
  len : s.length ≤ m
  ok : ∀ c ∈ s.cps.toList, c < 1114112
theorem Pl.lay (h : Pl m s) : PyData.strOk s = true := OP.strOk_of h.ok
theorem str_tl : (s ++ t).cps.toList = s.cps.toList ++ t.cps.toList := by
  show (s.cps ++ t.cps).toList = _
  simp
theorem Pl.app (h : Pl m s) (g : Pl n t) : Pl (m + n) (s ++ t) := ⟨by
  have h := h.len
  have g := g.len
  have e : (s ++ t).length = s.length + t.length := by
    show (s ++ t).cps.toList.length = s.cps.toList.length + t.cps.toList.length
    rw [str_tl, List.length_append]
  omega, fun c hc => by
  rw [str_tl] at hc
  rcases List.mem_append.mp hc with hc | hc
  · exact h.ok c hc
  · exact g.ok c hc⟩
theorem Pl.mono (h : Pl m s) (hn : m ≤ n) : Pl n s := ⟨Nat.le_trans h.len hn, h.ok⟩
def nm (k : Nat) : Str := Str.ofString (toString (k : Int))
def hw (n : Nat) : Str := (Str.empty ++ nm n) ++ ":"
theorem for_it {tg : FG} {body : FS} (h : iVal fe env S = .ok S (l, none)) : kFor (iVal fe) tg body env S = forGo (l, none) tg body l env S := by
  rw [kFor_, h]
  rfl
theorem go_ok {tg : FG} {body : FS} {env1 : DN.Env} {tt : List Dv} (ht : tg d env = some env1) (hb : body env1 S = .nx env' S2) : forGo (tt, none) tg body (d :: l) env S = forGo (tt, none) tg body l env' S2 := by
  have hk : lockOk (tt, none) S = true := rfl
  simp only [forGo, hk, if_true, ht, hb]
theorem go_rt {tg : FG} {body : FS} {env1 : DN.Env} {r : Rt} {tt : List Dv} (ht : tg d env = some env1) (hb : body env1 S = .rt S2 r) : forGo (tt, none) tg body (d :: l) env S = .rt S2 r := by
  have hk : lockOk (tt, none) S = true := rfl
  simp only [forGo, hk, if_true, ht, hb]
end
end Q14
namespace Q14
open DN PySem L2
theorem check_word_ok {n : Nat} {s : Str} {S : Sto} (h : Wd n s) : D_check_word [.d (.str s)] S = .ok S (.val (.d .non)) := by
  refine def_pure ?_
  simp_arith [is_word_ok h]
/-- two signs that tell apart -/
def bad (c d : Nat) : Bool := (c == 48 && d == 49) || (c == 49 && d == 48)
/-- the places that tell apart -/
def dif (a b : Str) : List Nat := (List.range a.cps.toList.length).filter fun k => bad (a.cps.toList.getD k 0) (b.cps.toList.getD k 0)
theorem str_cps {a b : Str} : (a == b) = (a.cps.toList == b.cps.toList) := by
  by_cases h : a = b
  · subst h; simp
  · have : a.cps.toList ≠ b.cps.toList := fun c => h (by
      cases a; cases b
      congr
      exact Array.toList_inj.mp c)
    rw [beq_false_of_ne h, beq_false_of_ne this]
theorem z0 : PyData.strOk ("0" : Str) = true := OP.sgn_lay (c := 48) rfl
theorem z1 : PyData.strOk ("1" : Str) = true := OP.sgn_lay (c := 49) rfl
theorem bad_tup {c d : Nat} (hc : OP.okc c = true) (hd : OP.okc d = true) :
    gIn (.tup [.str ⟨#[c]⟩, .str ⟨#[d]⟩]) (.tup [.tup [.str "0", .str "1"], .tup [.str "1", .str "0"]]) = vB (bad c d) := by
  show onlyIf (okN 60 (.tup [.str ⟨#[c]⟩, .str ⟨#[d]⟩]) && _) _ = _
  have e1 : okN 60 (.tup [.str ⟨#[c]⟩, .str ⟨#[d]⟩]) = true := by
    show ((PyData.strOk ⟨#[c]⟩) && ((PyData.strOk ⟨#[d]⟩) && true)) = true
    rw [OP.sgn_lay hc, OP.sgn_lay hd]; rfl
  rw [e1]
  have e2 : okNs 60 [.tup [.str "0", .str "1"], .tup [.str "1", .str "0"]] = true := by
    show (((PyData.strOk ("0" : Str)) && ((PyData.strOk ("1" : Str)) && true)) && (((PyData.strOk ("1" : Str)) && ((PyData.strOk ("0" : Str)) && true)) && true)) = true
    rw [z0, z1]; rfl
  rw [e2]
  have hz : (("0" : Str) == ⟨#[c]⟩) = (48 == c) := by rw [str_cps]; simp [show (("0" : Str)).cps.toList = [48] from rfl]
  have ho : (("1" : Str) == ⟨#[c]⟩) = (49 == c) := by rw [str_cps]; simp [show (("1" : Str)).cps.toList = [49] from rfl]
  have hz' : (("0" : Str) == ⟨#[d]⟩) = (48 == d) := by rw [str_cps]; simp [show (("0" : Str)).cps.toList = [48] from rfl]
  have ho' : (("1" : Str) == ⟨#[d]⟩) = (49 == d) := by rw [str_cps]; simp [show (("1" : Str)).cps.toList = [49] from rfl]
  show vB _ = vB _
  congr 1
  simp only [inD, List.any, eqD, eqDs, Bool.and_true, Bool.or_false, hz, ho, hz', ho', bad]
  rw [show (48 == c) = (c == 48) from Bool.beq_comm, show (49 == c) = (c == 49) from Bool.beq_comm, show (48 == d) = (d == 48) from Bool.beq_comm, show (49 == d) = (d == 49) from Bool.beq_comm]
/-- the items of enumerate(zip(a, b)) -/
theorem ez_items (a b : List Nat) (h : a.length = b.length) : enumD (zipD (a.map fun c => Dv.str ⟨#[c]⟩) (b.map fun c => .str ⟨#[c]⟩)) = (List.range a.length).map fun k : Nat => Dv.tup [.int k, .tup [.str ⟨#[a.getD k 0]⟩, .str ⟨#[b.getD k 0]⟩]] := by
  unfold enumD zipD
  apply List.ext_getElem?
  intro k
  by_cases hk : k < a.length
  · have hk' : k < b.length := by omega
    simp [List.getElem?_map, List.getElem?_zipIdx, List.zip, List.getElem?_zipWith, List.getElem?_eq_getElem hk, List.getElem?_eq_getElem hk', List.getElem?_range hk, List.getD, Option.map]
  · rw [List.getElem?_eq_none, List.getElem?_eq_none]
    · simp; omega
    · simp [List.length_zip]; omega
theorem differing_ok {n : Nat} {a b : Str} {S : Sto} (ha : Wd n a) (hb : Wd n b) : D_differing [.d (.str a), .d (.str b)] S = .ok S (.new (.lst ((dif a b).map fun k : Nat => .int k))) := by
  have la := ha.len
  have lb := hb.len
  refine def_new ?_
  have hs : a.cps.size = b.cps.size := la.trans lb.symm
  have hi : iEz (fCons (fVar 0) (fCons (fVar 1) fNil)) [.v (.d (.str a)), .v (.d (.str b)), .u, .u] S = .ok S ((List.range a.cps.toList.length).map fun k : Nat => Dv.tup [.int k, .tup [.str ⟨#[a.cps.toList.getD k 0]⟩, .str ⟨#[b.cps.toList.getD k 0]⟩]], none) := by
    show itEz S [.d (.str a), .d (.str b)] = _
    unfold itEz
    simp only [hs, if_true]
    rw [ez_items _ _ (la.trans lb.symm)]
  have e := fLc_pure (fi := iEz (fCons (fVar 0) (fCons (fVar 1) fNil))) (tg := tgT (tgCons (tgN 2) (tgCons (tgN 3) tgNil)))
    (ft := kVal (fOp gIn (fVar 3) (fTup (fCons (fTup (fCons (fC (.str "0")) (fCons (fC (.str "1")) fNil))) (fCons (fTup (fCons (fC (.str "1")) (fCons (fC (.str "0")) fNil))) fNil)))))
    (fe := fVar 2) (vs := [2, 3]) (env := [.v (.d (.str a)), .v (.d (.str b)), .u, .u]) (S := S)
    (fun d => match d with | .tup [.int i, _] => bad (a.cps.toList.getD i.toNat 0) (b.cps.toList.getD i.toNat 0) | _ => false)
    (fun d => match d with | .tup [.int i, _] => .int i | _ => .non) hi rfl (by have := ha.le; simp [-Array.length_toList]; omega) (fun x hx => by
      obtain ⟨k, hk, rfl⟩ := List.mem_map.mp hx
      have hk := List.mem_range.mp hk
      have hka : OP.okc (a.cps.toList.getD k 0) = true := ha.ok _ (by rw [List.getD, List.getElem?_eq_getElem hk]; exact List.getElem_mem _)
      have hkb : OP.okc (b.cps.toList.getD k 0) = true := hb.ok _ (by rw [List.getD, List.getElem?_eq_getElem (by omega)]; exact List.getElem_mem _)
      refine ⟨_, rfl, ?_, fun _ => ?_⟩
      · simp_arith [wipeE, bad_tup hka hkb]
        rfl
      · exact got_val)
  have hn : gNe (.int a.length) (.int b.length) = vB false := by rw [gNe_int, ha.length, hb.length]; simp
  simp_arith [check_word_ok ha, check_word_ok hb, gLen_str ha.sz, gLen_str hb.sz, hn, e]
  rw [List.filter_map, List.map_map]
  rfl
theorem apart_ok {n : Nat} {a b : Str} {S : Sto} (ha : Wd n a) (hb : Wd n b) : D_apart [.d (.str a), .d (.str b)] S = .ok S (.val (.d (.int (dif a b).length))) := by
  refine def_pure ?_
  simp_arith [differing_ok ha hb, gLen_lst, List.length_map]
section
variable {n : Nat} {ws : List Str} {S : Sto}
/-- the rows -/
def rowD (ws : List Str) (a : Str) : Dv := .tup (ws.map fun b => Dv.int (dif a b).length)
def tabD (ws : List Str) : List Dv := ws.map (rowD ws)
theorem table_ok (h : Ws n ws) : D_Addresses_table [.d (Ao ws)] S = .ok S (.new (.lst (tabD ws))) := by
  refine def_new ?_
  have hl := h.le
  have e := fLc_strs (fa := fUn (gFld ["Addresses"] "kept") (fVar 0)) (fe := fCall gTuple (fCons (fLc (iVal (fUn (gFld ["Addresses"] "kept") (fVar 0))) (tgN 1) kYes (fCallD 2 D_apart (fCons (fVar 2) (fCons (fVar 1) fNil))) [1]) fNil)) (vs := [2]) (env := [.v (.d (Ao ws)), .u, .u]) (S := S) (i := 2) (ws := ws) (rowD ws) (d := .tup (ws.map .str))
    (by simp_arith [kept_ok]) rfl (by omega) (fun a ha => by
      have e2 := fLc_strs (fa := fUn (gFld ["Addresses"] "kept") (fVar 0)) (fe := fCallD 2 D_apart (fCons (fVar 2) (fCons (fVar 1) fNil))) (vs := [1]) (env := [.v (.d (Ao ws)), .u, .v (.d (.str a))]) (S := S) (i := 1) (ws := ws) (fun b => Dv.int (dif a b).length) (d := .tup (ws.map .str))
        (by simp_arith [kept_ok]) rfl (by omega) (fun b hb => by
          simp_arith [wipeE, apart_ok (h.all a ha) (h.all b hb)]
          exact got_val)
      simp_arith [wipeE, e2, gTuple_lst]
      exact got_val)
  simp_arith [e]
  rfl
end
section
variable {S S1 S2 : Sto} {env : DN.Env} {fa fb fe : FE} {fl : FA} {m j n : Nat} {a b v : Vr} {d c : Dv} {s t : Str} {x : Xn}
theorem ckE {i : Nat} {r : R Rt} (h0 : env[i]? = some (.v a)) (h : D_check_word [a] S = r) : fCallD 1 D_check_word (fCons (fVar i) fNil) env S = r := callD (l := [a]) (cons_v (var_v h0) nil_ok) rfl h
def fc (c : Nat) : Nat := if c = 48 then 49 else if c = 49 then 48 else c
theorem okc_3 {c : Nat} (h : OP.okc c = true) : c = 48 ∨ c = 49 ∨ c = 42 := by
  unfold OP.okc at h
  have h := of_decide_eq_true h
  have e : ("01*" : Str).cps.toList = [48, 49, 42] := by decide
  rw [e] at h
  simpa using h
theorem fc_ok {c : Nat} (h : OP.okc c = true) : OP.okc (fc c) = true := by rcases okc_3 h with rfl | rfl | rfl <;> decide
theorem kix_at {c : Nat} {i : Nat} (h : OP.okc c = true) (h0 : env[i]? = some (.v (.d (.str ⟨#[c]⟩)))) : fKIx [("0", "1"), ("1", "0"), ("*", "*")] (fVar i) env S = .ok S (.val (.d (.str ⟨#[fc c]⟩))) := by
  unfold fKIx
  rw [var_v h0]
  rcases okc_3 h with rfl | rfl | rfl <;> rfl
theorem wd_of {cs : List Nat} (hn : cs.length = n) (hl : n ≤ 60) (h : ∀ c ∈ cs, OP.okc c = true) : Wd n ⟨cs.toArray⟩ := ⟨hn, hl, h⟩
theorem fl1_ok {c : Nat} (h : OP.okc c = true) : D_flipped [.d (.str ⟨#[c]⟩)] S = .ok S (.val (.d (.str ⟨#[fc c]⟩))) := by
  refine def_pure ?_
  have w : Wd 1 ⟨#[c]⟩ := wd_of (cs := [c]) rfl (by omega) fun x hx => by rw [List.mem_singleton.mp hx]; exact h
  have e := fLc_mp (fi := iVal (fVar 0)) (tg := tgN 1) (ft := kYes) (fe := fKIx [("0", "1"), ("1", "0"), ("*", "*")] (fVar 1)) (vs := [1]) (env := [.v (.d (.str ⟨#[c]⟩)), .u]) (S := S) (fun c : Nat => .str ⟨#[c]⟩) [c] (fun _ => true) (fun c => .str ⟨#[fc c]⟩) rfl (by simp)
    (fun x hx => ⟨_, rfl, rfl, fun _ => got_of (kix_at (by rw [List.mem_singleton.mp hx]; exact h) rfl)⟩)
  have g : gJoin (.str "") [.lst [.str ⟨#[fc c]⟩]] = vS ⟨#[fc c]⟩ := by rcases okc_3 h with rfl | rfl | rfl <;> rfl
  exact congrArg outS (show B_flipped [.v (.d (.str ⟨#[c]⟩)), .u] S = _ from seq_nx (exp_ok (ckE rfl (check_word_ok w))) (ret_ok (join_at e g)))
def tkS (k : Nat) (s : Str) : Str := ⟨(s.cps.toList.take k).toArray⟩
def dpS (k : Nat) (s : Str) : Str := ⟨(s.cps.toList.drop k).toArray⟩
def fwS (k : Nat) (s : Str) : Str := tkS k s ++ ⟨#[fc (s.cps.toList.getD k 0)]⟩ ++ dpS (k + 1) s
def wwS (k : Nat) (s : Str) : Str := tkS k s ++ dpS (k + 1) s
theorem tk_wd {k : Nat} (h : Wd n s) (hk : k ≤ n) : Wd k (tkS k s) := wd_of (by rw [List.length_take, h.len]; omega) (by have := h.le; omega) fun c hc => h.ok c (List.mem_of_mem_take hc)
theorem dp_wd {k : Nat} (h : Wd n s) (hk : k ≤ n) : Wd (n - k) (dpS k s) := wd_of (by rw [List.length_drop, h.len]) (by have := h.le; omega) fun c hc => h.ok c (List.mem_of_mem_drop hc)
theorem at_ok {k : Nat} (h : Wd n s) (hk : k < n) : s.cps.toList[k]? = some (s.cps.toList.getD k 0) ∧ OP.okc (s.cps.toList.getD k 0) = true := by
  have e : s.cps.toList[k]? = some (s.cps.toList.getD k 0) := by rw [List.getD, List.getElem?_eq_getElem (by rw [h.len]; exact hk)]; rfl
  exact ⟨e, h.ok _ (List.mem_of_getElem? e)⟩
theorem f1_wd {k : Nat} (h : Wd n s) (hk : k < n) : Wd 1 ⟨#[fc (s.cps.toList.getD k 0)]⟩ := wd_of (cs := [fc (s.cps.toList.getD k 0)]) rfl (by omega) fun x hx => by rw [List.mem_singleton.mp hx]; exact fc_ok (at_ok h hk).2
theorem fw_wd {k : Nat} (h : Wd n s) (hk : k < n) : Wd n (fwS k s) := by
  have hl := h.le
  have := ((tk_wd (k := k) h (by omega)).app (f1_wd h hk) (by omega)).app (dp_wd (k := k + 1) h (by omega)) (by omega)
  rw [show k + 1 + (n - (k + 1)) = n by omega] at this
  exact this
theorem ww_wd {k : Nat} (h : Wd n s) (hk : k < n) : Wd (n - 1) (wwS k s) := by
  have hl := h.le
  have := (tk_wd (k := k) h (by omega)).app (dp_wd (k := k + 1) h (by omega)) (by omega)
  rw [show k + (n - (k + 1)) = n - 1 by omega] at this
  exact this
theorem tk_at {k p q : Nat} (h : Wd n s) (hk : k ≤ n) (h0 : env[p]? = some (.v (.d (.str s)))) (h1 : env[q]? = some (.v (.d (.int k)))) : fSl (fVar p) fNoPart (fPart (fVar q)) env S = .ok S (.val (.d (.str (tkS k s)))) := by
  have g : gSl none (some (k : Int)) (.str s) = vS (tkS k s) := by
    show (if s.length ≤ 100000 then vS (cutS s none (some (k : Int))) else none) = _
    rw [if_pos h.sz, cutS_to (by rw [h.length]; exact hk)]
    rfl
  simp_arith [h0, h1, g]
theorem dp_at {k p q : Nat} (h : Wd n s) (hk : k < n) (h0 : env[p]? = some (.v (.d (.str s)))) (h1 : env[q]? = some (.v (.d (.int k)))) : fSl (fVar p) (fPart (fOp gAdd (fVar q) (fC (.int 1)))) fNoPart env S = .ok S (.val (.d (.str (dpS (k + 1) s)))) := by
  have g : gSl (some ((k : Int) + 1)) none (.str s) = vS (dpS (k + 1) s) := by
    show (if s.length ≤ 100000 then vS (cutS s (some ((k : Int) + 1)) none) else none) = _
    rw [if_pos h.sz, show (k : Int) + 1 = ((k + 1 : Nat) : Int) by omega, cutS_from (by rw [h.length]; omega)]
    rfl
  simp_arith [h0, h1, gAdd_, g]
theorem fw_at {k p q : Nat} (h : Wd n s) (hk : k < n) (h0 : env[p]? = some (.v (.d (.str s)))) (h1 : env[q]? = some (.v (.d (.int k)))) : fOp gAdd (fOp gAdd (fSl (fVar p) fNoPart (fPart (fVar q))) (fCallD 1 D_flipped (fCons (fOp gIx (fVar p) (fVar q)) fNil))) (fSl (fVar p) (fPart (fOp gAdd (fVar q) (fC (.int 1)))) fNoPart) env S = .ok S (.val (.d (.str (fwS k s)))) := by
  obtain ⟨a1, a2⟩ := at_ok h hk
  have hl := h.le
  have e := op_ok (S := S) (env := env) (g := gIx) (var_ok h0) (var_ok h1) (gIx_str h.sz a1)
  have e2 : fCallD 1 D_flipped (fCons (fOp gIx (fVar p) (fVar q)) fNil) env S = .ok S (.val (.d (.str ⟨#[fc (s.cps.toList.getD k 0)]⟩))) := callD (l := [.d (.str ⟨#[s.cps.toList.getD k 0]⟩)]) (cons_d e nil_ok) rfl (fl1_ok a2)
  have w1 := tk_wd h (k := k) (by omega)
  have w2 := f1_wd h hk
  exact cat_at (cat_at (tk_at h (by omega) h0 h1) e2 w1 w2) (dp_at h hk h0 h1) (w1.app w2 (by omega)) (dp_wd (k := k + 1) h (by omega))
theorem ww_at {k p q : Nat} (h : Wd n s) (hk : k < n) (h0 : env[p]? = some (.v (.d (.str s)))) (h1 : env[q]? = some (.v (.d (.int k)))) : fOp gAdd (fSl (fVar p) fNoPart (fPart (fVar q))) (fSl (fVar p) (fPart (fOp gAdd (fVar q) (fC (.int 1)))) fNoPart) env S = .ok S (.val (.d (.str (wwS k s)))) :=
  cat_at (tk_at h (by omega) h0 h1) (dp_at h hk h0 h1) (tk_wd h (by omega)) (dp_wd (k := k + 1) h (by omega))
end
end Q14
namespace Q14
open DN PySem L2
def bz (xs ys : List Nat) : Nat := (xs.zip ys).countP fun p => bad p.1 p.2
theorem bz_places : ∀ {xs ys : List Nat}, xs.length = ys.length → ((List.range xs.length).filter fun k => bad (xs.getD k 0) (ys.getD k 0)).length = bz xs ys
  | [], _, _ => by unfold bz; simp
  | _ :: _, [], h => by simp at h
  | x :: xs, y :: ys, h => by
    have ih := bz_places (xs := xs) (ys := ys) (by simpa using h)
    rw [List.length_cons, List.range_succ_eq_map, List.filter_cons, List.filter_map, bz, List.zip_cons_cons, List.countP_cons]
    have e : ((fun k => bad ((x :: xs).getD k 0) ((y :: ys).getD k 0)) ∘ Nat.succ) = fun k => bad (xs.getD k 0) (ys.getD k 0) := by funext k; simp [List.getD]
    rw [e]
    show _ = bz xs ys + _
    simp only [List.getD_cons_zero]
    by_cases c : bad x y = true
    · rw [if_pos c, if_pos c, List.length_cons, List.length_map, ih]
    · rw [if_neg c, if_neg c, List.length_map, ih]; rfl
section
variable {m n k : Nat} {s t : Str} {S : Sto} {ws vs : List Str}
theorem dif_bz (hs : Wd m s) (ht : Wd m t) : (dif s t).length = bz s.cps.toList t.cps.toList := bz_places (hs.len.trans ht.len.symm)
theorem bz_app {a b c d : List Nat} (h : a.length = b.length) : bz (a ++ c) (b ++ d) = bz a b + bz c d := by
  unfold bz
  rw [List.zip_append h, List.countP_append]
theorem bz_cons {x y : Nat} {a b : List Nat} : bz (x :: a) (y :: b) = bz a b + if bad x y = true then 1 else 0 := by
  unfold bz
  rw [List.zip_cons_cons, List.countP_cons]
theorem cut3 {xs : List Nat} (h : k < xs.length) : xs = xs.take k ++ xs.getD k 0 :: xs.drop (k + 1) := by
  rw [List.getD, List.getElem?_eq_getElem h]
  show xs = xs.take k ++ xs[k] :: xs.drop (k + 1)
  rw [← List.drop_eq_getElem_cons h, List.take_append_drop]
theorem cs_fw : (fwS k s).cps.toList = s.cps.toList.take k ++ fc (s.cps.toList.getD k 0) :: s.cps.toList.drop (k + 1) := by
  unfold fwS
  rw [str_tl, str_tl]
  simp [tkS, dpS]
theorem cs_ww : (wwS k s).cps.toList = s.cps.toList.take k ++ s.cps.toList.drop (k + 1) := by
  unfold wwS
  rw [str_tl]
  simp [tkS, dpS]
theorem bad_fc {c d : Nat} (hc : OP.okc c = true) (hd : OP.okc d = true) : bad (fc c) (fc d) = bad c d := by
  rcases okc_3 hc with rfl | rfl | rfl <;> rcases okc_3 hd with rfl | rfl | rfl <;> rfl
theorem fc_fc {c : Nat} (hc : OP.okc c = true) : fc (fc c) = c := by
  rcases okc_3 hc with rfl | rfl | rfl <;> rfl
theorem bz_fw (hs : Wd m s) (ht : Wd m t) (hk : k < m) : bz (fwS k s).cps.toList (fwS k t).cps.toList = bz s.cps.toList t.cps.toList := by
  have l1 := hs.len
  have l2 := ht.len
  rw [cs_fw, cs_fw, bz_app (by simp [l1, l2]), bz_cons, bad_fc (at_ok hs hk).2 (at_ok ht hk).2]
  conv => rhs; rw [cut3 (k := k) (xs := s.cps.toList) (by omega), cut3 (k := k) (xs := t.cps.toList) (by omega)]
  rw [bz_app (by simp [l1, l2]), bz_cons]
theorem bz_ww (hs : Wd m s) (ht : Wd m t) (hk : k < m) : bz (wwS k s).cps.toList (wwS k t).cps.toList + (if bad (s.cps.toList.getD k 0) (t.cps.toList.getD k 0) = true then 1 else 0) = bz s.cps.toList t.cps.toList := by
  have l1 := hs.len
  have l2 := ht.len
  rw [cs_ww, cs_ww, bz_app (by simp [l1, l2])]
  conv => rhs; rw [cut3 (k := k) (xs := s.cps.toList) (by omega), cut3 (k := k) (xs := t.cps.toList) (by omega)]
  rw [bz_app (by simp [l1, l2]), bz_cons]
  omega
theorem str_ext {a b : Str} (h : a.cps.toList = b.cps.toList) : a = b := by
  cases a; cases b
  congr
  exact Array.toList_inj.mp h
theorem fw_fw (hs : Wd m s) (hk : k < m) : fwS k (fwS k s) = s := by
  have l1 := hs.len
  refine str_ext ?_
  have e : (s.cps.toList.take k).length = k := by rw [List.length_take]; omega
  rw [cs_fw, cs_fw]
  have h1 : (s.cps.toList.take k ++ fc (s.cps.toList.getD k 0) :: s.cps.toList.drop (k + 1)).take k = s.cps.toList.take k := List.take_left' e
  have h2 : (s.cps.toList.take k ++ fc (s.cps.toList.getD k 0) :: s.cps.toList.drop (k + 1)).getD k 0 = fc (s.cps.toList.getD k 0) := by
    rw [List.getD, List.getElem?_append_right (by omega), e, Nat.sub_self]
    rfl
  have h3 : (s.cps.toList.take k ++ fc (s.cps.toList.getD k 0) :: s.cps.toList.drop (k + 1)).drop (k + 1) = s.cps.toList.drop (k + 1) := by
    rw [← List.drop_drop, List.drop_left' e]
    rfl
  rw [h1, h2, h3, fc_fc (at_ok hs hk).2]
  exact (cut3 (k := k) (xs := s.cps.toList) (by rw [l1]; exact hk)).symm
theorem tab_fw (h : Ws m ws) (hk : k < m) : tabD (ws.map (fwS k)) = tabD ws := by
  unfold tabD rowD
  rw [List.map_map]
  refine List.map_congr_left fun a ha => ?_
  show Dv.tup _ = Dv.tup _
  congr 1
  rw [List.map_map]
  refine List.map_congr_left fun b hb => ?_
  show Dv.int (dif (fwS k a) (fwS k b)).length = _
  rw [dif_bz (fw_wd (h.all a ha) hk) (fw_wd (h.all b hb) hk), bz_fw (h.all a ha) (h.all b hb) hk, dif_bz (h.all a ha) (h.all b hb)]
theorem bad_lst {c d : Nat} (hc : OP.okc c = true) (hd : OP.okc d = true) :
    gIn (.lst [.str ⟨#[c]⟩, .str ⟨#[d]⟩]) (.lst [.lst [.str "0", .str "1"], .lst [.str "1", .str "0"]]) = vB (bad c d) := by
  show onlyIf (okN 60 (.lst [.str ⟨#[c]⟩, .str ⟨#[d]⟩]) && _) _ = _
  have e1 : okN 60 (.lst [.str ⟨#[c]⟩, .str ⟨#[d]⟩]) = true := by
    show ((PyData.strOk ⟨#[c]⟩) && ((PyData.strOk ⟨#[d]⟩) && true)) = true
    rw [OP.sgn_lay hc, OP.sgn_lay hd]; rfl
  rw [e1]
  have e2 : okNs 60 [.lst [.str "0", .str "1"], .lst [.str "1", .str "0"]] = true := by
    show (((PyData.strOk ("0" : Str)) && ((PyData.strOk ("1" : Str)) && true)) && (((PyData.strOk ("1" : Str)) && ((PyData.strOk ("0" : Str)) && true)) && true)) = true
    rw [z0, z1]; rfl
  rw [e2]
  have hz : (("0" : Str) == ⟨#[c]⟩) = (48 == c) := by rw [str_cps]; simp [show (("0" : Str)).cps.toList = [48] from rfl]
  have ho : (("1" : Str) == ⟨#[c]⟩) = (49 == c) := by rw [str_cps]; simp [show (("1" : Str)).cps.toList = [49] from rfl]
  have hz' : (("0" : Str) == ⟨#[d]⟩) = (48 == d) := by rw [str_cps]; simp [show (("0" : Str)).cps.toList = [48] from rfl]
  have ho' : (("1" : Str) == ⟨#[d]⟩) = (49 == d) := by rw [str_cps]; simp [show (("1" : Str)).cps.toList = [49] from rfl]
  show vB _ = vB _
  congr 1
  simp only [inD, List.any, eqD, eqDs, Bool.and_true, Bool.or_false, hz, ho, hz', ho', bad]
  rw [show (48 == c) = (c == 48) from Bool.beq_comm, show (49 == c) = (c == 49) from Bool.beq_comm, show (48 == d) = (d == 48) from Bool.beq_comm, show (49 == d) = (d == 49) from Bool.beq_comm]
theorem law_apart_ok (hs : Wd m s) (ht : Wd m t) : D_law_apart [.d (.str s), .d (.str t)] S = .ok S (.val (.d (.int (bz s.cps.toList t.cps.toList)))) := by
  have hm := hs.le
  have el : gLen [.str s] = vI m := by rw [gLen_str hs.sz, hs.length]
  have e := fLc_rgF (fl := fCons (fLenD [("Addresses", 1, D_Addresses_len)] (fCons (fVar 0) fNil)) fNil) (ft := kVal (fOp gIn (fLst (fCons (fIxD [("Addresses", 2, D_Addresses_getitem)] (fVar 0) (fVar 2)) (fCons (fIxD [("Addresses", 2, D_Addresses_getitem)] (fVar 1) (fVar 2)) fNil))) (fLst (fCons (fLst (fCons (fC (.str "0")) (fCons (fC (.str "1")) fNil))) (fCons (fLst (fCons (fC (.str "1")) (fCons (fC (.str "0")) fNil))) fNil))))) (fe := fVar 2) (vs := [2]) (env := [.v (.d (.str s)), .v (.d (.str t)), .u]) (S := S) (i := 2) (n := m)
    (fun k => bad (s.cps.toList.getD k 0) (t.cps.toList.getD k 0)) (fun k => .int k) (by simp_arith [el]) (by omega) (fun k hk => by
      have g1 := gIx_str hs.sz (at_ok hs hk).1
      have g2 := gIx_str ht.sz (at_ok ht hk).1
      simp_arith [wipeE, g1, g2, bad_lst (at_ok hs hk).2 (at_ok ht hk).2]) (fun k hk _ => by simp_arith [wipeE]; exact got_val)
  refine def_pure ?_
  simp_arith [e, gLen_lst]
  rw [List.length_map]
  congr 4
  rw [← bz_places (hs.len.trans ht.len.symm), hs.len]
theorem wd1 (hs : Wd m s) (hk : k < m) : Wd 1 ⟨#[s.cps.toList.getD k 0]⟩ := wd_of (cs := [s.cps.toList.getD k 0]) rfl (by omega) fun x hx => by rw [List.mem_singleton.mp hx]; exact (at_ok hs hk).2
theorem bz1 {c d : Nat} : bz [c] [d] = if bad c d = true then 1 else 0 := by rw [bz_cons]; unfold bz; simp
end
end Q14
namespace Q14
open DN PySem L2
section
variable {n : Nat} {S : Sto} {env : DN.Env} {s t : Nat → Nat} {o : List Nat}
structure Rn (n : Nat) (s t : Nat → Nat) : Prop where
  lt : ∀ {v}, v < n → s v < n
  bk : ∀ {v}, v < n → t v < n
  ts : ∀ {v}, v < n → t (s v) = v
  st : ∀ {v}, v < n → s (t v) = v
theorem Rn.inj (R : Rn n s t) {u v : Nat} (hu : u < n) (hv : v < n) (h : s u = s v) : u = v := by rw [← R.ts hu, h, R.ts hv]
def dn (l : List Nat) : List Dv := l.map fun j : Nat => Dv.int j
theorem dn_len {l : List Nat} : (dn l).length = l.length := by simp [dn]
theorem inD_dn {u : Nat} {l : List Nat} : inD (.int u) (dn l) = decide (u ∈ l) := by
  unfold inD dn
  rw [List.any_map]
  induction l with
  | nil => rfl
  | cons a l ih =>
    rw [List.any_cons, ih]
    simp only [Function.comp, eqD, List.mem_cons]
    by_cases q : a = u
    · subst q; simp
    · have : ¬ ((a : Int) = (u : Int)) := by omega
      have q' : ¬ u = a := fun e => q e.symm
      simp [this, q']
theorem ok_dn {m : Nat} {l : List Nat} : okNs m (dn l) = true := okNs_all fun d hd => by
  obtain ⟨x, _, rfl⟩ := List.mem_map.mp hd
  exact okN_int
theorem index_dn {x : Nat} : ∀ {l : List Nat} {k : Nat}, l.Nodup → l[k]? = some x → (dn l).findIdx? (fun z => eqD z (.int x)) = some k
  | [], k, _, h => by simp at h
  | y :: l, k, nd, h => by
    obtain ⟨h1, h2⟩ := List.nodup_cons.mp nd
    show (Dv.int (y : Int) :: dn l).findIdx? (fun z => eqD z (.int x)) = some k
    rw [List.findIdx?_cons]
    cases k with
    | zero =>
      simp at h
      subst h
      simp [eqD]
    | succ k =>
      rw [List.getElem?_cons_succ] at h
      have ne : ¬ ((y : Int) = (x : Int)) := fun e => by
        have : y = x := by omega
        exact h1 (this ▸ List.mem_of_getElem? h)
      rw [index_dn h2 h]
      simp [eqD, ne]
theorem gIndex_dn {x k : Nat} {l : List Nat} (nd : l.Nodup) (h : l[k]? = some x) : gIndex (.lst (dn l)) [.int x] = vI k := by
  show onlyIf (okN 60 (.int x) && okNs 60 (dn l)) (match (dn l).findIdx? fun z => eqD z (.int x) with | some j => vI j | none => none) = _
  rw [okN_int, ok_dn, index_dn nd h]
  rfl
theorem lc_acc {t : Its} {tg : FG} {ft : FT} {fe : FE} {env : DN.Env} (I : List Dv → Sto → Prop) (M : Nat) (hM : M ≤ 100000) (ht : t.2 = none) (h : ∀ d acc S, d ∈ t.1 → I acc S → acc.length < M → ∃ env' S' y, tg d env = some env' ∧ ft env' S = .ok S true ∧ Got (fe env' S) S' (.d y) ∧ I (acc ++ [y]) S') : ∀ {l acc : List Dv} {S : Sto}, (∀ d ∈ l, d ∈ t.1) → I acc S → acc.length + l.length = M →
    ∃ S' ys, lcGo t tg ft fe env l S acc = .ok S' ys ∧ I ys S' ∧ ys.length = M
  | [], acc, S, _, hI, hl => ⟨S, acc, by
      have : lockOk t S = true := by unfold lockOk; rw [ht]
      simp [lcGo, this], hI, by simpa using hl⟩
  | d :: l, acc, S, hd, hI, hl => by
    have hk : lockOk t S = true := by unfold lockOk; rw [ht]
    simp only [List.length_cons] at hl
    obtain ⟨env', S1, y, h1, h2, h3, h4⟩ := h d acc S (hd d (by simp)) hI (by omega)
    obtain ⟨S2, ys, e1, e2, e3⟩ := lc_acc I M hM ht h (l := l) (acc := acc ++ [y]) (S := S1) (fun x hx => hd x (List.mem_cons_of_mem _ hx)) h4 (by simp; omega)
    refine ⟨S2, ys, ?_, e2, e3⟩
    simp only [lcGo, hk, if_true, h1, h2, noex_ok, R.bind]
    have e : (fe env' S).noex.bindV (fun S2 v => onD v fun y => if acc.length < 100000 then lcGo t tg ft fe env l S2 (acc ++ [y]) else .no) = lcGo t tg ft fe env l S1 (acc ++ [y]) := by
      generalize fe env' S = r at h3
      cases h3 with
      | val =>
        simp only [noex_ok, R.bindV, onD]
        rw [if_pos (by omega)]
      | new S c d' hc => rw [noex_ok, bindV_new hc]; simp only [onD]; rw [if_pos (by omega)]
    rw [e, e1]
theorem perm_erase {β : Type} : ∀ {l : List β} {i : Nat} (h : i < l.length), (l[i] :: l.eraseIdx i).Perm l
  | [], i, h => by simp at h
  | a :: l, 0, h => by simp
  | a :: l, i + 1, h => by
    have := perm_erase (l := l) (i := i) (by simpa using h)
    simp only [List.getElem_cons_succ, List.eraseIdx_cons_succ]
    exact (List.Perm.swap _ _ _).trans (this.cons a)
theorem set_app {T X : Sto} {n : Nat} {c : Cell} (h : n < T.length) : T.set n c ++ X = (T ++ X).set n c := (List.set_append_left _ _ h).symm
theorem popAt_ok {l : List Dv} {d : Nat} {y : Dv} (h : l[d]? = some y) (hl : l.length ≤ 100000) : gPopAt l [.int d] = some (l.eraseIdx d, y) := by
  have hd := (List.getElem?_eq_some_iff.mp h).1
  unfold gPopAt
  simp only
  rw [if_pos ⟨by omega, by omega, hl⟩]
  simp only [Int.toNat_natCast, h]
theorem mixed_ok {T : Sto} {n j : Nat} {k : Cell} {items : List Dv} (hn : n < T.length) (hk : Bx j k) (hj : j + items.length < 1000000000) (hl : items.length ≤ 1000) : ∃ ys k', D_law_mixed [.r n, .d (.lst items)] (T.set n k) = .ok (T.set n k') (.new (.lst ys)) ∧ ys.Perm items ∧ Bx (j + items.length) k' := by
  have hr : iRange1 (fCons (fLenD [("Addresses", 1, D_Addresses_len)] (fCons (fVar 1) fNil)) fNil) [.v (.r n), .v (.d (.lst items)), .v (.r T.length), .u] (T.set n k ++ [.lst items]) = .ok (T.set n k ++ [.lst items]) ((List.range items.length).map fun i : Nat => Dv.int i, none) := range_1 (by simp_arith [gLen_lst]) (by omega)
  obtain ⟨S', ys, e1, ⟨rest, k', rfl, hp, hb⟩, e3⟩ := lc_acc (t := ((List.range items.length).map fun i : Nat => Dv.int i, none)) (tg := tgN 3) (ft := kYes) (fe := fMut gPopAt (fVar 2) (fCons (fCallD 2 D_law_take (fCons (fVar 0) (fCons (fLenD [("Addresses", 1, D_Addresses_len)] (fCons (fVar 2) fNil)) fNil))) fNil)) (env := [.v (.r n), .v (.d (.lst items)), .v (.r T.length), .u])
    (fun acc S' => ∃ rest k', S' = T.set n k' ++ [.lst rest] ∧ (acc ++ rest).Perm items ∧ Bx (j + acc.length) k') items.length (by omega) rfl (fun d acc S' _ hI ha => by
      obtain ⟨rest, k', rfl, hp, hb⟩ := hI
      have hlen := hp.length_eq
      rw [List.length_append] at hlen
      have hn' : n < (T ++ [Cell.lst rest]).length := by simp; omega
      obtain ⟨c, k2, hc, hb2, et⟩ := take_ok (m := (rest.length : Int)) (T := T ++ [.lst rest]) hb hn' (by omega) (by omega) (by omega)
      have hc' : c < rest.length := by omega
      have hg : rest[c]? = some rest[c] := List.getElem?_eq_getElem hc'
      have g1 : ∀ q : Cell, ((T ++ [Cell.lst rest]).set n q)[T.length]? = some (.lst rest) := fun q => by
        rw [List.getElem?_set_ne (by omega)]
        exact get_last
      refine ⟨_, T.set n k2 ++ [.lst (rest.eraseIdx c)], rest[c], rfl, rfl, ?_, rest.eraseIdx c, k2, rfl, ?_, ?_⟩
      · rw [set_app hn]
        simp_arith [g1, gLen_lst, et, popAt_ok hg (show rest.length ≤ 100000 by omega)]
        rw [← set_app hn]
        have : (T.set n k2 ++ [Cell.lst rest]).set T.length (.lst (rest.eraseIdx c)) = T.set n k2 ++ [.lst (rest.eraseIdx c)] := by
          have := set_last (S := T.set n k2) (c := .lst rest) (d := .lst (rest.eraseIdx c))
          rwa [List.length_set] at this
        rw [this]
        exact got_val
      · refine List.Perm.trans ?_ hp
        rw [List.append_assoc]
        refine List.Perm.append_left _ ?_
        exact perm_erase hc'
      · rw [List.length_append]; exact hb2) (l := (List.range items.length).map fun i : Nat => Dv.int i) (acc := []) (S := T.set n k ++ [.lst items]) (fun _ h => h) ⟨items, k, rfl, by simp, hk⟩ (by simp)
  have hr0 : rest = [] := by
    have := hp.length_eq
    rw [List.length_append] at this
    exact List.eq_nil_of_length_eq_zero (by omega)
  subst hr0
  refine ⟨ys, k', ?_, by simpa using hp, by rw [e3] at hb; exact hb⟩
  have ec : fLc (iRange1 (fCons (fLenD [("Addresses", 1, D_Addresses_len)] (fCons (fVar 1) fNil)) fNil)) (tgN 3) kYes (fMut gPopAt (fVar 2) (fCons (fCallD 2 D_law_take (fCons (fVar 0) (fCons (fLenD [("Addresses", 1, D_Addresses_len)] (fCons (fVar 2) fNil)) fNil))) fNil)) [3] [.v (.r n), .v (.d (.lst items)), .v (.r T.length), .u] (T.set n k ++ [.lst items]) = .ok (T.set n k' ++ [.lst []]) (.new (.lst ys)) := by
    unfold fLc
    rw [hr]
    simp only [R.bind]
    rw [show wipeE [.v (.r n), .v (.d (.lst items)), .v (.r T.length), .u] [3] = [.v (.r n), .v (.d (.lst items)), .v (.r T.length), .u] from rfl, e1]
  unfold D_law_mixed defD
  simp_arith [gList_lst, List.length_set, ec]
  rw [exit_n]
  congr 1
  simp
theorem perm_dn {l : List Nat} {ys : List Dv} (h : ys.Perm (dn l)) : ∃ o : List Nat, ys = dn o ∧ o.Perm l := by
  have hm := h.map (fun d => match d with | .int i => i.toNat | _ => 0)
  have e1 : (dn l).map (fun d => match d with | .int i => i.toNat | _ => 0) = l := by
    unfold dn
    rw [List.map_map]
    conv => rhs; rw [← List.map_id l]
    exact List.map_congr_left fun x _ => by simp [Function.comp]
  rw [e1] at hm
  refine ⟨_, ?_, hm⟩
  unfold dn
  rw [List.map_map]
  conv => lhs; rw [← List.map_id ys]
  refine List.map_congr_left fun y hy => ?_
  obtain ⟨x, _, rfl⟩ := List.mem_map.mp (h.mem_iff.mp hy)
  simp [Function.comp]
theorem o_get (hp : o.Perm (List.range n)) {i : Nat} (h : i < n) : ∃ a, o[i]? = some a ∧ a < n := by
  have hl : o.length = n := by have := hp.length_eq; simpa using this
  refine ⟨o[i]'(by omega), List.getElem?_eq_getElem (by omega), ?_⟩
  exact List.mem_range.mp (hp.mem_iff.mp (List.getElem_mem _))
theorem o_ne (hp : o.Perm (List.range n)) {i l a b : Nat} (h : o[i]? = some a) (h2 : o[l]? = some b) (hne : i ≠ l) : a ≠ b := by
  have nd : o.Nodup := hp.nodup_iff.mpr List.nodup_range
  intro e
  subst e
  obtain ⟨h3, h4⟩ := List.getElem?_eq_some_iff.mp h
  obtain ⟨h5, h6⟩ := List.getElem?_eq_some_iff.mp h2
  have key := List.pairwise_iff_getElem.mp nd
  rcases Nat.lt_or_gt_of_ne hne with q | q
  · exact key i l h3 h5 q (h4.trans h6.symm)
  · exact key l i h5 h3 q (h6.trans h4.symm)
/-- o is the order of the houses that s tells -/
structure Od (n : Nat) (o : List Nat) (s t : Nat → Nat) : Prop where
  pm : o.Perm (List.range n)
  at_ : ∀ {i}, i < n → o[i]? = some (s i)
  rn : Rn n s t
  bk : ∀ {v}, v < n → o[t v]? = some v
theorem od_ex (h : o.Perm (List.range n)) : ∃ s t, Od n o s t := by
  have hl : o.length = n := by have := h.length_eq; simpa using this
  have b : ∀ v, ∃ i, v < n → i < n ∧ o[i]? = some v := fun v => by
    by_cases hv : v < n
    · obtain ⟨i, hi, e⟩ := List.mem_iff_getElem.mp (h.mem_iff.mpr (List.mem_range.mpr hv))
      exact ⟨i, fun _ => ⟨by omega, by rw [List.getElem?_eq_getElem hi, e]⟩⟩
    · exact ⟨0, fun x => absurd x hv⟩
  obtain ⟨t, ht⟩ : ∃ t : Nat → Nat, ∀ v, v < n → t v < n ∧ o[t v]? = some v := ⟨fun v => Classical.choose (b v), fun v hv => Classical.choose_spec (b v) hv⟩
  have a : ∀ i, i < n → o[i]? = some ((o[i]?).getD 0) := fun i hi => by rw [List.getElem?_eq_getElem (by omega)]; rfl
  have al : ∀ i, i < n → (o[i]?).getD 0 < n := fun i hi => by
    obtain ⟨x, hx, hxn⟩ := o_get h hi
    rw [hx]; exact hxn
  refine ⟨fun i => (o[i]?).getD 0, t, h, fun {i} hi => a i hi, ⟨fun {v} hv => al v hv, fun {v} hv => (ht v hv).1, fun {v} hv => ?_, fun {v} hv => ?_⟩, fun {v} hv => (ht v hv).2⟩
  · apply Classical.byContradiction
    intro ne
    have h1 := (ht _ (al v hv)).2
    exact o_ne h h1 (a v hv) ne rfl
  · show (o[t v]?).getD 0 = v
    rw [(ht v hv).2]; rfl
theorem Od.nd (O : Od n o s t) : o.Nodup := O.pm.nodup_iff.mpr List.nodup_range
theorem Od.len (O : Od n o s t) : o.length = n := by have := O.pm.length_eq; simpa using this
theorem Od.index (O : Od n o s t) {v : Nat} (h : v < n) : gIndex (.lst (dn o)) [.int v] = vI (t v) := gIndex_dn O.nd (O.bk h)
theorem ints_dn {l : List Nat} : ints? (dn l) = some (l.map fun x : Nat => (x : Int)) := by
  have := ints_map (l.map fun x : Nat => (x : Int))
  rw [List.map_map] at this
  exact this
end
end Q14
namespace Q14
open DN PySem L2
section
variable {S S1 S2 : Sto} {env : DN.Env} {fa fb fe : FE} {fl : FA} {m n i j k q p : Nat} {a b c : Vr} {d x y v w : Dv} {l l1 l2 : List Dv} {ws vs : List Str} {s t u : Str}
theorem cls_ao : clsV S (.d (Ao ws)) = some "Addresses" := rfl
theorem ws_le {n : Nat} (h : Ws n ws) : ws.length ≤ 100000 := by have := h.le; omega
theorem place_ok (h : Ws m ws) (hk : k < m) : D_Addresses_check_place [.d (Ao ws), .d (.int k)] S = .ok S (.val (.d .non)) := by
  refine def_pure ?_
  exact congrArg outS (show B_Addresses_check_place [.v (.d (Ao ws)), .v (.d (.int k))] S = .nx [.v (.d (Ao ws)), .v (.d (.int k))] S from if_no (ht_ok hk (size_at h rfl) rfl) rfl)
abbrev TB2 : MT := [("Addresses", 2, D_Addresses_check_place)]
theorem mcp {r : R Rt} {p q : Nat} (h0 : env[p]? = some (.v (.d (Ao ws)))) (h1 : env[q]? = some (.v (.d d))) (h : D_Addresses_check_place [.d (Ao ws), .d d] S = r) : fMethD TB2 (fVar p) (fCons (fVar q) fNil) env S = r :=
  meth (l := [.d d]) (m := 2) (D := D_Addresses_check_place) (var_v h0) cls_ao (by rw [at_cons, beq_self_eq_true]; rfl) (cons_v (var_v h1) nil_ok) rfl h
abbrev E4 (a b : Vr) : DN.Env := [.v a, .v b, .u]
/-- a list over the words -/
theorem over {f : Str → Str} {p q : Nat} (h : Ws m ws) (h0 : env[p]? = some (.v (.d (Ao ws)))) (hx : ∀ s ∈ ws, ∃ env', tgN q (.str s) (wipeE env [q]) = some env' ∧ fe env' S = .ok S (.val (.d (.str (f s))))) : fLc (iVal (fUn (gFld ["Addresses"] "kept") (fVar p))) (tgN q) kYes fe [q] env S = .ok S (.new (.lst ((ws.map f).map .str))) := by
  have hl := h.le
  have e := fLc_mp (fi := iVal (fUn (gFld ["Addresses"] "kept") (fVar p))) (tg := tgN q) (ft := kYes) (fe := fe) (vs := [q]) (env := env) (S := S) Dv.str ws (fun _ => true) (fun s => .str (f s)) (wds_at (un_ok (var_ok h0) kept_ok)) (by omega) (fun s hs => by
    obtain ⟨env', e1, e2⟩ := hx s hs
    exact ⟨env', e1, rfl, fun _ => got_of e2⟩)
  rw [List.filter_eq_self.mpr fun _ _ => rfl] at e
  rw [e, List.map_map]
  rfl
theorem ws_map {f : Str → Str} (h : Ws m ws) (hf : ∀ s, Wd m s → Wd n (f s)) : Ws n (ws.map f) := ⟨fun w hw => by
  obtain ⟨s, hs, rfl⟩ := List.mem_map.mp hw
  exact hf s (h.all s hs), by rw [List.length_map]; exact h.pos, by rw [List.length_map]; exact h.le⟩
abbrev E7 (ws : List Str) (b : Vr) : DN.Env := [.v (.d (Ao ws)), .v b, .u, .u]
theorem isi_ao : gIsi CL (Ao vs) (.cls "Addresses") = vB true := rfl
theorem sum_at (h : Ws m ws) (g : Ws n vs) {x y : Sl} : fOp gAdd (fPropD [("Addresses", 1, D_Addresses_length)] (fVar 0)) (fPropD [("Addresses", 1, D_Addresses_length)] (fVar 1)) [.v (.d (Ao ws)), .v (.d (Ao vs)), x, y] S = .ok S (.val (.d (.int ((m + n : Nat) : Int)))) :=
  op_ok (size_at h rfl) (size_at g rfl) (by rw [gAdd_]; rfl)
theorem zip_items : ∀ {ws vs : List Str}, zipD (ws.map Dv.str) (vs.map Dv.str) = (ws.zip vs).map fun p => Dv.tup [.str p.1, .str p.2]
  | [], _ => by simp [zipD]
  | _ :: _, [] => by simp [zipD]
  | w :: ws, v :: vs => by
    have := zip_items (ws := ws) (vs := vs)
    unfold zipD at this ⊢
    simpa using this
theorem flipped_ok (h : Ws m ws) (hk : k < m) : D_Addresses_flipped [.d (Ao ws), .d (.int k)] S = .ok S (.new (.ob "Addresses" [.tup ((ws.map (fwS k)).map .str)])) := by
  refine def_new ?_
  exact congrArg outS (show B_Addresses_flipped (E4 (.d (Ao ws)) (.d (.int k))) S = _ from seq_nx (exp_ok (mcp rfl rfl (place_ok h hk))) (ret_ok (amake_done (D := D_Addresses_init) (ws_map h fun s hs => fw_wd hs hk) (over h rfl fun s hs => ⟨[.v (.d (Ao ws)), .v (.d (.int k)), .v (.d (.str s))], rfl, fw_at (h.all s hs) hk rfl rfl⟩))))
theorem without_ok (h : Ws m ws) (hk : k < m) : D_Addresses_without [.d (Ao ws), .d (.int k)] S = .ok S (.new (.ob "Addresses" [.tup ((ws.map (wwS k)).map .str)])) := by
  refine def_new ?_
  exact congrArg outS (show B_Addresses_without (E4 (.d (Ao ws)) (.d (.int k))) S = _ from seq_nx (exp_ok (mcp rfl rfl (place_ok h hk))) (ret_ok (amake_done (D := D_Addresses_init) (ws_map h fun s hs => ww_wd hs hk) (over h rfl fun s hs => ⟨[.v (.d (Ao ws)), .v (.d (.int k)), .v (.d (.str s))], rfl, ww_at (h.all s hs) hk rfl rfl⟩))))
theorem len_at (h40 : ws.length ≤ 40) (he : env[q]? = some (.v (.d (Ao ws)))) : fLenD LNt (fCons (fVar q) fNil) env S = .ok S (.val (.d (.int ws.length))) := by
  have e1 : (fCons (fVar q) fNil) env S = .ok S [.d (Ao ws)] := cons_v (var_v he) nil_ok
  have e2 : askT LNt "Addresses" [.d (Ao ws)] S = .ok S (.val (.d (.int ws.length))) := (show askT LNt "Addresses" [.d (Ao ws)] S = D_Addresses_len [.d (Ao ws)] S from rfl).trans alen_ok
  exact lenD_s e1 clsV_obj (by rw [e2]; exact onlyV_int (Int.natCast_nonneg _) (by omega))
/-- words side by side -/
def cat2 (ws vs : List Str) : List Str := (ws.zip vs).map fun p => p.1 ++ p.2
theorem cat2_ok (h : Ws m ws) (g : Ws n vs) (hl : vs.length = ws.length) (hb : m + n ≤ 60) : Ws (m + n) (cat2 ws vs) := by
  have hle := h.le
  have hp := h.pos
  exact ⟨fun w hw => by
    obtain ⟨p, hp, rfl⟩ := List.mem_map.mp hw
    obtain ⟨h1, h2⟩ := List.of_mem_zip hp
    exact (h.all _ h1).app (g.all _ h2) hb, by simp [cat2]; omega, by simp [cat2]; omega⟩
theorem followed_ok (h : Ws m ws) (g : Ws n vs) (hl : vs.length = ws.length) (hb : m + n ≤ 60) : D_Addresses_followed [.d (Ao ws), .d (Ao vs)] S = .ok S (.new (.ob "Addresses" [.tup ((cat2 ws vs).map .str)])) := by
  have hle := h.le
  have hp := h.pos
  refine def_new ?_
  have ht : kOr (kNot (kVal (fCall (arg2 (gIsi ["Addresses"])) (fCons (fVar 1) (fCons (fC (.cls "Addresses")) fNil))))) (kVal (fOp gNe (fLenD [("Addresses", 1, D_Addresses_len)] (fCons (fVar 1) fNil)) (fCall gLen (fCons (fUn (gFld ["Addresses"] "kept") (fVar 0)) fNil)))) (E7 ws (.d (Ao vs))) S = .ok S false := by
    refine orNo (notB (b1 := true) (val_s (isi_at (var_v rfl) isi_ao))) (val_s (op_ok (len_at g.le rfl) (kept_at (ws_le h) rfl) ?_))
    rw [gNe_int, hl, decide_eq_true rfl]
    rfl
  have hi : iZipXD (fCons (fUn (gFld ["Addresses"] "kept") (fVar 0)) (fCons (fPropD [("Addresses", 1, D_Addresses_words)] (fVar 1)) fNil)) (E7 ws (.d (Ao vs))) S = .ok S ((ws.zip vs).map (fun p => Dv.tup [.str p.1, .str p.2]), none) := by
    have e1 : fUn (gFld ["Addresses"] "kept") (fVar 0) (E7 ws (.d (Ao vs))) S = .ok S (.val (.d (.tup (ws.map .str)))) := un_ok (var_ok rfl) kept_ok
    have e2 : fPropD [("Addresses", 1, D_Addresses_words)] (fVar 1) (E7 ws (.d (Ao vs))) S = .ok S (.val (.d (.tup (vs.map .str)))) := words_at rfl
    have e3 : (fCons (fUn (gFld ["Addresses"] "kept") (fVar 0)) (fCons (fPropD [("Addresses", 1, D_Addresses_words)] (fVar 1)) fNil)) (E7 ws (.d (Ao vs))) S = .ok S [.d (.tup (ws.map .str)), .d (.tup (vs.map .str))] := cons_d e1 (cons_d e2 nil_ok)
    unfold iZipXD
    rw [e3]
    show R.ok S (zipD (ws.map Dv.str) (vs.map Dv.str), none) = _
    rw [zip_items]
  have e := fLc_mp (tg := tgT (tgCons (tgN 2) (tgCons (tgN 3) tgNil))) (ft := kYes) (fe := fOp gAdd (fVar 2) (fVar 3)) (vs := [2, 3]) (env := E7 ws (.d (Ao vs))) (S := S) (fun p : Str × Str => Dv.tup [.str p.1, .str p.2]) (ws.zip vs) (fun _ => true) (fun p => .str (p.1 ++ p.2)) hi (by simp; omega) (fun p hp => by
    obtain ⟨h1, h2⟩ := List.of_mem_zip hp
    exact ⟨[.v (.d (Ao ws)), .v (.d (Ao vs)), .v (.d (.str p.1)), .v (.d (.str p.2))], rfl, rfl, fun _ => got_of (cat_at (var_ok rfl) (var_ok rfl) (h.all _ h1) (g.all _ h2))⟩)
  rw [List.filter_eq_self.mpr fun _ _ => rfl, show ((ws.zip vs).map fun p => Dv.str (p.1 ++ p.2)) = (cat2 ws vs).map .str by unfold cat2; rw [List.map_map]; rfl] at e
  exact congrArg outS (show B_Addresses_followed (E7 ws (.d (Ao vs))) S = _ from seq_nx (if_no ht rfl) (seq_nx (if_no (val_s (op_ok (sum_at h g) c_ok (by rw [gGt_]; exact congrArg vB (decide_eq_false (by omega))))) rfl) (ret_ok (amake_done (D := D_Addresses_init) (cat2_ok h g hl hb) e))))
end
end Q14
namespace Q14
open DN PySem L2
section
variable {S S1 S2 : Sto} {env : DN.Env} {fa fb fe : FE} {fl : FA} {m n i j k q p : Nat} {a b c : Vr} {d x y v w : Dv} {l l1 l2 : List Dv} {ws vs : List Str} {sg tg : Nat → Nat} {o : List Nat} {u0 : Sl} {Z O : List Int}
theorem map_lc {f : Dv → Dv} (h : Seqv d l) (hl : l.length ≤ 1000) (hp : env[p]? = some (.v (.d d))) (hx : ∀ x ∈ l, fe ((wipeE env [q]).set q (.v (.d x))) S = .ok S (.val (.d (f x)))) : fLc (iVal (fVar p)) (tgN q) kYes fe [q] env S = .ok S (.new (.lst (l.map f))) := by
  have e := fLc_mp (fi := iVal (fVar p)) (tg := tgN q) (ft := kYes) (fe := fe) (vs := [q]) (env := env) (S := S) (fun x : Dv => x) l (fun _ => true) f (by rw [List.map_id']; exact h.it (var_ok hp)) (by omega) (fun x hx' => ⟨_, rfl, rfl, fun _ => got_of (hx x hx')⟩)
  rw [List.filter_eq_self.mpr fun _ _ => rfl] at e
  exact e
theorem ok_ints {m : Nat} : okNs m (Z.map .int) = true := okNs_all fun d hd => by
  obtain ⟨p, _, rfl⟩ := List.mem_map.mp hd
  exact okN_int
theorem eqDs_ints : ∀ {Z O : List Int}, eqDs (Z.map .int) (O.map .int) = decide (Z = O)
  | [], [] => rfl
  | [], _ :: _ => by simp [eqDs]
  | _ :: _, [] => by simp [eqDs]
  | a :: Z, b :: O => by
    rw [List.map_cons, List.map_cons, eqDs, eqDs_ints]
    show ((a == b) && decide (Z = O)) = _
    by_cases h : a = b <;> by_cases g : Z = O <;> simp [h, g]
theorem gEq_ints : gEq (.lst (Z.map .int)) (.lst (O.map .int)) = vB (decide (Z = O)) := by
  unfold gEq
  have o : ∀ Z : List Int, okN 60 (.lst (Z.map .int)) = true := fun Z => by rw [okN_lst]; exact ok_ints
  rw [o, o]
  show vB (eqDs _ _) = _
  rw [eqDs_ints]
theorem gNe_ints : gNe (.lst (Z.map .int)) (.lst (O.map .int)) = vB (!decide (Z = O)) := by
  unfold gNe
  have o : ∀ Z : List Int, okN 60 (.lst (Z.map .int)) = true := fun Z => by rw [okN_lst]; exact ok_ints
  rw [o, o]
  show vB (!eqDs _ _) = _
  rw [eqDs_ints]
def rgI (n : Nat) : List Int := (List.range n).map fun k : Nat => (k : Int)
theorem rgI_d : (rgI n).map Dv.int = (List.range n).map fun k : Nat => Dv.int k := by
  unfold rgI
  rw [List.map_map]
  rfl
theorem rg1_ok (hn : n ≤ 1000) (h : fe env S = .ok S (.val (.d (.int n)))) : fRg1 fe env S = .ok S (.new (.lst ((rgI n).map .int))) := by
  have g : gRg (.int 0) (.int n) = nL ((rgI n).map .int) := by
    show (if -1000000 ≤ (0 : Int) ∧ (0 : Int) ≤ 1000000 ∧ -1000000 ≤ (n : Int) ∧ (n : Int) ≤ 1000000 then some (Rt.new (.lst (rgD 0 n))) else none) = _
    rw [if_pos (by omega)]
    unfold rgD
    rw [rgI_d]
    have : ((n : Int) - 0).toNat = n := by omega
    rw [this]
    congr 3
    refine List.map_congr_left fun i _ => ?_
    congr 1
    omega
  unfold fRg1
  simp_arith [h, g]
def isI : Dv → Bool
  | .int _ => true
  | _ => false
theorem isI_ok (h : Itm x) : D_is_integer [.d x] S = .ok S (.val (.d (.bl (isI x)))) := by
  rcases h with h | ⟨b, rfl⟩ | ⟨i, rfl⟩
  · have : isI x = false := by cases x <;> first | rfl | (have q : vB true = vB false := h; cases q)
    rw [this]
    exact isint_no h
  · exact isint_bl
  · exact isint_ok
theorem allI_map (h : l.all isI = true) : l = (toI l).map .int := by
  induction l with
  | nil => rfl
  | cons x l ih =>
    rw [List.all_cons, Bool.and_eq_true] at h
    cases x with
    | int i =>
      show _ = Dv.int i :: (toI l).map .int
      rw [← ih h.2]
    | _ => cases h.1
abbrev E6 (ws : List Str) (b : Vr) : DN.Env := [.v (.d (Ao ws)), .v b, .u]
theorem rn_all (h : Seqv d l) (hi : ∀ x ∈ l, Itm x) (hl : l.length ≤ 1000) : fCall gAll (fCons (fLc (iVal (fVar 1)) (tgN 2) kYes (fCallD 1 D_is_integer (fCons (fVar 2) fNil)) [2]) fNil) (E6 ws (.d d)) S = .ok S (.val (.d (.bl (l.all isI)))) := by
  have e := map_lc (S := S) (env := E6 ws (.d d)) (p := 1) (q := 2) (fe := fCallD 1 D_is_integer (fCons (fVar 2) fNil)) (f := fun x => .bl (isI x)) h hl rfl (fun x hx => callD (l := [.d x]) (cons_v (var_v rfl) nil_ok) rfl (isI_ok (hi x hx)))
  exact call_okL e (gAll_b isI l)
theorem srt_k (h : Seqv d l) (ha : l.all isI = true) : gSortedXK [d] = nL ((sortI (toI l)).map .int) := by
  have ei : ints? l = some (toI l) := by
    conv => lhs; rw [allI_map ha]
    exact ints_map _
  rcases h with rfl | rfl | rfl
  · show gSortedL l = _
    unfold gSortedL
    rw [ei]
  · show onI (ints? l) _ = _
    rw [ei]
    rfl
  · show onI (ints? l) _ = _
    rw [ei]
    rfl
abbrev IXO : FE := fAlt (fun env S => isKtpR ((fVar 1) env S)) (fMethT gIndexK (fVar 1) (fCons (fVar 2) fNil)) (fMeth "list" gIndex (fVar 1) (fCons (fVar 2) fNil))
theorem Od.srt (O : Od n o sg tg) : sortI (o.map fun x : Nat => (x : Int)) = rgI n := by
  refine List.Perm.eq_of_pairwise (le := (· ≤ ·)) (fun a b _ _ h1 h2 => by omega) (sortI_pw _) ?_ ((sortI_perm _).trans ?_)
  · unfold rgI
    rw [List.pairwise_map]
    exact (List.pairwise_lt_range (n := n)).imp fun {a b} h => by omega
  · exact O.pm.map _
theorem dn_toI : toI (dn o) = o.map fun x : Nat => (x : Int) := by
  unfold toI dn
  rw [List.map_map]
  rfl
theorem dn_allI : (dn o).all isI = true := by
  rw [List.all_eq_true]
  intro x hx
  obtain ⟨y, _, rfl⟩ := List.mem_map.mp hx
  rfl
theorem ixo_at (O : Od n o sg tg) (hd : d = .lst (dn o) ∨ d = .ktp (dn o)) (hk : k < n) : IXO [u0, .v (.d d), .v (.d (.int k))] S = .ok S (.val (.d (.int (tg k)))) := by
  rcases hd with rfl | rfl
  · have g := O.index hk
    show fAlt _ _ _ _ _ = _
    unfold fAlt
    show (if false = true then _ else fMeth "list" gIndex (fVar 1) (fCons (fVar 2) fNil) [u0, .v (.d (.lst (dn o))), .v (.d (.int k))] S) = _
    rw [if_neg (by decide)]
    simp_arith [g]
  · have g : gIndexK (.ktp (dn o)) [.int k] = vI (tg k) := by
      show (match ints? (dn o) with | some ys => (match ys.findIdx? (· == (k : Int)) with | some j => vI j | none => none) | none => none) = _
      rw [ints_dn]
      show (match (o.map fun x : Nat => (x : Int)).findIdx? (· == (k : Int)) with | some j => vI j | none => none) = _
      have e := index_dn O.nd (O.bk hk)
      unfold dn at e
      rw [List.findIdx?_map] at e ⊢
      have e2 : ((fun z => eqD z (.int (k : Nat))) ∘ fun x : Nat => Dv.int (x : Nat)) = ((fun i : Int => i == (k : Int)) ∘ fun x : Nat => (x : Int)) := rfl
      rw [e2] at e
      rw [e]
    show fAlt _ _ _ _ _ = _
    unfold fAlt
    show (if true = true then fMethT gIndexK (fVar 1) (fCons (fVar 2) fNil) [u0, .v (.d (.ktp (dn o))), .v (.d (.int k))] S else _) = _
    rw [if_pos rfl]
    show gM S (.d (.ktp (dn o))) [.d (.int k)] gIndexK = _
    show R.of S (gIndexK (.ktp (dn o)) [.int k]) = _
    rw [g]
    rfl
/-- the words of the houses with other numbers -/
def rnW (n : Nat) (tg : Nat → Nat) (ws : List Str) : List Str := (List.range n).map fun i => ws.getD (tg i) Str.empty
theorem ws_at (hk : k < ws.length) : ws[k]? = some (ws.getD k Str.empty) := by
  rw [List.getD, List.getElem?_eq_getElem hk]; rfl
theorem Ws.at_ (h : Ws m ws) (hk : k < ws.length) : Wd m (ws.getD k Str.empty) := h.all _ (List.mem_of_getElem? (ws_at hk))
theorem rnW_ok (O : Od n o sg tg) (h : Ws m ws) (hl : ws.length = n) : Ws m (rnW n tg ws) := ⟨fun w hw => by
    obtain ⟨k, hk, rfl⟩ := List.mem_map.mp hw
    exact h.at_ (by rw [hl]; exact O.rn.bk (List.mem_range.mp hk)), by have := h.pos; simp [rnW]; omega, by have := h.le; simp [rnW]; omega⟩
theorem renamed_ok (O : Od n o sg tg) (h : Ws m ws) (hl : ws.length = n) (hd : d = .lst (dn o) ∨ d = .ktp (dn o)) : D_Addresses_renamed [.d (Ao ws), .d d] S = .ok S (.new (.ob "Addresses" [.tup ((rnW n tg ws).map .str)])) := by
  have hs : Seqv d (dn o) := hd.elim .inl fun h => .inr (.inr h)
  have hle := h.le
  have ll : (dn o).length ≤ 1000 := by rw [dn_len, O.len]; omega
  have hi : ∀ x ∈ dn o, Itm x := fun x hx => by
    obtain ⟨k, _, rfl⟩ := List.mem_map.mp hx
    exact .inr (.inr ⟨_, rfl⟩)
  have e1 := rn_all (S := S) (ws := ws) hs hi ll
  rw [dn_allI] at e1
  have e0 : kNot (kVal (fCall (arg2 (gIsi ["Addresses"])) (fCons (fVar 1) (fCons (fTup (fCons (fC (.ty "list")) (fCons (fC (.ty "tuple")) fNil))) fNil)))) (E6 ws (.d d)) S = .ok S false := notB (b1 := true) (val_s (isi_lt (var_v rfl) hs.isi))
  have sk := srt_k hs dn_allI
  rw [dn_toI, O.srt] at sk
  have e2 : kVal (fOp gNe (fCall gSortedXK (fCons (fVar 1) fNil)) (fRg1 (fCall gLen (fCons (fUn (gFld ["Addresses"] "kept") (fVar 0)) fNil)))) (E6 ws (.d d)) S = .ok S false := by
    refine val_s (op_LL (call_new (var_ok rfl) sk) (rg1_ok (n := ws.length) (by omega) (kept_at (by omega) rfl)) ?_)
    rw [gNe_ints, hl, decide_eq_true rfl]
    rfl
  have e3 := fLc_rg (fl := fCons (fCall gLen (fCons (fUn (gFld ["Addresses"] "kept") (fVar 0)) fNil)) fNil) (fe := fOp gIx (fUn (gFld ["Addresses"] "kept") (fVar 0)) IXO) (vs := [2]) (env := E6 ws (.d d)) (S := S) (i := 2) (n := ws.length) (fun k => .str (ws.getD (tg k) Str.empty)) (cons_d (kept_at (by omega) rfl) nil_ok) (by omega) (fun k hk => got_of (op_ok (a := .tup (ws.map .str)) (un_ok (var_ok rfl) kept_ok) (ixo_at O hd (by omega)) (gIx_tup (by rw [List.getElem?_map, ws_at (by rw [hl]; exact O.rn.bk (by omega))]; rfl))))
  rw [show ((List.range ws.length).map fun k => Dv.str (ws.getD (tg k) Str.empty)) = (rnW n tg ws).map .str by unfold rnW; rw [List.map_map, hl]; rfl] at e3
  refine def_new ?_
  exact congrArg outS (show B_Addresses_renamed (E6 ws (.d d)) S = _ from seq_nx (if_no (orNo e0 (notB (b1 := true) (val_s e1))) rfl) (seq_nx (if_no e2 rfl) (ret_ok (amake_done (D := D_Addresses_init) (rnW_ok O h hl) e3))))
end
end Q14
namespace Q14
open DN PySem L2
section
variable {n m : Nat} {S : Sto} {env : DN.Env} {f : Nat → Str} {l : List Dv}
abbrev prD (p : List Int × List Int) : Dv := .tup [.tup (p.1.map .int), .tup (p.2.map .int)]
abbrev chD (c : Nat) : Dv := .str ⟨#[c]⟩
theorem filter_tt {β : Type} (l : List β) : l.filter (fun _ => true) = l := List.filter_eq_self.mpr fun _ _ => rfl
theorem app_any {y : Dv} (h : l.length ≤ 1000) : gAppend l [y] = some (l ++ [y], .non) := by
  show (if l.length < 100000 then some (l ++ [y], Dv.non) else none) = _
  rw [if_pos (by omega)]
theorem enumP_map {g : Nat → Dv} : ∀ (n k : Nat), enumP k ((List.range' k n).map g) = (List.range' k n).map fun i : Nat => .tup [.int i, g i]
  | 0, k => rfl
  | n + 1, k => by
    rw [List.range'_succ, List.map_cons, List.map_cons]
    unfold enumP
    rw [enumP_map n (k + 1)]
theorem enum_rg {g : Nat → Dv} : gEnumL (.lst ((List.range n).map g)) = nL ((List.range n).map fun i : Nat => .tup [.int i, g i]) := by
  show nL (enumP 0 _) = _
  rw [List.range_eq_range', enumP_map]
theorem fEnumL_ {fa : FE} : fEnumL fa env S = fUn gEnumL fa env S := rfl
/-- the sign of house i at place j -/
def cc (f : Nat → Str) (i j : Nat) : Nat := (f i).cps.toList.getD j 42
def side (f : Nat → Str) (n j c : Nat) : List Int := ((List.range n).filter fun i => decide (cc f i j = c)).map fun i : Nat => (i : Int)
def col (f : Nat → Str) (n j : Nat) : List Int × List Int := (side f n j 48, side f n j 49)
def cols (f : Nat → Str) (n m : Nat) : List (List Int × List Int) := (List.range m).map (col f n)
theorem chd_is {c k : Nat} {s : Str} (hc : OP.okc c = true) (hk : OP.okc k = true) (hs : s = ⟨#[k]⟩) : gEq (chD c) (.str s) = vB (decide (c = k)) := by
  subst hs
  unfold chD
  rw [gEq_str (OP.sgn_lay hc) (OP.sgn_lay hk)]
  congr 1
  simp
abbrev SGN (c : String) : FE := fLc (iVal (fVar 3)) (tgT (tgCons (tgN 6) (tgCons (tgN 7) tgNil))) (kVal (fEqD ["Addresses"] [("Addresses", 2, D_Addresses_eq)] false (fVar 7) (fC (.str c)))) (fVar 6) [6, 7]
theorem sgn_pick {j k : Nat} {c : String} {a0 a1 a2 a4 a5 : Sl} (hn : n ≤ 40) (hk : OP.okc k = true) (hs : Str.ofString c = ⟨#[k]⟩) (hw : ∀ i, i < n → OP.okc (cc f i j) = true) :
    SGN c [a0, a1, a2, .v (.d (.lst ((List.range n).map fun i : Nat => .tup [.int i, chD (cc f i j)]))), a4, a5, .u, .u] S = .ok S (.new (.lst ((side f n j k).map .int))) := by
  have e := fLc_mp (fi := iVal (fVar 3)) (tg := tgT (tgCons (tgN 6) (tgCons (tgN 7) tgNil))) (ft := kVal (fEqD ["Addresses"] [("Addresses", 2, D_Addresses_eq)] false (fVar 7) (fC (.str c)))) (fe := fVar 6) (vs := [6, 7])
    (env := [a0, a1, a2, .v (.d (.lst ((List.range n).map fun i : Nat => .tup [.int i, chD (cc f i j)]))), a4, a5, .u, .u]) (S := S) (fun i : Nat => .tup [.int i, chD (cc f i j)]) (List.range n) (fun i => decide (cc f i j = k)) (fun i => .int i) (by simp_arith []) (by simp; omega)
    (fun i hi => ⟨_, rfl, by
      have e1 := chd_is (hw i (List.mem_range.mp hi)) hk hs
      show kVal _ [_, _, _, _, _, _, .v (.d (.int i)), .v (.d (chD (cc f i j)))] S = _
      obtain ⟨s, hcs⟩ : ∃ s, chD (cc f i j) = .str s := ⟨_, rfl⟩
      rw [hcs] at e1 ⊢
      simp_arith [e1], fun _ => got_val⟩)
  unfold SGN
  rw [e]
  unfold side
  rw [List.map_map]
  rfl
theorem pairs_of_ok (h : Ws m ((List.range n).map f)) : D_pairs_of [.d (Ao ((List.range n).map f))] S = .ok S (.new (.lst ((cols f n m).map prD))) := by
  have hn : n ≤ 40 := by have := h.le; simpa using this
  have hn1 : 1 ≤ n := by have := h.pos; simpa using this
  have hw : ∀ i, i < n → Wd m (f i) := fun i hi => h.all _ (List.mem_map.mpr ⟨i, List.mem_range.mpr hi, rfl⟩)
  have hm := (hw 0 (by omega)).le
  obtain ⟨W, hW⟩ : ∃ W, W = ((List.range n).map f).map Dv.str := ⟨_, rfl⟩
  have hAo : Ao ((List.range n).map f) = .obj "Addresses" [.tup W] := by rw [hW]
  rw [hAo]
  have el : ∀ S, D_Addresses_length [.d (.obj "Addresses" [.tup W])] S = .ok S (.val (.d (.int m))) := fun S => by
    have ix : gIx (.tup W) (.int 0) = vD (.str (f 0)) := by
      rw [hW, List.map_map]
      exact gIx_tup (i := 0) (by rw [List.getElem?_map, List.getElem?_range (show 0 < n by omega)]; rfl)
    have kf : gFld ["Addresses"] "kept" (.obj "Addresses" [.tup W]) = vD (.tup W) := rfl
    refine def_pure ?_
    simp_arith [kf, ix, gLen_str (hw 0 (by omega)).sz, (hw 0 (by omega)).length]
  have ew : ∀ S, D_Addresses_words [.d (.obj "Addresses" [.tup W])] S = .ok S (.val (.d (.tup W))) := fun S => by
    rw [hW]; exact awords_ok
  obtain ⟨e', S', e, u2, u3, u5, rfl, rfl⟩ := for_rg (fl := fCons (fPropD [("Addresses", 1, D_Addresses_length)] (fVar 0)) fNil) (i := 2) (n := m) (env := [.v (.d (.obj "Addresses" [.tup W])), .v (.r S.length), .u, .u, .u, .u, .u, .u]) (S := S ++ [.lst []])
    (body := kSeq (kSet 3 (fEnumL (fLc (iVal (fPropD [("Addresses", 1, D_Addresses_words)] (fVar 0))) (tgN 4) kYes (fIxD [("Addresses", 2, D_Addresses_getitem)] (fVar 4) (fVar 2)) [4])))
      (kSeq (kSet 5 (fCall gTuple (fCons (SGN "0") fNil)))
      (kExpr (fMut gAppend (fVar 1) (fCons (fTup (fCons (fVar 5) (fCons (fCall gTuple (fCons (SGN "1") fNil)) fNil))) fNil)))))
    (fun j env S' => ∃ u2 u3 u5, env = [.v (.d (.obj "Addresses" [.tup W])), .v (.r S.length), u2, u3, .u, u5, .u, .u] ∧ S' = S ++ [.lst ((cols f n j).map prD)]) (by simp_arith [el, okR_ok']) (by omega) ⟨.u, .u, .u, rfl, rfl⟩ (fun j env S' hj hI => by
      obtain ⟨u2, u3, u5, rfl, rfl⟩ := hI
      have hat : ∀ i, i < n → (f i).cps.toList[j]? = some (cc f i j) ∧ OP.okc (cc f i j) = true := fun i hi => by
        have hl := (hw i hi).len
        have hg : (f i).cps.toList[j]? = some ((f i).cps.toList[j]'(by omega)) := List.getElem?_eq_getElem _
        have hc : cc f i j = (f i).cps.toList[j]'(by omega) := by unfold cc; rw [List.getD_eq_getElem?_getD, hg]; rfl
        rw [hc]
        exact ⟨hg, (hw i hi).ok _ (List.getElem_mem _)⟩
      obtain ⟨Q, hQ⟩ : ∃ Q, Q = (S ++ [Cell.lst ((cols f n j).map prD)] : Sto) := ⟨_, rfl⟩
      have e1 := fLc_mp (fi := iVal (fPropD [("Addresses", 1, D_Addresses_words)] (fVar 0))) (tg := tgN 4) (ft := kYes) (fe := fIxD [("Addresses", 2, D_Addresses_getitem)] (fVar 4) (fVar 2)) (vs := [4]) (env := [.v (.d (.obj "Addresses" [.tup W])), .v (.r S.length), .v (.d (.int j)), u3, .u, u5, .u, .u]) (S := Q) (fun i => .str (f i)) (List.range n) (fun _ => true) (fun i => chD (cc f i j)) (by
          simp_arith [ew, okR_ok', iVal]
          rw [hW, List.map_map]
          rfl) (by simp; omega) (fun i hi => ⟨_, rfl, rfl, fun _ => by
        have hx := hat i (List.mem_range.mp hi)
        have ex : gIx (.str (f i)) (.int j) = vD (chD (cc f i j)) := gIx_str (hw i (List.mem_range.mp hi)).sz hx.1
        simp_arith [wipeE, ex]
        exact got_val⟩)
      rw [filter_tt] at e1
      have hwo : ∀ i, i < n → OP.okc (cc f i j) = true := fun i hi => (hat i hi).2
      have s0 := sgn_pick (S := Q) (f := f) (n := n) (j := j) (k := 48) (c := "0") (a0 := .v (.d (.obj "Addresses" [.tup W]))) (a1 := .v (.r (List.length S))) (a2 := .v (.d (.int j))) (a4 := .u) (a5 := u5) hn rfl rfl hwo
      have s1 := sgn_pick (S := Q) (f := f) (n := n) (j := j) (k := 49) (c := "1") (a0 := .v (.d (.obj "Addresses" [.tup W]))) (a1 := .v (.r (List.length S))) (a2 := .v (.d (.int j))) (a4 := .u) (a5 := .v (.d (.tup ((side f n j 48).map .int)))) hn rfl rfl hwo
      have er := enum_rg (n := n) (g := fun i => chD (cc f i j))
      have eg : Q[List.length S]? = some (.lst ((cols f n j).map prD)) := by rw [hQ]; exact get_last
      have es : ∀ c, Q.set (List.length S) c = S ++ [c] := fun c => by rw [hQ]; exact set_last
      have ap : gAppend ((cols f n j).map prD) [.tup [.tup ((side f n j 48).map .int), .tup ((side f n j 49).map .int)]] = some ((cols f n (j + 1)).map prD, .non) := by
        rw [app_any (by simp [cols]; omega)]
        unfold cols
        rw [List.range_succ, List.map_append, List.map_append]
        rfl
      generalize (List.range n).map (fun i => chD (cc f i j)) = C at e1 er
      generalize (List.range n).map (fun i : Nat => Dv.tup [.int i, chD (cc f i j)]) = C2 at er s0 s1
      generalize (side f n j 48).map Dv.int = Z at s0 s1 ap
      generalize (side f n j 49).map Dv.int = O at s1 ap
      rw [← hQ]
      refine ⟨[.v (.d (.obj "Addresses" [.tup W])), .v (.r S.length), .v (.d (.int j)), .v (.d (.lst C2)), .u, .v (.d (.tup Z)), .u, .u], _, ?_, _, _, _, rfl, rfl⟩
      have ef : fEnumL (fLc (iVal (fPropD [("Addresses", 1, D_Addresses_words)] (fVar 0))) (tgN 4) kYes (fIxD [("Addresses", 2, D_Addresses_getitem)] (fVar 4) (fVar 2)) [4]) [.v (.d (.obj "Addresses" [.tup W])), .v (.r S.length), .v (.d (.int j)), u3, .u, u5, .u, .u] Q = .ok Q (.new (.lst C2)) := by
        rw [fEnumL_]
        simp_arith [e1, er]
      show kSeq _ _ _ _ = _
      simp_arith [↓ef, ↓s0, gTuple_lst, ↓s1, eg, ap, es])
  have ck : D_check_addresses [.d (.obj "Addresses" [.tup W])] S = .ok S (.val (.d .non)) := by
    have ia : gIsi ["Addresses"] (.obj "Addresses" [.tup W]) (.cls "Addresses") = vB true := rfl
    refine def_pure ?_
    simp_arith [ia]
  unfold D_pairs_of defD
  simp_arith [ck, ↓e, get_last]
  simp only [exitR, Nat.lt_irrefl, if_false, get_last]
  simp
theorem ws_fn {ws : List Str} : ws = (List.range ws.length).map fun i => ws.getD i Str.empty := by
  apply List.ext_getElem?
  intro i
  by_cases hi : i < ws.length
  · rw [List.getElem?_map, List.getElem?_range hi, ws_at hi]; rfl
  · rw [List.getElem?_eq_none (by omega), List.getElem?_eq_none (by simp; omega)]
theorem ok_prs {P : List (List Int × List Int)} {k : Nat} : okN (k + 3) (.lst (P.map prD)) = true := by
  rw [okN_lst]
  refine okNs_all fun d hd => ?_
  obtain ⟨p, _, rfl⟩ := List.mem_map.mp hd
  show (okNs k (p.1.map .int) && (okNs k (p.2.map .int) && true)) = true
  rw [ok_ints, ok_ints]; rfl
theorem pairs_tot {ws : List Str} (h : Ws m ws) : ∃ l, okN 59 (.lst l) = true ∧ ∀ S, D_pairs_of [.d (Ao ws)] S = .ok S (.new (.lst l)) := by
  refine ⟨_, ok_prs (P := cols (fun i => ws.getD i Str.empty) ws.length m) (k := 56), fun S => ?_⟩
  have e := pairs_of_ok (S := S) (m := m) (f := fun i => ws.getD i Str.empty) (n := ws.length) (by rw [← ws_fn]; exact h)
  rw [← ws_fn] at e
  exact e
end
end Q14
namespace Q14
open DN PySem L2
section
variable {n m k : Nat} {S : Sto} {env : DN.Env} {ws : List Str} {l : List Dv}
theorem notIn_dn {u : Nat} {l : List Nat} : gNotIn (.int u) (.lst (dn l)) = vB (!decide (u ∈ l)) := by
  show onlyIf (okN 60 (.int u) && okNs 60 (dn l)) (vB (!inD (.int u) (dn l))) = _
  rw [okN_int, ok_dn, inD_dn]; rfl
theorem join_cs {cs : List Nat} (hl : cs.length ≤ 1000) : gJoin (.str "") [.lst ((cs.map fun c => (⟨#[c]⟩ : Str)).map .str)] = vS ⟨cs.toArray⟩ := by
  show (match strs? ((cs.map fun c => (⟨#[c]⟩ : Str)).map .str) with | some ss => (if (ss.map fun s : Str => s.length).sum + ss.length * ("" : Str).length ≤ 100000 then vS (Txt.join "" ss) else none) | none => none) = _
  rw [strs_map]
  have : (((cs.map fun c => (⟨#[c]⟩ : Str))).map fun s : Str => s.length).sum = cs.length := by
    rw [List.map_map]
    clear hl
    induction cs with
    | nil => rfl
    | cons c cs ih => rw [List.map_cons, List.sum_cons, ih, List.length_cons]; show 1 + cs.length = _; omega
  show (if (((cs.map fun c => (⟨#[c]⟩ : Str))).map fun s : Str => s.length).sum + _ * 0 ≤ 100000 then vS (Txt.join "" _) else none) = _
  rw [this, if_pos (by omega), OP.join_signs]
/-- the signs at a place -/
def colD (ws : List Str) (j : Nat) : List Dv := ws.map fun s => .str ⟨#[s.cps.toList.getD j 0]⟩
def lacks (z : Str) (ws : List Str) (j : Nat) : Bool := !inD (.str z) (colD ws j)
theorem col_ok (h : Ws m ws) {j : Nat} (hj : j < m) {k : Nat} : okNs k (colD ws j) = true := okNs_all fun d hd => by
  obtain ⟨s, hs, rfl⟩ := List.mem_map.mp hd
  rw [okN_str]
  exact OP.sgn_lay (at_ok (h.all s hs) hj).2
theorem lacks_ok (h : Ws m ws) {j : Nat} (hj : j < m) {z : Str} (hz : PyData.strOk z = true) : gNotIn (.str z) (.lst (colD ws j)) = vB (lacks z ws j) := by
  show onlyIf (okN 60 (.str z) && okNs 60 (colD ws j)) _ = _
  rw [okN_str, hz, col_ok h hj]
  rfl
def ndl (ws : List Str) (j : Nat) : Bool := lacks "0" ws j || lacks "1" ws j
/-- the needless places ahead of place j -/
def NLs (ws : List Str) (j : Nat) : List Nat := (List.range j).filter (ndl ws)
theorem NLs_len {j : Nat} : (NLs ws j).length ≤ j := by
  unfold NLs
  have := List.length_filter_le (ndl ws) (List.range j)
  simpa using this
abbrev NB : FS := (kSeq (kSet 3 (fLc (iVal (fPropD [("Addresses", 1, D_Addresses_words)] (fVar 0))) (tgN 4) kYes (fIxD [("Addresses", 2, D_Addresses_getitem)] (fVar 4) (fVar 2)) [4]))
    (kIf (kOr (kVal (fOp gNotIn (fC (.str "0")) (fVar 3))) (kVal (fOp gNotIn (fC (.str "1")) (fVar 3)))) (kExpr (fMut gAppend (fVar 1) (fCons (fVar 2) fNil))) kNext))
theorem ck_ok : D_check_addresses [.d (Ao ws)] S = .ok S (.val (.d .non)) := by
  have ia : gIsi ["Addresses"] (Ao ws) (.cls "Addresses") = vB true := rfl
  refine def_pure ?_
  simp_arith [ia]
theorem col_at (h : Ws m ws) {j : Nat} (hj : j < m) {a1 a3 : Sl} : fLc (iVal (fPropD [("Addresses", 1, D_Addresses_words)] (fVar 0))) (tgN 4) kYes (fIxD [("Addresses", 2, D_Addresses_getitem)] (fVar 4) (fVar 2)) [4] [.v (.d (Ao ws)), a1, .v (.d (.int j)), a3, .u] S = .ok S (.new (.lst (colD ws j))) := by
  have hl := h.le
  have ei : iVal (fPropD [("Addresses", 1, D_Addresses_words)] (fVar 0)) [.v (.d (Ao ws)), a1, .v (.d (.int j)), a3, .u] S = .ok S (ws.map .str, none) := wds_at (words_at rfl)
  have e := fLc_mp (fi := iVal (fPropD [("Addresses", 1, D_Addresses_words)] (fVar 0))) (tg := tgN 4) (ft := kYes) (fe := fIxD [("Addresses", 2, D_Addresses_getitem)] (fVar 4) (fVar 2)) (vs := [4]) (env := [.v (.d (Ao ws)), a1, .v (.d (.int j)), a3, .u]) (S := S) Dv.str ws (fun _ => true) (fun s => .str ⟨#[s.cps.toList.getD j 0]⟩) ei (by omega) (fun s hs => ⟨[.v (.d (Ao ws)), a1, .v (.d (.int j)), a3, .v (.d (.str s))], rfl, rfl, fun _ => by
    have g := gIx_str (h.all s hs).sz (at_ok (h.all s hs) hj).1
    simp_arith [g]
    exact got_val⟩)
  rw [filter_tt] at e
  exact e
theorem nb_ok (h : Ws m ws) {j : Nat} (hj : j < m) {a3 : Sl} : ∃ a3', NB [.v (.d (Ao ws)), .v (.r S.length), .v (.d (.int j)), a3, .u] (S ++ [.lst (dn (NLs ws j))]) = .nx [.v (.d (Ao ws)), .v (.r S.length), .v (.d (.int j)), a3', .u] (S ++ [.lst (dn (NLs ws (j + 1)))]) := by
  have hm : m ≤ 60 := by obtain ⟨x, _, hx⟩ := h.head; exact hx.le
  have e1 := col_at (S := S ++ [.lst (dn (NLs ws j))]) h hj (a1 := .v (.r S.length)) (a3 := a3)
  have l0 := lacks_ok h hj z0
  have l1 := lacks_ok h hj z1
  refine ⟨.v (.d (.lst (colD ws j))), ?_⟩
  have en : NLs ws (j + 1) = NLs ws j ++ if ndl ws j then [j] else [] := by
    unfold NLs
    rw [List.range_succ, List.filter_append]
    congr 1
    cases q : ndl ws j <;> simp [q]
  have ap : gAppend (dn (NLs ws j)) [.int j] = some (dn (NLs ws j ++ [j]), .non) := by
    rw [app_any (by rw [dn_len]; have := NLs_len (ws := ws) (j := j); omega)]
    unfold dn
    rw [List.map_append]
    rfl
  have eg : (S ++ [Cell.lst (dn (NLs ws j))] : Sto)[List.length S]? = some (.lst (dn (NLs ws j))) := get_last
  have es : ∀ c, (S ++ [Cell.lst (dn (NLs ws j))] : Sto).set (List.length S) c = S ++ [c] := fun c => set_last
  by_cases q : ndl ws j = true
  · rw [en, if_pos q]
    generalize dn (NLs ws j) = Q at e1 ap eg es ⊢
    generalize colD ws j = C at e1 l0 l1 ⊢
    show kSeq _ _ _ _ = _
    cases q0 : lacks "0" ws j with
    | true =>
      rw [q0] at l0
      simp_arith [e1, l0, Bool.true_or, eg, ap, es]
    | false =>
      have q1 : lacks "1" ws j = true := by unfold ndl at q; rw [q0] at q; simpa using q
      rw [q0] at l0
      rw [q1] at l1
      simp_arith [e1, l0, l1, Bool.or_true, eg, ap, es]
  · have en' : NLs ws (j + 1) = NLs ws j := by rw [en, if_neg q, List.append_nil]
    have q0 : lacks "0" ws j = false := by unfold ndl at q; simp at q; exact q.1
    have q1 : lacks "1" ws j = false := by unfold ndl at q; simp at q; exact q.2
    rw [en']
    rw [q0] at l0
    rw [q1] at l1
    generalize dn (NLs ws j) = Q at e1 ⊢
    generalize colD ws j = C at e1 l0 l1 ⊢
    show kSeq _ _ _ _ = _
    simp_arith [e1, l0, l1]
theorem needless_ok (h : Ws m ws) : D_needless [.d (Ao ws)] S = .ok S (.new (.lst (dn (NLs ws m)))) := by
  have hm : m ≤ 60 := by obtain ⟨x, _, hx⟩ := h.head; exact hx.le
  have es := size_at (S := S ++ [Cell.lst []]) (env := [.v (.d (Ao ws)), .v (.r S.length), .u, .u, .u]) (q := 0) h rfl
  obtain ⟨e', S', e, u2, u3, rfl, rfl⟩ := for_rg (fl := fCons (fPropD [("Addresses", 1, D_Addresses_length)] (fVar 0)) fNil) (i := 2) (n := m) (env := [.v (.d (Ao ws)), .v (.r S.length), .u, .u, .u]) (S := S ++ [.lst []]) (body := NB)
    (fun j env S' => ∃ u2 u3, env = [.v (.d (Ao ws)), .v (.r S.length), u2, u3, .u] ∧ S' = S ++ [.lst (dn (NLs ws j))]) (cons_d es nil_ok) (by omega) ⟨.u, .u, rfl, rfl⟩ (fun j env S' hj hI => by
      obtain ⟨u2, u3, rfl, rfl⟩ := hI
      obtain ⟨a3, e⟩ := nb_ok (S := S) h hj (a3 := u3)
      exact ⟨_, _, e, _, _, rfl, rfl⟩)
  have ck := ck_ok (S := S) (ws := ws)
  unfold D_needless defD
  simp_arith [ck, ↓e, get_last]
  simp only [exitR, Nat.lt_irrefl, if_false, get_last]
  simp
end
end Q14
namespace Q14
open DN PySem L2
section
variable {n m k : Nat} {S : Sto} {env : DN.Env} {ws : List Str} {l : List Dv} {s t : Str}
def KP (ws : List Str) (m : Nat) : List Nat := (List.range m).filter fun p => !decide (p ∈ NLs ws m)
def trW (ws : List Str) (m : Nat) : List Str := ws.map fun s => ⟨((KP ws m).map fun p => s.cps.toList.getD p 0).toArray⟩
theorem KP_lt {p : Nat} (hp : p ∈ KP ws m) : p < m := List.mem_range.mp (List.mem_filter.mp hp).1
theorem KP_len : (KP ws m).length ≤ m := by
  unfold KP
  have := List.length_filter_le (fun p => !decide (p ∈ NLs ws m)) (List.range m)
  simpa using this
theorem trW_ok (h : Ws m ws) : Ws (KP ws m).length (trW ws m) := by
  have hm : m ≤ 60 := by obtain ⟨x, _, hx⟩ := h.head; exact hx.le
  refine ⟨fun w hw => ?_, by simp [trW]; exact h.pos, by simp [trW]; exact h.le⟩
  obtain ⟨s, hs, rfl⟩ := List.mem_map.mp hw
  refine wd_of (cs := (KP ws m).map fun p => s.cps.toList.getD p 0) (by simp) (by have := KP_len (ws := ws) (m := m); omega) fun c hc => ?_
  obtain ⟨p, hp, rfl⟩ := List.mem_map.mp hc
  exact (at_ok (h.all s hs) (KP_lt hp)).2
theorem trimmed_ok (h : Ws m ws) : D_trimmed [.d (Ao ws)] S = .ok S (.new (.ob "Addresses" [.tup ((trW ws m).map .str)])) := by
  have hm : m ≤ 60 := by obtain ⟨x, _, hx⟩ := h.head; exact hx.le
  have hl := h.le
  have e1 := needless_ok (S := S) h
  have s1 : kSet 1 (fCallD 1 D_needless (fCons (fVar 0) fNil)) [.v (.d (Ao ws)), .u, .u, .u, .u] S = .nx [.v (.d (Ao ws)), .v (.d (.lst (dn (NLs ws m)))), .u, .u, .u] S := st_setL (callD (l := [.d (Ao ws)]) (cons_d (var_ok rfl) nil_ok) rfl e1) rfl
  have e2 := fLc_rgF (fl := fCons (fPropD [("Addresses", 1, D_Addresses_length)] (fVar 0)) fNil) (ft := kVal (fOp gNotIn (fVar 3) (fVar 1))) (fe := fVar 3) (vs := [3]) (env := [.v (.d (Ao ws)), .v (.d (.lst (dn (NLs ws m)))), .u, .u, .u]) (S := S) (i := 3) (n := m)
    (fun p => !decide (p ∈ NLs ws m)) (fun p => .int p) (cons_d (size_at h rfl) nil_ok) (by omega) (fun p hp => val_s (op_ok (var_ok rfl) (var_ok rfl) notIn_dn)) (fun p hp _ => got_of (var_ok rfl))
  have s2 : kSet 2 (fLc (iRange1 (fCons (fPropD [("Addresses", 1, D_Addresses_length)] (fVar 0)) fNil)) (tgN 3) (kVal (fOp gNotIn (fVar 3) (fVar 1))) (fVar 3) [3]) [.v (.d (Ao ws)), .v (.d (.lst (dn (NLs ws m)))), .u, .u, .u] S = .nx [.v (.d (Ao ws)), .v (.d (.lst (dn (NLs ws m)))), .v (.d (.lst (dn (KP ws m)))), .u, .u] S := st_setL e2 rfl
  have ei : iVal (fPropD [("Addresses", 1, D_Addresses_words)] (fVar 0)) [.v (.d (Ao ws)), .v (.d (.lst (dn (NLs ws m)))), .v (.d (.lst (dn (KP ws m)))), .u, .u] S = .ok S (ws.map .str, none) := wds_at (words_at rfl)
  have e3 := fLc_mp (fi := iVal (fPropD [("Addresses", 1, D_Addresses_words)] (fVar 0))) (tg := tgN 4) (ft := kYes) (fe := fMeth "str" gJoin (fC (.str "")) (fCons (fLc (iVal (fVar 2)) (tgN 3) kYes (fIxD [("Addresses", 2, D_Addresses_getitem)] (fVar 4) (fVar 3)) [3]) fNil)) (vs := [4]) (env := [.v (.d (Ao ws)), .v (.d (.lst (dn (NLs ws m)))), .v (.d (.lst (dn (KP ws m)))), .u, .u]) (S := S) Dv.str ws (fun _ => true) (fun s => .str ⟨((KP ws m).map fun p => s.cps.toList.getD p 0).toArray⟩) ei (by omega) (fun s hs => ⟨[.v (.d (Ao ws)), .v (.d (.lst (dn (NLs ws m)))), .v (.d (.lst (dn (KP ws m)))), .u, .v (.d (.str s))], rfl, rfl, fun _ => by
    have ej := fLc_mp (fi := iVal (fVar 2)) (tg := tgN 3) (ft := kYes) (fe := fIxD [("Addresses", 2, D_Addresses_getitem)] (fVar 4) (fVar 3)) (vs := [3]) (env := [.v (.d (Ao ws)), .v (.d (.lst (dn (NLs ws m)))), .v (.d (.lst (dn (KP ws m)))), .u, .v (.d (.str s))]) (S := S) (fun p : Nat => .int p) (KP ws m) (fun _ => true) (fun p => .str ⟨#[s.cps.toList.getD p 0]⟩) rfl (by have := KP_len (ws := ws) (m := m); omega) (fun p hp => ⟨[.v (.d (Ao ws)), .v (.d (.lst (dn (NLs ws m)))), .v (.d (.lst (dn (KP ws m)))), .v (.d (.int p)), .v (.d (.str s))], rfl, rfl, fun _ => by
      have g := gIx_str (h.all s hs).sz (at_ok (h.all s hs) (KP_lt hp)).1
      generalize dn (NLs ws m) = Q1
      generalize dn (KP ws m) = Q2
      simp_arith [g]
      exact got_val⟩)
    rw [filter_tt] at ej
    have jn := join_cs (cs := (KP ws m).map fun p => s.cps.toList.getD p 0) (by rw [List.length_map]; have := KP_len (ws := ws) (m := m); omega)
    rw [List.map_map, List.map_map] at jn
    exact got_of (join_at ej jn)⟩)
  rw [filter_tt, show ws.map (fun s => Dv.str ⟨((KP ws m).map fun p => s.cps.toList.getD p 0).toArray⟩) = (trW ws m).map .str by unfold trW; rw [List.map_map]; rfl] at e3
  refine def_new ?_
  exact congrArg outS (show B_trimmed [.v (.d (Ao ws)), .u, .u, .u, .u] S = _ from seq_nx s1 (seq_nx s2 (ret_ok (amake_done (D := D_Addresses_init) (trW_ok h) e3))))
theorem go_find {β : Type} {tt : List Dv} {tg : FG} {body : FS} (f : β → Dv) (r : β → Option Dv) {I : DN.Env → Prop} : ∀ {l : List β} {env : DN.Env}, I env →
    (∀ x ∈ l, ∀ env, I env → ∃ env1, tg (f x) env = some env1 ∧ (∀ d, r x = some d → body env1 S = .rt S (.val (.d d))) ∧ (r x = none → ∃ env', body env1 S = .nx env' S ∧ I env')) →
    (∀ d, l.findSome? r = some d → forGo (tt, none) tg body (l.map f) env S = .rt S (.val (.d d))) ∧ (l.findSome? r = none → ∃ env', forGo (tt, none) tg body (l.map f) env S = .nx env' S ∧ I env')
  | [], env, hI, _ => ⟨fun d q => by simp at q, fun _ => ⟨env, rfl, hI⟩⟩
  | x :: l, env, hI, h => by
    obtain ⟨env1, e1, e2, e3⟩ := h x List.mem_cons_self env hI
    rw [List.findSome?_cons, List.map_cons]
    cases q : r x with
    | some d =>
      refine ⟨fun d' q' => ?_, fun q' => nomatch q'⟩
      cases q'
      exact go_rt e1 (e2 d q)
    | none =>
      obtain ⟨env', e4, hI'⟩ := e3 q
      have ih := go_find f r (tt := tt) (l := l) hI' fun y hy => h y (List.mem_cons_of_mem _ hy)
      rw [go_ok e1 e4]
      exact ih
/-- the signs that two words hold -/
def hld (s t : Str) : Str := ⟨((s.cps.toList.zip t.cps.toList).map fun p => if p.1 = 49 ∨ p.2 = 49 then 49 else 48).toArray⟩
theorem hb_one {c d : Nat} (hc : OP.okc c = true) (hd : OP.okc d = true) : gIn (.str "1") (.tup [.str ⟨#[c]⟩, .str ⟨#[d]⟩]) = vB (decide (c = 49 ∨ d = 49)) := by
  have e1 : okNs 60 [.str ⟨#[c]⟩, .str ⟨#[d]⟩] = true := by
    show ((PyData.strOk ⟨#[c]⟩) && ((PyData.strOk ⟨#[d]⟩) && true)) = true
    rw [OP.sgn_lay hc, OP.sgn_lay hd]; rfl
  show onlyIf (okN 60 (.str "1") && okNs 60 [.str ⟨#[c]⟩, .str ⟨#[d]⟩]) _ = _
  rw [okN_str, z1, e1]
  rcases okc_3 hc with rfl | rfl | rfl <;> rcases okc_3 hd with rfl | rfl | rfl <;> rfl
theorem held_ok (hs : Wd m s) (ht : Wd m t) : D_held_by_both [.d (.str s), .d (.str t)] S = .ok S (.val (.d (.str (hld s t)))) := by
  have hm := hs.le
  have la := hs.len
  have lb := ht.len
  have ez : s.cps.size = t.cps.size := by rw [Array.length_toList] at la lb; omega
  have ei : iZipND (fCons (fVar 0) (fCons (fVar 1) fNil)) [.v (.d (.str s)), .v (.d (.str t)), .u] S = .ok S ((s.cps.toList.zip t.cps.toList).map (fun p => .tup [.str ⟨#[p.1]⟩, .str ⟨#[p.2]⟩]), none) := by
    have e0 : (fCons (fVar 0) (fCons (fVar 1) fNil)) [.v (.d (.str s)), .v (.d (.str t)), .u] S = .ok S [.d (.str s), .d (.str t)] := cons_d (var_ok rfl) (cons_d (var_ok rfl) nil_ok)
    unfold iZipND
    rw [e0]
    show itZipN S [.d (.str s), .d (.str t)] = _
    unfold itZipN
    simp only
    rw [if_pos ez]
    unfold zipD
    rw [List.zip_map, List.map_map]
    rfl
  have ec := fLc_mp (fi := iZipND (fCons (fVar 0) (fCons (fVar 1) fNil))) (tg := tgN 2) (ft := kYes) (fe := fIf (kVal (fOp gIn (fC (.str "1")) (fVar 2))) (fC (.str "1")) (fC (.str "0"))) (vs := [2]) (env := [.v (.d (.str s)), .v (.d (.str t)), .u]) (S := S) (fun p : Nat × Nat => .tup [.str ⟨#[p.1]⟩, .str ⟨#[p.2]⟩]) (s.cps.toList.zip t.cps.toList) (fun _ => true) (fun p => .str ⟨#[if p.1 = 49 ∨ p.2 = 49 then 49 else 48]⟩) ei
    (by rw [List.length_zip]; omega) (fun p hp => ⟨[.v (.d (.str s)), .v (.d (.str t)), .v (.d (.tup [.str ⟨#[p.1]⟩, .str ⟨#[p.2]⟩]))], rfl, rfl, fun _ => by
      have g := hb_one (hs.ok _ (List.of_mem_zip hp).1) (ht.ok _ (List.of_mem_zip hp).2)
      refine got_of (ifS (val_s (op_ok c_ok (var_ok rfl) g)) ?_)
      by_cases q : p.1 = 49 ∨ p.2 = 49
      · rw [decide_eq_true q, if_pos q]; rfl
      · rw [decide_eq_false q, if_neg q]; rfl⟩)
  rw [filter_tt] at ec
  have jn := join_cs (cs := (s.cps.toList.zip t.cps.toList).map fun p => if p.1 = 49 ∨ p.2 = 49 then 49 else 48) (by rw [List.length_map, List.length_zip]; omega)
  rw [List.map_map, List.map_map] at jn
  refine def_pure ?_
  exact congrArg outS (show B_held_by_both [.v (.d (.str s)), .v (.d (.str t)), .u] S = _ from ret_ok (join_at ec jn))
theorem hld_ok : PyData.strOk (hld s t) = true := OP.strOk_of fun c hc => by
  have hc : c ∈ (s.cps.toList.zip t.cps.toList).map fun p => if p.1 = 49 ∨ p.2 = 49 then 49 else 48 := by simpa [hld] using hc
  obtain ⟨p, _, rfl⟩ := List.mem_map.mp hc
  split <;> decide
theorem meets_ok (hs : Wd m s) (ht : Wd m t) : D_meets [.d (.str s), .d (.str t)] S = .ok S (.val (.d (.bl (decide (dif s t = []))))) := by
  have e := differing_ok (S := S) hs ht
  have g : gEq (.lst ((dif s t).map fun k : Nat => .int k)) (.lst []) = vB (decide (dif s t = [])) := by
    have := gEq_ints (Z := (dif s t).map fun k : Nat => (k : Int)) (O := [])
    rw [List.map_map] at this
    refine Eq.trans this ?_
    congr 1
    simp
  refine def_pure ?_
  exact congrArg outS (show B_meets [.v (.d (.str s)), .v (.d (.str t))] S = _ from ret_ok (eqd_LL (callD (l := [.d (.str s), .d (.str t)]) (cons_d (var_ok rfl) (cons_d (var_ok rfl) nil_ok)) rfl e) (lst_ok nil_ok rfl) g))
end
end Q14
namespace Q14
open DN PySem L2
section
variable {n m k : Nat} {S : Sto} {env : DN.Env} {ws : List Str} {l : List Dv} {s t : Str}
abbrev wdA (ws : List Str) (i : Nat) : Str := ws.getD i Str.empty
def mt1 (ws : List Str) (i j : Nat) : Option Dv := if dif (wdA ws i) (wdA ws (i + 1 + j)) = [] then some (.tup [.int i, .int ((i + 1 + j : Nat) : Int), .str (hld (wdA ws i) (wdA ws (i + 1 + j)))]) else none
def mtI (ws : List Str) (i : Nat) : Option Dv := (List.range (ws.length - (i + 1))).findSome? (mt1 ws i)
def mtD (ws : List Str) : Dv := ((List.range ws.length).findSome? (mtI ws)).getD .non
theorem mtD_ok {k : Nat} : okN (k + 1) (mtD ws) = true := by
  unfold mtD
  cases q : (List.range ws.length).findSome? (mtI ws) with
  | none => rfl
  | some d =>
    obtain ⟨i, _, e⟩ := List.exists_of_findSome?_eq_some q
    unfold mtI at e
    obtain ⟨j, _, e⟩ := List.exists_of_findSome?_eq_some e
    unfold mt1 at e
    split at e
    · cases e
      show okNs k [_, _, _] = true
      show (okN k (.int _) && (okN k (.int _) && (okN k (.str _) && true))) = true
      rw [okN_int, okN_int, okN_str, hld_ok]; rfl
    · cases e
theorem enum_ws : enumD (ws.map Dv.str) = (List.range ws.length).map fun i : Nat => Dv.tup [.int i, .str (wdA ws i)] := by
  apply List.ext_getElem?
  intro i
  by_cases hi : i < ws.length
  · rw [enum_at (d := .str (wdA ws i)) (by rw [List.getElem?_map, ws_at hi]; rfl), List.getElem?_map, List.getElem?_range hi]; rfl
  · rw [List.getElem?_eq_none (by rw [enum_len, List.length_map]; omega), List.getElem?_eq_none (by simp; omega)]
abbrev MB : FS := (kIf (kVal (fCallD 2 D_meets (fCons (fVar 2) (fCons (fOp gIx (fPropD [("Addresses", 1, D_Addresses_words)] (fVar 0)) (fVar 3)) fNil)))) (kRet (fTup (fCons (fVar 1) (fCons (fVar 3) (fCons (fCallD 2 D_held_by_both (fCons (fVar 2) (fCons (fOp gIx (fPropD [("Addresses", 1, D_Addresses_words)] (fVar 0)) (fVar 3)) fNil))) fNil))))) kNext)
abbrev MI : FS := kFor (iRange2 (fCons (fOp gAdd (fVar 1) (fC (.int 1))) (fCons (fCall gLen (fCons (fPropD [("Addresses", 1, D_Addresses_words)] (fVar 0)) fNil)) fNil))) (tgN 3) MB
theorem mi_ok (h : Ws m ws) {i : Nat} (hi : i < ws.length) {a3 : Sl} : (∀ d, mtI ws i = some d → MI [.v (.d (Ao ws)), .v (.d (.int i)), .v (.d (.str (wdA ws i))), a3] S = .rt S (.val (.d d))) ∧ (mtI ws i = none → ∃ a3', MI [.v (.d (Ao ws)), .v (.d (.int i)), .v (.d (.str (wdA ws i))), a3] S = .nx [.v (.d (Ao ws)), .v (.d (.int i)), .v (.d (.str (wdA ws i))), a3'] S) := by
  have hl := h.le
  have e1 : (fCons (fOp gAdd (fVar 1) (fC (.int 1))) (fCons (fCall gLen (fCons (fPropD [("Addresses", 1, D_Addresses_words)] (fVar 0)) fNil)) fNil)) [.v (.d (Ao ws)), .v (.d (.int i)), .v (.d (.str (wdA ws i))), a3] S = .ok S [.d (.int ((i + 1 : Nat) : Int)), .d (.int ((ws.length : Nat) : Int))] :=
    cons_d (op_ok (a := .int i) (b := .int 1) (var_ok rfl) c_ok (by rw [gAdd_]; rfl)) (cons_d (call_ok (words_at rfl) (by rw [gLen_tup, List.length_map]; rfl)) nil_ok)
  have key := go_find (S := S) (tt := (List.range (ws.length - (i + 1))).map fun j : Nat => Dv.int ((i + 1 + j : Nat) : Int)) (tg := tgN 3) (body := MB) (fun j : Nat => Dv.int ((i + 1 + j : Nat) : Int)) (mt1 ws i) (I := fun env => ∃ a3', env = [.v (.d (Ao ws)), .v (.d (.int i)), .v (.d (.str (wdA ws i))), a3']) (l := List.range (ws.length - (i + 1))) (env := [.v (.d (Ao ws)), .v (.d (.int i)), .v (.d (.str (wdA ws i))), a3]) ⟨_, rfl⟩ (fun j hj env hI => by
    obtain ⟨a3', rfl⟩ := hI
    have hj := List.mem_range.mp hj
    have hj2 : i + 1 + j < ws.length := by omega
    refine ⟨[.v (.d (Ao ws)), .v (.d (.int i)), .v (.d (.str (wdA ws i))), .v (.d (.int ((i + 1 + j : Nat) : Int)))], rfl, ?_, ?_⟩
    all_goals
      have g : gIx (.tup (ws.map .str)) (.int ((i + 1 + j : Nat) : Int)) = vD (.str (wdA ws (i + 1 + j))) := gIx_tup (by rw [List.getElem?_map, ws_at hj2]; rfl)
      have ew : fOp gIx (fPropD [("Addresses", 1, D_Addresses_words)] (fVar 0)) (fVar 3) [.v (.d (Ao ws)), .v (.d (.int i)), .v (.d (.str (wdA ws i))), .v (.d (.int ((i + 1 + j : Nat) : Int)))] S = .ok S (.val (.d (.str (wdA ws (i + 1 + j))))) := op_ok (words_at rfl) (var_ok rfl) g
      have em := meets_ok (S := S) (h.at_ hi) (h.at_ hj2)
      have eh := held_ok (S := S) (h.at_ hi) (h.at_ hj2)
      unfold mt1
      intro q
    · intro hq
      by_cases c : dif (wdA ws i) (wdA ws (i + 1 + j)) = []
      · rw [if_pos c] at hq
        cases hq
        rw [decide_eq_true c] at em
        exact if_yes (val_s (callD (l := [.d (.str (wdA ws i)), .d (.str (wdA ws (i + 1 + j)))]) (cons_d (var_ok rfl) (cons_d ew nil_ok)) rfl em)) (ret_ok (tup_ok (l := [.d (.int i), .d (.int ((i + 1 + j : Nat) : Int)), .d (.str (hld (wdA ws i) (wdA ws (i + 1 + j))))]) (cons_d (var_ok rfl) (cons_d (var_ok rfl) (cons_d (callD (l := [.d (.str (wdA ws i)), .d (.str (wdA ws (i + 1 + j)))]) (cons_d (var_ok rfl) (cons_d ew nil_ok)) rfl eh) nil_ok))) rfl))
      · rw [if_neg c] at hq; cases hq
    · by_cases c : dif (wdA ws i) (wdA ws (i + 1 + j)) = []
      · rw [if_pos c] at q; cases q
      · rw [decide_eq_false c] at em
        exact ⟨_, if_no (val_s (callD (l := [.d (.str (wdA ws i)), .d (.str (wdA ws (i + 1 + j)))]) (cons_d (var_ok rfl) (cons_d ew nil_ok)) rfl em)) rfl, _, rfl⟩)
  have ef : ∀ env, env = ([.v (.d (Ao ws)), .v (.d (.int i)), .v (.d (.str (wdA ws i))), a3] : DN.Env) → MI env S = forGo ((List.range (ws.length - (i + 1))).map (fun j : Nat => Dv.int ((i + 1 + j : Nat) : Int)), none) (tgN 3) MB ((List.range (ws.length - (i + 1))).map fun j : Nat => Dv.int ((i + 1 + j : Nat) : Int)) env S := fun env he => by
    subst he
    show kFor _ _ _ _ _ = _
    unfold kFor
    rw [range_2 e1 (by omega) (by omega)]
    rfl
  rw [ef _ rfl]
  refine ⟨key.1, fun q => ?_⟩
  obtain ⟨env', e, a3', rfl⟩ := key.2 q
  exact ⟨a3', e⟩
theorem meeting_ok (h : Ws m ws) : D_meeting [.d (Ao ws)] S = .ok S (.val (.d (mtD ws))) := by
  have hl := h.le
  have key := go_find (S := S) (tt := (List.range ws.length).map fun i : Nat => Dv.tup [.int i, .str (wdA ws i)]) (tg := tgT (tgCons (tgN 1) (tgCons (tgN 2) tgNil))) (body := MI) (fun i : Nat => Dv.tup [.int i, .str (wdA ws i)]) (mtI ws) (I := fun env => ∃ a1 a2 a3, env = [.v (.d (Ao ws)), a1, a2, a3]) (l := List.range ws.length) (env := [.v (.d (Ao ws)), .u, .u, .u]) ⟨_, _, _, rfl⟩ (fun i hi env hI => by
    obtain ⟨a1, a2, a3, rfl⟩ := hI
    have q := mi_ok (S := S) h (List.mem_range.mp hi) (a3 := a3)
    refine ⟨[.v (.d (Ao ws)), .v (.d (.int i)), .v (.d (.str (wdA ws i))), a3], rfl, q.1, fun z => ?_⟩
    obtain ⟨a3', e⟩ := q.2 z
    exact ⟨_, e, _, _, _, rfl⟩)
  have ef : kFor (iEnumT (fPropD [("Addresses", 1, D_Addresses_words)] (fVar 0))) (tgT (tgCons (tgN 1) (tgCons (tgN 2) tgNil))) MI [.v (.d (Ao ws)), .u, .u, .u] S = forGo ((List.range ws.length).map (fun i : Nat => Dv.tup [.int i, .str (wdA ws i)]), none) (tgT (tgCons (tgN 1) (tgCons (tgN 2) tgNil))) MI ((List.range ws.length).map fun i : Nat => Dv.tup [.int i, .str (wdA ws i)]) [.v (.d (Ao ws)), .u, .u, .u] S := by
    have ei : iEnumT (fPropD [("Addresses", 1, D_Addresses_words)] (fVar 0)) [.v (.d (Ao ws)), .u, .u, .u] S = .ok S ((List.range ws.length).map (fun i : Nat => Dv.tup [.int i, .str (wdA ws i)]), none) := by
      unfold iEnumT
      rw [words_at (ws := ws) rfl, ← enum_ws]
      rfl
    unfold kFor
    rw [ei]
    rfl
  refine def_pure ?_
  have ck : kExpr (fCallD 1 D_check_addresses (fCons (fVar 0) fNil)) [.v (.d (Ao ws)), .u, .u, .u] S = .nx [.v (.d (Ao ws)), .u, .u, .u] S := exp_ok (callD (l := [.d (Ao ws)]) (cons_d (var_ok rfl) nil_ok) rfl ck_ok)
  unfold mtD
  cases q : (List.range ws.length).findSome? (mtI ws) with
  | some d => exact congrArg outS (show B_meeting [.v (.d (Ao ws)), .u, .u, .u] S = .rt S (.val (.d d)) from seq_nx ck (seq_rt (ef.trans (key.1 d q))))
  | none =>
    obtain ⟨env', e, _⟩ := key.2 q
    exact congrArg outS (show B_meeting [.v (.d (Ao ws)), .u, .u, .u] S = .rt S (.val (.d .non)) from seq_nx ck (seq_nx (ef.trans e) (ret_ok c_ok)))
theorem okN_wsD (h : Ws m ws) {k : Nat} : okN (k + 1) (.tup (ws.map .str)) = true := h.ok k
theorem ok_tabD {k : Nat} : okN (k + 2) (.lst (tabD ws)) = true := by
  rw [okN_lst]
  refine okNs_all fun d hd => ?_
  obtain ⟨a, _, rfl⟩ := List.mem_map.mp hd
  show okNs k (ws.map fun b => Dv.int (dif a b).length) = true
  refine okNs_all fun d hd => ?_
  obtain ⟨b, _, rfl⟩ := List.mem_map.mp hd
  exact okN_int
theorem told_tot (h : Ws m ws) : ∃ l, okN 60 (.lst l) = true ∧ ∀ S, D_law_told [.d (Ao ws)] S = .ok S (.new (.lst l)) := by
  obtain ⟨P, hP, eP⟩ := pairs_tot h
  refine ⟨[.lst P, .lst (dn (NLs ws m)), mtD ws, .tup ((trW ws m).map .str), .lst (tabD ws)], ?_, fun S => ?_⟩
  · show (okN 59 _ && (okN 59 _ && (okN 59 _ && (okN 59 _ && (okN 59 _ && true))))) = true
    have h2 : okN 59 (.lst (dn (NLs ws m))) = true := by rw [okN_lst]; exact ok_dn
    have h3 : okN 59 (mtD ws) = true := mtD_ok
    have h4 : okN 59 (.tup ((trW ws m).map .str)) = true := okN_wsD (trW_ok h)
    have h5 : okN 59 (.lst (tabD ws)) = true := ok_tabD
    rw [hP, h2, h3, h4, h5]; rfl
  · refine def_new ?_
    have a1 : ∀ {D : FD} {r : R Rt}, D [.d (Ao ws)] S = r → fCallD 1 D (fCons (fVar 0) fNil) [.v (.d (Ao ws))] S = r := fun {D r} e => callD (l := [.d (Ao ws)]) (cons_d (var_ok rfl) nil_ok) rfl e
    have e4 : fPropD [("Addresses", 1, D_Addresses_words)] (fCallD 1 D_trimmed (fCons (fVar 0) fNil)) [.v (.d (Ao ws))] S = .ok S (.val (.d (.tup ((trW ws m).map .str)))) := by
      have e := trimmed_ok (S := S) h
      have ew : D_Addresses_words [.d (.obj "Addresses" [.tup ((trW ws m).map .str)])] S = .ok S (.val (.d (.tup ((trW ws m).map .str)))) := awords_ok
      generalize (trW ws m).map Dv.str = W at e ew ⊢
      simp_arith [e, ew, okR_ok']
    have e5 : fMethD [("Addresses", 1, D_Addresses_table)] (fVar 0) fNil [.v (.d (Ao ws))] S = .ok S (.new (.lst (tabD ws))) := meth (l := []) (m := 1) (D := D_Addresses_table) (var_v rfl) cls_ao (by rw [at_cons, beq_self_eq_true]; rfl) nil_ok rfl (table_ok h)
    exact congrArg outS (show B_law_told [.v (.d (Ao ws))] S = _ from ret_ok (lst_ok (l := [.d (.lst P), .d (.lst (dn (NLs ws m))), .d (mtD ws), .d (.tup ((trW ws m).map .str)), .d (.lst (tabD ws))]) (cons_L (a1 (eP S)) (cons_L (a1 (needless_ok h)) (cons_d (a1 (meeting_ok h)) (cons_d e4 (cons_L e5 nil_ok))))) rfl))
end
end Q14
namespace Q14
open DN PySem L2
section
variable {n m k i j p q : Nat} {S S1 : Sto} {env env' : DN.Env} {ws vs : List Str} {l : List Dv} {s t : Str} {fl : FA} {a b : Vr} {W P Q : List Dv} {bk bk2 d : Dv}
theorem par_ok (h : fl env S = .ok S1 [a, b]) (he : (env.set i (.v a)).set j (.v b) = env') : kPar i j fl env S = .nx env' S1 := by
  unfold kPar
  rw [h, ← he]
  rfl
theorem ixs_at (h : Wd n s) (hk : k < n) (h0 : env[p]? = some (.v (.d (.str s)))) (h1 : env[q]? = some (.v (.d (.int k)))) : fIxD [("Addresses", 2, D_Addresses_getitem)] (fVar p) (fVar q) env S = .ok S (.val (.d (.str ⟨#[s.cps.toList.getD k 0]⟩))) := by
  have g := gIx_str h.sz (at_ok h hk).1
  simp_arith [h0, h1, g]
theorem dsp_ix {c : Nat} (h : OP.okc c = true) : gIx (.dic false [.str "0", .str "1", .str "*"] [.str "1", .str "0", .str "*"]) (.str ⟨#[c]⟩) = vD (.str ⟨#[fc c]⟩) := by
  rcases okc_3 h with rfl | rfl | rfl <;> rfl
theorem over_l {f : Str → Str} {fe : FE} (h : Ws m ws) (h0 : env[p]? = some (.v (.d (.lst (ws.map .str))))) (hx : ∀ s ∈ ws, ∃ env', tgN q (.str s) (wipeE env [q]) = some env' ∧ fe env' S = .ok S (.val (.d (.str (f s))))) : fLc (iVal (fVar p)) (tgN q) kYes fe [q] env S = .ok S (.new (.lst ((ws.map f).map .str))) := by
  have hl := h.le
  have ei : iVal (fVar p) env S = .ok S (ws.map .str, none) := by simp_arith [h0]
  have e := fLc_mp (fi := iVal (fVar p)) (tg := tgN q) (ft := kYes) (fe := fe) (vs := [q]) (env := env) (S := S) Dv.str ws (fun _ => true) (fun s => .str (f s)) ei (by omega) (fun s hs => by
    obtain ⟨env', e1, e2⟩ := hx s hs
    exact ⟨env', e1, rfl, fun _ => got_of e2⟩)
  rw [filter_tt] at e
  rw [e, List.map_map]
  rfl
theorem law_flipped_ok (h : Ws m ws) (hk : k < m) : D_law_flipped [.d (.lst (ws.map .str)), .d (.int k)] S = .ok S (.new (.lst ((ws.map (fwS k)).map .str))) := by
  refine def_new ?_
  exact congrArg outS (show B_law_flipped [.v (.d (.lst (ws.map .str))), .v (.d (.int k)), .u] S = _ from ret_ok (over_l h rfl fun s hs => ⟨[.v (.d (.lst (ws.map .str))), .v (.d (.int k)), .v (.d (.str s))], rfl, by
    have w := h.all s hs
    have hl := w.le
    have e1 := ixs_at (S := S) (env := [.v (.d (.lst (ws.map .str))), .v (.d (.int k)), .v (.d (.str s))]) (p := 2) (q := 1) w hk rfl rfl
    have e2 : fOp gIx (fDisp [.str "0", .str "1", .str "*"] [.str "1", .str "0", .str "*"]) (fIxD [("Addresses", 2, D_Addresses_getitem)] (fVar 2) (fVar 1)) [.v (.d (.lst (ws.map .str))), .v (.d (.int k)), .v (.d (.str s))] S = .ok S (.val (.d (.str ⟨#[fc (s.cps.toList.getD k 0)]⟩))) := by
      have g := dsp_ix (at_ok w hk).2
      generalize ws.map Dv.str = W at e1 ⊢
      simp_arith [↓e1, g]
    have w1 := tk_wd w (k := k) (by omega)
    have w2 := f1_wd w hk
    exact cat_at (cat_at (tk_at w (by omega) rfl rfl) e2 w1 w2) (dp_at w hk rfl rfl) (w1.app w2 (by omega)) (dp_wd (k := k + 1) w (by omega))⟩))
theorem law_without_ok (h : Ws m ws) (hk : k < m) : D_law_without [.d (.lst (ws.map .str)), .d (.int k)] S = .ok S (.new (.lst ((ws.map (wwS k)).map .str))) := by
  refine def_new ?_
  exact congrArg outS (show B_law_without [.v (.d (.lst (ws.map .str))), .v (.d (.int k)), .u] S = _ from ret_ok (over_l h rfl fun s hs => ⟨[.v (.d (.lst (ws.map .str))), .v (.d (.int k)), .v (.d (.str s))], rfl, ww_at (h.all s hs) hk rfl rfl⟩))
theorem tbl_m (h : Ws m ws) (h0 : env[p]? = some (.v (.d (Ao ws)))) : fMethD [("Addresses", 1, D_Addresses_table)] (fVar p) fNil env S = .ok S (.new (.lst (tabD ws))) :=
  meth (l := []) (m := 1) (D := D_Addresses_table) (var_v h0) cls_ao (by rw [at_cons, beq_self_eq_true]; rfl) nil_ok rfl (table_ok h)
theorem fl_m (h : Ws m ws) (hk : k < m) (h0 : env[p]? = some (.v (.d (Ao ws)))) (h1 : env[q]? = some (.v (.d (.int k)))) : fMethD [("Addresses", 2, D_Addresses_flipped)] (fVar p) (fCons (fVar q) fNil) env S = .ok S (.new (.ob "Addresses" [.tup ((ws.map (fwS k)).map .str)])) :=
  meth (l := [.d (.int k)]) (m := 2) (D := D_Addresses_flipped) (var_v h0) cls_ao (by rw [at_cons, beq_self_eq_true]; rfl) (cons_v (var_v h1) nil_ok) rfl (flipped_ok h hk)
theorem wo_m (h : Ws m ws) (hk : k < m) (h0 : env[p]? = some (.v (.d (Ao ws)))) (h1 : env[q]? = some (.v (.d (.int k)))) : fMethD [("Addresses", 2, D_Addresses_without)] (fVar p) (fCons (fVar q) fNil) env S = .ok S (.new (.ob "Addresses" [.tup ((ws.map (wwS k)).map .str)])) :=
  meth (l := [.d (.int k)]) (m := 2) (D := D_Addresses_without) (var_v h0) cls_ao (by rw [at_cons, beq_self_eq_true]; rfl) (cons_v (var_v h1) nil_ok) rfl (without_ok h hk)
theorem lw_m (h0 : env[p]? = some (.v (.d (Ao ws)))) : fCall gList (fCons (fPropD [("Addresses", 1, D_Addresses_words)] (fVar p)) fNil) env S = .ok S (.new (.lst (ws.map .str))) := call_new (words_at h0) gList_tup
theorem ne_ws (h : Ws m ws) : gNe (.lst (ws.map .str)) (.lst (ws.map .str)) = vB false := gNe_refl (by rw [okN_lst]; exact h.ok _)
theorem ne_tab : gNe (.lst (tabD ws)) (.lst (tabD ws)) = vB false := gNe_refl ok_tabD
/-- `list != value`, both lists -/
theorem ned_L {fa fb : FE} (ha : fa env S = .ok S (.new (.lst P))) (hb : fb env S = .ok S (.val (.d (.lst Q)))) (hg : gNe (.lst P) (.lst Q) = vB false) : fEqD CL CT true fa fb env S = .ok S (.val (.d (.bl false))) := by
  simp_arith [ha, hb, hg]
theorem aeq_ok (h : Ws m ws) : D_Addresses_eq [.d (Ao ws), .d (Ao ws)] S = .ok S (.val (.d (.bl true))) := by
  have e : gEq (.tup (ws.map .str)) (.tup (ws.map .str)) = vB true := gEq_refl (by rw [okN_tup]; exact h.ok _)
  show D_Addresses_eq [.d (.obj "Addresses" [.tup (ws.map .str)]), .d (.obj "Addresses" [.tup (ws.map .str)])] S = _
  generalize ws.map Dv.str = W at e ⊢
  have kf : gFld ["Addresses"] "kept" (.obj "Addresses" [.tup W]) = vD (.tup W) := rfl
  have ia : gIsi ["Addresses"] (.obj "Addresses" [.tup W]) (.cls "Addresses") = vB true := rfl
  refine def_pure ?_
  simp_arith [ia, kf, e]
theorem anq_ok (h : Ws m ws) {b : Bool} : eqR CL CT b S (.d (Ao ws)) (.d (Ao ws)) = .ok S (.val (.d (.bl (!b)))) := by
  have : askT CT "Addresses" [.d (Ao ws), .d (Ao ws)] S = D_Addresses_eq [.d (Ao ws), .d (Ao ws)] S := rfl
  cases b
  · show onlyV (pBl false) (askT CT "Addresses" [.d (Ao ws), .d (Ao ws)] S) = _
    rw [this, aeq_ok h]; rfl
  · show onlyV (pBl true) (askT CT "Addresses" [.d (Ao ws), .d (Ao ws)] S) = _
    rw [this, aeq_ok h]; rfl
/-- a new book against one that is there -/
theorem ned_O {fa fb : FE} {b : Bool} (h : Ws m ws) (ha : fa env S = .ok S (.new (.ob "Addresses" [.tup (ws.map .str)]))) (hb : fb env S = .ok S (.val (.d (Ao ws)))) : fEqD CL CT b fa fb env S = .ok S (.val (.d (.bl (!b)))) := by
  have e := anq_ok (S := S) h (b := b)
  have hb : fb env S = .ok S (.val (.d (.obj "Addresses" [.tup (ws.map .str)]))) := hb
  replace e : eqR CL CT b S (.d (.obj "Addresses" [.tup (ws.map .str)])) (.d (.obj "Addresses" [.tup (ws.map .str)])) = _ := e
  generalize ws.map Dv.str = W at ha hb e
  simp_arith [ha, hb, e]
theorem fw_all (h : Ws m ws) (hk : k < m) : (ws.map (fwS k)).map (fwS k) = ws := by
  rw [List.map_map]
  conv => rhs; rw [← List.map_id ws]
  exact List.map_congr_left fun s hs => fw_fw (h.all s hs) hk
end
end Q14
namespace Q14
open DN PySem L2
section
variable {n m k i j p q : Nat} {S S1 : Sto} {env env' : DN.Env} {ws vs : List Str} {l : List Dv} {s t a : Str} {fl : FA} {W P Q : List Dv} {bk bk2 d : Dv} {u2 u3 u4 u5 u6 u7 u8 u9 u10 u11 u12 : Sl}
theorem ixl_at (h0 : env[p]? = some (.v (.d (.lst l)))) (h1 : env[q]? = some (.v (.d (.int i)))) (hx : l[i]? = some d) : fIxD [("Addresses", 2, D_Addresses_getitem)] (fVar p) (fVar q) env S = .ok S (.val (.d d)) := by
  have g : gIx (.lst l) (.int i) = vD d := gIx_lst hx
  simp_arith [h0, h1, g]
theorem len0_at (h : Ws m ws) (h0 : env[p]? = some (.v (.d (.lst (ws.map .str))))) : fLenD [("Addresses", 1, D_Addresses_len)] (fCons (fIxD [("Addresses", 2, D_Addresses_getitem)] (fVar p) (fC (.int 0))) fNil) env S = .ok S (.val (.d (.int m))) := by
  obtain ⟨x, h1, hx⟩ := h.head
  have g : gIx (.lst (ws.map .str)) (.int 0) = vD (.str x) := gIx_lst (i := 0) (by rw [List.getElem?_map, h1]; rfl)
  have gl : gLen [.str x] = vI m := by rw [gLen_str hx.sz, hx.length]
  generalize ws.map Dv.str = W at h0 g
  simp_arith [h0, g, gl]
theorem tab_at (hi : i < ws.length) : (tabD ws)[i]? = some (rowD ws (wdA ws i)) := by
  unfold tabD
  rw [List.getElem?_map, ws_at hi]; rfl
def rwL (ws : List Str) (k : Nat) (a : Str) : List Dv := ws.map fun b => Dv.int (bz [a.cps.toList.getD k 0] [b.cps.toList.getD k 0] : Nat)
abbrev PR1 : FS := (kSet 9 (fLc (iVal (fVar 0)) (tgN 10) kYes (fCallD 2 D_law_apart (fCons (fIxD [("Addresses", 2, D_Addresses_getitem)] (fVar 8) (fVar 3)) (fCons (fIxD [("Addresses", 2, D_Addresses_getitem)] (fVar 10) (fVar 3)) fNil))) [10]))
abbrev PR2 : FS := (kIf (kVal (fOp gNe (fLc (iZipUD (fCons (fIxD [("Addresses", 2, D_Addresses_getitem)] (fVar 6) (fVar 7)) (fCons (fVar 9) fNil))) (tgT (tgCons (tgN 11) (tgCons (tgN 12) tgNil))) kYes (fOp gAdd (fVar 11) (fVar 12)) [11, 12]) (fCall gList (fCons (fIxD [("Addresses", 2, D_Addresses_getitem)] (fVar 2) (fVar 7)) fNil)))) (kRet (fC (.bl false))) kNext)
abbrev EPl (ws : List Str) (k : Nat) (u7 u8 u9 u10 u11 u12 : Sl) : DN.Env := [.v (.d (.lst (ws.map .str))), .v (.d (Ao ws)), .v (.d (.lst (tabD ws))), .v (.d (.int k)), .v (.d (Ao (ws.map (fwS k)))), .v (.d (Ao (ws.map (wwS k)))), .v (.d (.lst (tabD (ws.map (wwS k))))), u7, u8, u9, u10, u11, u12]
theorem pr1_ok (h : Ws m ws) (hk : k < m) (ha : Wd m a) : PR1 (EPl ws k (.v (.d (.int i))) (.v (.d (.str a))) u9 u10 u11 u12) S = .nx (EPl ws k (.v (.d (.int i))) (.v (.d (.str a))) (.v (.d (.lst (rwL ws k a)))) u10 u11 u12) S := by
  have hl := h.le
  have e := fLc_mp (fi := iVal (fVar 0)) (tg := tgN 10) (ft := kYes) (fe := fCallD 2 D_law_apart (fCons (fIxD [("Addresses", 2, D_Addresses_getitem)] (fVar 8) (fVar 3)) (fCons (fIxD [("Addresses", 2, D_Addresses_getitem)] (fVar 10) (fVar 3)) fNil))) (vs := [10]) (env := EPl ws k (.v (.d (.int i))) (.v (.d (.str a))) u9 u10 u11 u12) (S := S) Dv.str ws (fun _ => true) (fun b => Dv.int (bz [a.cps.toList.getD k 0] [b.cps.toList.getD k 0] : Nat)) rfl (by omega) (fun b hb =>
    ⟨EPl ws k (.v (.d (.int i))) (.v (.d (.str a))) u9 (.v (.d (.str b))) u11 u12, rfl, rfl, fun _ => got_of (callD (l := [.d (.str ⟨#[a.cps.toList.getD k 0]⟩), .d (.str ⟨#[b.cps.toList.getD k 0]⟩)]) (cons_d (ixs_at ha hk rfl rfl) (cons_d (ixs_at (h.all b hb) hk rfl rfl) nil_ok)) rfl (law_apart_ok (wd1 ha hk) (wd1 (h.all b hb) hk)))⟩)
  rw [filter_tt] at e
  exact st_setL e rfl
theorem sum_row (h : Ws m ws) (hk : k < m) (ha : Wd m a) {b : Str} (hb : b ∈ ws) : ((dif (wwS k a) (wwS k b)).length : Int) + (bz [a.cps.toList.getD k 0] [b.cps.toList.getD k 0] : Nat) = ((dif a b).length : Nat) := by
  have wb := h.all b hb
  rw [bz1, dif_bz (ww_wd ha hk) (ww_wd wb hk), dif_bz ha wb, ← bz_ww ha wb hk]
  rfl
theorem pr2_ok (h : Ws m ws) (hk : k < m) (hi : i < ws.length) : PR2 (EPl ws k (.v (.d (.int i))) (.v (.d (.str (wdA ws i)))) (.v (.d (.lst (rwL ws k (wdA ws i))))) u10 u11 u12) S = .nx (EPl ws k (.v (.d (.int i))) (.v (.d (.str (wdA ws i)))) (.v (.d (.lst (rwL ws k (wdA ws i))))) u10 u11 u12) S := by
  have hl := h.le
  have ha := h.at_ hi
  have e6 : fIxD [("Addresses", 2, D_Addresses_getitem)] (fVar 6) (fVar 7) (EPl ws k (.v (.d (.int i))) (.v (.d (.str (wdA ws i)))) (.v (.d (.lst (rwL ws k (wdA ws i))))) u10 u11 u12) S = .ok S (.val (.d (.tup (ws.map fun b => Dv.int ((dif (wwS k (wdA ws i)) (wwS k b)).length : Nat))))) := by
    refine ixl_at rfl rfl (i := i) ?_
    unfold tabD
    rw [List.map_map, List.getElem?_map, ws_at hi]
    show some (rowD (ws.map (wwS k)) (wwS k (wdA ws i))) = _
    unfold rowD
    rw [List.map_map]
    rfl
  have e2 : fIxD [("Addresses", 2, D_Addresses_getitem)] (fVar 2) (fVar 7) (EPl ws k (.v (.d (.int i))) (.v (.d (.str (wdA ws i)))) (.v (.d (.lst (rwL ws k (wdA ws i))))) u10 u11 u12) S = .ok S (.val (.d (.tup (ws.map fun b => Dv.int ((dif (wdA ws i) b).length : Nat))))) := ixl_at rfl rfl (i := i) (tab_at hi)
  have ei : iZipUD (fCons (fIxD [("Addresses", 2, D_Addresses_getitem)] (fVar 6) (fVar 7)) (fCons (fVar 9) fNil)) (EPl ws k (.v (.d (.int i))) (.v (.d (.str (wdA ws i)))) (.v (.d (.lst (rwL ws k (wdA ws i))))) u10 u11 u12) S = .ok S (ws.map (fun b => Dv.tup [.int ((dif (wwS k (wdA ws i)) (wwS k b)).length : Nat), .int (bz [(wdA ws i).cps.toList.getD k 0] [b.cps.toList.getD k 0] : Nat)]), none) := by
    have e0 := cons_d e6 (cons_d (var_ok (S := S) (env := EPl ws k (.v (.d (.int i))) (.v (.d (.str (wdA ws i)))) (.v (.d (.lst (rwL ws k (wdA ws i))))) u10 u11 u12) (i := 9) rfl) nil_ok)
    unfold iZipUD
    rw [e0]
    show itZipU S [.d (.tup _), .d (.lst (rwL ws k (wdA ws i)))] = _
    unfold itZipU
    simp only
    unfold rwL
    rw [if_pos (by rw [List.length_map, List.length_map])]
    unfold zipD
    rw [List.zip_map', List.map_map]
    rfl
  have ec := fLc_mp (fi := iZipUD (fCons (fIxD [("Addresses", 2, D_Addresses_getitem)] (fVar 6) (fVar 7)) (fCons (fVar 9) fNil))) (tg := tgT (tgCons (tgN 11) (tgCons (tgN 12) tgNil))) (ft := kYes) (fe := fOp gAdd (fVar 11) (fVar 12)) (vs := [11, 12]) (env := EPl ws k (.v (.d (.int i))) (.v (.d (.str (wdA ws i)))) (.v (.d (.lst (rwL ws k (wdA ws i))))) u10 u11 u12) (S := S)
    (fun b => Dv.tup [.int ((dif (wwS k (wdA ws i)) (wwS k b)).length : Nat), .int (bz [(wdA ws i).cps.toList.getD k 0] [b.cps.toList.getD k 0] : Nat)]) ws (fun _ => true) (fun b => Dv.int ((dif (wdA ws i) b).length : Nat)) ei (by omega) (fun b hb => ⟨EPl ws k (.v (.d (.int i))) (.v (.d (.str (wdA ws i)))) (.v (.d (.lst (rwL ws k (wdA ws i))))) u10 (.v (.d (.int ((dif (wwS k (wdA ws i)) (wwS k b)).length : Nat)))) (.v (.d (.int (bz [(wdA ws i).cps.toList.getD k 0] [b.cps.toList.getD k 0] : Nat)))), rfl, rfl, fun _ => got_of (op_ok (var_ok rfl) (var_ok rfl) (by rw [gAdd_, sum_row h hk ha hb]; rfl))⟩)
  rw [filter_tt] at ec
  have en : gNe (.lst (ws.map fun b => Dv.int ((dif (wdA ws i) b).length : Nat))) (.lst (ws.map fun b => Dv.int ((dif (wdA ws i) b).length : Nat))) = vB false := gNe_refl (by
    rw [okN_lst]
    refine okNs_all fun d hd => ?_
    obtain ⟨b, _, rfl⟩ := List.mem_map.mp hd
    exact okN_int)
  exact if_no (val_s (op_LL ec (call_new e2 gList_tup) en)) rfl
end
end Q14
namespace Q14
open DN PySem L2
section
variable {n m k i j p q : Nat} {S S1 : Sto} {env env' : DN.Env} {ws vs : List Str} {l : List Dv} {s t a : Str} {u2 u3 u4 u5 u6 u7 u8 u9 u10 u11 u12 : Sl}
abbrev PS5 : FS := kFor (iEnumD (fVar 0)) (tgT (tgCons (tgN 7) (tgCons (tgN 8) tgNil))) (kSeq PR1 PR2)
theorem ps5_ok (h : Ws m ws) (hk : k < m) : ∃ v7 v8 v9, PS5 (EPl ws k u7 u8 u9 u10 u11 u12) S = .nx (EPl ws k v7 v8 v9 u10 u11 u12) S := by
  have hl := h.le
  have key := go_find (S := S) (tt := (List.range ws.length).map fun i : Nat => Dv.tup [.int i, .str (wdA ws i)]) (tg := tgT (tgCons (tgN 7) (tgCons (tgN 8) tgNil))) (body := kSeq PR1 PR2) (fun i : Nat => Dv.tup [.int i, .str (wdA ws i)]) (fun _ => none) (I := fun env => ∃ v7 v8 v9, env = EPl ws k v7 v8 v9 u10 u11 u12) (l := List.range ws.length) (env := EPl ws k u7 u8 u9 u10 u11 u12) ⟨_, _, _, rfl⟩ (fun i hi env hI => by
    obtain ⟨v7, v8, v9, rfl⟩ := hI
    have hi := List.mem_range.mp hi
    refine ⟨EPl ws k (.v (.d (.int i))) (.v (.d (.str (wdA ws i)))) v9 u10 u11 u12, rfl, ?_, ?_⟩
    · intro d hd
      cases hd
    · intro _
      exact ⟨_, seq_nx (pr1_ok h hk (h.at_ hi)) (pr2_ok h hk hi), _, _, _, rfl⟩)
  have ei : iEnumD (fVar 0) (EPl ws k u7 u8 u9 u10 u11 u12) S = .ok S ((List.range ws.length).map (fun i : Nat => Dv.tup [.int i, .str (wdA ws i)]), none) := by
    rw [← enum_ws]
    rfl
  obtain ⟨env', e, v7, v8, v9, rfl⟩ := key.2 (by simp)
  refine ⟨v7, v8, v9, ?_⟩
  show kFor _ _ _ _ _ = _
  unfold kFor
  rw [ei]
  exact e
abbrev PS1 : FS := (kPar 4 5 (fCons (fMethD [("Addresses", 2, D_Addresses_flipped)] (fVar 1) (fCons (fVar 3) fNil)) (fCons (fMethD [("Addresses", 2, D_Addresses_without)] (fVar 1) (fCons (fVar 3) fNil)) fNil)))
abbrev PS2 : FS := (kIf (kOr (kVal (fOp gNe (fCall gList (fCons (fPropD [("Addresses", 1, D_Addresses_words)] (fVar 4)) fNil)) (fCallD 2 D_law_flipped (fCons (fVar 0) (fCons (fVar 3) fNil))))) (kVal (fEqD ["Addresses"] [("Addresses", 2, D_Addresses_eq)] true (fMethD [("Addresses", 1, D_Addresses_table)] (fVar 4) fNil) (fVar 2)))) (kRet (fC (.bl false))) kNext)
abbrev PS3 : FS := (kSet 6 (fMethD [("Addresses", 1, D_Addresses_table)] (fVar 5) fNil))
abbrev PS4 : FS := (kIf (kOr (kVal (fOp gNe (fCall gList (fCons (fPropD [("Addresses", 1, D_Addresses_words)] (fVar 5)) fNil)) (fCallD 2 D_law_without (fCons (fVar 0) (fCons (fVar 3) fNil))))) (kVal (fOp gNe (fPropD [("Addresses", 1, D_Addresses_length)] (fVar 5)) (fOp gSub (fLenD [("Addresses", 1, D_Addresses_len)] (fCons (fIxD [("Addresses", 2, D_Addresses_getitem)] (fVar 0) (fC (.int 0))) fNil)) (fC (.int 1)))))) (kRet (fC (.bl false))) kNext)
abbrev PS6 : FS := (kIf (kVal (fEqD ["Addresses"] [("Addresses", 2, D_Addresses_eq)] true (fMethD [("Addresses", 2, D_Addresses_flipped)] (fVar 4) (fCons (fVar 3) fNil)) (fVar 1))) (kRet (fC (.bl false))) kNext)
abbrev PSB : FS := kSeq PS1 (kSeq PS2 (kSeq PS3 (kSeq PS4 (kSeq PS5 PS6))))
theorem psb_ok (h : Ws m ws) (hk : k < m) : ∃ v4 v5 v6 v7 v8 v9, PSB [.v (.d (.lst (ws.map .str))), .v (.d (Ao ws)), .v (.d (.lst (tabD ws))), .v (.d (.int k)), u4, u5, u6, u7, u8, u9, u10, u11, u12] S = .nx [.v (.d (.lst (ws.map .str))), .v (.d (Ao ws)), .v (.d (.lst (tabD ws))), .v (.d (.int k)), v4, v5, v6, v7, v8, v9, u10, u11, u12] S := by
  have hl := h.le
  have wf : Ws m (ws.map (fwS k)) := ws_map h fun s hs => fw_wd hs hk
  have wo : Ws (m - 1) (ws.map (wwS k)) := ws_map h fun s hs => ww_wd hs hk
  have s1 : PS1 [.v (.d (.lst (ws.map .str))), .v (.d (Ao ws)), .v (.d (.lst (tabD ws))), .v (.d (.int k)), u4, u5, u6, u7, u8, u9, u10, u11, u12] S = .nx [.v (.d (.lst (ws.map .str))), .v (.d (Ao ws)), .v (.d (.lst (tabD ws))), .v (.d (.int k)), .v (.d (Ao (ws.map (fwS k)))), .v (.d (Ao (ws.map (wwS k)))), u6, u7, u8, u9, u10, u11, u12] S := par_ok (cons_O (fl_m h hk rfl rfl) (cons_O (wo_m h hk rfl rfl) nil_ok)) rfl
  have s2 : PS2 [.v (.d (.lst (ws.map .str))), .v (.d (Ao ws)), .v (.d (.lst (tabD ws))), .v (.d (.int k)), .v (.d (Ao (ws.map (fwS k)))), .v (.d (Ao (ws.map (wwS k)))), u6, u7, u8, u9, u10, u11, u12] S = .nx [.v (.d (.lst (ws.map .str))), .v (.d (Ao ws)), .v (.d (.lst (tabD ws))), .v (.d (.int k)), .v (.d (Ao (ws.map (fwS k)))), .v (.d (Ao (ws.map (wwS k)))), u6, u7, u8, u9, u10, u11, u12] S :=
    if_no (orNo (val_s (op_LL (lw_m rfl) (callD (l := [.d (.lst (ws.map .str)), .d (.int k)]) (cons_d (var_ok rfl) (cons_d (var_ok rfl) nil_ok)) rfl (law_flipped_ok h hk)) (ne_ws wf))) (val_s (ned_L (tbl_m wf rfl) (var_ok rfl) (by rw [tab_fw h hk]; exact ne_tab)))) rfl
  have s3 : PS3 [.v (.d (.lst (ws.map .str))), .v (.d (Ao ws)), .v (.d (.lst (tabD ws))), .v (.d (.int k)), .v (.d (Ao (ws.map (fwS k)))), .v (.d (Ao (ws.map (wwS k)))), u6, u7, u8, u9, u10, u11, u12] S = .nx (EPl ws k u7 u8 u9 u10 u11 u12) S := st_setL (tbl_m wo rfl) rfl
  have s4 : PS4 (EPl ws k u7 u8 u9 u10 u11 u12) S = .nx (EPl ws k u7 u8 u9 u10 u11 u12) S :=
    if_no (orNo (val_s (op_LL (lw_m rfl) (callD (l := [.d (.lst (ws.map .str)), .d (.int k)]) (cons_d (var_ok rfl) (cons_d (var_ok rfl) nil_ok)) rfl (law_without_ok h hk)) (ne_ws wo))) (val_s (op_ok (a := .int ((m - 1 : Nat) : Int)) (b := .int ((m - 1 : Nat) : Int)) (size_at wo rfl) (op_ok (a := .int m) (b := .int 1) (len0_at h rfl) c_ok (by rw [gSub_, show (m : Int) - 1 = ((m - 1 : Nat) : Int) by omega]; rfl)) (by rw [gNe_int, decide_eq_true rfl]; rfl)))) rfl
  obtain ⟨v7, v8, v9, s5⟩ := ps5_ok (S := S) h hk (u7 := u7) (u8 := u8) (u9 := u9) (u10 := u10) (u11 := u11) (u12 := u12)
  have s6 : PS6 (EPl ws k v7 v8 v9 u10 u11 u12) S = .nx (EPl ws k v7 v8 v9 u10 u11 u12) S := by
    have e := fl_m (S := S) (env := EPl ws k v7 v8 v9 u10 u11 u12) (p := 4) (q := 3) wf hk rfl rfl
    rw [fw_all h hk] at e
    exact if_no (val_s (ned_O h e (var_ok rfl))) rfl
  exact ⟨_, _, _, _, _, _, seq_nx s1 (seq_nx s2 (seq_nx s3 (seq_nx s4 (seq_nx s5 s6))))⟩
theorem places_right_ok (h : Ws m ws) : D_law_places_right [.d (.lst (ws.map .str)), .d (Ao ws)] S = .ok S (.val (.d (.bl true))) := by
  have hm : m ≤ 60 := by obtain ⟨x, _, hx⟩ := h.head; exact hx.le
  have s0 : kSet 2 (fMethD [("Addresses", 1, D_Addresses_table)] (fVar 1) fNil) [.v (.d (.lst (ws.map .str))), .v (.d (Ao ws)), .u, .u, .u, .u, .u, .u, .u, .u, .u, .u, .u] S = .nx [.v (.d (.lst (ws.map .str))), .v (.d (Ao ws)), .v (.d (.lst (tabD ws))), .u, .u, .u, .u, .u, .u, .u, .u, .u, .u] S := st_setL (tbl_m h rfl) rfl
  have el : (fCons (fLenD [("Addresses", 1, D_Addresses_len)] (fCons (fIxD [("Addresses", 2, D_Addresses_getitem)] (fVar 0) (fC (.int 0))) fNil)) fNil) [.v (.d (.lst (ws.map .str))), .v (.d (Ao ws)), .v (.d (.lst (tabD ws))), .u, .u, .u, .u, .u, .u, .u, .u, .u, .u] S = .ok S [.d (.int m)] := cons_d (len0_at h rfl) nil_ok
  obtain ⟨e', S', e, u3, u4, u5, u6, u7, u8, u9, rfl, hS⟩ := for_rg (fl := fCons (fLenD [("Addresses", 1, D_Addresses_len)] (fCons (fIxD [("Addresses", 2, D_Addresses_getitem)] (fVar 0) (fC (.int 0))) fNil)) fNil) (i := 3) (n := m) (env := [.v (.d (.lst (ws.map .str))), .v (.d (Ao ws)), .v (.d (.lst (tabD ws))), .u, .u, .u, .u, .u, .u, .u, .u, .u, .u]) (S := S) (body := PSB)
    (fun j env S' => ∃ u3 u4 u5 u6 u7 u8 u9, env = [.v (.d (.lst (ws.map .str))), .v (.d (Ao ws)), .v (.d (.lst (tabD ws))), u3, u4, u5, u6, u7, u8, u9, .u, .u, .u] ∧ S' = S) el (by omega) ⟨_, _, _, _, _, _, _, rfl, rfl⟩ (fun j env S' hj hI => by
      obtain ⟨u3, u4, u5, u6, u7, u8, u9, rfl, rfl⟩ := hI
      obtain ⟨v4, v5, v6, v7, v8, v9, e⟩ := psb_ok (S := S') h hj (u4 := u4) (u5 := u5) (u6 := u6) (u7 := u7) (u8 := u8) (u9 := u9) (u10 := .u) (u11 := .u) (u12 := .u)
      exact ⟨_, _, e, _, _, _, _, _, _, _, rfl, rfl⟩)
  rw [hS] at e
  refine def_pure ?_
  exact congrArg outS (show B_law_places_right [.v (.d (.lst (ws.map .str))), .v (.d (Ao ws)), .u, .u, .u, .u, .u, .u, .u, .u, .u, .u, .u] S = _ from seq_nx s0 (seq_nx e (ret_ok c_ok)))
end
end Q14
namespace Q14
open DN PySem L2
section
variable {n m k i j p q : Nat} {S S1 : Sto} {env env' : DN.Env} {ws vs : List Str} {l : List Dv} {s t a w : Str} {fa fb fe : FE} {fl : FA} {sg tg : Nat → Nat} {o : List Nat} {d : Dv} {b : Bool}
theorem gi_at (hw : ws[j]? = some w) (ha : fa env S = .ok S (.val (.d (Ao ws)))) (hb : fb env S = .ok S (.val (.d (.int j)))) : fIxD [("Addresses", 2, D_Addresses_getitem)] fa fb env S = .ok S (.val (.d (.str w))) := by
  have e := getitem_ok (S := S) hw
  have ha : fa env S = .ok S (.val (.d (.obj "Addresses" [.tup (ws.map .str)]))) := ha
  replace e : D_Addresses_getitem [.d (.obj "Addresses" [.tup (ws.map .str)]), .d (.int j)] S = _ := e
  generalize ws.map Dv.str = W at ha e
  simp_arith [ha, hb, e, okR_ok']
theorem ixl (ha : fa env S = .ok S (.val (.d (.lst l)))) (hb : fb env S = .ok S (.val (.d (.int i)))) (hx : l[i]? = some d) : fIxD [("Addresses", 2, D_Addresses_getitem)] fa fb env S = .ok S (.val (.d d)) := by
  have g : gIx (.lst l) (.int i) = vD d := gIx_lst hx
  simp_arith [ha, hb, g]
theorem ixt (ha : fa env S = .ok S (.val (.d (.tup l)))) (hb : fb env S = .ok S (.val (.d (.int i)))) (hx : l[i]? = some d) : fIxD [("Addresses", 2, D_Addresses_getitem)] fa fb env S = .ok S (.val (.d d)) := by
  have g : gIx (.tup l) (.int i) = vD d := gIx_tup hx
  simp_arith [ha, hb, g]
theorem lenl (ha : fa env S = .ok S (.val (.d (.lst l)))) : fLenD [("Addresses", 1, D_Addresses_len)] (fCons fa fNil) env S = .ok S (.val (.d (.int l.length))) := by
  simp_arith [ha, gLen_lst]
theorem ne_i {x : Int} (ha : fa env S = .ok S (.val (.d (.int x)))) (hb : fb env S = .ok S (.val (.d (.int x)))) : fEqD CL CT true fa fb env S = .ok S (.val (.d (.bl false))) := by
  simp_arith [ha, hb, gNe_int, decide_true]
theorem rn_m (O : Od n o sg tg) (h : Ws m ws) (hl : ws.length = n) (hd : d = .lst (dn o) ∨ d = .ktp (dn o)) (ha : fa env S = .ok S (.val (.d (Ao ws)))) (hb : fb env S = .ok S (.val (.d d))) : fMethD [("Addresses", 2, D_Addresses_renamed)] fa (fCons fb fNil) env S = .ok S (.new (.ob "Addresses" [.tup ((rnW n tg ws).map .str)])) :=
  meth (l := [.d d]) (m := 2) (D := D_Addresses_renamed) ha cls_ao (by rw [at_cons, beq_self_eq_true]; rfl) (cons_v hb nil_ok) rfl (renamed_ok O h hl hd)
theorem apart_m (h : Ws m ws) (hi : i < ws.length) (hj : j < ws.length) (ha : fa env S = .ok S (.val (.d (Ao ws)))) (h1 : fb env S = .ok S (.val (.d (.int i)))) (h2 : fe env S = .ok S (.val (.d (.int j)))) : fMethD [("Addresses", 3, D_Addresses_apart)] fa (fCons fb (fCons fe fNil)) env S = .ok S (.val (.d (.int ((dif (wdA ws i) (wdA ws j)).length : Nat)))) := by
  refine meth (l := [.d (.int i), .d (.int j)]) (m := 3) (D := D_Addresses_apart) ha cls_ao (by rw [at_cons, beq_self_eq_true]; rfl) (cons_v h1 (cons_v h2 nil_ok)) rfl (def_pure ?_)
  have c1 := acheck_house_ok (S := S) hi
  have c2 := acheck_house_ok (S := S) hj
  have m1 : kExpr (fMethD [("Addresses", 2, D_Addresses_check_house)] (fVar 0) (fCons (fVar 1) fNil)) [.v (.d (Ao ws)), .v (.d (.int i)), .v (.d (.int j))] S = .nx [.v (.d (Ao ws)), .v (.d (.int i)), .v (.d (.int j))] S := exp_ok (meth (l := [.d (.int i)]) (m := 2) (D := D_Addresses_check_house) (var_v rfl) cls_ao (by rw [at_cons, beq_self_eq_true]; rfl) (cons_v (var_v rfl) nil_ok) rfl c1)
  have m2 : kExpr (fMethD [("Addresses", 2, D_Addresses_check_house)] (fVar 0) (fCons (fVar 2) fNil)) [.v (.d (Ao ws)), .v (.d (.int i)), .v (.d (.int j))] S = .nx [.v (.d (Ao ws)), .v (.d (.int i)), .v (.d (.int j))] S := exp_ok (meth (l := [.d (.int j)]) (m := 2) (D := D_Addresses_check_house) (var_v rfl) cls_ao (by rw [at_cons, beq_self_eq_true]; rfl) (cons_v (var_v rfl) nil_ok) rfl c2)
  have k1 : ∀ {x q : Nat}, x < ws.length → ([.v (.d (Ao ws)), .v (.d (.int i)), .v (.d (.int j))] : DN.Env)[q]? = some (.v (.d (.int x))) → fOp gIx (fUn (gFld ["Addresses"] "kept") (fVar 0)) (fVar q) [.v (.d (Ao ws)), .v (.d (.int i)), .v (.d (.int j))] S = .ok S (.val (.d (.str (wdA ws x)))) := fun {x q} hx hq => op_ok (a := .tup (ws.map .str)) (un_ok (var_ok rfl) kept_ok) (var_ok hq) (gIx_tup (by rw [List.getElem?_map, ws_at hx]; rfl))
  exact congrArg outS (show B_Addresses_apart [.v (.d (Ao ws)), .v (.d (.int i)), .v (.d (.int j))] S = _ from seq_nx m1 (seq_nx m2 (ret_ok (callD (l := [.d (.str (wdA ws i)), .d (.str (wdA ws j))]) (cons_d (k1 hi rfl) (cons_d (k1 hj rfl) nil_ok)) rfl (apart_ok (h.at_ hi) (h.at_ hj))))))
theorem Od.back (O : Od n o sg tg) : Od n ((List.range n).map tg) tg sg := by
  have rn : Rn n tg sg := ⟨O.rn.bk, O.rn.lt, O.rn.st, O.rn.ts⟩
  refine ⟨?_, fun {i} hi => by rw [List.getElem?_map, List.getElem?_range hi]; rfl, rn, fun {v} hv => by rw [List.getElem?_map, List.getElem?_range (O.rn.lt hv)]; exact congrArg some (O.rn.ts hv)⟩
  refine (List.perm_ext_iff_of_nodup ?_ List.nodup_range).mpr fun x => ?_
  · refine List.pairwise_map.mpr ((List.pairwise_lt_range (n := n)).imp_of_mem fun {a b} ha hb hab e => ?_)
    exact absurd (rn.inj (List.mem_range.mp ha) (List.mem_range.mp hb) e) (by omega)
  · rw [List.mem_map, List.mem_range]
    constructor
    · rintro ⟨a, ha, rfl⟩
      exact O.rn.bk (List.mem_range.mp ha)
    · intro hx
      exact ⟨sg x, List.mem_range.mpr (O.rn.lt hx), O.rn.ts hx⟩
theorem rn_at (O : Od n o sg tg) (hl : ws.length = n) (hi : i < n) : (rnW n tg ws)[sg i]? = some (wdA ws i) := by
  unfold rnW
  rw [List.getElem?_map, List.getElem?_range (O.rn.lt hi)]
  show some (ws.getD (tg (sg i)) Str.empty) = _
  rw [O.rn.ts hi]
theorem rn_wd (O : Od n o sg tg) (hl : ws.length = n) (hi : i < n) : wdA (rnW n tg ws) (sg i) = wdA ws i := by
  unfold wdA
  rw [List.getD, rn_at O hl hi]; rfl
theorem rn_len : (rnW n tg ws).length = n := by simp [rnW]
theorem rn_rn (O : Od n o sg tg) (hl : ws.length = n) : rnW n sg (rnW n tg ws) = ws := by
  conv => rhs; rw [ws_fn (ws := ws), hl]
  unfold rnW
  exact List.map_congr_left fun i hi => rn_wd O hl (List.mem_range.mp hi)
end
end Q14
namespace Q14
open DN PySem L2
section
variable {n m i j nb q : Nat} {S T : Sto} {k : Cell} {env : DN.Env} {ws : List Str} {sg tg : Nat → Nat} {o : List Nat} {u3 u4 u5 u6 u7 u8 u9 : Sl}
abbrev OW (nb : Nat) (ws : List Str) (o : List Nat) (tg : Nat → Nat) (u5 u6 u7 u8 u9 : Sl) : DN.Env := [.v (.r nb), .v (.d (.lst (ws.map .str))), .v (.d (Ao ws)), .v (.d (.lst (dn o))), .v (.d (Ao (rnW ws.length tg ws))), u5, u6, u7, u8, u9]
abbrev O3 : FS := (kIf (kOr (kVal (fOp gNe (fLc (iRange1 (fCons (fLenD [("Addresses", 1, D_Addresses_len)] (fCons (fVar 1) fNil)) fNil)) (tgN 5) kYes (fIxD [("Addresses", 2, D_Addresses_getitem)] (fVar 4) (fIxD [("Addresses", 2, D_Addresses_getitem)] (fVar 3) (fVar 5))) [5]) (fVar 1))) (kVal (fEqD ["Addresses"] [("Addresses", 2, D_Addresses_eq)] true (fMethD [("Addresses", 2, D_Addresses_renamed)] (fVar 2) (fCons (fCall gTupleK (fCons (fVar 3) fNil)) fNil)) (fVar 4)))) (kRet (fC (.bl false))) kNext)
theorem lenw {u5 u6 u7 u8 u9 : Sl} : (fCons (fLenD [("Addresses", 1, D_Addresses_len)] (fCons (fVar 1) fNil)) fNil) (OW nb ws o tg u5 u6 u7 u8 u9) S = .ok S [.d (.int ws.length)] := by
  have e := lenl (S := S) (env := OW nb ws o tg u5 u6 u7 u8 u9) (fa := fVar 1) (l := ws.map .str) (var_ok rfl)
  rw [List.length_map] at e
  exact cons_d e nil_ok
theorem ord_at (O : Od ws.length o sg tg) (hj : j < ws.length) {env : DN.Env} (h3 : env[3]? = some (.v (.d (.lst (dn o))))) (hq : env[q]? = some (.v (.d (.int j)))) : fIxD [("Addresses", 2, D_Addresses_getitem)] (fVar 3) (fVar q) env S = .ok S (.val (.d (.int (sg j)))) := ixl (var_ok h3) (var_ok hq) (by unfold dn; rw [List.getElem?_map, O.at_ hj]; rfl)
theorem ws_str : (List.range ws.length).map (fun j => Dv.str (wdA ws j)) = ws.map .str := by
  conv => rhs; rw [ws_fn (ws := ws)]
  rw [List.map_map]
  rfl
theorem idx_at {l : List Dv} {d : Dv} {x : Int} {env : DN.Env} (h3 : env[3]? = some (.v (.d (.lst l)))) (h5 : env[5]? = some (.v (.d d))) (g : gIndex (.lst l) [d] = vI x) : fMeth "list" gIndex (fVar 3) (fCons (fVar 5) fNil) env S = .ok S (.val (.d (.int x))) := by
  simp_arith [h3, h5, g]
theorem o3_ok (h : Ws m ws) (O : Od ws.length o sg tg) : O3 (OW nb ws o tg u5 u6 u7 u8 u9) S = .nx (OW nb ws o tg u5 u6 u7 u8 u9) S := by
  have hl := h.le
  have wr := rnW_ok O h rfl
  have e := fLc_rg (fl := fCons (fLenD [("Addresses", 1, D_Addresses_len)] (fCons (fVar 1) fNil)) fNil) (fe := fIxD [("Addresses", 2, D_Addresses_getitem)] (fVar 4) (fIxD [("Addresses", 2, D_Addresses_getitem)] (fVar 3) (fVar 5))) (vs := [5]) (env := OW nb ws o tg u5 u6 u7 u8 u9) (S := S) (i := 5) (n := ws.length) (fun j => .str (wdA ws j)) lenw (by omega) (fun j hj => got_of (gi_at (rn_at O rfl hj) (var_ok rfl) (ord_at O hj rfl rfl)))
  rw [ws_str] at e
  have e2 : gNe (.lst (ws.map .str)) (.lst (ws.map .str)) = vB false := ne_ws h
  have et : fCall gTupleK (fCons (fVar 3) fNil) (OW nb ws o tg u5 u6 u7 u8 u9) S = .ok S (.val (.d (.ktp (dn o)))) := call_ok (var_ok rfl) rfl
  exact if_no (orNo (val_s (op_L e (var_ok rfl) e2)) (val_s (ned_O wr (rn_m O h rfl (.inr rfl) (var_ok rfl) et) (var_ok rfl)))) rfl
abbrev O5A : FS := (kIf (kVal (fOp gNe (fLc (iRange1 (fCons (fLenD [("Addresses", 1, D_Addresses_len)] (fCons (fVar 1) fNil)) fNil)) (tgN 8) kYes (fIxD [("Addresses", 2, D_Addresses_getitem)] (fIxD [("Addresses", 2, D_Addresses_getitem)] (fVar 7) (fIxD [("Addresses", 2, D_Addresses_getitem)] (fVar 3) (fVar 5))) (fIxD [("Addresses", 2, D_Addresses_getitem)] (fVar 3) (fVar 8))) [8]) (fCall gList (fCons (fIxD [("Addresses", 2, D_Addresses_getitem)] (fVar 6) (fVar 5)) fNil)))) (kRet (fC (.bl false))) kNext)
abbrev O5B : FS := (kIf (kVal (fEqD ["Addresses"] [("Addresses", 2, D_Addresses_eq)] true (fMethD [("Addresses", 3, D_Addresses_apart)] (fVar 4) (fCons (fIxD [("Addresses", 2, D_Addresses_getitem)] (fVar 3) (fVar 5)) (fCons (fIxD [("Addresses", 2, D_Addresses_getitem)] (fVar 3) (fC (.int 0))) fNil))) (fIxD [("Addresses", 2, D_Addresses_getitem)] (fIxD [("Addresses", 2, D_Addresses_getitem)] (fVar 6) (fVar 5)) (fC (.int 0))))) (kRet (fC (.bl false))) kNext)
abbrev OV (nb : Nat) (ws : List Str) (o : List Nat) (tg : Nat → Nat) (u5 u8 u9 : Sl) : DN.Env := OW nb ws o tg u5 (.v (.d (.lst (tabD ws)))) (.v (.d (.lst (tabD (rnW ws.length tg ws))))) u8 u9
theorem rowD_ws {a : Str} : (ws.map fun b => Dv.int (dif a b).length) = (List.range ws.length).map fun j => Dv.int (dif a (wdA ws j)).length := by
  conv => lhs; rw [ws_fn (ws := ws)]
  rw [List.map_map]
  rfl
theorem o5a_ok (h : Ws m ws) (O : Od ws.length o sg tg) (hi : i < ws.length) : O5A (OV nb ws o tg (.v (.d (.int i))) u8 u9) S = .nx (OV nb ws o tg (.v (.d (.int i))) u8 u9) S := by
  have hl := h.le
  have hr : (rnW ws.length tg ws).length = ws.length := rn_len
  have e := fLc_rg (fl := fCons (fLenD [("Addresses", 1, D_Addresses_len)] (fCons (fVar 1) fNil)) fNil) (fe := fIxD [("Addresses", 2, D_Addresses_getitem)] (fIxD [("Addresses", 2, D_Addresses_getitem)] (fVar 7) (fIxD [("Addresses", 2, D_Addresses_getitem)] (fVar 3) (fVar 5))) (fIxD [("Addresses", 2, D_Addresses_getitem)] (fVar 3) (fVar 8))) (vs := [8]) (env := OV nb ws o tg (.v (.d (.int i))) u8 u9) (S := S) (i := 8) (n := ws.length) (fun j => .int (dif (wdA ws i) (wdA ws j)).length) lenw (by omega) (fun j hj => got_of (ixt (l := (rnW ws.length tg ws).map fun b => Dv.int (dif (wdA ws i) b).length) (ixl (l := tabD (rnW ws.length tg ws)) (var_ok rfl) (ord_at O hi rfl rfl) (by rw [tab_at (by rw [hr]; exact O.rn.lt hi), rn_wd O rfl hi]; rfl)) (ord_at O hj rfl rfl) (by rw [List.getElem?_map, rn_at O rfl hj]; rfl)))
  have e2 : fIxD [("Addresses", 2, D_Addresses_getitem)] (fVar 6) (fVar 5) (OV nb ws o tg (.v (.d (.int i))) u8 u9) S = .ok S (.val (.d (.tup ((List.range ws.length).map fun j => Dv.int (dif (wdA ws i) (wdA ws j)).length)))) := ixl (l := tabD ws) (var_ok rfl) (var_ok rfl) (by rw [tab_at hi]; unfold rowD; rw [rowD_ws])
  have en : gNe (.lst ((List.range ws.length).map fun j => Dv.int (dif (wdA ws i) (wdA ws j)).length)) (.lst ((List.range ws.length).map fun j => Dv.int (dif (wdA ws i) (wdA ws j)).length)) = vB false := gNe_refl (by
    rw [okN_lst]
    refine okNs_all fun d hd => ?_
    obtain ⟨b, _, rfl⟩ := List.mem_map.mp hd
    exact okN_int)
  exact if_no (val_s (op_LL e (call_new e2 gList_tup) en)) rfl
theorem o5b_ok (h : Ws m ws) (O : Od ws.length o sg tg) (hi : i < ws.length) : O5B (OV nb ws o tg (.v (.d (.int i))) u8 u9) S = .nx (OV nb ws o tg (.v (.d (.int i))) u8 u9) S := by
  have hr : (rnW ws.length tg ws).length = ws.length := rn_len
  have h0 : 0 < ws.length := by omega
  have wr := rnW_ok O h rfl
  have ez : fIxD [("Addresses", 2, D_Addresses_getitem)] (fVar 3) (fC (.int 0)) (OV nb ws o tg (.v (.d (.int i))) u8 u9) S = .ok S (.val (.d (.int (sg 0)))) := ixl (i := 0) (l := dn o) (var_ok rfl) c_ok (by unfold dn; rw [List.getElem?_map, O.at_ h0]; rfl)
  have e1 := apart_m (S := S) (env := OV nb ws o tg (.v (.d (.int i))) u8 u9) (fa := fVar 4) (fb := fIxD [("Addresses", 2, D_Addresses_getitem)] (fVar 3) (fVar 5)) (fe := fIxD [("Addresses", 2, D_Addresses_getitem)] (fVar 3) (fC (.int 0))) wr (i := sg i) (j := sg 0) (by rw [hr]; exact O.rn.lt hi) (by rw [hr]; exact O.rn.lt h0) (var_ok rfl) (ord_at O hi rfl rfl) ez
  rw [rn_wd O rfl hi, rn_wd O rfl h0] at e1
  have e2 : fIxD [("Addresses", 2, D_Addresses_getitem)] (fIxD [("Addresses", 2, D_Addresses_getitem)] (fVar 6) (fVar 5)) (fC (.int 0)) (OV nb ws o tg (.v (.d (.int i))) u8 u9) S = .ok S (.val (.d (.int (dif (wdA ws i) (wdA ws 0)).length))) := ixt (i := 0) (l := (List.range ws.length).map fun j => Dv.int (dif (wdA ws i) (wdA ws j)).length) (ixl (l := tabD ws) (var_ok rfl) (var_ok rfl) (by rw [tab_at hi]; unfold rowD; rw [rowD_ws])) c_ok (by rw [List.getElem?_map, List.getElem?_range h0]; rfl)
  exact if_no (val_s (ne_i e1 e2)) rfl
abbrev O1 : FS := kSet 3 (fCallD 2 D_law_mixed (fCons (fVar 0) (fCons (fRg1 (fLenD [("Addresses", 1, D_Addresses_len)] (fCons (fVar 1) fNil))) fNil)))
abbrev O2 : FS := kSet 4 (fMethD [("Addresses", 2, D_Addresses_renamed)] (fVar 2) (fCons (fVar 3) fNil))
abbrev O4 : FS := (kAsg (tgT (tgCons (tgN 6) (tgCons (tgN 7) tgNil))) (fTup (fCons (fMethD [("Addresses", 1, D_Addresses_table)] (fVar 2) fNil) (fCons (fMethD [("Addresses", 1, D_Addresses_table)] (fVar 4) fNil) fNil))))
abbrev O6 : FS := (kSet 9 (fLc (iRange1 (fCons (fLenD [("Addresses", 1, D_Addresses_len)] (fCons (fVar 1) fNil)) fNil)) (tgN 5) kYes (fMeth "list" gIndex (fVar 3) (fCons (fVar 5) fNil)) [5]))
theorem order_right_ok (h : Ws m ws) (hb : nb < T.length) (hk : Bx j k) (hj : j < 100000) : ∃ k', Bx (j + 40) k' ∧ D_law_order_right [.r nb, .d (.lst (ws.map .str)), .d (Ao ws)] (T.set nb k) = .ok (T.set nb k') (.val (.d (.bl true))) := by
  have hl := h.le
  obtain ⟨ys, k', e, hp, hk'⟩ := mixed_ok (items := dn (List.range ws.length)) hb hk (by rw [dn_len, List.length_range]; omega) (by rw [dn_len, List.length_range]; omega)
  obtain ⟨o, rfl, hpo⟩ := perm_dn hp
  rw [dn_len, List.length_range] at hk'
  obtain ⟨sg, tg, O⟩ := od_ex hpo
  refine ⟨k', hk'.le (by omega), ?_⟩
  have wr := rnW_ok O h rfl
  have hr : (rnW ws.length tg ws).length = ws.length := rn_len
  have s1 : O1 [.v (.r nb), .v (.d (.lst (ws.map .str))), .v (.d (Ao ws)), .u, .u, .u, .u, .u, .u, .u] (T.set nb k) = .nx [.v (.r nb), .v (.d (.lst (ws.map .str))), .v (.d (Ao ws)), .v (.d (.lst (dn o))), .u, .u, .u, .u, .u, .u] (T.set nb k') := by
    have el : fLenD [("Addresses", 1, D_Addresses_len)] (fCons (fVar 1) fNil) [.v (.r nb), .v (.d (.lst (ws.map .str))), .v (.d (Ao ws)), .u, .u, .u, .u, .u, .u, .u] (T.set nb k) = .ok (T.set nb k) (.val (.d (.int ws.length))) := by
      have e := lenl (S := T.set nb k) (env := [.v (.r nb), .v (.d (.lst (ws.map .str))), .v (.d (Ao ws)), .u, .u, .u, .u, .u, .u, .u]) (fa := fVar 1) (l := ws.map .str) (var_ok rfl)
      rw [List.length_map] at e
      exact e
    have er := rg1_ok (by omega) el
    rw [rgI_d] at er
    exact st_setL (callD (l := [.r nb, .d (.lst (dn (List.range ws.length)))]) (cons_v (var_v rfl) (cons_L er nil_ok)) rfl e) rfl
  have hU : (T.set nb k').length ≤ (T.set nb k).length := by simp
  generalize T.set nb k' = U at s1 hU ⊢
  have s2 : O2 [.v (.r nb), .v (.d (.lst (ws.map .str))), .v (.d (Ao ws)), .v (.d (.lst (dn o))), .u, .u, .u, .u, .u, .u] U = .nx (OW nb ws o tg .u .u .u .u .u) U := st_setO (rn_m O h rfl (.inl rfl) (var_ok rfl) (var_ok rfl)) rfl
  have s3 := o3_ok (S := U) (nb := nb) (u5 := .u) (u6 := .u) (u7 := .u) (u8 := .u) (u9 := .u) h O
  have s4 : O4 (OW nb ws o tg .u .u .u .u .u) U = .nx (OV nb ws o tg .u .u .u) U := by
    have e1 := tbl_m (S := U) (env := OW nb ws o tg .u .u .u .u .u) (p := 2) h rfl
    have e2 := tbl_m (S := U) (env := OW nb ws o tg .u .u .u .u .u) (p := 4) wr rfl
    have e3 := tup_ok (m := [.lst (tabD ws), .lst (tabD (rnW ws.length tg ws))]) (cons_L e1 (cons_L e2 nil_ok)) rfl
    show kAsg _ _ _ _ = .nx (OW nb ws o tg .u (.v (.d (.lst (tabD ws)))) (.v (.d (.lst (tabD (rnW ws.length tg ws))))) .u .u) U
    generalize tabD ws = P at e3 ⊢
    generalize tabD (rnW ws.length tg ws) = Q at e3 ⊢
    simp_arith [↓e3]
  obtain ⟨e', S', s5, u5, rfl, hS⟩ := for_rg (fl := fCons (fLenD [("Addresses", 1, D_Addresses_len)] (fCons (fVar 1) fNil)) fNil) (i := 5) (n := ws.length) (env := OV nb ws o tg .u .u .u) (S := U) (body := kSeq O5A O5B)
    (fun i env S' => ∃ u5, env = OV nb ws o tg u5 .u .u ∧ S' = U) lenw (by omega) ⟨_, rfl, rfl⟩ (fun i env S' hi hI => by
      obtain ⟨u5, rfl, rfl⟩ := hI
      exact ⟨_, _, seq_nx (o5a_ok h O hi) (o5b_ok h O hi), _, rfl, rfl⟩)
  rw [hS] at s5
  have e6 := fLc_rg (fl := fCons (fLenD [("Addresses", 1, D_Addresses_len)] (fCons (fVar 1) fNil)) fNil) (fe := fMeth "list" gIndex (fVar 3) (fCons (fVar 5) fNil)) (vs := [5]) (env := OV nb ws o tg u5 .u .u) (S := U) (i := 5) (n := ws.length) (fun j => .int (tg j)) lenw (by omega) (fun j hj => got_of (idx_at rfl rfl (O.index hj)))
  have s6 : O6 (OV nb ws o tg u5 .u .u) U = .nx (OV nb ws o tg u5 .u (.v (.d (.lst (dn ((List.range ws.length).map tg)))))) U := by
    refine st_setL e6 ?_
    unfold dn
    rw [List.map_map]
    rfl
  have e7 := rn_m (S := U) (env := OV nb ws o tg u5 .u (.v (.d (.lst (dn ((List.range ws.length).map tg)))))) (fa := fVar 4) (fb := fVar 9) O.back wr hr (.inl rfl) (var_ok rfl) (var_ok rfl)
  rw [rn_rn O rfl] at e7
  refine def_st (U := U) ?_ ?_
  · exact congrArg outS (show B_law_order_right [.v (.r nb), .v (.d (.lst (ws.map .str))), .v (.d (Ao ws)), .u, .u, .u, .u, .u, .u, .u] (T.set nb k) = _ from seq_nx s1 (seq_nx s2 (seq_nx s3 (seq_nx s4 (seq_nx s5 (seq_nx s6 (ret_ok (ned_O h e7 (var_ok rfl)))))))))
  · exact hU
end
end Q14
namespace Q14
open DN PySem L2
section
variable {n m i j nb q : Nat} {S T : Sto} {k : Cell} {env env' : DN.Env} {ws vs : List Str} {fl : FA} {a b c : Vr} {u3 u4 u5 u6 u7 u8 u9 u10 u11 : Sl}
theorem par3_ok {i j q : Nat} (h : fl env S = .ok S [a, b, c]) (he : ((env.set i (.v a)).set j (.v b)).set q (.v c) = env') : kPar3 i j q fl env S = .nx env' S := by
  unfold kPar3
  rw [h, ← he]
  rfl
theorem cat2_len (hl : vs.length = ws.length) : (cat2 ws vs).length = ws.length := by simp [cat2]; omega
theorem cat2_at (hl : vs.length = ws.length) (hi : i < ws.length) : (cat2 ws vs)[i]? = some (wdA ws i ++ wdA vs i) := by
  unfold cat2
  rw [List.getElem?_map]
  have : (ws.zip vs)[i]? = some (wdA ws i, wdA vs i) := by
    rw [List.getElem?_zip_eq_some]
    exact ⟨ws_at hi, ws_at (by omega)⟩
  rw [this]
  rfl
theorem cat2_wd (hl : vs.length = ws.length) (hi : i < ws.length) : wdA (cat2 ws vs) i = wdA ws i ++ wdA vs i := by
  unfold wdA
  rw [List.getD, cat2_at hl hi]; rfl
theorem cat2_dif (h : Ws m ws) (g : Ws n vs) (hl : vs.length = ws.length) (hb : m + n ≤ 60) (hi : i < ws.length) (hj : j < ws.length) : (dif (wdA (cat2 ws vs) i) (wdA (cat2 ws vs) j)).length = (dif (wdA ws i) (wdA ws j)).length + (dif (wdA vs i) (wdA vs j)).length := by
  have a1 := h.at_ hi
  have a2 := h.at_ hj
  have b1 := g.at_ (k := i) (by omega)
  have b2 := g.at_ (k := j) (by omega)
  rw [cat2_wd hl hi, cat2_wd hl hj, dif_bz (a1.app b1 hb) (a2.app b2 hb), str_tl, str_tl, bz_app (a1.len.trans a2.len.symm), ← dif_bz a1 a2, ← dif_bz b1 b2]
/-- row i of a table, by numbers -/
def rwT (ws : List Str) (n i : Nat) : List Dv := (List.range n).map fun j => Dv.int (dif (wdA ws i) (wdA ws j)).length
theorem rwT_at (hi : i < ws.length) : (tabD ws)[i]? = some (.tup (rwT ws ws.length i)) := by
  rw [tab_at hi]
  unfold rowD rwT
  conv => lhs; rw [show ws.map (fun b => Dv.int (dif (wdA ws i) b).length) = ((List.range ws.length).map fun i => ws.getD i Str.empty).map (fun b => Dv.int (dif (wdA ws i) b).length) from congrArg (fun l => List.map (fun b => Dv.int (dif (wdA ws i) b).length) l) ws_fn]
  rw [List.map_map]
  rfl
abbrev SE (ws vs : List Str) (u5 u6 u10 u11 : Sl) : DN.Env := [.v (.d (.lst (ws.map .str))), .v (.d (Ao ws)), .v (.d (.lst (vs.map .str))), .v (.d (Ao vs)), .v (.d (Ao (cat2 ws vs))), u5, u6, .v (.d (.lst (tabD (cat2 ws vs)))), .v (.d (.lst (tabD ws))), .v (.d (.lst (tabD vs))), u10, u11]
abbrev SB : FS := (kIf (kVal (fOp gNe (fCall gList (fCons (fIxD [("Addresses", 2, D_Addresses_getitem)] (fVar 7) (fVar 10)) fNil)) (fLc (iZipXD (fCons (fIxD [("Addresses", 2, D_Addresses_getitem)] (fVar 8) (fVar 10)) (fCons (fIxD [("Addresses", 2, D_Addresses_getitem)] (fVar 9) (fVar 10)) fNil))) (tgT (tgCons (tgN 11) (tgCons (tgN 6) tgNil))) kYes (fOp gAdd (fVar 11) (fVar 6)) [11, 6]))) (kRet (fC (.bl false))) kNext)
theorem sb_ok (h : Ws m ws) (g : Ws n vs) (hl : vs.length = ws.length) (hb : m + n ≤ 60) (hi : i < ws.length) : SB (SE ws vs u5 u6 (.v (.d (.int i))) u11) S = .nx (SE ws vs u5 u6 (.v (.d (.int i))) u11) S := by
  have h40 := h.le
  have hcl := cat2_len hl
  have e7 : fIxD [("Addresses", 2, D_Addresses_getitem)] (fVar 7) (fVar 10) (SE ws vs u5 u6 (.v (.d (.int i))) u11) S = .ok S (.val (.d (.tup (rwT (cat2 ws vs) ws.length i)))) := ixl (l := tabD (cat2 ws vs)) (var_ok rfl) (var_ok rfl) (by rw [rwT_at (by omega), hcl])
  have e8 : fIxD [("Addresses", 2, D_Addresses_getitem)] (fVar 8) (fVar 10) (SE ws vs u5 u6 (.v (.d (.int i))) u11) S = .ok S (.val (.d (.tup (rwT ws ws.length i)))) := ixl (l := tabD ws) (var_ok rfl) (var_ok rfl) (rwT_at hi)
  have e9 : fIxD [("Addresses", 2, D_Addresses_getitem)] (fVar 9) (fVar 10) (SE ws vs u5 u6 (.v (.d (.int i))) u11) S = .ok S (.val (.d (.tup (rwT vs ws.length i)))) := ixl (l := tabD vs) (var_ok rfl) (var_ok rfl) (by rw [rwT_at (by omega), hl])
  have ei : iZipXD (fCons (fIxD [("Addresses", 2, D_Addresses_getitem)] (fVar 8) (fVar 10)) (fCons (fIxD [("Addresses", 2, D_Addresses_getitem)] (fVar 9) (fVar 10)) fNil)) (SE ws vs u5 u6 (.v (.d (.int i))) u11) S = .ok S ((List.range ws.length).map (fun j => Dv.tup [.int (dif (wdA ws i) (wdA ws j)).length, .int (dif (wdA vs i) (wdA vs j)).length]), none) := by
    have e0 := cons_d e8 (cons_d e9 nil_ok)
    unfold iZipXD
    rw [e0]
    show R.ok S (zipD (rwT ws ws.length i) (rwT vs ws.length i), none) = _
    unfold zipD rwT
    rw [List.zip_map', List.map_map]
    rfl
  have ec := fLc_mp (fi := iZipXD (fCons (fIxD [("Addresses", 2, D_Addresses_getitem)] (fVar 8) (fVar 10)) (fCons (fIxD [("Addresses", 2, D_Addresses_getitem)] (fVar 9) (fVar 10)) fNil))) (tg := tgT (tgCons (tgN 11) (tgCons (tgN 6) tgNil))) (ft := kYes) (fe := fOp gAdd (fVar 11) (fVar 6)) (vs := [11, 6]) (env := SE ws vs u5 u6 (.v (.d (.int i))) u11) (S := S)
    (fun j => Dv.tup [.int (dif (wdA ws i) (wdA ws j)).length, .int (dif (wdA vs i) (wdA vs j)).length]) (List.range ws.length) (fun _ => true) (fun j => Dv.int (dif (wdA (cat2 ws vs) i) (wdA (cat2 ws vs) j)).length) ei (by simp; omega) (fun j hj => ⟨SE ws vs u5 (.v (.d (.int (dif (wdA vs i) (wdA vs j)).length))) (.v (.d (.int i))) (.v (.d (.int (dif (wdA ws i) (wdA ws j)).length))), rfl, rfl, fun _ => got_of (op_ok (var_ok rfl) (var_ok rfl) (by rw [gAdd_, cat2_dif h g hl hb hi (List.mem_range.mp hj)]; rfl))⟩)
  rw [filter_tt] at ec
  have en : gNe (.lst (rwT (cat2 ws vs) ws.length i)) (.lst (rwT (cat2 ws vs) ws.length i)) = vB false := gNe_refl (by
    rw [okN_lst]
    refine okNs_all fun d hd => ?_
    obtain ⟨b, _, rfl⟩ := List.mem_map.mp hd
    exact okN_int)
  exact if_no (val_s (op_LL (call_new e7 gList_tup) ec en)) rfl
theorem sum_right_ok (h : Ws m ws) (g : Ws n vs) (hl : vs.length = ws.length) (hb : m + n ≤ 60) : D_law_sum_right [.d (.lst (ws.map .str)), .d (Ao ws), .d (.lst (vs.map .str)), .d (Ao vs)] S = .ok S (.val (.d (.bl true))) := by
  have h40 := h.le
  have wc := cat2_ok h g hl hb
  have s1 : kSet 4 (fMethD [("Addresses", 2, D_Addresses_followed)] (fVar 1) (fCons (fVar 3) fNil)) [.v (.d (.lst (ws.map .str))), .v (.d (Ao ws)), .v (.d (.lst (vs.map .str))), .v (.d (Ao vs)), .u, .u, .u, .u, .u, .u, .u, .u] S = .nx [.v (.d (.lst (ws.map .str))), .v (.d (Ao ws)), .v (.d (.lst (vs.map .str))), .v (.d (Ao vs)), .v (.d (Ao (cat2 ws vs))), .u, .u, .u, .u, .u, .u, .u] S :=
    st_setO (meth (l := [.d (Ao vs)]) (m := 2) (D := D_Addresses_followed) (var_v rfl) cls_ao (by rw [at_cons, beq_self_eq_true]; rfl) (cons_v (var_v rfl) nil_ok) rfl (followed_ok h g hl hb)) rfl
  have ei : iZipXD (fCons (fVar 0) (fCons (fVar 2) fNil)) [.v (.d (.lst (ws.map .str))), .v (.d (Ao ws)), .v (.d (.lst (vs.map .str))), .v (.d (Ao vs)), .v (.d (Ao (cat2 ws vs))), .u, .u, .u, .u, .u, .u, .u] S = .ok S ((ws.zip vs).map (fun p => Dv.tup [.str p.1, .str p.2]), none) := by
    have e3 : (fCons (fVar 0) (fCons (fVar 2) fNil)) [.v (.d (.lst (ws.map .str))), .v (.d (Ao ws)), .v (.d (.lst (vs.map .str))), .v (.d (Ao vs)), .v (.d (Ao (cat2 ws vs))), .u, .u, .u, .u, .u, .u, .u] S = .ok S [.d (.lst (ws.map .str)), .d (.lst (vs.map .str))] := cons_d (var_ok rfl) (cons_d (var_ok rfl) nil_ok)
    unfold iZipXD
    rw [e3]
    show R.ok S (zipD (ws.map Dv.str) (vs.map Dv.str), none) = _
    rw [zip_items]
  have e2 := fLc_mp (tg := tgT (tgCons (tgN 5) (tgCons (tgN 6) tgNil))) (ft := kYes) (fe := fOp gAdd (fVar 5) (fVar 6)) (vs := [5, 6]) (env := [.v (.d (.lst (ws.map .str))), .v (.d (Ao ws)), .v (.d (.lst (vs.map .str))), .v (.d (Ao vs)), .v (.d (Ao (cat2 ws vs))), .u, .u, .u, .u, .u, .u, .u]) (S := S) (fun p : Str × Str => Dv.tup [.str p.1, .str p.2]) (ws.zip vs) (fun _ => true) (fun p => .str (p.1 ++ p.2)) ei (by simp; omega) (fun p hp => by
    obtain ⟨h1, h2⟩ := List.of_mem_zip hp
    exact ⟨[.v (.d (.lst (ws.map .str))), .v (.d (Ao ws)), .v (.d (.lst (vs.map .str))), .v (.d (Ao vs)), .v (.d (Ao (cat2 ws vs))), .v (.d (.str p.1)), .v (.d (.str p.2)), .u, .u, .u, .u, .u], rfl, rfl, fun _ => got_of (cat_at (var_ok rfl) (var_ok rfl) (h.all _ h1) (g.all _ h2))⟩)
  rw [filter_tt, show ((ws.zip vs).map fun p => Dv.str (p.1 ++ p.2)) = (cat2 ws vs).map .str by unfold cat2; rw [List.map_map]; rfl] at e2
  have s2 : kIf (kVal (fOp gNe (fCall gList (fCons (fPropD [("Addresses", 1, D_Addresses_words)] (fVar 4)) fNil)) (fLc (iZipXD (fCons (fVar 0) (fCons (fVar 2) fNil))) (tgT (tgCons (tgN 5) (tgCons (tgN 6) tgNil))) kYes (fOp gAdd (fVar 5) (fVar 6)) [5, 6]))) (kRet (fC (.bl false))) kNext [.v (.d (.lst (ws.map .str))), .v (.d (Ao ws)), .v (.d (.lst (vs.map .str))), .v (.d (Ao vs)), .v (.d (Ao (cat2 ws vs))), .u, .u, .u, .u, .u, .u, .u] S = .nx [.v (.d (.lst (ws.map .str))), .v (.d (Ao ws)), .v (.d (.lst (vs.map .str))), .v (.d (Ao vs)), .v (.d (Ao (cat2 ws vs))), .u, .u, .u, .u, .u, .u, .u] S := if_no (val_s (op_LL (lw_m rfl) e2 (ne_ws wc))) rfl
  have s3 : kPar3 7 8 9 (fCons (fMethD [("Addresses", 1, D_Addresses_table)] (fVar 4) fNil) (fCons (fMethD [("Addresses", 1, D_Addresses_table)] (fVar 1) fNil) (fCons (fMethD [("Addresses", 1, D_Addresses_table)] (fVar 3) fNil) fNil))) [.v (.d (.lst (ws.map .str))), .v (.d (Ao ws)), .v (.d (.lst (vs.map .str))), .v (.d (Ao vs)), .v (.d (Ao (cat2 ws vs))), .u, .u, .u, .u, .u, .u, .u] S = .nx (SE ws vs .u .u .u .u) S := par3_ok (cons_L (tbl_m wc rfl) (cons_L (tbl_m h rfl) (cons_L (tbl_m g rfl) nil_ok))) rfl
  have el : (fCons (fLenD [("Addresses", 1, D_Addresses_len)] (fCons (fVar 0) fNil)) fNil) (SE ws vs .u .u .u .u) S = .ok S [.d (.int ws.length)] := by
    have e := lenl (S := S) (env := SE ws vs .u .u .u .u) (fa := fVar 0) (l := ws.map .str) (var_ok rfl)
    rw [List.length_map] at e
    exact cons_d e nil_ok
  obtain ⟨e', S', s4, u10, rfl, hS⟩ := for_rg (fl := fCons (fLenD [("Addresses", 1, D_Addresses_len)] (fCons (fVar 0) fNil)) fNil) (i := 10) (n := ws.length) (env := SE ws vs .u .u .u .u) (S := S) (body := SB)
    (fun i env S' => ∃ u10, env = SE ws vs .u .u u10 .u ∧ S' = S) el (by omega) ⟨_, rfl, rfl⟩ (fun i env S' hi hI => by
      obtain ⟨u10, rfl, rfl⟩ := hI
      exact ⟨_, _, sb_ok h g hl hb hi, _, rfl, rfl⟩)
  rw [hS] at s4
  refine def_pure ?_
  exact congrArg outS (show B_law_sum_right [.v (.d (.lst (ws.map .str))), .v (.d (Ao ws)), .v (.d (.lst (vs.map .str))), .v (.d (Ao vs)), .u, .u, .u, .u, .u, .u, .u, .u] S = _ from seq_nx s1 (seq_nx s2 (seq_nx s3 (seq_nx s4 (ret_ok (op_ok (size_at wc rfl) (op_ok (size_at h rfl) (size_at g rfl) (by rw [gAdd_]; rfl)) (by rw [gEq_int, decide_eq_true (show ((m + n : Nat) : Int) = (m : Int) + (n : Int) by omega)]; rfl)))))))
end
end Q14
namespace Q14
open DN PySem L2
section
variable {n m i j nb q : Nat} {S T : Sto} {k : Cell} {env env' : DN.Env} {ws vs w : List Str} {fa fb : FE} {P Q : List Dv} {u4 u5 u6 u7 u8 : Sl} {b : Bool}
theorem neq_LL (ha : fa env S = .ok S (.new (.lst P))) (hb : fb env S = .ok S (.new (.lst P))) (ok : okN 60 (.lst P) = true) : fEqD CL CT true fa fb env S = .ok S (.val (.d (.bl false))) := by
  have hg : gNe (.lst P) (.lst P) = vB false := gNe_refl ok
  simp_arith [ha, hb, hg]
theorem eq_VL (ha : fa env S = .ok S (.val (.d (.lst P)))) (hb : fb env S = .ok S (.new (.lst P))) (ok : okN 60 (.lst P) = true) : fEqD CL CT false fa fb env S = .ok S (.val (.d (.bl true))) := by
  have hg : gEq (.lst P) (.lst P) = vB true := gEq_refl ok
  simp_arith [ha, hb, hg]
theorem eq_LV (ha : fa env S = .ok S (.new (.lst P))) (hb : fb env S = .ok S (.val (.d (.lst P)))) (ok : okN 60 (.lst P) = true) : fEqD CL CT false fa fb env S = .ok S (.val (.d (.bl true))) := by
  have hg : gEq (.lst P) (.lst P) = vB true := gEq_refl ok
  simp_arith [ha, hb, hg]
/-- a book with words -/
def BkD (d : Dv) : Prop := ∃ m w, Ws m w ∧ d = Ao w
abbrev BHB : FS := (kIf (kVal (fEqD ["Addresses"] [("Addresses", 2, D_Addresses_eq)] true (fCallD 1 D_law_told (fCons (fVar 8) fNil)) (fCallD 1 D_law_told (fCons (fMakeD "Addresses" [] 2 D_Addresses_init (fCons (fCall gList (fCons (fPropD [("Addresses", 1, D_Addresses_words)] (fVar 8)) fNil)) fNil)) fNil)))) (kRet (fC (.bl false))) kNext)
theorem bhb_ok (h : Ws m w) (h8 : env[8]? = some (.v (.d (Ao w)))) : BHB env S = .nx env S := by
  obtain ⟨L, ok, e⟩ := told_tot h
  have e1 : fCallD 1 D_law_told (fCons (fVar 8) fNil) env S = .ok S (.new (.lst L)) := callD (l := [.d (Ao w)]) (cons_d (var_ok h8) nil_ok) rfl (e S)
  have em : fMakeD "Addresses" [] 2 D_Addresses_init (fCons (fCall gList (fCons (fPropD [("Addresses", 1, D_Addresses_words)] (fVar 8)) fNil)) fNil) env S = .ok S (.new (.ob "Addresses" [.tup (w.map .str)])) := amake_done (D := D_Addresses_init) h (lw_m h8)
  have e2 : fCallD 1 D_law_told (fCons (fMakeD "Addresses" [] 2 D_Addresses_init (fCons (fCall gList (fCons (fPropD [("Addresses", 1, D_Addresses_words)] (fVar 8)) fNil)) fNil)) fNil) env S = .ok S (.new (.lst L)) := callD (l := [.d (Ao w)]) (cons_O em nil_ok) rfl (e S)
  exact if_no (val_s (neq_LL e1 e2 ok)) rfl
theorem bh_loop {l tt : List Dv} : ∀ {env : DN.Env}, env.length = 9 → (∀ d ∈ l, BkD d) → ∃ v, forGo (tt, none) (tgN 8) BHB l env S = .nx (env.set 8 v) S := by
  induction l with
  | nil => 
    intro env he _
    obtain ⟨v, hv⟩ : ∃ v, env[8]? = some v := ⟨_, List.getElem?_eq_getElem (by omega)⟩
    refine ⟨v, ?_⟩
    have : env.set 8 v = env := by
      apply List.ext_getElem?
      intro i
      by_cases q : i = 8
      · subst q; rw [List.getElem?_set_self (by omega), hv]
      · rw [List.getElem?_set_ne (fun e => q e.symm)]
    rw [this]
    rfl
  | cons d l ih =>
    intro env he h
    obtain ⟨m, w, hw, rfl⟩ := h d List.mem_cons_self
    obtain ⟨v, e⟩ := ih (env := env.set 8 (.v (.d (Ao w)))) (by simpa using he) fun x hx => h x (List.mem_cons_of_mem _ hx)
    refine ⟨v, ?_⟩
    rw [go_ok (env1 := env.set 8 (.v (.d (Ao w)))) rfl (bhb_ok (S := S) hw (List.getElem?_set_self (by omega))), e, List.set_set]
abbrev BE (nb : Nat) (ws vs : List Str) (u4 u5 u6 u7 u8 : Sl) : DN.Env := [.v (.r nb), .v (.d (.lst (ws.map .str))), .v (.d (Ao ws)), .v (.d (Ao vs)), u4, u5, u6, u7, u8]
abbrev H4 : FS := (kIf (kVal (fOp gGt (fPropD [("Addresses", 1, D_Addresses_length)] (fVar 2)) (fC (.int 0)))) (kSeq (kSet 7 (fCallD 2 D_law_take (fCons (fVar 0) (fCons (fPropD [("Addresses", 1, D_Addresses_length)] (fVar 2)) fNil))))
    (kSet 6 (fOp gAdd (fVar 6) (fLst (fCons (fMethD [("Addresses", 2, D_Addresses_flipped)] (fVar 2) (fCons (fVar 7) fNil)) (fCons (fMethD [("Addresses", 2, D_Addresses_without)] (fVar 2) (fCons (fVar 7) fNil)) fNil)))))) kNext)
theorem h4_ok (h : Ws m ws) (hb : nb < T.length) (hk : Bx j k) (hj : j < 100000) (hP : ∀ d ∈ P, BkD d) (hl : P.length = 2) : ∃ u7' k' P', (∀ d ∈ P', BkD d) ∧ Bx (j + 1) k' ∧ H4 (BE nb ws vs u4 u5 (.v (.d (.lst P))) u7 u8) (T.set nb k) = .nx (BE nb ws vs u4 u5 (.v (.d (.lst P'))) u7' u8) (T.set nb k') := by
  have hm : m ≤ 60 := by obtain ⟨x, _, hx⟩ := h.head; exact hx.le
  by_cases q : 0 < m
  · obtain ⟨x, k', hx, hk', et⟩ := take_ok (m := (m : Int)) (T := T) hk hb (by omega) (by omega) (by omega)
    have hx : x < m := by omega
    have wf : Ws m (ws.map (fwS x)) := ws_map h fun s hs => fw_wd hs hx
    have wo : Ws (m - 1) (ws.map (wwS x)) := ws_map h fun s hs => ww_wd hs hx
    refine ⟨.v (.d (.int x)), k', P ++ [Ao (ws.map (fwS x)), Ao (ws.map (wwS x))], fun d hd => ?_, hk', ?_⟩
    · rcases List.mem_append.mp hd with hd | hd
      · exact hP d hd
      · simp only [List.mem_cons, List.not_mem_nil, or_false] at hd
        rcases hd with rfl | rfl
        · exact ⟨_, _, wf, rfl⟩
        · exact ⟨_, _, wo, rfl⟩
    · have s1 : kSet 7 (fCallD 2 D_law_take (fCons (fVar 0) (fCons (fPropD [("Addresses", 1, D_Addresses_length)] (fVar 2)) fNil))) (BE nb ws vs u4 u5 (.v (.d (.lst P))) u7 u8) (T.set nb k) = .nx (BE nb ws vs u4 u5 (.v (.d (.lst P))) (.v (.d (.int x))) u8) (T.set nb k') := st_set (v := .d (.int x)) (callD (l := [.r nb, .d (.int m)]) (cons_v (var_v rfl) (cons_d (size_at h rfl) nil_ok)) rfl et) rfl
      generalize T.set nb k' = U at s1 ⊢
      have el : fLst (fCons (fMethD [("Addresses", 2, D_Addresses_flipped)] (fVar 2) (fCons (fVar 7) fNil)) (fCons (fMethD [("Addresses", 2, D_Addresses_without)] (fVar 2) (fCons (fVar 7) fNil)) fNil)) (BE nb ws vs u4 u5 (.v (.d (.lst P))) (.v (.d (.int x))) u8) U = .ok U (.new (.lst [Ao (ws.map (fwS x)), Ao (ws.map (wwS x))])) := lst_ok (cons_O (fl_m h hx rfl rfl) (cons_O (wo_m h hx rfl rfl) nil_ok)) rfl
      exact if_yes (val_s (op_ok (size_at h rfl) c_ok (by rw [gGt_]; exact congrArg vB (decide_eq_true (show (0 : Int) < (m : Int) by omega))))) (seq_nx s1 (st_setL (add_vl (var_ok rfl) el (by simp; omega)) rfl))
  · refine ⟨u7, k, P, hP, hk.le (by omega), ?_⟩
    exact if_no (val_s (op_ok (size_at h rfl) c_ok (by rw [gGt_]; exact congrArg vB (decide_eq_false (show ¬ (0 : Int) < (m : Int) by omega))))) rfl
theorem behind_right_ok (h : Ws m ws) (g : Ws n vs) (hl : vs.length = ws.length) (hmn : m + n ≤ 60) (hb : nb < T.length) (hk : Bx j k) (hj : j < 100000) : ∃ k', Bx (j + 1) k' ∧ D_law_behind_right [.r nb, .d (.lst (ws.map .str)), .d (Ao ws), .d (Ao vs)] (T.set nb k) = .ok (T.set nb k') (.val (.d (.bl true))) := by
  have h40 := h.le
  obtain ⟨L, ok, et⟩ := told_tot h
  obtain ⟨sg, tg, O⟩ := od_ex (o := (List.range ws.length).reverse) (n := ws.length) (List.reverse_perm _)
  have wr := rnW_ok O h rfl
  have wc := cat2_ok h g hl hmn
  have s1 : kSet 4 (fCallD 1 D_law_told (fCons (fVar 2) fNil)) (BE nb ws vs .u .u .u .u .u) (T.set nb k) = .nx (BE nb ws vs (.v (.d (.lst L))) .u .u .u .u) (T.set nb k) := st_setL (callD (l := [.d (Ao ws)]) (cons_d (var_ok rfl) nil_ok) rfl (et _)) rfl
  have el : fLenD [("Addresses", 1, D_Addresses_len)] (fCons (fVar 1) fNil) (BE nb ws vs (.v (.d (.lst L))) .u .u .u .u) (T.set nb k) = .ok (T.set nb k) (.val (.d (.int ws.length))) := by
    have e := lenl (S := T.set nb k) (env := BE nb ws vs (.v (.d (.lst L))) .u .u .u .u) (fa := fVar 1) (l := ws.map .str) (var_ok rfl)
    rw [List.length_map] at e
    exact e
  have er := rg1_ok (by omega) el
  rw [rgI_d] at er
  have s2 : kSet 5 (fRg1 (fLenD [("Addresses", 1, D_Addresses_len)] (fCons (fVar 1) fNil))) (BE nb ws vs (.v (.d (.lst L))) .u .u .u .u) (T.set nb k) = .nx (BE nb ws vs (.v (.d (.lst L))) (.v (.d (.lst (dn (List.range ws.length))))) .u .u .u) (T.set nb k) := st_setL er rfl
  have e6 : fUn gRevA (fVar 5) (BE nb ws vs (.v (.d (.lst L))) (.v (.d (.lst (dn (List.range ws.length))))) .u .u .u) (T.set nb k) = .ok (T.set nb k) (.new (.lst (dn (List.range ws.length).reverse))) := by
    have gr : gRevA (.lst (dn (List.range ws.length))) = nL (dn (List.range ws.length).reverse) := by
      show nL (dn (List.range ws.length)).reverse = _
      unfold dn
      rw [List.map_reverse]
    generalize dn (List.range ws.length) = Q1 at gr
    simp_arith [gr]
  have em : fMethD [("Addresses", 2, D_Addresses_renamed)] (fVar 2) (fCons (fUn gRevA (fVar 5)) fNil) (BE nb ws vs (.v (.d (.lst L))) (.v (.d (.lst (dn (List.range ws.length))))) .u .u .u) (T.set nb k) = .ok (T.set nb k) (.new (.ob "Addresses" [.tup ((rnW ws.length tg ws).map .str)])) :=
    meth (l := [.d (.lst (dn (List.range ws.length).reverse))]) (m := 2) (D := D_Addresses_renamed) (var_v rfl) cls_ao (by rw [at_cons, beq_self_eq_true]; rfl) (cons_L e6 nil_ok) rfl (renamed_ok O h rfl (.inl rfl))
  have ef : fMethD [("Addresses", 2, D_Addresses_followed)] (fVar 2) (fCons (fVar 3) fNil) (BE nb ws vs (.v (.d (.lst L))) (.v (.d (.lst (dn (List.range ws.length))))) .u .u .u) (T.set nb k) = .ok (T.set nb k) (.new (.ob "Addresses" [.tup ((cat2 ws vs).map .str)])) :=
    meth (l := [.d (Ao vs)]) (m := 2) (D := D_Addresses_followed) (var_v rfl) cls_ao (by rw [at_cons, beq_self_eq_true]; rfl) (cons_v (var_v rfl) nil_ok) rfl (followed_ok h g hl hmn)
  have s3 : kSet 6 (fLst (fCons (fMethD [("Addresses", 2, D_Addresses_renamed)] (fVar 2) (fCons (fUn gRevA (fVar 5)) fNil)) (fCons (fMethD [("Addresses", 2, D_Addresses_followed)] (fVar 2) (fCons (fVar 3) fNil)) fNil))) (BE nb ws vs (.v (.d (.lst L))) (.v (.d (.lst (dn (List.range ws.length))))) .u .u .u) (T.set nb k) = .nx (BE nb ws vs (.v (.d (.lst L))) (.v (.d (.lst (dn (List.range ws.length))))) (.v (.d (.lst [Ao (rnW ws.length tg ws), Ao (cat2 ws vs)]))) .u .u) (T.set nb k) := st_setL (lst_ok (cons_O em (cons_O ef nil_ok)) rfl) rfl
  obtain ⟨u7, k', P, hP, hk', s4⟩ := h4_ok (T := T) (nb := nb) (ws := ws) (vs := vs) (u4 := .v (.d (.lst L))) (u5 := .v (.d (.lst (dn (List.range ws.length))))) (u7 := .u) (u8 := .u) (P := [Ao (rnW ws.length tg ws), Ao (cat2 ws vs)]) h hb hk hj (fun d hd => by
    simp only [List.mem_cons, List.not_mem_nil, or_false] at hd
    rcases hd with rfl | rfl
    · exact ⟨_, _, wr, rfl⟩
    · exact ⟨_, _, wc, rfl⟩) rfl
  refine ⟨k', hk', ?_⟩
  have hU : (T.set nb k').length ≤ (T.set nb k).length := by simp
  generalize T.set nb k' = U at s4 hU ⊢
  obtain ⟨v, s5⟩ := bh_loop (S := U) (l := P) (tt := P) (env := BE nb ws vs (.v (.d (.lst L))) (.v (.d (.lst (dn (List.range ws.length))))) (.v (.d (.lst P))) u7 .u) rfl hP
  have s5' : kFor (iVal (fVar 6)) (tgN 8) BHB (BE nb ws vs (.v (.d (.lst L))) (.v (.d (.lst (dn (List.range ws.length))))) (.v (.d (.lst P))) u7 .u) U = .nx (BE nb ws vs (.v (.d (.lst L))) (.v (.d (.lst (dn (List.range ws.length))))) (.v (.d (.lst P))) u7 v) U := (for_it rfl).trans s5
  have em2 : fMakeD "Addresses" [] 2 D_Addresses_init (fCons (fVar 1) fNil) (BE nb ws vs (.v (.d (.lst L))) (.v (.d (.lst (dn (List.range ws.length))))) (.v (.d (.lst P))) u7 v) U = .ok U (.new (.ob "Addresses" [.tup (ws.map .str)])) := amake_ok h (a := .d (.lst (ws.map .str))) (cons_v (var_v rfl) nil_ok) Sq.lst
  have e8 := eq_VL (S := U) (env := BE nb ws vs (.v (.d (.lst L))) (.v (.d (.lst (dn (List.range ws.length))))) (.v (.d (.lst P))) u7 v) (fa := fVar 4) (var_ok rfl) (callD (m := 1) (D := D_law_told) (l := [.d (Ao ws)]) (cons_O em2 nil_ok) rfl (et U)) ok
  have e9 := eq_LV (S := U) (env := BE nb ws vs (.v (.d (.lst L))) (.v (.d (.lst (dn (List.range ws.length))))) (.v (.d (.lst P))) u7 v) (fb := fVar 4) (callD (m := 1) (D := D_law_told) (l := [.d (Ao ws)]) (cons_d (var_ok (i := 2) rfl) nil_ok) rfl (et U)) (var_ok rfl) ok
  refine def_st (U := U) ?_ hU
  exact congrArg outS (show B_law_behind_right (BE nb ws vs .u .u .u .u .u) (T.set nb k) = _ from seq_nx s1 (seq_nx s2 (seq_nx s3 (seq_nx s4 (seq_nx s5' (ret_ok (and_yes e8 e9)))))))
end
end Q14
namespace Q14
open DN PySem L2
theorem sgn_at : ∀ d : Nat, d < 10 → OP.okc ((("01**01001*" : Str)).cps.toList.getD d 0) = true := by decide
theorem signs_ok {k : Cell} {n j size : Nat} {T : Sto} (h : Bx j k) (hn : n < T.length) (hj : j + size + 1 < 1000000000) (hs : size ≤ 60) : ∃ (s : Str) (k' : Cell), Wd size s ∧ Bx (j + size + 1) k' ∧
    D_law_signs [.r n, .d (.int size)] (T.set n k) = .ok (T.set n k') (.val (.d (.str s))) := by
  obtain ⟨p, k1, hp, h1, e1⟩ := take_ok (m := (3 : Int)) h hn (by omega) (by omega) (by omega)
  obtain ⟨M, hM, hM2, eM⟩ : ∃ M : Nat, 0 < M ∧ M ≤ 10 ∧ gIx (.lst [.int 4, .int 2, .int 10]) (.int p) = vI M := by
    match p, (show p < 3 by omega) with
    | 0, _ => exact ⟨4, by omega, by omega, rfl⟩
    | 1, _ => exact ⟨2, by omega, by omega, rfl⟩
    | 2, _ => exact ⟨10, by omega, by omega, rfl⟩
  obtain ⟨S', ys, e2, ⟨k2, hk2, hS'⟩, e4, e5⟩ := fLc_draw (fl := fCons (fVar 1) fNil) (i := 3) (fe := fOp gIx (fC (.str "01**01001*")) (fCallD 2 D_law_take (fCons (fVar 0) (fCons (fOp gIx (fLst (fCons (fC (.int 4)) (fCons (fC (.int 2)) (fCons (fC (.int 10)) fNil)))) (fVar 2)) fNil)))) (vs := [3])
    (env := [.v (.r n), .v (.d (.int size)), .v (.d (.int p)), .u]) (S := T.set n k1) (n := size)
    (fun i S' => ∃ k', Bx (j + 1 + i) k' ∧ S' = T.set n k') (fun _ y => ∃ c, y = .str ⟨#[c]⟩ ∧ OP.okc c = true) rfl (by omega) ⟨k1, by simpa using h1, rfl⟩ (fun i S' hi ⟨k', hk', eS⟩ => by
      subst eS
      obtain ⟨q, k2, hq, h2, e3⟩ := take_ok (m := (M : Int)) hk' hn (by omega) (by omega) (by omega)
      have hq' := sgn_at q (by omega)
      have hx : (("01**01001*" : Str)).cps.toList[q]? = some ((("01**01001*" : Str)).cps.toList.getD q 0) := by
        rw [List.getD, List.getElem?_eq_getElem (show q < 10 by omega)]; rfl
      refine ⟨T.set n k2, .str ⟨#[(("01**01001*" : Str)).cps.toList.getD q 0]⟩, ?_, ⟨k2, h2, rfl⟩, ⟨_, rfl, hq'⟩⟩
      simp_arith [wipeE, eM, e3, gIx_str (show (("01**01001*" : Str)).length ≤ 100000 by decide) hx]
      exact got_val)
  subst hS'
  obtain ⟨cs, rfl, hcs⟩ := of_signs (all_of_ix e5)
  have hl : cs.length = size := by simpa using e4
  refine ⟨⟨cs.toArray⟩, k2, ⟨by simpa using hl, hs, fun c hc => hcs c (by simpa using hc)⟩, hk2.le (by omega), def_set ?_⟩
  have hj : gJoin (.str "") [.lst ((cs.map fun c => (⟨#[c]⟩ : Str)).map .str)] = vS ⟨cs.toArray⟩ := by
    show (match strs? ((cs.map fun c => (⟨#[c]⟩ : Str)).map .str) with | some ss => (if (ss.map fun s : Str => s.length).sum + ss.length * ("" : Str).length ≤ 100000 then vS (Txt.join "" ss) else none) | none => none) = _
    rw [strs_map]
    have : (((cs.map fun c => (⟨#[c]⟩ : Str))).map fun s : Str => s.length).sum = cs.length := by
      rw [List.map_map]
      clear hl hcs e4 e5 e2
      induction cs with
      | nil => rfl
      | cons c cs ih => rw [List.map_cons, List.sum_cons, ih, List.length_cons]; show 1 + cs.length = _; omega
    show (if (((cs.map fun c => (⟨#[c]⟩ : Str))).map fun s : Str => s.length).sum + _ * 0 ≤ 100000 then vS (Txt.join "" _) else none) = _
    rw [this, if_pos (by omega), OP.join_signs]
  simp_arith [e1, e2, hj]
section
variable {n m i j nb q : Nat} {S T : Sto} {k : Cell} {env env' : DN.Env} {ws vs : List Str} {fa fb : FE} {P Q : List Dv} {u0 u1 u3 u4 u5 u6 u7 u8 u9 u10 u11 u12 : Sl}
theorem strs_of {R : Str → Prop} : ∀ {l : List Dv}, (∀ y ∈ l, ∃ s, R s ∧ y = .str s) → ∃ ws : List Str, l = ws.map .str ∧ ∀ s ∈ ws, R s
  | [], _ => ⟨[], rfl, fun _ h => nomatch h⟩
  | y :: l, h => by
    obtain ⟨s, hs, rfl⟩ := h y List.mem_cons_self
    obtain ⟨ws, rfl, hw⟩ := strs_of fun z hz => h z (List.mem_cons_of_mem _ hz)
    exact ⟨s :: ws, rfl, fun t ht => by
      rcases List.mem_cons.mp ht with rfl | ht
      · exact hs
      · exact hw t ht⟩
theorem got_ofS {r : R Rt} {d : Dv} {S' : Sto} (h : r = .ok S' (.val (.d d))) : DN.Got r S' (.d d) := h ▸ .val _ _
theorem got_ofN {r : R Rt} {l : List Dv} {S' : Sto} (h : r = .ok S' (.new (.lst l))) : DN.Got r S' (.d (.lst l)) := h ▸ .new _ _ _ rfl
abbrev RI : FE := fLc (iRange1 (fCons (fVar 3) fNil)) (tgN 6) kYes (fCallD 2 D_law_signs (fCons (fVar 2) (fCons (fVar 7) fNil))) [6]
theorem ri_ok (hb : nb < T.length) (hk : Bx j k) (hj : j < 100000) {c sz : Nat} (hc : c ≤ 8) (hs : sz ≤ 30) : ∃ (ws : List Str) (k' : Cell), ws.length = c ∧ (∀ s ∈ ws, Wd sz s) ∧ Bx (j + 300) k' ∧ RI [u0, u1, .v (.r nb), .v (.d (.int c)), u4, u5, u6, .v (.d (.int sz)), u8, u9, u10, u11, u12] (T.set nb k) = .ok (T.set nb k') (.new (.lst (ws.map .str))) := by
  obtain ⟨S', ys, e2, ⟨k2, hk2, hS'⟩, e4, e5⟩ := fLc_draw (fl := fCons (fVar 3) fNil) (i := 6) (fe := fCallD 2 D_law_signs (fCons (fVar 2) (fCons (fVar 7) fNil))) (vs := [6])
    (env := [u0, u1, .v (.r nb), .v (.d (.int c)), u4, u5, u6, .v (.d (.int sz)), u8, u9, u10, u11, u12]) (S := T.set nb k) (n := c)
    (fun i S' => ∃ k', Bx (j + 31 * i) k' ∧ S' = T.set nb k') (fun _ y => ∃ s, Wd sz s ∧ y = .str s) rfl (by omega) ⟨k, hk.le (by omega), rfl⟩ (fun i S' hi ⟨k', hk', eS⟩ => by
      subst eS
      obtain ⟨s, k2, hw, h2, e3⟩ := signs_ok (size := sz) hk' hb (by omega) (by omega)
      have e : fCallD 2 D_law_signs (fCons (fVar 2) (fCons (fVar 7) fNil)) [u0, u1, .v (.r nb), .v (.d (.int c)), u4, u5, .v (.d (.int i)), .v (.d (.int sz)), u8, u9, u10, u11, u12] (T.set nb k') = .ok (T.set nb k2) (.val (.d (.str s))) := callD (l := [.r nb, .d (.int sz)]) (cons_v (var_v rfl) (cons_d (var_ok rfl) nil_ok)) rfl e3
      exact ⟨T.set nb k2, .str s, got_ofS e, ⟨k2, h2.le (by omega), rfl⟩, ⟨s, hw, rfl⟩⟩)
  subst hS'
  obtain ⟨ws, rfl, hw⟩ := strs_of (R := Wd sz) (l := ys) (all_of_ix e5)
  exact ⟨ws, k2, by simpa using e4, hw, hk2.le (by omega), e2⟩
/-- a row of words -/
def RwD (c b : Nat) (y : Dv) : Prop := ∃ (sz : Nat) (ws : List Str), sz ≤ b ∧ ws.length = c ∧ (∀ s ∈ ws, Wd sz s) ∧ y = .lst (ws.map .str)
abbrev A3 : FE := (fLc (iVal (fLst (fCons (fCallD 2 D_law_take (fCons (fVar 2) (fCons (fVar 4) fNil))) (fCons (fCallD 2 D_law_take (fCons (fVar 2) (fCons (fC (.int 6)) fNil))) fNil)))) (tgN 7) kYes RI [7])
theorem a3_ok (hb : nb < T.length) (hk : Bx j k) (hj : j < 1000) {c M : Nat} (hc : c ≤ 8) (hc1 : 1 ≤ c) (hM : M = 10 ∨ M = 30) : ∃ ws vs m n k', Ws m ws ∧ Ws n vs ∧ ws.length = c ∧ vs.length = c ∧ m ≤ 29 ∧ n ≤ 5 ∧ Bx (j + 1000) k' ∧
    A3 [u0, u1, .v (.r nb), .v (.d (.int c)), .v (.d (.int M)), u5, u6, u7, u8, u9, u10, u11, u12] (T.set nb k) = .ok (T.set nb k') (.new (.lst [.lst (ws.map .str), .lst (vs.map .str)])) := by
  obtain ⟨a, k1, ha, hk1, e1⟩ := take_ok (m := (M : Int)) (T := T) hk hb (by omega) (by omega) (by omega)
  obtain ⟨b, k2, hb2, hk2, e2⟩ := take_ok (m := (6 : Int)) (T := T) hk1 hb (by omega) (by omega) (by omega)
  have hi : iVal (fLst (fCons (fCallD 2 D_law_take (fCons (fVar 2) (fCons (fVar 4) fNil))) (fCons (fCallD 2 D_law_take (fCons (fVar 2) (fCons (fC (.int 6)) fNil))) fNil))) [u0, u1, .v (.r nb), .v (.d (.int c)), .v (.d (.int M)), u5, u6, u7, u8, u9, u10, u11, u12] (T.set nb k) = .ok (T.set nb k2) ([.int a, .int b], none) := by
    simp_arith [e1, e2]
  obtain ⟨S', ys, e3, ⟨k', hk', hS'⟩, hl, hP⟩ := lc_ix (t := ([.int a, .int b], none)) (tg := tgN 7) (ft := kYes) (fe := RI) (env := [u0, u1, .v (.r nb), .v (.d (.int c)), .v (.d (.int M)), u5, u6, .u, u8, u9, u10, u11, u12])
    (fun i S' => ∃ k', Bx (j + 2 + 300 * i) k' ∧ S' = T.set nb k') (fun i y => RwD c (if i = 0 then 29 else 5) y) rfl (l := [.int a, .int b]) (acc := []) (i := 0) (S := T.set nb k2) ⟨k2, hk2.le (by omega), rfl⟩ (fun q d S0 hd hI => by
      obtain ⟨k3, hk3, rfl⟩ := hI
      have step : ∀ z : Nat, z ≤ (if q = 0 then 29 else 5) → d = .int z → ∃ env' S' y, tgN 7 d [u0, u1, .v (.r nb), .v (.d (.int c)), .v (.d (.int M)), u5, u6, .u, u8, u9, u10, u11, u12] = some env' ∧ kYes env' (T.set nb k3) = .ok (T.set nb k3) true ∧ Got (RI env' (T.set nb k3)) S' (.d y) ∧ (∃ k', Bx (j + 2 + 300 * (0 + q + 1)) k' ∧ S' = T.set nb k') ∧ RwD c (if 0 + q = 0 then 29 else 5) y := fun z hz hd => by
        subst hd
        have z30 : z ≤ 30 := by split at hz <;> omega
        have q2 : q < 2 := by have := (List.getElem?_eq_some_iff.mp hd).1; simpa using this
        obtain ⟨ws, k4, l4, w4, hk4, e4⟩ := ri_ok (T := T) (u0 := u0) (u1 := u1) (u4 := .v (.d (.int M))) (u5 := u5) (u6 := u6) (u8 := u8) (u9 := u9) (u10 := u10) (u11 := u11) (u12 := u12) hb hk3 (by omega) hc z30
        exact ⟨_, T.set nb k4, .lst (ws.map .str), rfl, rfl, got_ofN e4, ⟨k4, hk4.le (by omega), rfl⟩, z, ws, by rw [Nat.zero_add]; exact hz, l4, w4, rfl⟩
      match q, hd with
      | 0, hd => cases hd; exact step a (by rw [if_pos rfl]; omega) rfl
      | 1, hd => cases hd; exact step b (by rw [if_neg (by decide)]; omega) rfl
      | q + 2, hd => simp at hd) (by simp)
  subst hS'
  match ys, hl, hP, e3 with
  | [y0, y1], _, hP, e3 =>
    obtain ⟨m, ws, hm, l1, w1, rfl⟩ := hP 0 y0 rfl
    obtain ⟨n, vs, hn, l2, w2, rfl⟩ := hP 1 y1 rfl
    refine ⟨ws, vs, m, n, k', ⟨w1, by omega, by omega⟩, ⟨w2, by omega, by omega⟩, l1, l2, hm, hn, hk'.le (by simp <;> omega), ?_⟩
    unfold A3 fLc
    rw [hi]
    show (lcGo ([.int a, .int b], none) (tgN 7) kYes RI [u0, u1, .v (.r nb), .v (.d (.int c)), .v (.d (.int M)), u5, u6, .u, u8, u9, u10, u11, u12] [.int a, .int b] (T.set nb k2) []).bind (fun S2 l => R.ok S2 (Rt.new (Cell.lst l))) = _
    rw [e3]
    rfl
end
end Q14
namespace Q14
open DN PySem L2 PySem.Spec
section
variable {ns : List Int} {n m i j nb q k : Nat} {S T X : Sto} {c : Cell} {env env' : DN.Env} {ws vs : List Str} {fa fb : FE} {u0 u1 u2 u3 u4 u5 u6 u7 u8 u9 u10 u11 u12 : Sl}
abbrev L1 : FS := kSetC 2 (fCallD 1 D_law_box (fCons (fCallD 2 D_law_cell_at (fCons (fVar 0) (fCons (fVar 1) fNil))) fNil))
abbrev L2a : FS := (kAsg (tgT (tgCons (tgN 3) (tgCons (tgN 4) tgNil))) (fTup (fCons (fOp gAdd (fC (.int 1)) (fCallD 2 D_law_take (fCons (fVar 2) (fCons (fC (.int 8)) fNil)))) (fCons (fOp gIx (fLst (fCons (fC (.int 10)) (fCons (fC (.int 30)) fNil))) (fCall gInt (fCons (fEqD ["Addresses"] [("Addresses", 2, D_Addresses_eq)] false (fCallD 2 D_law_take (fCons (fVar 2) (fCons (fC (.int 6)) fNil))) (fC (.int 0))) fNil))) fNil))))
abbrev L3 : FS := kSet 5 A3
abbrev L4 : FS := (kSet 8 (fLc (iVal (fVar 5)) (tgN 9) kYes (fMakeD "Addresses" [] 2 D_Addresses_init (fCons (fVar 9) fNil)) [9]))
abbrev T1 : FS := (kIf (kOr (kNot (kVal (fCallD 2 D_law_places_right (fCons (fIxD [("Addresses", 2, D_Addresses_getitem)] (fVar 5) (fC (.int 0))) (fCons (fIxD [("Addresses", 2, D_Addresses_getitem)] (fVar 8) (fC (.int 0))) fNil))))) (kNot (kVal (fCallD 3 D_law_order_right (fCons (fVar 2) (fCons (fIxD [("Addresses", 2, D_Addresses_getitem)] (fVar 5) (fC (.int 0))) (fCons (fIxD [("Addresses", 2, D_Addresses_getitem)] (fVar 8) (fC (.int 0))) fNil))))))) (kRet (fC (.bl false))) kNext)
abbrev T2B : FS := (kIf (kNot (kVal (fCallD 4 D_law_sum_right (fCons (fIxD [("Addresses", 2, D_Addresses_getitem)] (fVar 5) (fVar 11)) (fCons (fIxD [("Addresses", 2, D_Addresses_getitem)] (fVar 8) (fVar 11)) (fCons (fIxD [("Addresses", 2, D_Addresses_getitem)] (fVar 5) (fVar 12)) (fCons (fIxD [("Addresses", 2, D_Addresses_getitem)] (fVar 8) (fVar 12)) fNil))))))) (kRet (fC (.bl false))) kNext)
abbrev T2 : FS := (kFor (iVal (fLst (fCons (fTup (fCons (fC (.int 0)) (fCons (fC (.int 1)) fNil))) (fCons (fTup (fCons (fC (.int 1)) (fCons (fC (.int 0)) fNil))) (fCons (fTup (fCons (fC (.int 0)) (fCons (fC (.int 0)) fNil))) fNil))))) (tgT (tgCons (tgN 11) (tgCons (tgN 12) tgNil))) T2B)
abbrev T3 : FS := (kIf (kOr (kVal (fOp gNe (fPropD [("Addresses", 1, D_Addresses_words)] (fIxD [("Addresses", 2, D_Addresses_getitem)] (fVar 8) (fC (.int 0)))) (fCall gTuple (fCons (fIxD [("Addresses", 2, D_Addresses_getitem)] (fVar 5) (fC (.int 0))) fNil)))) (kVal (fOp gNe (fPropD [("Addresses", 1, D_Addresses_words)] (fIxD [("Addresses", 2, D_Addresses_getitem)] (fVar 8) (fC (.int 1)))) (fCall gTuple (fCons (fIxD [("Addresses", 2, D_Addresses_getitem)] (fVar 5) (fC (.int 1))) fNil))))) (kRet (fC (.bl false))) kNext)
abbrev T4 : FS := (kIf (kNot (kVal (fCallD 4 D_law_behind_right (fCons (fVar 2) (fCons (fIxD [("Addresses", 2, D_Addresses_getitem)] (fVar 5) (fC (.int 0))) (fCons (fIxD [("Addresses", 2, D_Addresses_getitem)] (fVar 8) (fC (.int 0))) (fCons (fIxD [("Addresses", 2, D_Addresses_getitem)] (fVar 8) (fC (.int 1))) fNil))))))) (kRet (fC (.bl false))) kNext)
abbrev TURN : FS := kSeq T1 (kSeq T2 (kSeq T3 T4))
abbrev L5 : FS := kFor (iRange1 (fCons (fC (.int 2)) fNil)) (tgN 10) TURN
abbrev BODY : FS := kSeq L1 (kSeq L2a (kSeq L3 (kSeq L4 L5)))
abbrev LPF : FI := iRange1 (fCons (fCall gMax (fCons (fC (.int 2)) (fCons (fCall gMin (fCons (fC (.int 6)) (fCons (fLenD [("Addresses", 1, D_Addresses_len)] (fCons (fVar 0) fNil)) fNil))) fNil))) fNil)
abbrev EL (u0 u1 : Sl) (nb : Nat) (u3 u4 : Sl) (ws vs : List Str) (u6 u7 u9 u10 u11 u12 : Sl) : DN.Env := [u0, u1, .v (.r nb), u3, u4, .v (.d (.lst [.lst (ws.map .str), .lst (vs.map .str)])), u6, u7, .v (.d (.lst [Ao ws, Ao vs])), u9, u10, u11, u12]
def pk (ws vs : List Str) : Nat → List Str | 0 => ws | _ => vs
theorem orNoS {t1 t2 : FT} {r : Bool} {S S1 S2 : Sto} {env : DN.Env} (h : t1 env S = .ok S1 false) (h2 : t2 env S1 = .ok S2 r) : kOr t1 t2 env S = .ok S2 r := by
  simp_arith [h, h2]
theorem r_at {i : Nat} (hi : i < 2) (hb : fb (EL u0 u1 nb u3 u4 ws vs u6 u7 u9 u10 u11 u12) S = .ok S (.val (.d (.int i)))) : fIxD [("Addresses", 2, D_Addresses_getitem)] (fVar 5) fb (EL u0 u1 nb u3 u4 ws vs u6 u7 u9 u10 u11 u12) S = .ok S (.val (.d (.lst ((pk ws vs i).map .str)))) := by
  rcases (by omega : i = 0 ∨ i = 1) with rfl | rfl
  · exact ixl (i := 0) (var_ok rfl) hb rfl
  · exact ixl (i := 1) (var_ok rfl) hb rfl
theorem b_at {i : Nat} (hi : i < 2) (hb : fb (EL u0 u1 nb u3 u4 ws vs u6 u7 u9 u10 u11 u12) S = .ok S (.val (.d (.int i)))) : fIxD [("Addresses", 2, D_Addresses_getitem)] (fVar 8) fb (EL u0 u1 nb u3 u4 ws vs u6 u7 u9 u10 u11 u12) S = .ok S (.val (.d (Ao (pk ws vs i)))) := by
  rcases (by omega : i = 0 ∨ i = 1) with rfl | rfl
  · exact ixl (i := 0) (var_ok rfl) hb rfl
  · exact ixl (i := 1) (var_ok rfl) hb rfl
theorem t1_ok (h : Ws m ws) (hb : nb < T.length) (hk : Bx j c) (hj : j < 90000) : ∃ c', Bx (j + 40) c' ∧ T1 (EL u0 u1 nb u3 u4 ws vs u6 u7 u9 u10 u11 u12) (T.set nb c) = .nx (EL u0 u1 nb u3 u4 ws vs u6 u7 u9 u10 u11 u12) (T.set nb c') := by
  obtain ⟨c', hc', e⟩ := order_right_ok h hb hk (by omega)
  have e0 := places_right_ok (S := T.set nb c) h
  refine ⟨c', hc', ?_⟩
  have a1 := callD (m := 2) (D := D_law_places_right) (l := [.d (.lst (ws.map .str)), .d (Ao ws)]) (cons_d (r_at (S := T.set nb c) (u0 := u0) (u1 := u1) (nb := nb) (u3 := u3) (u4 := u4) (ws := ws) (vs := vs) (u6 := u6) (u7 := u7) (u9 := u9) (u10 := u10) (u11 := u11) (u12 := u12) (i := 0) (by omega) c_ok) (cons_d (b_at (i := 0) (by omega) c_ok) nil_ok)) rfl e0
  have a2 := callD (m := 3) (D := D_law_order_right) (l := [.r nb, .d (.lst (ws.map .str)), .d (Ao ws)]) (cons_v (var_v (i := 2) rfl) (cons_d (r_at (S := T.set nb c) (u0 := u0) (u1 := u1) (nb := nb) (u3 := u3) (u4 := u4) (ws := ws) (vs := vs) (u6 := u6) (u7 := u7) (u9 := u9) (u10 := u10) (u11 := u11) (u12 := u12) (i := 0) (by omega) c_ok) (cons_d (b_at (i := 0) (by omega) c_ok) nil_ok))) rfl e
  exact if_no (orNoS (notB (val_s a1)) (notB (val_s a2))) rfl
theorem t2b_ok {p1 p2 : Nat} (h : Ws m ws) (g : Ws n vs) (hl : vs.length = ws.length) (hm : m ≤ 29) (hn : n ≤ 5) (h1 : p1 < 2) (h2 : p2 < 2) (h3 : p1 = 0 ∨ p2 = 0) : T2B (EL u0 u1 nb u3 u4 ws vs u6 u7 u9 u10 (.v (.d (.int p1))) (.v (.d (.int p2)))) S = .nx (EL u0 u1 nb u3 u4 ws vs u6 u7 u9 u10 (.v (.d (.int p1))) (.v (.d (.int p2)))) S := by
  have key : ∃ m1 m2, Ws m1 (pk ws vs p1) ∧ Ws m2 (pk ws vs p2) ∧ (pk ws vs p2).length = (pk ws vs p1).length ∧ m1 + m2 ≤ 60 := by
    rcases (by omega : (p1 = 0 ∧ p2 = 0) ∨ (p1 = 0 ∧ p2 = 1) ∨ (p1 = 1 ∧ p2 = 0)) with ⟨rfl, rfl⟩ | ⟨rfl, rfl⟩ | ⟨rfl, rfl⟩
    · exact ⟨m, m, h, h, rfl, by omega⟩
    · exact ⟨m, n, h, g, hl, by omega⟩
    · exact ⟨n, m, g, h, hl.symm, by omega⟩
  obtain ⟨m1, m2, w1, w2, hl2, hb⟩ := key
  have e := sum_right_ok (S := S) w1 w2 hl2 hb
  exact if_no (notB (val_s (callD (m := 4) (D := D_law_sum_right) (l := [.d (.lst ((pk ws vs p1).map .str)), .d (Ao (pk ws vs p1)), .d (.lst ((pk ws vs p2).map .str)), .d (Ao (pk ws vs p2))]) (cons_d (r_at h1 (var_ok rfl)) (cons_d (b_at h1 (var_ok rfl)) (cons_d (r_at h2 (var_ok rfl)) (cons_d (b_at h2 (var_ok rfl)) nil_ok)))) rfl e))) rfl
theorem t2_ok (h : Ws m ws) (g : Ws n vs) (hl : vs.length = ws.length) (hm : m ≤ 29) (hn : n ≤ 5) : T2 (EL u0 u1 nb u3 u4 ws vs u6 u7 u9 u10 u11 u12) S = .nx (EL u0 u1 nb u3 u4 ws vs u6 u7 u9 u10 (.v (.d (.int 0))) (.v (.d (.int 0)))) S := by
  have ei : iVal (fLst (fCons (fTup (fCons (fC (.int 0)) (fCons (fC (.int 1)) fNil))) (fCons (fTup (fCons (fC (.int 1)) (fCons (fC (.int 0)) fNil))) (fCons (fTup (fCons (fC (.int 0)) (fCons (fC (.int 0)) fNil))) fNil)))) (EL u0 u1 nb u3 u4 ws vs u6 u7 u9 u10 u11 u12) S = .ok S ([.tup [.int 0, .int 1], .tup [.int 1, .int 0], .tup [.int 0, .int 0]], none) := by
    simp_arith []
  refine (for_it ei).trans ?_
  rw [go_ok (env1 := EL u0 u1 nb u3 u4 ws vs u6 u7 u9 u10 (.v (.d (.int (0 : Nat)))) (.v (.d (.int (1 : Nat))))) rfl (t2b_ok h g hl hm hn (by omega) (by omega) (.inl rfl))]
  rw [go_ok (env1 := EL u0 u1 nb u3 u4 ws vs u6 u7 u9 u10 (.v (.d (.int (1 : Nat)))) (.v (.d (.int (0 : Nat))))) rfl (t2b_ok h g hl hm hn (by omega) (by omega) (.inr rfl))]
  rw [go_ok (env1 := EL u0 u1 nb u3 u4 ws vs u6 u7 u9 u10 (.v (.d (.int (0 : Nat)))) (.v (.d (.int (0 : Nat))))) rfl (t2b_ok h g hl hm hn (by omega) (by omega) (.inl rfl))]
  rfl
theorem ne_tw (h : Ws m ws) : gNe (.tup (ws.map .str)) (.tup (ws.map .str)) = vB false := gNe_refl (by rw [okN_tup]; exact h.ok _)
theorem t3_ok (h : Ws m ws) (g : Ws n vs) : T3 (EL u0 u1 nb u3 u4 ws vs u6 u7 u9 u10 u11 u12) S = .nx (EL u0 u1 nb u3 u4 ws vs u6 u7 u9 u10 u11 u12) S := by
  have w0 : fPropD [("Addresses", 1, D_Addresses_words)] (fIxD [("Addresses", 2, D_Addresses_getitem)] (fVar 8) (fC (.int 0))) (EL u0 u1 nb u3 u4 ws vs u6 u7 u9 u10 u11 u12) S = .ok S (.val (.d (.tup (ws.map .str)))) := propV (b_at (i := 0) (by omega) c_ok) awords_ok
  have w1 : fPropD [("Addresses", 1, D_Addresses_words)] (fIxD [("Addresses", 2, D_Addresses_getitem)] (fVar 8) (fC (.int 1))) (EL u0 u1 nb u3 u4 ws vs u6 u7 u9 u10 u11 u12) S = .ok S (.val (.d (.tup (vs.map .str)))) := propV (b_at (i := 1) (by omega) c_ok) awords_ok
  have r0 : fCall gTuple (fCons (fIxD [("Addresses", 2, D_Addresses_getitem)] (fVar 5) (fC (.int 0))) fNil) (EL u0 u1 nb u3 u4 ws vs u6 u7 u9 u10 u11 u12) S = .ok S (.val (.d (.tup (ws.map .str)))) := call_ok (r_at (i := 0) (by omega) c_ok) gTuple_lst
  have r1 : fCall gTuple (fCons (fIxD [("Addresses", 2, D_Addresses_getitem)] (fVar 5) (fC (.int 1))) fNil) (EL u0 u1 nb u3 u4 ws vs u6 u7 u9 u10 u11 u12) S = .ok S (.val (.d (.tup (vs.map .str)))) := call_ok (r_at (i := 1) (by omega) c_ok) gTuple_lst
  exact if_no (orNo (val_s (op_ok w0 r0 (ne_tw h))) (val_s (op_ok w1 r1 (ne_tw g)))) rfl
theorem t4_ok (h : Ws m ws) (g : Ws n vs) (hl : vs.length = ws.length) (hm : m ≤ 29) (hn : n ≤ 5) (hb : nb < T.length) (hk : Bx j c) (hj : j < 90000) : ∃ c', Bx (j + 1) c' ∧ T4 (EL u0 u1 nb u3 u4 ws vs u6 u7 u9 u10 u11 u12) (T.set nb c) = .nx (EL u0 u1 nb u3 u4 ws vs u6 u7 u9 u10 u11 u12) (T.set nb c') := by
  obtain ⟨c', hc', e⟩ := behind_right_ok h g hl (by omega) hb hk (by omega)
  exact ⟨c', hc', if_no (notB (val_s (callD (m := 4) (D := D_law_behind_right) (l := [.r nb, .d (.lst (ws.map .str)), .d (Ao ws), .d (Ao vs)]) (cons_v (var_v rfl) (cons_d (r_at (i := 0) (by omega) c_ok) (cons_d (b_at (i := 0) (by omega) c_ok) (cons_d (b_at (i := 1) (by omega) c_ok) nil_ok)))) rfl e))) rfl⟩
theorem turn_ok (h : Ws m ws) (g : Ws n vs) (hl : vs.length = ws.length) (hm : m ≤ 29) (hn : n ≤ 5) (hb : nb < T.length) (hk : Bx j c) (hj : j < 80000) : ∃ c' v11 v12, Bx (j + 50) c' ∧ TURN (EL u0 u1 nb u3 u4 ws vs u6 u7 u9 u10 u11 u12) (T.set nb c) = .nx (EL u0 u1 nb u3 u4 ws vs u6 u7 u9 u10 v11 v12) (T.set nb c') := by
  obtain ⟨c1, h1, s1⟩ := t1_ok (u0 := u0) (u1 := u1) (u3 := u3) (u4 := u4) (vs := vs) (u6 := u6) (u7 := u7) (u9 := u9) (u10 := u10) (u11 := u11) (u12 := u12) h hb hk (by omega)
  obtain ⟨c2, h2, s4⟩ := t4_ok (u0 := u0) (u1 := u1) (u3 := u3) (u4 := u4) (u6 := u6) (u7 := u7) (u9 := u9) (u10 := u10) (u11 := .v (.d (.int 0))) (u12 := .v (.d (.int 0))) h g hl hm hn hb h1 (by omega)
  exact ⟨c2, _, _, h2.le (by omega), seq_nx s1 (seq_nx (t2_ok h g hl hm hn) (seq_nx (t3_ok h g) s4))⟩
end
end Q14
namespace Q14
open DN PySem L2 PySem.Spec
section
variable {ns : List Int} {n m i j nb q k : Nat} {S T X : Sto} {c : Cell} {env env' : DN.Env} {ws vs : List Str} {fa fb : FE} {u0 u1 u2 u3 u4 u5 u6 u7 u8 u9 u10 u11 u12 : Sl}
theorem l2a_ok (hb : nb < T.length) (hk : Bx j c) (hj : j < 1000) : ∃ x M c', x ≤ 8 ∧ 1 ≤ x ∧ (M = 10 ∨ M = 30) ∧ Bx (j + 2) c' ∧ L2a [u0, u1, .v (.r nb), u3, u4, u5, u6, u7, u8, u9, u10, u11, u12] (T.set nb c) = .nx [u0, u1, .v (.r nb), .v (.d (.int (x : Nat))), .v (.d (.int (M : Nat))), u5, u6, u7, u8, u9, u10, u11, u12] (T.set nb c') := by
  obtain ⟨a, c1, ha, h1, e1⟩ := take_ok (m := (8 : Int)) (T := T) hk hb (by omega) (by omega) (by omega)
  obtain ⟨b, c2, hb2, h2, e2⟩ := take_ok (m := (6 : Int)) (T := T) h1 hb (by omega) (by omega) (by omega)
  have ea : (1 : Int) + (a : Int) = ((a + 1 : Nat) : Int) := by omega
  by_cases z : (b : Int) = 0
  · refine ⟨a + 1, 30, c2, by omega, by omega, .inr rfl, h2.le (by omega), ?_⟩
    have g : gIx (.lst [.int 10, .int 30]) (.int 1) = vI 30 := rfl
    have gi : gInt [.bl true] = vI 1 := rfl
    show kAsg _ _ _ _ = _
    simp_arith [e1, gAdd_, ea, e2, gEq_int, decide_eq_true z, gi, g]
    rfl
  · refine ⟨a + 1, 10, c2, by omega, by omega, .inl rfl, h2.le (by omega), ?_⟩
    have g : gIx (.lst [.int 10, .int 30]) (.int 0) = vI 10 := rfl
    have gi : gInt [.bl false] = vI 0 := rfl
    show kAsg _ _ _ _ = _
    simp_arith [e1, gAdd_, ea, e2, gEq_int, decide_eq_false z, gi, g]
    rfl
theorem l4_ok (h : Ws m ws) (g : Ws n vs) : L4 [u0, u1, .v (.r nb), u3, u4, .v (.d (.lst [.lst (ws.map .str), .lst (vs.map .str)])), u6, u7, u8, u9, u10, u11, u12] S = .nx (EL u0 u1 nb u3 u4 ws vs u6 u7 u9 u10 u11 u12) S := by
  have e := fLc_mp (fi := iVal (fVar 5)) (tg := tgN 9) (ft := kYes) (fe := fMakeD "Addresses" [] 2 D_Addresses_init (fCons (fVar 9) fNil)) (vs := [9]) (env := [u0, u1, .v (.r nb), u3, u4, .v (.d (.lst [.lst (ws.map .str), .lst (vs.map .str)])), u6, u7, u8, u9, u10, u11, u12]) (S := S)
    (fun w : List Str => .lst (w.map .str)) [ws, vs] (fun _ => true) (fun w => Ao w) rfl (by simp) (fun w hw => by
      have hw2 : ∃ p, Ws p w := by
        simp only [List.mem_cons, List.not_mem_nil, or_false] at hw
        rcases hw with rfl | rfl
        · exact ⟨_, h⟩
        · exact ⟨_, g⟩
      obtain ⟨p, hp⟩ := hw2
      refine ⟨[u0, u1, .v (.r nb), u3, u4, .v (.d (.lst [.lst (ws.map .str), .lst (vs.map .str)])), u6, u7, u8, .v (.d (.lst (w.map .str))), u10, u11, u12], rfl, rfl, fun _ => ?_⟩
      have em : fMakeD "Addresses" [] 2 D_Addresses_init (fCons (fVar 9) fNil) [u0, u1, .v (.r nb), u3, u4, .v (.d (.lst [.lst (ws.map .str), .lst (vs.map .str)])), u6, u7, u8, .v (.d (.lst (w.map .str))), u10, u11, u12] S = .ok S (.new (.ob "Addresses" [.tup (w.map .str)])) := amake_ok hp (a := .d (.lst (w.map .str))) (cons_v (var_v rfl) nil_ok) Sq.lst
      rw [em]
      exact .new _ _ _ rfl)
  rw [filter_tt] at e
  exact st_setL e rfl
theorem body_ok (hn : ns.length ≤ 63) : ∃ r' X', r'.length = 12 ∧ BODY [.v (.d (.scr ns)), .v (.d (.int k)), u2, u3, u4, u5, u6, u7, u8, u9, u10, u11, u12] X = .nx (.v (.d (.scr ns)) :: r') X' := by
  obtain ⟨v, ev⟩ := cell_at_ok (k := k) (S := X) hn
  obtain ⟨k0, hk0, eb⟩ := box_ok (v := v) (S := X)
  have s1 : L1 [.v (.d (.scr ns)), .v (.d (.int k)), u2, u3, u4, u5, u6, u7, u8, u9, u10, u11, u12] X = .nx [.v (.d (.scr ns)), .v (.d (.int k)), .v (.r X.length), u3, u4, u5, u6, u7, u8, u9, u10, u11, u12] (X ++ [k0]) := by
    show kSetC _ _ _ _ = _
    simp_arith [ev, eb]
  have hb : X.length < (X ++ [k0]).length := by simp
  obtain ⟨x, M, c1, hx, hx1, hM, h1, s2⟩ := l2a_ok (T := X ++ [k0]) (c := k0) (u0 := .v (.d (.scr ns))) (u1 := .v (.d (.int k))) (u3 := u3) (u4 := u4) (u5 := u5) (u6 := u6) (u7 := u7) (u8 := u8) (u9 := u9) (u10 := u10) (u11 := u11) (u12 := u12) hb hk0 (by omega)
  rw [set_last] at s2
  obtain ⟨ws, vs, m, n, c2, hw, hv, l1, l2, hm, hnn, h2, e3⟩ := a3_ok (T := X ++ [k0]) (k := c1) (u0 := .v (.d (.scr ns))) (u1 := .v (.d (.int k))) (u5 := u5) (u6 := u6) (u7 := u7) (u8 := u8) (u9 := u9) (u10 := u10) (u11 := u11) (u12 := u12) hb h1 (by omega) hx hx1 hM
  have s3 := st_setL (i := 5) e3 rfl
  obtain ⟨e', S', s5, v10, v11, v12, c', rfl, rfl, h5⟩ := for_rg (fl := fCons (fC (.int 2)) fNil) (i := 10) (n := 2) (body := TURN) (env := EL (.v (.d (.scr ns))) (.v (.d (.int k))) X.length (.v (.d (.int x))) (.v (.d (.int M))) ws vs u6 u7 u9 u10 u11 u12) (S := (X ++ [k0]).set X.length c2)
    (fun i env S' => ∃ v10 v11 v12 c', env = EL (.v (.d (.scr ns))) (.v (.d (.int k))) X.length (.v (.d (.int x))) (.v (.d (.int M))) ws vs u6 u7 u9 v10 v11 v12 ∧ S' = (X ++ [k0]).set X.length c' ∧ Bx (2000 + 50 * i) c') rfl (by omega) ⟨_, _, _, _, rfl, rfl, h2.le (by omega)⟩ (fun i env S' hi hI => by
      obtain ⟨v10, v11, v12, c', rfl, rfl, h⟩ := hI
      obtain ⟨c3, w11, w12, h3, e⟩ := turn_ok (T := X ++ [k0]) (c := c') (u0 := .v (.d (.scr ns))) (u1 := .v (.d (.int k))) (u3 := .v (.d (.int x))) (u4 := .v (.d (.int M))) (u6 := u6) (u7 := u7) (u9 := u9) (u10 := .v (.d (.int i))) (u11 := v11) (u12 := v12) hw hv (by omega) hm hnn hb h (by omega)
      exact ⟨_, _, e, _, _, _, _, rfl, rfl, h3.le (by omega)⟩)
  exact ⟨_, _, rfl, seq_nx s1 (seq_nx s2 (seq_nx s3 (seq_nx (l4_ok hw hv) s5)))⟩
end
theorem law_true (ns : List Int) (hn : ns.length ≤ 63) : ∃ S, D_law [.d (.scr ns)] [] = .ok S (.val (.d (.bl true))) := by
  have hm : ∃ m : Nat, m ≤ 6 ∧ fCons (fCall gMax (fCons (fC (.int 2)) (fCons (fCall gMin (fCons (fC (.int 6)) (fCons (fLenD [("Addresses", 1, D_Addresses_len)] (fCons (fVar 0) fNil)) fNil))) fNil))) fNil [.v (.d (.scr ns)), .u, .u, .u, .u, .u, .u, .u, .u, .u, .u, .u, .u] [] = .ok [] [.d (.int m)] := by
    refine ⟨max 2 (min 6 ns.length), by omega, ?_⟩
    simp_arith [gLen_scr, gMin2_, gMin2, gMax2_, gMax2]
    congr 4
    split <;> split <;> omega
  obtain ⟨m, hm6, em⟩ := hm
  obtain ⟨env', S', e, r', hr', rfl⟩ := for_rg (i := 1) (n := m) (body := BODY) (S := []) (fun _ env S => ∃ r', r'.length = 12 ∧ env = .v (.d (.scr ns)) :: r') em (by omega) ⟨_, rfl, rfl⟩ (fun t env S ht hI => by
    obtain ⟨r', hr', rfl⟩ := hI
    match r', hr' with
    | [v1, v2, v3, v4, v5, v6, v7, v8, v9, v10, v11, v12], _ =>
      obtain ⟨r2, S2, hr2, e2⟩ := body_ok (X := S) (k := t) (u2 := v2) (u3 := v3) (u4 := v4) (u5 := v5) (u6 := v6) (u7 := v7) (u8 := v8) (u9 := v9) (u10 := v10) (u11 := v11) (u12 := v12) hn
      exact ⟨_, S2, e2, r2, hr2, rfl⟩)
  refine ⟨[], ?_⟩
  unfold D_law defD
  show exitR 0 (outS (kSeq (kFor LPF (tgN 1) BODY) (kRet (fC (.bl true))) (startE 13 [Vr.d (.scr ns)]) [])) = _
  have e' : kFor LPF (tgN 1) BODY _ [] = _ := e
  rw [show startE 13 [Vr.d (.scr ns)] = [.v (.d (.scr ns)), .u, .u, .u, .u, .u, .u, .u, .u, .u, .u, .u, .u] from rfl, kSeq_, e', seqR_nx, kRet_, fC_, retR_ok, outS_rt, exit_d]
  rfl
end Q14
namespace Q14
open PySem PySem.Spec PyProof.Rows L2 OP Evl DN
theorem all_mk {w : World} {K : PySem.W.Frag} {h : Heap} {mg : Str → Option Value} {fa : Addr} (X : K.In h) (G : h.Ns mainGlobals mg) (hfa : mg "law" = some (.ref fa))
    {C_Addresses : Addr}
    {f1 : Addr} {od1 an1 : Option Addr} {sl1 : Array (Option Value)} {oc1 kV1 dc1 pm1 cd1 ct1 : Value}
    {f2 : Addr} {od2 an2 : Option Addr} {sl2 : Array (Option Value)} {oc2 kV2 dc2 pm2 cd2 ct2 : Value}
    {f3 : Addr} {od3 an3 : Option Addr} {sl3 : Array (Option Value)} {oc3 kV3 dc3 pm3 cd3 ct3 : Value}
    {f4 : Addr} {od4 an4 : Option Addr} {sl4 : Array (Option Value)} {oc4 kV4 dc4 pm4 cd4 ct4 : Value}
    {f5 : Addr} {od5 an5 : Option Addr} {sl5 : Array (Option Value)} {oc5 kV5 dc5 pm5 cd5 ct5 : Value}
    {f6 : Addr} {od6 an6 : Option Addr} {sl6 : Array (Option Value)} {oc6 kV6 dc6 pm6 cd6 ct6 : Value}
    {f7 : Addr} {od7 an7 : Option Addr} {sl7 : Array (Option Value)} {oc7 kV7 dc7 pm7 cd7 ct7 : Value}
    {f8 : Addr} {od8 an8 : Option Addr} {sl8 : Array (Option Value)} {oc8 kV8 dc8 pm8 cd8 ct8 : Value}
    {f9 : Addr} {od9 an9 : Option Addr} {sl9 : Array (Option Value)} {oc9 kV9 dc9 pm9 cd9 ct9 : Value}
    {f10 : Addr} {od10 an10 : Option Addr} {sl10 : Array (Option Value)} {oc10 kV10 dc10 pm10 cd10 ct10 : Value}
    {f11 : Addr} {od11 an11 : Option Addr} {sl11 : Array (Option Value)} {oc11 kV11 dc11 pm11 cd11 ct11 : Value}
    {en11 eq11 : Str} {eN11 : Addr} {eb11 es11 : List Value} {eh11 ea11 : Bool} {esn11 : List Str} {ec11 : Option Bool} {ed11 : Option Addr} {e011 e111 e211 e311 e511 : Option Value} {ei11 : String}
    {ox11 : Value} {oy11 : Option Addr} {oz11 : Array DictEntry} {ow11 : Nat} {ov11 : Array (Option Value)}
    {f12 : Addr} {od12 an12 : Option Addr} {sl12 : Array (Option Value)} {oc12 kV12 dc12 pm12 cd12 ct12 : Value}
    {f13 : Addr} {od13 an13 : Option Addr} {sl13 : Array (Option Value)} {oc13 kV13 dc13 pm13 cd13 ct13 : Value}
    {q13 : Addr} {rs13 : List Value}
    {f14 : Addr} {od14 an14 : Option Addr} {sl14 : Array (Option Value)} {oc14 kV14 dc14 pm14 cd14 ct14 : Value}
    {f15 : Addr} {od15 an15 : Option Addr} {sl15 : Array (Option Value)} {oc15 kV15 dc15 pm15 cd15 ct15 : Value}
    {q15 : Addr} {rs15 : List Value}
    {f16 : Addr} {od16 an16 : Option Addr} {sl16 : Array (Option Value)} {oc16 kV16 dc16 pm16 cd16 ct16 : Value}
    {f17 : Addr} {od17 an17 : Option Addr} {sl17 : Array (Option Value)} {oc17 kV17 dc17 pm17 cd17 ct17 : Value}
    {f18 : Addr} {od18 an18 : Option Addr} {sl18 : Array (Option Value)} {oc18 kV18 dc18 pm18 cd18 ct18 : Value}
    {f19 : Addr} {od19 an19 : Option Addr} {sl19 : Array (Option Value)} {oc19 kV19 dc19 pm19 cd19 ct19 : Value}
    {f20 : Addr} {od20 an20 : Option Addr} {sl20 : Array (Option Value)} {oc20 kV20 dc20 pm20 cd20 ct20 : Value}
    {f21 : Addr} {od21 an21 : Option Addr} {sl21 : Array (Option Value)} {oc21 kV21 dc21 pm21 cd21 ct21 : Value}
    {f22 : Addr} {od22 an22 : Option Addr} {sl22 : Array (Option Value)} {oc22 kV22 dc22 pm22 cd22 ct22 : Value}
    {f23 : Addr} {od23 an23 : Option Addr} {sl23 : Array (Option Value)} {oc23 kV23 dc23 pm23 cd23 ct23 : Value}
    {f24 : Addr} {od24 an24 : Option Addr} {sl24 : Array (Option Value)} {oc24 kV24 dc24 pm24 cd24 ct24 : Value}
    {f25 : Addr} {od25 an25 : Option Addr} {sl25 : Array (Option Value)} {oc25 kV25 dc25 pm25 cd25 ct25 : Value}
    {f26 : Addr} {od26 an26 : Option Addr} {sl26 : Array (Option Value)} {oc26 kV26 dc26 pm26 cd26 ct26 : Value}
    {f27 : Addr} {od27 an27 : Option Addr} {sl27 : Array (Option Value)} {oc27 kV27 dc27 pm27 cd27 ct27 : Value}
    {f28 : Addr} {od28 an28 : Option Addr} {sl28 : Array (Option Value)} {oc28 kV28 dc28 pm28 cd28 ct28 : Value}
    {f29 : Addr} {od29 an29 : Option Addr} {sl29 : Array (Option Value)} {oc29 kV29 dc29 pm29 cd29 ct29 : Value}
    {f30 : Addr} {od30 an30 : Option Addr} {sl30 : Array (Option Value)} {oc30 kV30 dc30 pm30 cd30 ct30 : Value}
    {f31 : Addr} {od31 an31 : Option Addr} {sl31 : Array (Option Value)} {oc31 kV31 dc31 pm31 cd31 ct31 : Value}
    {f32 : Addr} {od32 an32 : Option Addr} {sl32 : Array (Option Value)} {oc32 kV32 dc32 pm32 cd32 ct32 : Value}
    {f33 : Addr} {od33 an33 : Option Addr} {sl33 : Array (Option Value)} {oc33 kV33 dc33 pm33 cd33 ct33 : Value}
    {f34 : Addr} {od34 an34 : Option Addr} {sl34 : Array (Option Value)} {oc34 kV34 dc34 pm34 cd34 ct34 : Value}
    {f35 : Addr} {od35 an35 : Option Addr} {sl35 : Array (Option Value)} {oc35 kV35 dc35 pm35 cd35 ct35 : Value}
    {f36 : Addr} {od36 an36 : Option Addr} {sl36 : Array (Option Value)} {oc36 kV36 dc36 pm36 cd36 ct36 : Value}
    {f37 : Addr} {od37 an37 : Option Addr} {sl37 : Array (Option Value)} {oc37 kV37 dc37 pm37 cd37 ct37 : Value}
    {f38 : Addr} {od38 an38 : Option Addr} {sl38 : Array (Option Value)} {oc38 kV38 dc38 pm38 cd38 ct38 : Value}
    {f39 : Addr} {od39 an39 : Option Addr} {sl39 : Array (Option Value)} {oc39 kV39 dc39 pm39 cd39 ct39 : Value}
    {f40 : Addr} {od40 an40 : Option Addr} {sl40 : Array (Option Value)} {oc40 kV40 dc40 pm40 cd40 ct40 : Value}
    {f41 : Addr} {od41 an41 : Option Addr} {sl41 : Array (Option Value)} {oc41 kV41 dc41 pm41 cd41 ct41 : Value}
    {f42 : Addr} {od42 an42 : Option Addr} {sl42 : Array (Option Value)} {oc42 kV42 dc42 pm42 cd42 ct42 : Value}
    {t0 : Tok}
    {t1 : Tok}
    {t2 : Tok}
    {t3 : Tok} {ka_FLIPPED : Addr} {ke_FLIPPED : Array DictEntry} {kn_FLIPPED : Nat} {kt_FLIPPED_0 kt_FLIPPED_1 kt_FLIPPED_2 : Tok} 
    (cg_Addresses : PySem.W.nsIn K mainGlobals "Addresses" = some (some (.ref C_Addresses)))
    (c1_Addresses : PySem.W.plainGet K C_Addresses Str.empty = true)
    (c2_Addresses : PySem.W.hasDictIn K C_Addresses = true)
    (c3_Addresses : PySem.W.plainOver K C_Addresses = true)
    (c4_Addresses : PySem.W.findIn K (.ref C_Addresses) "__setattr__" = some (some (.builtin "object.__setattr__")))
    (i1_Addresses : PySem.W.findIn K (.ref C_Addresses) "__class__" = some (some (.builtin "object.__class__")))
    (i2_Addresses : PySem.W.specialIn K (.builtin "object.__class__") "__get__" = some (some (.builtin "getset_descriptor.__get__")))
    (i3_Addresses : PySem.W.takesIn K (.builtin "object.__class__") = some true)
    (i4_Addresses : PySem.W.mroIn K C_Addresses (.type "object") = some true)
    (kk_Addresses : PySem.W.kitOne K (.ref C_Addresses) (.ref C_Addresses) = some true)
    (na_Addresses_kept : PySem.W.findIn K (.ref C_Addresses) "kept" = some none)
    (a1 : PySem.W.nsIn K mainGlobals "_law_box" = some (some (.ref f1)))
    (l1 : K.lookup f1 = some ⟨oc1, od1, .func (PySem.W.fnOf "_law_box" "_law_box" (defArgs s_law_box) (defBody s_law_box) (defScope s_law_box) .none kV1 dc1 pm1 an1 cd1 ct1), sl1⟩)
    (c1 : PySem.W.codeIn K cd1 "_law_box" = true)
    (k1 : PySem.W.keepIn K (.ref f1) = true)
    (a2 : PySem.W.findIn K (.ref C_Addresses) "__len__" = some (some (.ref f2)))
    (fn2 : PySem.W.isFn K (.ref f2) = true)
    (fi2 : PySem.W.fnIn K f2 = true)
    (l2 : K.lookup f2 = some ⟨oc2, od2, .func (PySem.W.fnOf "__len__" "Addresses.__len__" (defArgs s_Addresses_len) (defBody s_Addresses_len) (defScope s_Addresses_len) .none kV2 dc2 pm2 an2 cd2 ct2), sl2⟩)
    (c2 : PySem.W.codeIn K cd2 "Addresses.__len__" = true)
    (k2 : PySem.W.keepIn K (.ref f2) = true)
    (a3 : PySem.W.nsIn K mainGlobals "is_word" = some (some (.ref f3)))
    (l3 : K.lookup f3 = some ⟨oc3, od3, .func (PySem.W.fnOf "is_word" "is_word" (defArgs s_is_word) (defBody s_is_word) (defScope s_is_word) .none kV3 dc3 pm3 an3 cd3 ct3), sl3⟩)
    (c3 : PySem.W.codeIn K cd3 "is_word" = true)
    (k3 : PySem.W.keepIn K (.ref f3) = true)
    (a4 : PySem.W.nsIn K mainGlobals "is_integer" = some (some (.ref f4)))
    (l4 : K.lookup f4 = some ⟨oc4, od4, .func (PySem.W.fnOf "is_integer" "is_integer" (defArgs s_is_integer) (defBody s_is_integer) (defScope s_is_integer) .none kV4 dc4 pm4 an4 cd4 ct4), sl4⟩)
    (c4 : PySem.W.codeIn K cd4 "is_integer" = true)
    (k4 : PySem.W.keepIn K (.ref f4) = true)
    (a5 : PySem.W.findIn K (.ref C_Addresses) "check_house" = some (some (.ref f5)))
    (fn5 : PySem.W.isFn K (.ref f5) = true)
    (l5 : K.lookup f5 = some ⟨oc5, od5, .func (PySem.W.fnOf "check_house" "Addresses.check_house" (defArgs s_Addresses_check_house) (defBody s_Addresses_check_house) (defScope s_Addresses_check_house) .none kV5 dc5 pm5 an5 cd5 ct5), sl5⟩)
    (c5 : PySem.W.codeIn K cd5 "Addresses.check_house" = true)
    (k5 : PySem.W.keepIn K (.ref f5) = true)
    (a6 : PySem.W.findIn K (.ref C_Addresses) "__getitem__" = some (some (.ref f6)))
    (fn6 : PySem.W.isFn K (.ref f6) = true)
    (fi6 : PySem.W.fnIn K f6 = true)
    (l6 : K.lookup f6 = some ⟨oc6, od6, .func (PySem.W.fnOf "__getitem__" "Addresses.__getitem__" (defArgs s_Addresses_getitem) (defBody s_Addresses_getitem) (defScope s_Addresses_getitem) .none kV6 dc6 pm6 an6 cd6 ct6), sl6⟩)
    (c6 : PySem.W.codeIn K cd6 "Addresses.__getitem__" = true)
    (k6 : PySem.W.keepIn K (.ref f6) = true)
    (a7 : PySem.W.nsIn K mainGlobals "are_words" = some (some (.ref f7)))
    (l7 : K.lookup f7 = some ⟨oc7, od7, .func (PySem.W.fnOf "are_words" "are_words" (defArgs s_are_words) (defBody s_are_words) (defScope s_are_words) .none kV7 dc7 pm7 an7 cd7 ct7), sl7⟩)
    (c7 : PySem.W.codeIn K cd7 "are_words" = true)
    (k7 : PySem.W.keepIn K (.ref f7) = true)
    (a8 : PySem.W.findIn K (.ref C_Addresses) "__init__" = some (some (.ref f8)))
    (fn8 : PySem.W.isFn K (.ref f8) = true)
    (mm8 : PySem.W.makesIn K C_Addresses = true)
    (mk8 : PySem.W.keepIn K (.ref C_Addresses) = true)
    (l8 : K.lookup f8 = some ⟨oc8, od8, .func (PySem.W.fnOf "__init__" "Addresses.__init__" (defArgs s_Addresses_init) (defBody s_Addresses_init) (defScope s_Addresses_init) .none kV8 dc8 pm8 an8 cd8 ct8), sl8⟩)
    (c8 : PySem.W.codeIn K cd8 "Addresses.__init__" = true)
    (k8 : PySem.W.keepIn K (.ref f8) = true)
    (a9 : PySem.W.nsIn K mainGlobals "_law_cell_at" = some (some (.ref f9)))
    (l9 : K.lookup f9 = some ⟨oc9, od9, .func (PySem.W.fnOf "_law_cell_at" "_law_cell_at" (defArgs s_law_cell_at) (defBody s_law_cell_at) (defScope s_law_cell_at) .none kV9 dc9 pm9 an9 cd9 ct9), sl9⟩)
    (c9 : PySem.W.codeIn K cd9 "_law_cell_at" = true)
    (k9 : PySem.W.keepIn K (.ref f9) = true)
    (a10 : PySem.W.nsIn K mainGlobals "_law_take" = some (some (.ref f10)))
    (l10 : K.lookup f10 = some ⟨oc10, od10, .func (PySem.W.fnOf "_law_take" "_law_take" (defArgs s_law_take) (defBody s_law_take) (defScope s_law_take) .none kV10 dc10 pm10 an10 cd10 ct10), sl10⟩)
    (c10 : PySem.W.codeIn K cd10 "_law_take" = true)
    (k10 : PySem.W.keepIn K (.ref f10) = true)
    (a11 : PySem.W.findIn K (.ref C_Addresses) "__eq__" = some (some (.ref f11)))
    (fn11 : PySem.W.isFn K (.ref f11) = true)
    (oa11 : K.lookup C_Addresses = some (excClassObj en11 eq11 C_Addresses eN11 eb11 [.type "object"] eh11 esn11 es11 ea11 ec11 ed11 e011 e111 e211 e311 e511 ei11))
    (ob11 : K.lookup eN11 = some ⟨ox11, oy11, .dict oz11 ow11, ov11⟩)
    (ok11 : keysOk oz11 = true)
    (oc11_ : PySem.W.nsIn K eN11 "__eq__" = some (some (.ref f11)))
    (od11_ : PySem.W.nsIn K eN11 "__ne__" = some none)
    (l11 : K.lookup f11 = some ⟨oc11, od11, .func (PySem.W.fnOf "__eq__" "Addresses.__eq__" (defArgs s_Addresses_eq) (defBody s_Addresses_eq) (defScope s_Addresses_eq) .none kV11 dc11 pm11 an11 cd11 ct11), sl11⟩)
    (oo11 : oc11 = .type "function")
    (c11 : PySem.W.codeIn K cd11 "Addresses.__eq__" = true)
    (k11 : PySem.W.keepIn K (.ref f11) = true)
    (a12 : PySem.W.nsIn K mainGlobals "_law_signs" = some (some (.ref f12)))
    (l12 : K.lookup f12 = some ⟨oc12, od12, .func (PySem.W.fnOf "_law_signs" "_law_signs" (defArgs s_law_signs) (defBody s_law_signs) (defScope s_law_signs) .none kV12 dc12 pm12 an12 cd12 ct12), sl12⟩)
    (c12 : PySem.W.codeIn K cd12 "_law_signs" = true)
    (k12 : PySem.W.keepIn K (.ref f12) = true)
    (a13 : PySem.W.findIn K (.ref C_Addresses) "words" = some (some (.ref q13)))
    (pr13 : PySem.W.recIn K q13 "property" = some (.ref f13 :: rs13))
    (pg13 : PySem.W.specialIn K (.ref q13) "__get__" = some (some (.builtin "property.__get__")))
    (pt13 : PySem.W.takesIn K (.ref q13) = some true)
    (l13 : K.lookup f13 = some ⟨oc13, od13, .func (PySem.W.fnOf "words" "Addresses.words" (defArgs s_Addresses_words) (defBody s_Addresses_words) (defScope s_Addresses_words) .none kV13 dc13 pm13 an13 cd13 ct13), sl13⟩)
    (c13 : PySem.W.codeIn K cd13 "Addresses.words" = true)
    (k13 : PySem.W.keepIn K (.ref f13) = true)
    (a14 : PySem.W.nsIn K mainGlobals "check_addresses" = some (some (.ref f14)))
    (l14 : K.lookup f14 = some ⟨oc14, od14, .func (PySem.W.fnOf "check_addresses" "check_addresses" (defArgs s_check_addresses) (defBody s_check_addresses) (defScope s_check_addresses) .none kV14 dc14 pm14 an14 cd14 ct14), sl14⟩)
    (c14 : PySem.W.codeIn K cd14 "check_addresses" = true)
    (k14 : PySem.W.keepIn K (.ref f14) = true)
    (a15 : PySem.W.findIn K (.ref C_Addresses) "length" = some (some (.ref q15)))
    (pr15 : PySem.W.recIn K q15 "property" = some (.ref f15 :: rs15))
    (pg15 : PySem.W.specialIn K (.ref q15) "__get__" = some (some (.builtin "property.__get__")))
    (pt15 : PySem.W.takesIn K (.ref q15) = some true)
    (l15 : K.lookup f15 = some ⟨oc15, od15, .func (PySem.W.fnOf "length" "Addresses.length" (defArgs s_Addresses_length) (defBody s_Addresses_length) (defScope s_Addresses_length) .none kV15 dc15 pm15 an15 cd15 ct15), sl15⟩)
    (c15 : PySem.W.codeIn K cd15 "Addresses.length" = true)
    (k15 : PySem.W.keepIn K (.ref f15) = true)
    (a16 : PySem.W.nsIn K mainGlobals "pairs_of" = some (some (.ref f16)))
    (l16 : K.lookup f16 = some ⟨oc16, od16, .func (PySem.W.fnOf "pairs_of" "pairs_of" (defArgs s_pairs_of) (defBody s_pairs_of) (defScope s_pairs_of) .none kV16 dc16 pm16 an16 cd16 ct16), sl16⟩)
    (c16 : PySem.W.codeIn K cd16 "pairs_of" = true)
    (k16 : PySem.W.keepIn K (.ref f16) = true)
    (a17 : PySem.W.nsIn K mainGlobals "needless" = some (some (.ref f17)))
    (l17 : K.lookup f17 = some ⟨oc17, od17, .func (PySem.W.fnOf "needless" "needless" (defArgs s_needless) (defBody s_needless) (defScope s_needless) .none kV17 dc17 pm17 an17 cd17 ct17), sl17⟩)
    (c17 : PySem.W.codeIn K cd17 "needless" = true)
    (k17 : PySem.W.keepIn K (.ref f17) = true)
    (a18 : PySem.W.nsIn K mainGlobals "check_word" = some (some (.ref f18)))
    (l18 : K.lookup f18 = some ⟨oc18, od18, .func (PySem.W.fnOf "check_word" "check_word" (defArgs s_check_word) (defBody s_check_word) (defScope s_check_word) .none kV18 dc18 pm18 an18 cd18 ct18), sl18⟩)
    (c18 : PySem.W.codeIn K cd18 "check_word" = true)
    (k18 : PySem.W.keepIn K (.ref f18) = true)
    (a19 : PySem.W.nsIn K mainGlobals "differing" = some (some (.ref f19)))
    (l19 : K.lookup f19 = some ⟨oc19, od19, .func (PySem.W.fnOf "differing" "differing" (defArgs s_differing) (defBody s_differing) (defScope s_differing) .none kV19 dc19 pm19 an19 cd19 ct19), sl19⟩)
    (c19 : PySem.W.codeIn K cd19 "differing" = true)
    (k19 : PySem.W.keepIn K (.ref f19) = true)
    (a20 : PySem.W.nsIn K mainGlobals "meets" = some (some (.ref f20)))
    (l20 : K.lookup f20 = some ⟨oc20, od20, .func (PySem.W.fnOf "meets" "meets" (defArgs s_meets) (defBody s_meets) (defScope s_meets) .none kV20 dc20 pm20 an20 cd20 ct20), sl20⟩)
    (c20 : PySem.W.codeIn K cd20 "meets" = true)
    (k20 : PySem.W.keepIn K (.ref f20) = true)
    (a21 : PySem.W.nsIn K mainGlobals "held_by_both" = some (some (.ref f21)))
    (l21 : K.lookup f21 = some ⟨oc21, od21, .func (PySem.W.fnOf "held_by_both" "held_by_both" (defArgs s_held_by_both) (defBody s_held_by_both) (defScope s_held_by_both) .none kV21 dc21 pm21 an21 cd21 ct21), sl21⟩)
    (c21 : PySem.W.codeIn K cd21 "held_by_both" = true)
    (k21 : PySem.W.keepIn K (.ref f21) = true)
    (a22 : PySem.W.nsIn K mainGlobals "meeting" = some (some (.ref f22)))
    (l22 : K.lookup f22 = some ⟨oc22, od22, .func (PySem.W.fnOf "meeting" "meeting" (defArgs s_meeting) (defBody s_meeting) (defScope s_meeting) .none kV22 dc22 pm22 an22 cd22 ct22), sl22⟩)
    (c22 : PySem.W.codeIn K cd22 "meeting" = true)
    (k22 : PySem.W.keepIn K (.ref f22) = true)
    (a23 : PySem.W.nsIn K mainGlobals "apart" = some (some (.ref f23)))
    (l23 : K.lookup f23 = some ⟨oc23, od23, .func (PySem.W.fnOf "apart" "apart" (defArgs s_apart) (defBody s_apart) (defScope s_apart) .none kV23 dc23 pm23 an23 cd23 ct23), sl23⟩)
    (c23 : PySem.W.codeIn K cd23 "apart" = true)
    (k23 : PySem.W.keepIn K (.ref f23) = true)
    (a24 : PySem.W.findIn K (.ref C_Addresses) "table" = some (some (.ref f24)))
    (fn24 : PySem.W.isFn K (.ref f24) = true)
    (l24 : K.lookup f24 = some ⟨oc24, od24, .func (PySem.W.fnOf "table" "Addresses.table" (defArgs s_Addresses_table) (defBody s_Addresses_table) (defScope s_Addresses_table) .none kV24 dc24 pm24 an24 cd24 ct24), sl24⟩)
    (c24 : PySem.W.codeIn K cd24 "Addresses.table" = true)
    (k24 : PySem.W.keepIn K (.ref f24) = true)
    (a25 : PySem.W.nsIn K mainGlobals "trimmed" = some (some (.ref f25)))
    (l25 : K.lookup f25 = some ⟨oc25, od25, .func (PySem.W.fnOf "trimmed" "trimmed" (defArgs s_trimmed) (defBody s_trimmed) (defScope s_trimmed) .none kV25 dc25 pm25 an25 cd25 ct25), sl25⟩)
    (c25 : PySem.W.codeIn K cd25 "trimmed" = true)
    (k25 : PySem.W.keepIn K (.ref f25) = true)
    (a26 : PySem.W.nsIn K mainGlobals "_law_told" = some (some (.ref f26)))
    (l26 : K.lookup f26 = some ⟨oc26, od26, .func (PySem.W.fnOf "_law_told" "_law_told" (defArgs s_law_told) (defBody s_law_told) (defScope s_law_told) .none kV26 dc26 pm26 an26 cd26 ct26), sl26⟩)
    (c26 : PySem.W.codeIn K cd26 "_law_told" = true)
    (k26 : PySem.W.keepIn K (.ref f26) = true)
    (a27 : PySem.W.findIn K (.ref C_Addresses) "renamed" = some (some (.ref f27)))
    (fn27 : PySem.W.isFn K (.ref f27) = true)
    (l27 : K.lookup f27 = some ⟨oc27, od27, .func (PySem.W.fnOf "renamed" "Addresses.renamed" (defArgs s_Addresses_renamed) (defBody s_Addresses_renamed) (defScope s_Addresses_renamed) .none kV27 dc27 pm27 an27 cd27 ct27), sl27⟩)
    (c27 : PySem.W.codeIn K cd27 "Addresses.renamed" = true)
    (k27 : PySem.W.keepIn K (.ref f27) = true)
    (a28 : PySem.W.findIn K (.ref C_Addresses) "followed" = some (some (.ref f28)))
    (fn28 : PySem.W.isFn K (.ref f28) = true)
    (l28 : K.lookup f28 = some ⟨oc28, od28, .func (PySem.W.fnOf "followed" "Addresses.followed" (defArgs s_Addresses_followed) (defBody s_Addresses_followed) (defScope s_Addresses_followed) .none kV28 dc28 pm28 an28 cd28 ct28), sl28⟩)
    (c28 : PySem.W.codeIn K cd28 "Addresses.followed" = true)
    (k28 : PySem.W.keepIn K (.ref f28) = true)
    (a29 : PySem.W.findIn K (.ref C_Addresses) "check_place" = some (some (.ref f29)))
    (fn29 : PySem.W.isFn K (.ref f29) = true)
    (l29 : K.lookup f29 = some ⟨oc29, od29, .func (PySem.W.fnOf "check_place" "Addresses.check_place" (defArgs s_Addresses_check_place) (defBody s_Addresses_check_place) (defScope s_Addresses_check_place) .none kV29 dc29 pm29 an29 cd29 ct29), sl29⟩)
    (c29 : PySem.W.codeIn K cd29 "Addresses.check_place" = true)
    (k29 : PySem.W.keepIn K (.ref f29) = true)
    (a30 : PySem.W.nsIn K mainGlobals "flipped" = some (some (.ref f30)))
    (l30 : K.lookup f30 = some ⟨oc30, od30, .func (PySem.W.fnOf "flipped" "flipped" (defArgs s_flipped) (defBody s_flipped) (defScope s_flipped) .none kV30 dc30 pm30 an30 cd30 ct30), sl30⟩)
    (c30 : PySem.W.codeIn K cd30 "flipped" = true)
    (k30 : PySem.W.keepIn K (.ref f30) = true)
    (a31 : PySem.W.findIn K (.ref C_Addresses) "flipped" = some (some (.ref f31)))
    (fn31 : PySem.W.isFn K (.ref f31) = true)
    (l31 : K.lookup f31 = some ⟨oc31, od31, .func (PySem.W.fnOf "flipped" "Addresses.flipped" (defArgs s_Addresses_flipped) (defBody s_Addresses_flipped) (defScope s_Addresses_flipped) .none kV31 dc31 pm31 an31 cd31 ct31), sl31⟩)
    (c31 : PySem.W.codeIn K cd31 "Addresses.flipped" = true)
    (k31 : PySem.W.keepIn K (.ref f31) = true)
    (a32 : PySem.W.findIn K (.ref C_Addresses) "without" = some (some (.ref f32)))
    (fn32 : PySem.W.isFn K (.ref f32) = true)
    (l32 : K.lookup f32 = some ⟨oc32, od32, .func (PySem.W.fnOf "without" "Addresses.without" (defArgs s_Addresses_without) (defBody s_Addresses_without) (defScope s_Addresses_without) .none kV32 dc32 pm32 an32 cd32 ct32), sl32⟩)
    (c32 : PySem.W.codeIn K cd32 "Addresses.without" = true)
    (k32 : PySem.W.keepIn K (.ref f32) = true)
    (a33 : PySem.W.nsIn K mainGlobals "_law_behind_right" = some (some (.ref f33)))
    (l33 : K.lookup f33 = some ⟨oc33, od33, .func (PySem.W.fnOf "_law_behind_right" "_law_behind_right" (defArgs s_law_behind_right) (defBody s_law_behind_right) (defScope s_law_behind_right) .none kV33 dc33 pm33 an33 cd33 ct33), sl33⟩)
    (c33 : PySem.W.codeIn K cd33 "_law_behind_right" = true)
    (k33 : PySem.W.keepIn K (.ref f33) = true)
    (a34 : PySem.W.nsIn K mainGlobals "_law_flipped" = some (some (.ref f34)))
    (l34 : K.lookup f34 = some ⟨oc34, od34, .func (PySem.W.fnOf "_law_flipped" "_law_flipped" (defArgs s_law_flipped) (defBody s_law_flipped) (defScope s_law_flipped) .none kV34 dc34 pm34 an34 cd34 ct34), sl34⟩)
    (c34 : PySem.W.codeIn K cd34 "_law_flipped" = true)
    (k34 : PySem.W.keepIn K (.ref f34) = true)
    (a35 : PySem.W.nsIn K mainGlobals "_law_without" = some (some (.ref f35)))
    (l35 : K.lookup f35 = some ⟨oc35, od35, .func (PySem.W.fnOf "_law_without" "_law_without" (defArgs s_law_without) (defBody s_law_without) (defScope s_law_without) .none kV35 dc35 pm35 an35 cd35 ct35), sl35⟩)
    (c35 : PySem.W.codeIn K cd35 "_law_without" = true)
    (k35 : PySem.W.keepIn K (.ref f35) = true)
    (a36 : PySem.W.nsIn K mainGlobals "_law_apart" = some (some (.ref f36)))
    (l36 : K.lookup f36 = some ⟨oc36, od36, .func (PySem.W.fnOf "_law_apart" "_law_apart" (defArgs s_law_apart) (defBody s_law_apart) (defScope s_law_apart) .none kV36 dc36 pm36 an36 cd36 ct36), sl36⟩)
    (c36 : PySem.W.codeIn K cd36 "_law_apart" = true)
    (k36 : PySem.W.keepIn K (.ref f36) = true)
    (a37 : PySem.W.nsIn K mainGlobals "_law_places_right" = some (some (.ref f37)))
    (l37 : K.lookup f37 = some ⟨oc37, od37, .func (PySem.W.fnOf "_law_places_right" "_law_places_right" (defArgs s_law_places_right) (defBody s_law_places_right) (defScope s_law_places_right) .none kV37 dc37 pm37 an37 cd37 ct37), sl37⟩)
    (c37 : PySem.W.codeIn K cd37 "_law_places_right" = true)
    (k37 : PySem.W.keepIn K (.ref f37) = true)
    (a38 : PySem.W.nsIn K mainGlobals "_law_mixed" = some (some (.ref f38)))
    (l38 : K.lookup f38 = some ⟨oc38, od38, .func (PySem.W.fnOf "_law_mixed" "_law_mixed" (defArgs s_law_mixed) (defBody s_law_mixed) (defScope s_law_mixed) .none kV38 dc38 pm38 an38 cd38 ct38), sl38⟩)
    (c38 : PySem.W.codeIn K cd38 "_law_mixed" = true)
    (k38 : PySem.W.keepIn K (.ref f38) = true)
    (a39 : PySem.W.findIn K (.ref C_Addresses) "apart" = some (some (.ref f39)))
    (fn39 : PySem.W.isFn K (.ref f39) = true)
    (l39 : K.lookup f39 = some ⟨oc39, od39, .func (PySem.W.fnOf "apart" "Addresses.apart" (defArgs s_Addresses_apart) (defBody s_Addresses_apart) (defScope s_Addresses_apart) .none kV39 dc39 pm39 an39 cd39 ct39), sl39⟩)
    (c39 : PySem.W.codeIn K cd39 "Addresses.apart" = true)
    (k39 : PySem.W.keepIn K (.ref f39) = true)
    (a40 : PySem.W.nsIn K mainGlobals "_law_order_right" = some (some (.ref f40)))
    (l40 : K.lookup f40 = some ⟨oc40, od40, .func (PySem.W.fnOf "_law_order_right" "_law_order_right" (defArgs s_law_order_right) (defBody s_law_order_right) (defScope s_law_order_right) .none kV40 dc40 pm40 an40 cd40 ct40), sl40⟩)
    (c40 : PySem.W.codeIn K cd40 "_law_order_right" = true)
    (k40 : PySem.W.keepIn K (.ref f40) = true)
    (a41 : PySem.W.nsIn K mainGlobals "_law_sum_right" = some (some (.ref f41)))
    (l41 : K.lookup f41 = some ⟨oc41, od41, .func (PySem.W.fnOf "_law_sum_right" "_law_sum_right" (defArgs s_law_sum_right) (defBody s_law_sum_right) (defScope s_law_sum_right) .none kV41 dc41 pm41 an41 cd41 ct41), sl41⟩)
    (c41 : PySem.W.codeIn K cd41 "_law_sum_right" = true)
    (k41 : PySem.W.keepIn K (.ref f41) = true)
    (a42 : PySem.W.nsIn K mainGlobals "law" = some (some (.ref f42)))
    (l42 : K.lookup f42 = some ⟨oc42, od42, .func (PySem.W.fnOf "law" "law" (defArgs s_law) (defBody s_law) (defScope s_law) .none kV42 dc42 pm42 an42 cd42 ct42), sl42⟩)
    (c42 : PySem.W.codeIn K cd42 "law" = true)
    (k42 : PySem.W.keepIn K (.ref f42) = true)
    (al0 : PySem.W.nsIn K mainGlobals "apart_words" = some (some (.ref f23)))
    (al1 : PySem.W.nsIn K mainGlobals "flipped_words" = some (some (.ref f30)))
    (z0 : PySem.W.nsIn K mainGlobals "max" = some none)
    (z1 : PySem.W.nsIn K mainGlobals "int" = some none)
    (z2 : PySem.W.nsIn K mainGlobals "len" = some none)
    (z3 : PySem.W.nsIn K mainGlobals "isinstance" = some none)
    (z4 : PySem.W.nsIn K mainGlobals "str" = some none)
    (z5 : PySem.W.nsIn K mainGlobals "all" = some none)
    (z6 : PySem.W.nsIn K mainGlobals "bool" = some none)
    (z7 : PySem.W.nsIn K mainGlobals "list" = some none)
    (z8 : PySem.W.nsIn K mainGlobals "tuple" = some none)
    (z9 : PySem.W.nsIn K mainGlobals "range" = some none)
    (z10 : PySem.W.nsIn K mainGlobals "enumerate" = some none)
    (z11 : PySem.W.nsIn K mainGlobals "zip" = some none)
    (z12 : PySem.W.nsIn K mainGlobals "sorted" = some none)
    (z13 : PySem.W.nsIn K mainGlobals "min" = some none)
    (cst0 : PySem.W.nsIn K mainGlobals "MOST_SIGNS_words" = some (some (.int 60 t0)))
    (cst1 : PySem.W.nsIn K mainGlobals "SIGNS" = some (some (.str "01*" t1)))
    (cst2 : PySem.W.nsIn K mainGlobals "MOST_HOUSES" = some (some (.int 40 t2)))
    (cst3 : PySem.W.nsIn K mainGlobals "MOST_SIGNS_addresses" = some (some (.int 60 t3)))
    (kc_Addresses : PySem.W.kitOne K (.type "int") (.ref C_Addresses) = some false)
    (kb_Addresses_bool : PySem.W.kitOne K (.ref C_Addresses) (.type "bool") = some false)
    (kb_Addresses_int : PySem.W.kitOne K (.ref C_Addresses) (.type "int") = some false)
    (kb_Addresses_str : PySem.W.kitOne K (.ref C_Addresses) (.type "str") = some false)
    (kb_Addresses_list : PySem.W.kitOne K (.ref C_Addresses) (.type "list") = some false)
    (kb_Addresses_tuple : PySem.W.kitOne K (.ref C_Addresses) (.type "tuple") = some false)
    (kb_Addresses_dict : PySem.W.kitOne K (.ref C_Addresses) (.type "dict") = some false)
    (kg_FLIPPED : PySem.W.nsIn K mainGlobals "FLIPPED" = some (some (.ref ka_FLIPPED)))
    (kl_FLIPPED : K.lookup ka_FLIPPED = some ⟨.type "dict", none, .dict ke_FLIPPED kn_FLIPPED, #[]⟩)
    (kk_FLIPPED : PySem.W.KeysLit w.params ke_FLIPPED.toList)
    (kv_FLIPPED_0 : PySem.W.nsIn K ka_FLIPPED "0" = some (some (.str "1" kt_FLIPPED_0)))
    (kv_FLIPPED_1 : PySem.W.nsIn K ka_FLIPPED "1" = some (some (.str "0" kt_FLIPPED_1)))
    (kv_FLIPPED_2 : PySem.W.nsIn K ka_FLIPPED "*" = some (some (.str "*" kt_FLIPPED_2)))  :
    ∃ fd : FuncData, (∀ (s : Shared) (v : Value), BindsTo s fd ⟨[v], []⟩ [("_law_script", v)]) ∧ ∀ base : Heap, K.In base → base.Ns mainGlobals mg → DN.FnG true PP w K mg base (L2N.CX PP w) 12 fa fd ["_law_script"] (DN.spLaw K) := by
  have e := hfa.symm.trans (PySem.W.mg_of X G a42)
  cases e
  have F1 := fun_mk (st := s_law_box) l1 c1 k1
  have b1 := F1.binds (ps := ["_law_cell"]) fun _ _ _ _ _ _ us hl => match us, hl with | [_], _ => rfl
  have F2 := fun_mk (st := s_Addresses_len) l2 c2 k2
  have b2 := F2.binds (ps := ["self"]) fun _ _ _ _ _ _ us hl => match us, hl with | [_], _ => rfl
  have F3 := fun_mk (st := s_is_word) l3 c3 k3
  have b3 := F3.binds (ps := ["value"]) fun _ _ _ _ _ _ us hl => match us, hl with | [_], _ => rfl
  have F4 := fun_mk (st := s_is_integer) l4 c4 k4
  have b4 := F4.binds (ps := ["value"]) fun _ _ _ _ _ _ us hl => match us, hl with | [_], _ => rfl
  have F5 := fun_mk (st := s_Addresses_check_house) l5 c5 k5
  have b5 := F5.binds (ps := ["self", "house"]) fun _ _ _ _ _ _ us hl => match us, hl with | [_, _], _ => rfl
  have F6 := fun_mk (st := s_Addresses_getitem) l6 c6 k6
  have b6 := F6.binds (ps := ["self", "house"]) fun _ _ _ _ _ _ us hl => match us, hl with | [_, _], _ => rfl
  have F7 := fun_mk (st := s_are_words) l7 c7 k7
  have b7 := F7.binds (ps := ["value"]) fun _ _ _ _ _ _ us hl => match us, hl with | [_], _ => rfl
  have F8 := fun_mk (st := s_Addresses_init) l8 c8 k8
  have b8 := F8.binds (ps := ["self", "words"]) fun _ _ _ _ _ _ us hl => match us, hl with | [_, _], _ => rfl
  have F9 := fun_mk (st := s_law_cell_at) l9 c9 k9
  have b9 := F9.binds (ps := ["_law_script", "_law_k"]) fun _ _ _ _ _ _ us hl => match us, hl with | [_, _], _ => rfl
  have F10 := fun_mk (st := s_law_take) l10 c10 k10
  have b10 := F10.binds (ps := ["_law_box_here", "_law_many"]) fun _ _ _ _ _ _ us hl => match us, hl with | [_, _], _ => rfl
  have F11 := fun_mk (st := s_Addresses_eq) l11 c11 k11
  have b11 := F11.binds (ps := ["self", "other"]) fun _ _ _ _ _ _ us hl => match us, hl with | [_, _], _ => rfl
  have F12 := fun_mk (st := s_law_signs) l12 c12 k12
  have b12 := F12.binds (ps := ["_law_box_here", "_law_size"]) fun _ _ _ _ _ _ us hl => match us, hl with | [_, _], _ => rfl
  have F13 := fun_mk (st := s_Addresses_words) l13 c13 k13
  have b13 := F13.binds (ps := ["self"]) fun _ _ _ _ _ _ us hl => match us, hl with | [_], _ => rfl
  have F14 := fun_mk (st := s_check_addresses) l14 c14 k14
  have b14 := F14.binds (ps := ["value"]) fun _ _ _ _ _ _ us hl => match us, hl with | [_], _ => rfl
  have F15 := fun_mk (st := s_Addresses_length) l15 c15 k15
  have b15 := F15.binds (ps := ["self"]) fun _ _ _ _ _ _ us hl => match us, hl with | [_], _ => rfl
  have F16 := fun_mk (st := s_pairs_of) l16 c16 k16
  have b16 := F16.binds (ps := ["addresses"]) fun _ _ _ _ _ _ us hl => match us, hl with | [_], _ => rfl
  have F17 := fun_mk (st := s_needless) l17 c17 k17
  have b17 := F17.binds (ps := ["addresses"]) fun _ _ _ _ _ _ us hl => match us, hl with | [_], _ => rfl
  have F18 := fun_mk (st := s_check_word) l18 c18 k18
  have b18 := F18.binds (ps := ["value"]) fun _ _ _ _ _ _ us hl => match us, hl with | [_], _ => rfl
  have F19 := fun_mk (st := s_differing) l19 c19 k19
  have b19 := F19.binds (ps := ["one", "other"]) fun _ _ _ _ _ _ us hl => match us, hl with | [_, _], _ => rfl
  have F20 := fun_mk (st := s_meets) l20 c20 k20
  have b20 := F20.binds (ps := ["one", "other"]) fun _ _ _ _ _ _ us hl => match us, hl with | [_, _], _ => rfl
  have F21 := fun_mk (st := s_held_by_both) l21 c21 k21
  have b21 := F21.binds (ps := ["one", "other"]) fun _ _ _ _ _ _ us hl => match us, hl with | [_, _], _ => rfl
  have F22 := fun_mk (st := s_meeting) l22 c22 k22
  have b22 := F22.binds (ps := ["addresses"]) fun _ _ _ _ _ _ us hl => match us, hl with | [_], _ => rfl
  have F23 := fun_mk (st := s_apart) l23 c23 k23
  have b23 := F23.binds (ps := ["one", "other"]) fun _ _ _ _ _ _ us hl => match us, hl with | [_, _], _ => rfl
  have F24 := fun_mk (st := s_Addresses_table) l24 c24 k24
  have b24 := F24.binds (ps := ["self"]) fun _ _ _ _ _ _ us hl => match us, hl with | [_], _ => rfl
  have F25 := fun_mk (st := s_trimmed) l25 c25 k25
  have b25 := F25.binds (ps := ["addresses"]) fun _ _ _ _ _ _ us hl => match us, hl with | [_], _ => rfl
  have F26 := fun_mk (st := s_law_told) l26 c26 k26
  have b26 := F26.binds (ps := ["_law_book"]) fun _ _ _ _ _ _ us hl => match us, hl with | [_], _ => rfl
  have F27 := fun_mk (st := s_Addresses_renamed) l27 c27 k27
  have b27 := F27.binds (ps := ["self", "order"]) fun _ _ _ _ _ _ us hl => match us, hl with | [_, _], _ => rfl
  have F28 := fun_mk (st := s_Addresses_followed) l28 c28 k28
  have b28 := F28.binds (ps := ["self", "other"]) fun _ _ _ _ _ _ us hl => match us, hl with | [_, _], _ => rfl
  have F29 := fun_mk (st := s_Addresses_check_place) l29 c29 k29
  have b29 := F29.binds (ps := ["self", "place"]) fun _ _ _ _ _ _ us hl => match us, hl with | [_, _], _ => rfl
  have F30 := fun_mk (st := s_flipped) l30 c30 k30
  have b30 := F30.binds (ps := ["word"]) fun _ _ _ _ _ _ us hl => match us, hl with | [_], _ => rfl
  have F31 := fun_mk (st := s_Addresses_flipped) l31 c31 k31
  have b31 := F31.binds (ps := ["self", "place"]) fun _ _ _ _ _ _ us hl => match us, hl with | [_, _], _ => rfl
  have F32 := fun_mk (st := s_Addresses_without) l32 c32 k32
  have b32 := F32.binds (ps := ["self", "place"]) fun _ _ _ _ _ _ us hl => match us, hl with | [_, _], _ => rfl
  have F33 := fun_mk (st := s_law_behind_right) l33 c33 k33
  have b33 := F33.binds (ps := ["_law_box_here", "_law_words", "_law_book", "_law_other"]) fun _ _ _ _ _ _ us hl => match us, hl with | [_, _, _, _], _ => rfl
  have F34 := fun_mk (st := s_law_flipped) l34 c34 k34
  have b34 := F34.binds (ps := ["_law_words", "_law_place"]) fun _ _ _ _ _ _ us hl => match us, hl with | [_, _], _ => rfl
  have F35 := fun_mk (st := s_law_without) l35 c35 k35
  have b35 := F35.binds (ps := ["_law_words", "_law_place"]) fun _ _ _ _ _ _ us hl => match us, hl with | [_, _], _ => rfl
  have F36 := fun_mk (st := s_law_apart) l36 c36 k36
  have b36 := F36.binds (ps := ["_law_one", "_law_other"]) fun _ _ _ _ _ _ us hl => match us, hl with | [_, _], _ => rfl
  have F37 := fun_mk (st := s_law_places_right) l37 c37 k37
  have b37 := F37.binds (ps := ["_law_words", "_law_book"]) fun _ _ _ _ _ _ us hl => match us, hl with | [_, _], _ => rfl
  have F38 := fun_mk (st := s_law_mixed) l38 c38 k38
  have b38 := F38.binds (ps := ["_law_box_here", "_law_items"]) fun _ _ _ _ _ _ us hl => match us, hl with | [_, _], _ => rfl
  have F39 := fun_mk (st := s_Addresses_apart) l39 c39 k39
  have b39 := F39.binds (ps := ["self", "one", "other"]) fun _ _ _ _ _ _ us hl => match us, hl with | [_, _, _], _ => rfl
  have F40 := fun_mk (st := s_law_order_right) l40 c40 k40
  have b40 := F40.binds (ps := ["_law_box_here", "_law_words", "_law_book"]) fun _ _ _ _ _ _ us hl => match us, hl with | [_, _, _], _ => rfl
  have F41 := fun_mk (st := s_law_sum_right) l41 c41 k41
  have b41 := F41.binds (ps := ["_law_words", "_law_book", "_law_other_words", "_law_other"]) fun _ _ _ _ _ _ us hl => match us, hl with | [_, _, _, _], _ => rfl
  have F42 := fun_mk (st := s_law) l42 c42 k42
  have b42 := F42.binds (ps := ["_law_script"]) fun _ _ _ _ _ _ us hl => match us, hl with | [_], _ => rfl
  have T : TX w K mg := ⟨C_Addresses, (PySem.W.mg_of X G cg_Addresses), ⟨c1_Addresses, c2_Addresses, c3_Addresses, c4_Addresses⟩, ⟨i1_Addresses, i2_Addresses, i3_Addresses, i4_Addresses⟩, kk_Addresses, na_Addresses_kept, _, _, F1, b1, (PySem.W.mg_of X G a1), _, _, F2, b2, ⟨a2, fn2, fi2⟩, _, _, F3, b3, (PySem.W.mg_of X G a3), _, _, F4, b4, (PySem.W.mg_of X G a4), _, _, F5, b5, ⟨a5, fn5, k5⟩, _, _, F6, b6, ⟨a6, fn6, fi6⟩, _, _, F7, b7, (PySem.W.mg_of X G a7), _, _, F8, b8, ⟨mm8, a8, fn8, mk8⟩, _, _, F9, b9, (PySem.W.mg_of X G a9), _, _, F10, b10, (PySem.W.mg_of X G a10), _, _, F11, b11, ⟨⟨_, _, _, _, _, _, _, _, _, _, _, _, _, _, _, _, oa11, nsOk_of ob11 ok11, oc11_, od11_⟩, ⟨_, l11, oo11⟩, a11, fn11⟩, _, _, F12, b12, (PySem.W.mg_of X G a12), _, _, F13, b13, q13, ⟨a13, pg13, pt13, ⟨_, pr13⟩⟩, _, _, F14, b14, (PySem.W.mg_of X G a14), _, _, F15, b15, q15, ⟨a15, pg15, pt15, ⟨_, pr15⟩⟩, _, _, F16, b16, (PySem.W.mg_of X G a16), _, _, F17, b17, (PySem.W.mg_of X G a17), _, _, F18, b18, (PySem.W.mg_of X G a18), _, _, F19, b19, (PySem.W.mg_of X G a19), _, _, F20, b20, (PySem.W.mg_of X G a20), _, _, F21, b21, (PySem.W.mg_of X G a21), _, _, F22, b22, (PySem.W.mg_of X G a22), _, _, F23, b23, (PySem.W.mg_of X G a23), _, _, F24, b24, ⟨a24, fn24, k24⟩, _, _, F25, b25, (PySem.W.mg_of X G a25), _, _, F26, b26, (PySem.W.mg_of X G a26), _, _, F27, b27, ⟨a27, fn27, k27⟩, _, _, F28, b28, ⟨a28, fn28, k28⟩, _, _, F29, b29, ⟨a29, fn29, k29⟩, _, _, F30, b30, (PySem.W.mg_of X G a30), _, _, F31, b31, ⟨a31, fn31, k31⟩, _, _, F32, b32, ⟨a32, fn32, k32⟩, _, _, F33, b33, (PySem.W.mg_of X G a33), _, _, F34, b34, (PySem.W.mg_of X G a34), _, _, F35, b35, (PySem.W.mg_of X G a35), _, _, F36, b36, (PySem.W.mg_of X G a36), _, _, F37, b37, (PySem.W.mg_of X G a37), _, _, F38, b38, (PySem.W.mg_of X G a38), _, _, F39, b39, ⟨a39, fn39, k39⟩, _, _, F40, b40, (PySem.W.mg_of X G a40), _, _, F41, b41, (PySem.W.mg_of X G a41), _, _, F42, b42, (PySem.W.mg_of X G a42), (PySem.W.mg_of X G al0), (PySem.W.mg_of X G al1), (PySem.W.mg_none_of X G z0), (PySem.W.mg_none_of X G z1), (PySem.W.mg_none_of X G z2), (PySem.W.mg_none_of X G z3), (PySem.W.mg_none_of X G z4), (PySem.W.mg_none_of X G z5), (PySem.W.mg_none_of X G z6), (PySem.W.mg_none_of X G z7), (PySem.W.mg_none_of X G z8), (PySem.W.mg_none_of X G z9), (PySem.W.mg_none_of X G z10), (PySem.W.mg_none_of X G z11), (PySem.W.mg_none_of X G z12), (PySem.W.mg_none_of X G z13), t0, (PySem.W.mg_of X G cst0), t1, (PySem.W.mg_of X G cst1), t2, (PySem.W.mg_of X G cst2), t3, (PySem.W.mg_of X G cst3), kc_Addresses, kb_Addresses_bool, kb_Addresses_int, kb_Addresses_str, kb_Addresses_list, kb_Addresses_tuple, kb_Addresses_dict, ka_FLIPPED, (PySem.W.mg_of X G kg_FLIPPED), (fun q hq => by simp only [List.mem_cons, List.not_mem_nil, or_false] at hq; rcases hq with rfl | rfl | rfl; exact ⟨_, _, _, kl_FLIPPED, kk_FLIPPED, kv_FLIPPED_0, _, rfl⟩; exact ⟨_, _, _, kl_FLIPPED, kk_FLIPPED, kv_FLIPPED_1, _, rfl⟩; exact ⟨_, _, _, kl_FLIPPED, kk_FLIPPED, kv_FLIPPED_2, _, rfl⟩)⟩
  exact ⟨PySem.W.fnOf "law" "law" (defArgs s_law) (defBody s_law) (defScope s_law) .none kV42 dc42 pm42 an42 cd42 ct42, fun s v => .of_eq rfl, fun base _ _ => (G_law_end T F42).imp (DN.law_sp (Z := zt T) law_true)⟩
end Q14
open PySem PySem.W PyProof.Rows
set_option maxHeartbeats 0 in
theorem PySem.Challenge.cw_openposts_k14_addresses_changed_holds : PySem.Challenge.rw_openposts_k14_addresses_changed.Holds := by
  w_on; o_law; k_head; (case hw => w_witness2)
  k_fill
  refine DN.walk_ofW (l := PySem.Challenge.rw_openposts_k14_addresses_changed) (n := 63) (k := 12) (x := "_law_script") (CX := fun w => L2N.CX PySem.Challenge.pw_openposts_k14_addresses_changed w) (sp := fun w => DN.spLaw _) rfl (by decide) rfl ⟨⟨rfl, by decide, by decide⟩, fun _ => rfl⟩ (fun w h Y => PySem.W.kIn_of Y) ?F (fun _ _ a ns hl _ hS => ⟨a, ns, rfl, hS, hl, fun _ => rfl⟩) (fun _ _ _ _ _ h => DN.cx_no h)
  case F =>
    intro w mg fa h KX G hmg
    refine' Q14.all_mk KX G hmg ?cg_Addresses ?c1_Addresses ?c2_Addresses ?c3_Addresses ?c4_Addresses ?i1_Addresses ?i2_Addresses ?i3_Addresses ?i4_Addresses ?kk_Addresses ?na_Addresses_kept ?a1 ?l1 ?c1 ?k1 ?a2 ?fn2 ?fi2 ?l2 ?c2 ?k2 ?a3 ?l3 ?c3 ?k3 ?a4 ?l4 ?c4 ?k4 ?a5 ?fn5 ?l5 ?c5 ?k5 ?a6 ?fn6 ?fi6 ?l6 ?c6 ?k6 ?a7 ?l7 ?c7 ?k7 ?a8 ?fn8 ?mm8 ?mk8 ?l8 ?c8 ?k8 ?a9 ?l9 ?c9 ?k9 ?a10 ?l10 ?c10 ?k10 ?a11 ?fn11 ?oa11 ?ob11 ?ok11 ?oc11_ ?od11_ ?l11 ?oo11 ?c11 ?k11 ?a12 ?l12 ?c12 ?k12 ?a13 ?pr13 ?pg13 ?pt13 ?l13 ?c13 ?k13 ?a14 ?l14 ?c14 ?k14 ?a15 ?pr15 ?pg15 ?pt15 ?l15 ?c15 ?k15 ?a16 ?l16 ?c16 ?k16 ?a17 ?l17 ?c17 ?k17 ?a18 ?l18 ?c18 ?k18 ?a19 ?l19 ?c19 ?k19 ?a20 ?l20 ?c20 ?k20 ?a21 ?l21 ?c21 ?k21 ?a22 ?l22 ?c22 ?k22 ?a23 ?l23 ?c23 ?k23 ?a24 ?fn24 ?l24 ?c24 ?k24 ?a25 ?l25 ?c25 ?k25 ?a26 ?l26 ?c26 ?k26 ?a27 ?fn27 ?l27 ?c27 ?k27 ?a28 ?fn28 ?l28 ?c28 ?k28 ?a29 ?fn29 ?l29 ?c29 ?k29 ?a30 ?l30 ?c30 ?k30 ?a31 ?fn31 ?l31 ?c31 ?k31 ?a32 ?fn32 ?l32 ?c32 ?k32 ?a33 ?l33 ?c33 ?k33 ?a34 ?l34 ?c34 ?k34 ?a35 ?l35 ?c35 ?k35 ?a36 ?l36 ?c36 ?k36 ?a37 ?l37 ?c37 ?k37 ?a38 ?l38 ?c38 ?k38 ?a39 ?fn39 ?l39 ?c39 ?k39 ?a40 ?l40 ?c40 ?k40 ?a41 ?l41 ?c41 ?k41 ?a42 ?l42 ?c42 ?k42 ?al0 ?al1 ?z0 ?z1 ?z2 ?z3 ?z4 ?z5 ?z6 ?z7 ?z8 ?z9 ?z10 ?z11 ?z12 ?z13 ?cst0 ?cst1 ?cst2 ?cst3 ?kc_Addresses ?kb_Addresses_bool ?kb_Addresses_int ?kb_Addresses_str ?kb_Addresses_list ?kb_Addresses_tuple ?kb_Addresses_dict ?kg_FLIPPED ?kl_FLIPPED ?kk_FLIPPED ?kv_FLIPPED_0 ?kv_FLIPPED_1 ?kv_FLIPPED_2
    (case cg_Addresses => k_is)
    (case c1_Addresses => k_is)
    (case c2_Addresses => k_is)
    (case c3_Addresses => k_is)
    (case c4_Addresses => k_is)
    (case i1_Addresses => k_is)
    (case i2_Addresses => k_is)
    (case i3_Addresses => k_is)
    (case i4_Addresses => k_is)
    (case kk_Addresses => kit_is)
    (case na_Addresses_kept => k_is)
    (case a1 => k_is)
    (case l1 => k_is)
    (case c1 => k_is)
    (case k1 => k_is)
    (case a2 => k_is)
    (case fn2 => k_is)
    (case fi2 => k_is)
    (case l2 => k_is)
    (case c2 => k_is)
    (case k2 => k_is)
    (case a3 => k_is)
    (case l3 => k_is)
    (case c3 => k_is)
    (case k3 => k_is)
    (case a4 => k_is)
    (case l4 => k_is)
    (case c4 => k_is)
    (case k4 => k_is)
    (case a5 => k_is)
    (case fn5 => k_is)
    (case l5 => k_is)
    (case c5 => k_is)
    (case k5 => k_is)
    (case a6 => k_is)
    (case fn6 => k_is)
    (case fi6 => k_is)
    (case l6 => k_is)
    (case c6 => k_is)
    (case k6 => k_is)
    (case a7 => k_is)
    (case l7 => k_is)
    (case c7 => k_is)
    (case k7 => k_is)
    (case a8 => k_is)
    (case fn8 => k_is)
    (case mm8 => k_is)
    (case mk8 => k_is)
    (case l8 => k_is)
    (case c8 => k_is)
    (case k8 => k_is)
    (case a9 => k_is)
    (case l9 => k_is)
    (case c9 => k_is)
    (case k9 => k_is)
    (case a10 => k_is)
    (case l10 => k_is)
    (case c10 => k_is)
    (case k10 => k_is)
    (case a11 => k_is)
    (case fn11 => k_is)
    (case oa11 => k_is)
    (case ob11 => k_is)
    (case ok11 => first | rfl | decide +kernel)
    (case oc11_ => k_is)
    (case od11_ => k_is)
    (case l11 => k_is)
    (case oo11 => rfl)
    (case c11 => k_is)
    (case k11 => k_is)
    (case a12 => k_is)
    (case l12 => k_is)
    (case c12 => k_is)
    (case k12 => k_is)
    (case a13 => k_is)
    (case pr13 => k_is)
    (case pg13 => k_is)
    (case pt13 => k_is)
    (case l13 => k_is)
    (case c13 => k_is)
    (case k13 => k_is)
    (case a14 => k_is)
    (case l14 => k_is)
    (case c14 => k_is)
    (case k14 => k_is)
    (case a15 => k_is)
    (case pr15 => k_is)
    (case pg15 => k_is)
    (case pt15 => k_is)
    (case l15 => k_is)
    (case c15 => k_is)
    (case k15 => k_is)
    (case a16 => k_is)
    (case l16 => k_is)
    (case c16 => k_is)
    (case k16 => k_is)
    (case a17 => k_is)
    (case l17 => k_is)
    (case c17 => k_is)
    (case k17 => k_is)
    (case a18 => k_is)
    (case l18 => k_is)
    (case c18 => k_is)
    (case k18 => k_is)
    (case a19 => k_is)
    (case l19 => k_is)
    (case c19 => k_is)
    (case k19 => k_is)
    (case a20 => k_is)
    (case l20 => k_is)
    (case c20 => k_is)
    (case k20 => k_is)
    (case a21 => k_is)
    (case l21 => k_is)
    (case c21 => k_is)
    (case k21 => k_is)
    (case a22 => k_is)
    (case l22 => k_is)
    (case c22 => k_is)
    (case k22 => k_is)
    (case a23 => k_is)
    (case l23 => k_is)
    (case c23 => k_is)
    (case k23 => k_is)
    (case a24 => k_is)
    (case fn24 => k_is)
    (case l24 => k_is)
    (case c24 => k_is)
    (case k24 => k_is)
    (case a25 => k_is)
    (case l25 => k_is)
    (case c25 => k_is)
    (case k25 => k_is)
    (case a26 => k_is)
    (case l26 => k_is)
    (case c26 => k_is)
    (case k26 => k_is)
    (case a27 => k_is)
    (case fn27 => k_is)
    (case l27 => k_is)
    (case c27 => k_is)
    (case k27 => k_is)
    (case a28 => k_is)
    (case fn28 => k_is)
    (case l28 => k_is)
    (case c28 => k_is)
    (case k28 => k_is)
    (case a29 => k_is)
    (case fn29 => k_is)
    (case l29 => k_is)
    (case c29 => k_is)
    (case k29 => k_is)
    (case a30 => k_is)
    (case l30 => k_is)
    (case c30 => k_is)
    (case k30 => k_is)
    (case a31 => k_is)
    (case fn31 => k_is)
    (case l31 => k_is)
    (case c31 => k_is)
    (case k31 => k_is)
    (case a32 => k_is)
    (case fn32 => k_is)
    (case l32 => k_is)
    (case c32 => k_is)
    (case k32 => k_is)
    (case a33 => k_is)
    (case l33 => k_is)
    (case c33 => k_is)
    (case k33 => k_is)
    (case a34 => k_is)
    (case l34 => k_is)
    (case c34 => k_is)
    (case k34 => k_is)
    (case a35 => k_is)
    (case l35 => k_is)
    (case c35 => k_is)
    (case k35 => k_is)
    (case a36 => k_is)
    (case l36 => k_is)
    (case c36 => k_is)
    (case k36 => k_is)
    (case a37 => k_is)
    (case l37 => k_is)
    (case c37 => k_is)
    (case k37 => k_is)
    (case a38 => k_is)
    (case l38 => k_is)
    (case c38 => k_is)
    (case k38 => k_is)
    (case a39 => k_is)
    (case fn39 => k_is)
    (case l39 => k_is)
    (case c39 => k_is)
    (case k39 => k_is)
    (case a40 => k_is)
    (case l40 => k_is)
    (case c40 => k_is)
    (case k40 => k_is)
    (case a41 => k_is)
    (case l41 => k_is)
    (case c41 => k_is)
    (case k41 => k_is)
    (case a42 => k_is)
    (case l42 => k_is)
    (case c42 => k_is)
    (case k42 => k_is)
    (case al0 => k_is)
    (case al1 => k_is)
    (case z0 => k_is)
    (case z1 => k_is)
    (case z2 => k_is)
    (case z3 => k_is)
    (case z4 => k_is)
    (case z5 => k_is)
    (case z6 => k_is)
    (case z7 => k_is)
    (case z8 => k_is)
    (case z9 => k_is)
    (case z10 => k_is)
    (case z11 => k_is)
    (case z12 => k_is)
    (case z13 => k_is)
    (case cst0 => k_is)
    (case cst1 => k_is)
    (case cst2 => k_is)
    (case cst3 => k_is)
    (case kc_Addresses => kit_is)
    (case kb_Addresses_bool => kit_is)
    (case kb_Addresses_int => kit_is)
    (case kb_Addresses_str => kit_is)
    (case kb_Addresses_list => kit_is)
    (case kb_Addresses_tuple => kit_is)
    (case kb_Addresses_dict => kit_is)
    (case kg_FLIPPED => k_is)
    (case kl_FLIPPED => k_is)
    (case kk_FLIPPED => exact ⟨⟨_, _, rfl, rfl⟩, ⟨_, _, rfl, rfl⟩, ⟨_, _, rfl, rfl⟩, trivial⟩)
    (case kv_FLIPPED_0 => k_is)
    (case kv_FLIPPED_1 => k_is)
    (case kv_FLIPPED_2 => k_is)
