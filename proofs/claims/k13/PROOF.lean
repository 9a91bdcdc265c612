import PyProof.Rows.All
import Wide.All
import OpenK.AllK
import Wide.FinOn
import KE.KStateDown
import HandS.ForMost
import HandS.More
import HandS.Flow
import HandS.Wide
import HandS.Exc
import HandS.TryMany
import HandS.ExcInit
import HandS.ExcField
import HandS.WordsExc
import HandS.CallSlots
import HandS.Defaults
import HandS.CallRecv
import HandS.Deep
import HandS.DeepEq
import HandS.HeadHook4
import PyProof.StrBlock2
import HandS.DictTup
import HandS.Conv
import KE.KDictCopyH
import HandS.SortRule
import KE.KEqNest
import PyProof.NeKinds
import HandS.DictComp
import HandS.IsInst
import KE.KDictPairs
import HandS.SortInts
import KE.KEqSeq
import PySem.Challenge.RW_halfmoved_k13_rows_out_of_order
import HandS.Head0
import HandS.Head1
import HandS.Head2
import HandS.HeadEnd
import HandS.Walk
import KE.KxText
set_option Elab.async false
set_option linter.all false
set_option maxRecDepth 100000
set_option maxHeartbeats 4000000
namespace L2
open PySem PySem.Spec PyProof.Rows
/-- a def of the text that keeps a promise: where it stands, its parameters, the defaults that fill up, its level -/
structure DefOk (P : Program) (w : World) (K : PySem.W.Frag) (mg : Str → Option Value) (base : Heap) (p : Str × Option Str) (ps : List Str) (dvs : List V) (k : Nat) (sp : Sp) : Prop where
  ex : ∃ fd ds, FnOk P w K mg base (L2.CX P w) k (He.fAd K p) fd ps sp ∧ Binds K fd ps ds ∧ Vals dvs ds
  kp : PySem.W.keepIn K (.ref (He.fAd K p)) = true
section
variable {X : Cx} {ps : List Str} {dvs : List V} {j k : Nat} {sp : Sp} {x : Str} {W : WX} {e : Expr} {es : List Expr} {t : TA} {p pos : Pos}
theorem DefOk.call (D : DefOk X.prog X.w X.K X.mg X.base (x, none) ps dvs j sp) (hr : Room k X.A) (hj : j ≤ k) (tk : Takes X W) (hm : X.mg x = some (.ref (He.fAd X.K (x, none)))) (ha : PA X (e :: es) t) (hg : Gl X x := by rfl)
    (hdb : (x == ("__debug__" : Str)) = false := by decide) (he : starEach (e :: es) X.env = (false, eval e X.env) :: starEach es X.env := by rfl) (hpl : (backTo pos (starEach es X.env)).any (·.1) = false := by rfl) :
    PE X (.Call (.Name x p) (e :: es) [] pos) (tCallSD sp dvs (WE W) t) := by
  obtain ⟨fd, ds, F, B, V⟩ := D.ex
  exact pe_callSD F (hr.mono hj) hg hm D.kp B V (fun σ => passAt tk σ) ha hdb he hpl
/-- in a comprehension's block: nothing is raised -/
theorem DefOk.call0 (D : DefOk X.prog X.w X.K X.mg X.base (x, none) ps dvs j sp) (hr : Room k X.A) (hj : j ≤ k) (hm : X.mg x = some (.ref (He.fAd X.K (x, none)))) (ha : PA X (e :: es) t) (hg : Gl X x := by rfl)
    (hdb : (x == ("__debug__" : Str)) = false := by decide) (he : starEach (e :: es) X.env = (false, eval e X.env) :: starEach es X.env := by rfl) (hpl : (backTo pos (starEach es X.env)).any (·.1) = false := by rfl) :
    PE X (.Call (.Name x p) (e :: es) [] pos) (tCall sp dvs E0 t) := by
  obtain ⟨fd, ds, F, B, V⟩ := D.ex
  exact pe_call F (hr.mono hj) hg hm D.kp B V passL ha hdb he hpl
end
theorem upd_get (H : Hp) (a : Addr) (o : HO) (b : Addr) : upd H a o b = if b = a then some o else H b := rfl
grind_pattern upd_get => upd H a o b
theorem iteD {c A B : Prop} [Decidable c] (h1 : c → A) (h2 : ¬ c → B) : if decide c = true then A else B := by
  by_cases h : c
  · rw [if_pos (decide_eq_true h)]; exact h1 h
  · rw [if_neg (by simp [h])]; exact h2 h
theorem iteN {c A B : Prop} [Decidable c] (h1 : ¬ c → A) (h2 : c → B) : if (!decide c) = true then A else B := by
  by_cases h : c
  · rw [if_neg (by simp [h])]; exact h2 h
  · rw [if_pos (by simp [h])]; exact h1 h
theorem ifT {b : Bool} {A B : Prop} (e : b = true) (h : A) : if b = true then A else B := by rw [if_pos e]; exact h
theorem ifF {b : Bool} {A B : Prop} (e : b = false) (h : B) : if b = true then A else B := by rw [e]; exact iteF h
theorem ifB {b : Bool} {A B : Prop} (h1 : b = true → A) (h2 : b = false → B) : if b = true then A else B := by
  cases b
  · exact iteF (h2 rfl)
  · exact iteT (h1 rfl)
end L2

set_option Elab.async false
set_option linter.all false
set_option maxRecDepth 100000
set_option maxHeartbeats 4000000
namespace L2
open PySem PySem.Spec PyProof.Rows
/-! ### operators -/
def CPos (_ j : Int) : Prop := 0 < j
theorem op_modP {X : Cx} : OpR X (binaryOp .Mod) (rI CPos fun i j => .int (i % j)) := op_mod
def CMulA (i j : Int) : Prop := (-(2 ^ 64) < i ∧ i < 2 ^ 64) ∨ (-(2 ^ 64) < j ∧ j < 2 ^ 64)
theorem op_mulA {X : Cx} : OpR X (binaryOp .Mult) (rI CMulA fun i j => .int (i * j)) := op_mul
def CDivA (_ j : Int) : Prop := 0 < j ∧ j < 2 ^ 300
theorem divA {i j : Int} (h : CDivA i j) : CDivW i j := by
  obtain ⟨h1, h2⟩ := h
  refine wide_div (b := 300) h1 ?_ (by decide) (by decide)
  omega
theorem op_fdivA {X : Cx} : OpR X (binaryOp .FloorDiv) (rI CDivA fun i j => .int (i / j)) := by
  intro pins s σ H x y v u Q I rx ry h
  obtain ⟨i, j, rfl, rfl, hc, q⟩ := h
  exact op_fdivW pins s σ H _ _ v u Q I rx ry ⟨i, j, rfl, rfl, divA hc, q⟩
/-- a text so many times -/
def rMulS : R2 := fun x y H Q => ∃ (z : Str) (n : Int), x = .str z ∧ y = .int n ∧ 0 ≤ n ∧ n ≤ 1000 ∧ z.length ≤ 1000 ∧ Q (.str (Txt.mul z n)) H
theorem op_mulS {X : Cx} : OpR X (binaryOp .Mult) rMulS := by
  intro pins s σ H x y v u Q I rx ry h
  obtain ⟨z, n, rfl, rfl, h0, h1, h2, q⟩ := h
  obtain ⟨t, rfl⟩ := rx
  obtain ⟨t2, rfl⟩ := ry
  have hz : z.length * n.toNat ≤ 1000 * 1000 := Nat.mul_le_mul h2 (by omega)
  refine SB.mul ⟨?_, fun a b => ?_, fun a b => ?_⟩ fun t' k => ⟨.str (Txt.mul z n), H, I.tok k, ⟨t', rfl⟩, q⟩
  · rw [decide_eq_false (show ¬ n < -(2 ^ 63 : Int) by omega), decide_eq_false (show ¬ n ≥ 2 ^ 63 by omega)]
    rfl
  · have hd : (1000 : Int) ≤ (2 ^ 63 - 1) / n := by
      refine Int.le_ediv_of_mul_le (by omega) ?_
      omega
    have : (z.length : Int) ≤ 1000 := by omega
    omega
  · refine decide_eq_false ?_
    rw [sizeLine_eq]
    omega
/-! ### calls of methods and makers, where what is raised is wished at the slots -/
def tMethA (C : Addr) (m : Str) (sp : Sp) (dvs : List V) (W : WX) (ta : TE) (t : TA) : TE := fun σ H Q => ta σ H fun x H1 => ∃ a dx fs, x = .ref a ∧ H1 a = some (.ins C dx fs) ∧ fs.lookup m = none ∧
  t σ H1 fun vs H2 => sp (x :: (vs ++ dvs)) H2 Q (WE W σ)
section
variable {X : Cx} {ps : List Str} {dvs : List V} {j k : Nat} {sp : Sp} {c x m : Str} {W : WX} {o e : Expr} {es : List Expr} {ta : TE} {t : TA} {p pos apos : Pos}
theorem run_fnW {fd : FuncData} {f : Addr} {ds : List Value} {pins : List (Addr × Obj)} {σ : St} {H : Hp} {s : Shared} {Q : VK} {us : List Value} {vs : List V} (F : FnOk X.prog X.w X.K X.mg X.base (L2.CX X.prog X.w) k f fd ps sp) (hr : Room k X.A) (hb : Binds X.K fd ps ds) (hd : Vals dvs ds) (tk : Takes X W)
    (I : Inv X pins σ H s) (r : Vals vs us) (h : sp (vs ++ dvs) H Q (WE W σ)) : wpAny (model X.prog X.w) X.A (call (.ref f) us) (EP X pins σ Q) X.xe s :=
  run_fnSD (E := WE W) F hr hb hd (passAt tk σ) I r h
theorem DefOk.meth {pl : Sem Bool} (D : DefOk X.prog X.w X.K X.mg X.base (c, some m) ps dvs j sp) (hr : Room k X.A) (hj : j ≤ k) (tk : Takes X W) (cl : Cls X.K (He.ga X.K c)) (hm : Meth X.K (He.ga X.K c) m (He.fAd X.K (c, some m))) (he : PE X o ta) (ha : PA X (e :: es) t)
    (hst : starEach (e :: es) X.env = (false, eval e X.env) :: starEach es X.env := by rfl) (hpl : (backTo pos (starEach es X.env)).any (·.1) = false := by rfl)
    (ht : eval (.Call (.Attribute o m apos) (e :: es) [] pos) X.env = (do
      let ov ← eval o X.env
      standAt apos.atName
      let (f, first) ← holding [ov] (getMethod ov m pl)
      callWith pos f first (backTo pos (starEach (e :: es) X.env)) (backToKw pos (keywordEach [] X.env))) := by rfl) :
    PE X (.Call (.Attribute o m apos) (e :: es) [] pos) (tMethA (He.ga X.K c) m sp dvs W ta t) := by
  obtain ⟨fd, ds, F, B, V⟩ := D.ex
  refine ⟨fun pins s σ H Q I h => PySem.W.methodCall_KW (pl := pl) (thn (he.run pins s σ H _ I h) fun u s1 h1 => ?_) ht⟩
  obtain ⟨x, H1, I1, rx, a, dx, fs, rfl, ea, l, q⟩ := h1
  cases rx
  refine getmeth_ok I1 ea cl hm l (PySem.W.callWith_K (first := [.ref a]) (h₀ := X.base) I.ok.mod.kin hm.kp (thn (ha.run pos pins s1 σ H1 _ I1 q) fun us s2 h2 => ?_) hst hpl)
  obtain ⟨vs, H2, I2, r, q2⟩ := h2
  exact ⟨I2.kIn, run_fnW (us := .ref a :: us) (vs := .ref a :: vs) F (hr.mono hj) B V tk I2 (.cons rfl r) q2⟩
theorem DefOk.meth0 {pl : Sem Bool} (D : DefOk X.prog X.w X.K X.mg X.base (c, some m) ps dvs j sp) (hr : Room k X.A) (hj : j ≤ k) (tk : Takes X W) (cl : Cls X.K (He.ga X.K c)) (hm : Meth X.K (He.ga X.K c) m (He.fAd X.K (c, some m))) (he : PE X o ta)
    (ht : eval (.Call (.Attribute o m apos) [] [] pos) X.env = (do
      let ov ← eval o X.env
      standAt apos.atName
      let (f, first) ← holding [ov] (getMethod ov m pl)
      callWith pos f first (backTo pos (starEach [] X.env)) (backToKw pos (keywordEach [] X.env))) := by rfl) :
    PE X (.Call (.Attribute o m apos) [] [] pos) (tMethA (He.ga X.K c) m sp dvs W ta tNil) := by
  obtain ⟨fd, ds, F, B, V⟩ := D.ex
  refine ⟨fun pins s σ H Q I h => PySem.W.methodCall_KW (pl := pl) (thn (he.run pins s σ H _ I h) fun u s1 h1 => ?_) ht⟩
  obtain ⟨x, H1, I1, rx, a, dx, fs, rfl, ea, l, q⟩ := h1
  cases rx
  exact getmeth_ok I1 ea cl hm l (PySem.W.callWith_K0 (first := [.ref a]) I1.kIn hm.kp (run_fnW (us := [.ref a]) (vs := [.ref a]) F (hr.mono hj) B V tk I1 (.cons rfl .nil) q))
/-- C(..) -/
def tMakeA (C : Addr) (sp : Sp) (dvs : List V) (W : WX) (t : TA) : TE := fun σ H Q => t σ H fun vs H1 => ∀ x dx, H1 x = none → H1 dx = none → dx ≠ x →
  sp (.ref x :: (vs ++ dvs)) (upd (upd H1 dx (.own x)) x (.ins C dx [])) (fun v H2 => v = .non ∧ Q (.ref x) H2) (WE W σ)
theorem run_makeW {C f : Addr} {fd : FuncData} {ds : List Value} {pins : List (Addr × Obj)} {σ : St} {H : Hp} {s : Shared} {Q : VK} {us : List Value} {vs : List V} (M : Mk X.K C f) (F : FnOk X.prog X.w X.K X.mg X.base (L2.CX X.prog X.w) k f fd ps sp) (hr : Room (k + 1) X.A) (hb : Binds X.K fd ps ds) (hd : Vals dvs ds)
    (tk : Takes X W) (I : Inv X pins σ H s) (r : Vals vs us)
    (h : ∀ x dx, H x = none → H dx = none → dx ≠ x → sp (.ref x :: (vs ++ dvs)) (upd (upd H dx (.own x)) x (.ins C dx [])) (fun v H2 => v = .non ∧ Q (.ref x) H2) (WE W σ)) :
    wpAny (model X.prog X.w) X.A (call (.ref C) us) (EP X pins σ Q) X.xe s := by
  let a := s.heap.objs.size + 1
  have hq := h a s.heap.objs.size (I.hok.fresh (Nat.le_succ _)) (I.hok.fresh (Nat.le_refl _)) (Nat.ne_of_lt (Nat.lt_succ_self _))
  have J := Inv.made (C := C) I
  have rr : Vals (V.ref a :: (vs ++ dvs)) (Value.ref a :: (us ++ ds)) := .cons rfl (r.append hd)
  have hl : (Value.ref a :: us ++ ds).length = ps.length := (rr.length.symm.trans (F.len _ _ _ _ hq))
  refine wpAny_call (make_map (f := f) I.kIn M.makes M.init (beq_iff_eq.mp M.fn) (codeAny_mono (F.run _ X.stack _ _ ⟨Value.ref a :: us, []⟩ (Value.ref a :: (us ++ ds)) _ _ (WE W σ) (hr.make C us []) (J.env0.make C us []) (hb _ (Value.ref a :: us) J.kIn hl) rr hq) fun g s' hg => ?_))
  cases g with
  | error e' =>
    have hp : X.xe e' s' := passAt tk σ pins _ _ e' s' J hg
    exact hp
  | ok fl =>
    cases fl with
    | ret u =>
      obtain ⟨v, H', I3, rv, ev, q3⟩ := J.after hg
      subst ev
      exact ⟨rv, ⟨V.ref a, H', I3, rfl, q3⟩⟩
    | next => exact False.elim hg
    | brk => exact False.elim hg
    | cont => exact False.elim hg
theorem DefOk.make (D : DefOk X.prog X.w X.K X.mg X.base (x, some "__init__") ps dvs j sp) (hr : Room k X.A) (hj : j + 1 ≤ k) (tk : Takes X W) (M : Mk X.K (He.ga X.K x) (He.fAd X.K (x, some "__init__"))) (hm : X.mg x = some (.ref (He.ga X.K x))) (ha : PA X (e :: es) t) (hg : Gl X x := by rfl)
    (hdb : (x == ("__debug__" : Str)) = false := by decide) (he : starEach (e :: es) X.env = (false, eval e X.env) :: starEach es X.env := by rfl) (hpl : (backTo pos (starEach es X.env)).any (·.1) = false := by rfl) :
    PE X (.Call (.Name x p) (e :: es) [] pos) (tMakeA (He.ga X.K x) sp dvs W t) := by
  obtain ⟨fd, ds, F, B, V⟩ := D.ex
  refine ⟨fun pins s σ H Q I h => wpAny_Call_Name_kw (ld_glob I hg hm (PySem.W.callWith_K (h₀ := X.base) I.ok.mod.kin M.kp (thn (ha.run pos pins s σ H _ I h) fun us s1 h1 => ?_) he hpl) hdb)⟩
  obtain ⟨vs, H1, I1, r, q⟩ := h1
  exact ⟨I1.kIn, run_makeW M F (hr.mono hj) B V tk I1 r q⟩
theorem DefOk.make0 (D : DefOk X.prog X.w X.K X.mg X.base (x, some "__init__") ps dvs j sp) (hr : Room k X.A) (hj : j + 1 ≤ k) (tk : Takes X W) (M : Mk X.K (He.ga X.K x) (He.fAd X.K (x, some "__init__"))) (hm : X.mg x = some (.ref (He.ga X.K x))) (hg : Gl X x := by rfl)
    (hdb : (x == ("__debug__" : Str)) = false := by decide) : PE X (.Call (.Name x p) [] [] pos) (tMakeA (He.ga X.K x) sp dvs W tNil) := by
  obtain ⟨fd, ds, F, B, V⟩ := D.ex
  refine ⟨fun pins s σ H Q I h => wpAny_Call_Name_kw (ld_glob I hg hm ?_ hdb)⟩
  exact PySem.W.callWith_K0 I.kIn M.kp (run_makeW (us := []) M F (hr.mono hj) B V tk I .nil h)
/-- raise C(..), C an own exception whose __init__ (of a class c) is a def of the text -/
theorem DefOk.raise {pos2 : Pos} (D : DefOk X.prog X.w X.K X.mg X.base (c, some "__init__") ps dvs j sp) (hr : Room k X.A) (hj : j + 1 ≤ k) (hc : X.calm = true) (tk : Takes X W) (T : OexC X.K (He.ga X.K x)) (iC : PySem.W.findIn X.K (.ref (He.ga X.K x)) "__init__" = some (some (.ref (He.fAd X.K (c, some "__init__")))))
    (tI : PySem.W.typeIn X.K (.ref (He.fAd X.K (c, some "__init__"))) = some (.type "function")) (hm : X.mg x = some (.ref (He.ga X.K x))) (ha : PA X (e :: es) t) (hg : Gl X x := by rfl) (hdb : (x == ("__debug__" : Str)) = false := by decide)
    (he : starEach (e :: es) X.env = (false, eval e X.env) :: starEach es X.env := by rfl) (hpl : (backTo pos (starEach es X.env)).any (·.1) = false := by rfl) :
    PS X (.Raise (some (.Call (.Name x p) (e :: es) [] pos)) none pos2) (fun _ σ H => tMkO (He.ga X.K x) sp dvs t σ H fun cls d H' => W cls d σ H') := by
  obtain ⟨fd, ds, F, B, V⟩ := D.ex
  exact ps_raise hc tk (pmk_oex T iC tI F (hr.mono hj) B V passL hg hm ha hdb he hpl)
end
/-! ### facts of an own exception class, by one look -/
def oexB (K : PySem.W.Frag) (C : Addr) : Bool := (match K.lookup C with
  | some ⟨.type "type", _, .cls cd, sl⟩ => (match cd.mro, sl.toList with
    | .ref C' :: bm, [_, _, _, _, some (.builtin n), _] => C' == C && (n == "ValueError.__new__" && (!cd.hasDel && (cd.hasDict && PySem.HandSPX.refsVE bm)))
    | _, _ => false)
  | _ => false) && (decide (PySem.W.findIn K (.ref C) "__setattr__" = some (some (.builtin "object.__setattr__"))) && (decide (PySem.W.subIn K (.ref C) (.type "BaseException") = some true) && (decide (PySem.W.typeIn K (.ref C) = some (.type "type")) && PySem.W.keepIn K (.ref C))))
theorem oexB_ok {K : PySem.W.Frag} {C : Addr} (h : oexB K C = true) : OexC K C := by
  unfold oexB at h
  simp only [Bool.and_eq_true, decide_eq_true_eq] at h
  obtain ⟨h0, h1, h2, h3, h4⟩ := h
  refine ⟨?_, h1, h2, h3, h4⟩
  split at h0
  · rename_i dd cd sl ho
    split at h0
    · rename_i C' bm k0 k1 k2 k3 n k5 hm hs
      simp only [Bool.and_eq_true, beq_iff_eq, Bool.not_eq_true'] at h0
      obtain ⟨rfl, rfl, hd, hh, hr⟩ := h0
      obtain ⟨nm, bs, mro, ns, qn, hD, sn, sub, ab, col, hdel⟩ := cd
      obtain ⟨sl⟩ := sl
      dsimp only at hm hs hd hh
      subst hm hd hh
      have hs' : sl = [k0, k1, k2, k3, some (.builtin "ValueError.__new__"), k5] := hs
      subst hs'
      exact ⟨_, _, _, _, bm, _, _, _, _, _, _, _, _, _, _, ho, hr⟩
    · cases h0
  · cases h0
end L2

set_option Elab.async false
set_option linter.all false
set_option maxRecDepth 100000
set_option maxHeartbeats 4000000
namespace L2
open PySem PySem.Spec PyProof.Rows
/-! ### dict(d), d.pop(k), sorted(d) of a dict whose keys are tuples -/
/-- no two keys have one hash: what the model asks of a copy -/
def Apart (P : Program) (w : World) (kvs : List (List Key × V)) : Prop := (kvs.map fun kv => (tupleKind (mixKind P w)).hash kv.1).Nodup
theorem KT.hashes {H : Hp} {P : Program} {w : World} {kvs : List (List Key × V)} {xs : List (List Key × Addr × Value)} (r : KT H kvs xs) : (xs.map fun x => (tupleKind (mixKind P w)).hash x.1) = kvs.map fun kv => (tupleKind (mixKind P w)).hash kv.1 := by
  unfold KT at r
  induction r with
  | nil => rfl
  | cons h _ ih => rw [List.map_cons, List.map_cons, ih, h.1]
section
variable {X : Cx}
theorem call_dictT (hu : X.A.units + 2 < cLine) : CallR X (.type "dict") (fun xs H Q => ∃ (a : Addr) (kvs : List (List Key × V)), xs = [.ref a] ∧ Rd H a (.dT kvs) ∧ Apart X.prog X.w kvs ∧ ∀ p, H p = none → Q (.ref p) (upd H p (.dT kvs))) := by
  intro pins s σ H xs us Q I r q
  obtain ⟨a, kvs, rfl, hd, hap, q⟩ := q
  obtain ⟨u, rfl, rx⟩ := vals1 r
  cases rx
  obtain ⟨z, lo, ts, rel, dd⟩ := dt_rd I.hok hd
  have hl := rel.length
  obtain ⟨o, es, ep, h1, h2, h3, h4, h5, h6⟩ := id dd
  have hnew : (s.heap.push { cls := .type "dict", data := .dict #[] }).DictOfH (tupleKind (mixKind X.prog X.w)) s.heap.objs.size [] := Heap.DictOfH.new s.heap
  have ho' : (s.heap.push { cls := .type "dict", data := .dict #[] }).DictOfH (tupleKind (mixKind X.prog X.w)) a ts := by
    refine ⟨o, es, ep, Heap.get?_push_of_some _ h1, h2, h3, h4, fun x hx => ?_, h6⟩
    obtain ⟨ob, its, n, e1, e2⟩ := h5 x hx
    exact ⟨ob, its, n, Heap.get?_push_of_some _ e1, e2⟩
  have hdo : s.heap.objs.size ≠ a := Ne.symm (Nat.ne_of_lt (Heap.lt_size h1))
  have hty : ∀ x ∈ ts, (⟨s.heap.push { cls := .type "dict", data := .dict #[] }, s.gens, s.drawn, s.toks, s.os⟩ : Shared).TypeIs (.ref x.2.1) "tuple" := fun x hx => by
    obtain ⟨ob, its, n, e1, e2, _⟩ := h5 x hx
    exact ⟨ob, Heap.get?_push_of_some _ e1, e2⟩
  refine callType_codes (Q₁ := fun obj s₁ => obj = .ref s.heap.objs.size ∧ s₁ = { s with heap := s.heap.push { cls := .type "dict", data := .dict #[] } }) F.kt_called_dict (F.kt_typeCall_dict_1 _) F.entry_dict_init (kt_code_dict_new _ ⟨rfl, rfl⟩) ?_
  rintro obj s₁ ⟨rfl, rfl⟩
  refine ⟨⟨_, Heap.get?_push_size _ rfl, rfl⟩, F.args_dict_init_2 _ _, ?_⟩
  have hT : (⟨s.heap.push { cls := .type "dict", data := .dict #[] }, s.gens, s.drawn, s.toks, s.os⟩ : Shared).TypeIs (.ref a) "dict" := ho'.typeIs
  unfold Builtin.«dict.__init__»
  refine wpAny_bind ?_
  unfold Builtin.Dict.selfAndRest
  refine wpAny_bind (wpAny_notOrdered_dict ⟨_, Heap.get?_push_size _ rfl, rfl⟩ ?_)
  show wpAny _ _ (pure (s.heap.objs.size, [Value.ref a])) _ _ _
  refine wpAny_pure ?_
  show wpAny _ _ (Builtin.Dict.updateFrom "dict.__init__" s.heap.objs.size (.ref a) [] .none) _ _ _
  unfold Builtin.Dict.updateFrom
  refine wpAny_bind (wpAny_typeOf hT ?_)
  rw [if_neg (by decide)]
  refine wpAny_bind ?_
  unfold Builtin.Dict.merge
  refine wpAny_bind ?_
  unfold Builtin.Dict.readDirectly
  refine wpAny_bind (wpAny_isInstance hT isSubtype_dict_dict ?_)
  simp only [Bool.not_true, Bool.false_eq_true, if_false]
  refine wpAny_bind (wpAny_specialOf hT F.slot_dict_iter.lookup (wpAny_pure ?_))
  simp only [beq_self_eq_true, if_true]
  refine wpAny_bind (wpAny_pure ?_)
  refine PySem.wpAny_mergeDict_heap (hsz := by simp; omega) ?_ hdo lo hnew ho' (.inr ⟨hty, ?_⟩) fun h' hd' _ hs' => ?_
  · show _ < cLine
    first | exact hu | exact Nat.lt_of_le_of_lt (by simp [Around.in1]) hu
  · rw [rel.hashes]; exact hap
  show wpAny _ _ (Builtin.Dict.addKeywords s.heap.objs.size [] >>= _) _ _ _
  rw [storedAllH_nil_of_nodup ts h6] at hd'
  have hm : (s.heap.objs.size == sysModules) = false := beq_eq_false_iff_ne.mpr (Nat.ne_of_gt I.big)
  have hn := I.hok.fresh (Nat.le_refl s.heap.objs.size)
  refine wpAny_bind (wpAny_pure (wpAny_pure ⟨rfl, .ref s.heap.objs.size, upd H s.heap.objs.size (.dT kvs), I.laid (t' := s.toks) (fun b u e => (hs'.2 b (Nat.ne_of_lt (Heap.lt_size e))).trans (Heap.get?_push_of_some _ e)) (Nat.le_refl _) ?_, rfl, q _ hn⟩))
  obtain ⟨o', es', ep', g1, g2, g3, g4, _, g6⟩ := hd'
  exact ⟨z, hm, ts, rel.keeps fun b ys e => (by rw [upd_ne (ne_of_none e hn)]; exact e), o', es', ep', g1, g2, g3, g4, g6⟩
end
end L2

set_option Elab.async false
set_option linter.all false
set_option maxRecDepth 100000
set_option maxHeartbeats 4000000
namespace L2
open PySem PySem.Spec PyProof.Rows
section
variable {X : Cx}
/-- d.pop(k), k a tuple that is there -/
def rPopT1 : V → List V → Hp → VK → Prop := fun x xs H Q => ∃ (a b : Addr) (kvs : List (List Key × V)) (k : List Key) (v : V), x = .ref a ∧ xs = [.ref b] ∧ H a = some (.dT kvs) ∧ H b = some (.tup (k.map kV)) ∧ valV kvs k = some v ∧ Q v (upd H a (.dT (dropK kvs k)))
theorem withoutH_drop (k : List Key) : ∀ xs : List (List Key × Addr × Value), withoutH xs k = DT.dropH xs k := by
  intro xs
  first | rfl | (unfold withoutH DT.dropH; rfl) | (induction xs with | nil => rfl | cons x r ih => simp [withoutH, DT.dropH] at *)
theorem mt_popT1 (hu : X.A.units + 1 < cLine) : MtR X "dict.pop" rPopT1 := by
  intro pins s σ H x xs v us Q I rx rxs h
  obtain ⟨a, b, kvs, k, v0, rfl, rfl, ha, hb, hv, q⟩ := h
  cases rx
  obtain ⟨u1, rfl, r1⟩ := vals1 rxs
  cases r1
  obtain ⟨z, hd, ts, rel, dd⟩ := dt_of I.hok ha
  have hz : ts.length ≤ sizeLine := by rw [← Paired.length rel]; exact z
  have r := rel.val k
  rw [hv] at r
  obtain ⟨p, hp, rp⟩ : ∃ p, atKey ts k = some p ∧ RelV v0 p.2 := by
    cases e : atKey ts k with
    | none => rw [e] at r; exact (show False from r).elim
    | some p => rw [e] at r; exact ⟨p, rfl, r⟩
  refine call_pop_heap (more := []) (hsz := hz) (.inl rfl) (PySem.F.args_dict_pop_2 _ _) (tupleKind_room_in1 hu) (key_of I.hok hb) hd dd hp fun h' dd' hs => ?_
  rw [withoutH_drop] at dd'
  obtain ⟨o, es, ep, hq, h2, h3, h4, _, h5⟩ := dd'
  have J : Inv X pins σ (upd H a (.dT (dropK kvs k))) { s with heap := h', toks := s.toks + (tupleKind (mixKind X.prog X.w)).draws k } :=
    d_write I (by rw [ha]; exact True.intro) hs ⟨o, hq⟩ ⟨Nat.le_trans (dropK_le kvs k) z, hd, _, (DX.KT_drop k rel).keeps (fun c ys ec => (by rw [upd_ne (ne_of ec ha (fun z => nomatch z))]; exact ec)), o, es, ep, hq, h2, h3, h4, h5⟩
  exact ⟨v0, _, J, rp, q⟩
/-- sorted(d), the keys pairs of ints: the key tuples themselves, by their order -/
def rSortedDT (K : PySem.W.Frag) : List V → Hp → VK → Prop := fun vs H Q => ∃ (a : Addr) (kvs : List (List Key × V)) (ks : List (Int × Int)), vs = [V.ref a] ∧ Rd H a (.dT kvs) ∧ kvs.map (·.1) = ks.map (fun p => [Sum.inl p.1, Sum.inl p.2]) ∧
  ∀ (ts : List Addr) (js : List (Int × Int)) (p : Addr), js.Perm ks → js.Pairwise (fun x y => x.1 < y.1 ∨ (x.1 = y.1 ∧ x.2 ≤ y.2)) → Paired (fun t j => H t = some (.tup [.int j.1, .int j.2])) ts js → H p = none → Q (.ref p) (upd H p (.lst (ts.map V.ref)))
theorem Paired.inL {α β : Type} {F : α → β → Prop} {l : List α} {m : List β} (h : Paired F l m) : ∀ a ∈ l, ∃ b ∈ m, F a b := by
  induction h with
  | nil => intro a ha; cases ha
  | cons r _ ih =>
    intro a ha
    rcases List.mem_cons.mp ha with rfl | ha
    · exact ⟨_, List.mem_cons_self, r⟩
    · obtain ⟨b, hb, q⟩ := ih a ha
      exact ⟨b, List.mem_cons_of_mem _ hb, q⟩
theorem Paired.mapEq {α β γ : Type} {F : α → β → Prop} {f : α → γ} {g : β → γ} {l : List α} {m : List β} (h : Paired F l m) (e : ∀ a b, F a b → f a = g b) : l.map f = m.map g := by
  induction h with
  | nil => rfl
  | cons r _ ih => rw [List.map_cons, List.map_cons, ih, e _ _ r]
theorem paired_map {α β : Type} {F : α → β → Prop} {f : α → β} : ∀ {l : List α}, (∀ a ∈ l, F a (f a)) → Paired F l (l.map f)
  | [], _ => .nil
  | a :: l, h => .cons (h a List.mem_cons_self) (paired_map fun b hb => h b (List.mem_cons_of_mem _ hb))
def pairIn (H : Hp) (u : Value) : Int × Int := match u with
  | .ref t => (match H t with
    | some (.tup [.int i, .int j]) => (i, j)
    | _ => (0, 0))
  | _ => (0, 0)
theorem pairIn_of {H : Hp} {t : Addr} {i j : Int} (h : H t = some (.tup [.int i, .int j])) : pairIn H (.ref t) = (i, j) := by
  show (match H t with
    | some (.tup [.int i, .int j]) => (i, j)
    | _ => (0, 0)) = _
  rw [h]
theorem keys_pairs {H : Hp} : ∀ {kvs : List (List Key × V)} {ts : List (List Key × Addr × Value)} {ks : List (Int × Int)}, KT H kvs ts → kvs.map (·.1) = ks.map (fun p => [Sum.inl p.1, Sum.inl p.2]) →
    Paired (fun (x : List Key × Addr × Value) (j : Int × Int) => H x.2.1 = some (.tup [.int j.1, .int j.2])) ts ks
  | [], _, ks, r, e => by
    cases r
    cases ks with
    | nil => exact .nil
    | cons a l => cases e
  | p :: r, _, ks, q, e => by
    cases q with
    | cons h t =>
      cases ks with
      | nil => cases e
      | cons k l =>
        rw [List.map_cons, List.map_cons] at e
        injection e with e1 e2
        refine .cons ?_ (keys_pairs t e2)
        have := h.2.1
        rw [e1] at this
        exact this
theorem sorted_collect {prog : Program} {w : World} {A : Around} {E : Value → Shared → Prop} {s : Shared} {r : Addr} {vs : List Value} {ltv : Value → Value → Bool} {Q : Value → Shared → Prop} (O : SrtO.Swo ltv) (hz : vs.length ≤ sizeLine)
    (hc : ∀ (R : List Value → Shared → Prop) (E' : Value → Shared → Prop), (∀ (h' : Heap) (tk : Nat), (∀ b o, s.heap.get? b = some o → h'.get? b = some o) → R vs { s with heap := h', toks := tk }) → wpAny (model prog w) A.in1 (collect (.ref r)) R E' s)
    (hS : ∀ (h₁ : Heap) (a : Addr) (tk : Nat), h₁.get? a = some (seqObj "list" vs.toArray 0) → (∀ b o, s.heap.get? b = some o → h₁.get? b = some o) → 2 ≤ vs.length → SrtO.SortableO prog w A.in1.in1 { s with heap := h₁, toks := tk } a vs ltv)
    (hq : ∀ (h1 h' : Heap) (tk : Nat) (out : List Value), SrtO.Srtd ltv out → SrtO.Stb ltv out vs → (∀ b o, s.heap.get? b = some o → h1.get? b = some o) → (∀ b o, h1.get? b = some o → h'.get? b = some o) → (∃ n, h'.get? h1.objs.size = some (seqObj "list" out.toArray n)) → Q (.ref h1.objs.size) { s with heap := h', toks := tk }) :
    wpAny (model prog w) A (call (.builtin "sorted") [.ref r]) Q E s := by
  refine Calls.call_function_entry kind_sorted plain_sorted entry_sorted (args_sorted1 _) ?_
  unfold Builtin.«sorted»
  refine wpAny_bind (m := checkCount "sorted" 1 1 _) (wpAny_pure ?_)
  refine wpAny_bind (hc _ _ fun h' tk kp => ?_)
  refine wpAny_bind (wpAny_newList ?_ hz)
  have hoL : (h'.push (seqObj "list" vs.toArray 0)).get? h'.objs.size = some (seqObj "list" vs.toArray 0) := Heap.get?_push_size _ rfl
  have keep : ∀ b o, s.heap.get? b = some o → (h'.push (seqObj "list" vs.toArray 0)).get? b = some o := fun b o e => Heap.get?_push_of_some _ (kp b o e)
  show wpAny _ _ _ _ _ { s with heap := h'.push (seqObj "list" vs.toArray 0), toks := tk }
  refine wpAny_bind (wpAny_holding (wpAny_call_entry slot_list_sort ⟨_, hoL, rfl⟩ entry_list_sort
    (SrtO.list_sort_ord (s := { s with heap := h'.push (seqObj "list" vs.toArray 0), toks := tk }) O hoL hz (fun h2 => hS _ _ tk hoL keep h2) fun out hs hb => ⟨_, rfl, ?_⟩) (args_list_sort _)))
  obtain ⟨n, hn⟩ := PyProof.Rows.sortedHeap_at (vs := vs) (out := out.toArray) hoL
  refine wpAny_pure ⟨_, rfl, hq h' _ tk out hs hb kp (fun b o e => ?_) ⟨n, hn⟩⟩
  have hb' : b < h'.objs.size := Heap.lt_size e
  rw [PyProof.Rows.sortedHeap_old (Nat.ne_of_lt hb') (by rw [size_push']; exact Nat.lt_succ_of_lt hb')]
  exact Heap.get?_push_of_some _ e
theorem cr_sortedDT (hcalm : X.calm = true) : CallR X (.builtin "sorted") (rSortedDT X.K) := by
  intro pins s σ H vs us Q I r h
  obtain ⟨a, kvs, ks, rfl, hd, hk, q⟩ := h
  obtain ⟨u, rfl, ru⟩ := vals1 r
  cases ru
  obtain ⟨z, lo, ts, rel, dd⟩ := dt_rd I.hok hd
  have hl := rel.length
  obtain ⟨o, es, ep, h1, h2, h3, h4, h5, h6⟩ := id dd
  have l1 : es.size = ts.length := size_of_entries h4
  have hp := keys_pairs rel hk
  have hlen : (ts.map fun x => Value.ref x.2.1).length = ts.length := List.length_map ..
  refine sorted_collect (vs := ts.map fun x => Value.ref x.2.1) (SrtO.swo_lex (pairIn H)) (by rw [hlen]; omega) (fun R E' hR => ?_) (fun h₁ b tk hb kp h2' => ?_) fun h1' h' tk out g1 g2 kp kp' hn => ?_
  · refine PySem.W.kdu_collect (kdl_raw lo h2 h3) (I.ok.hd hcalm) h1 (by omega) fun h' tk acc kp it => ?_
    have ea : acc.toList = ts.map fun x => Value.ref x.2.1 := by
      have hl2 : acc.toList.length = ts.length := by rw [Array.length_toList, it.1]; exact l1
      apply List.ext_getElem?
      intro j
      rw [List.getElem?_map]
      cases hj : acc.toList[j]? with
      | none =>
        have g := List.getElem?_eq_none_iff.mp hj
        rw [List.getElem?_eq_none (by omega)]
        rfl
      | some v =>
        obtain ⟨en, hen, hv⟩ := it.2 j v (by rw [← Array.getElem?_toList]; exact hj)
        have qe := entry_at h4 j
        rw [hen] at qe
        cases hb : ts[j]? with
        | none => rw [hb] at qe; exact nomatch (show some en = none from qe)
        | some b =>
          rw [hb] at qe
          have e2 : en = entryOfKey (tupleKind (mixKind X.prog X.w)) b := Option.some.inj qe
          rw [hv, e2]
          rfl
    rw [ea]
    exact hR h' tk kp
  · refine SrtO.pairs_sortableO (s := { s with heap := h₁, toks := tk }) (k := pairIn H) (by omega) (fun v hm => ?_) fun ob e => ?_
    · obtain ⟨x, hx, rfl⟩ := List.mem_map.mp hm
      obtain ⟨j, _, hj⟩ := Paired.inL hp x hx
      rw [pairIn_of hj]
      obtain ⟨_, its2, r2, ob, ho, hc, n, hdt⟩ := I.hok _ _ hj
      obtain ⟨u1, u2, rfl, ri, rj⟩ := vals2 r2
      obtain ⟨t1, rfl⟩ := ri
      obtain ⟨t2, rfl⟩ := rj
      exact ⟨x.2.1, ob, t1, t2, n, rfl, kp _ _ ho, hc, hdt⟩
    · rw [hb] at e
      cases e
      intro c
      exact absurd (Value.type.inj c) (by decide)
  · obtain ⟨n, hn⟩ := hn
    have I1 : Inv X pins σ H { s with heap := h1', toks := tk } := I.kept kp
    have hmem : ∀ v ∈ out, ∃ x ∈ ts, v = Value.ref x.2.1 := fun v hv => by
      obtain ⟨x, hx, e⟩ := List.mem_map.mp (g2.perm.mem_iff.mp hv)
      exact ⟨x, hx, e.symm⟩
    obtain ⟨as, rfl⟩ : ∃ as : List Addr, out = as.map Value.ref := by
      refine ⟨out.map fun v => match v with | .ref a => a | _ => 0, ?_⟩
      rw [List.map_map]
      refine (List.map_id out).symm.trans (List.map_congr_left fun v hv => ?_)
      obtain ⟨x, _, rfl⟩ := hmem v hv
      rfl
    have hin : ∀ t ∈ as, ∃ i j, H t = some (.tup [.int i, .int j]) := fun t ht => by
      obtain ⟨x, hx, e⟩ := hmem _ (List.mem_map.mpr ⟨t, ht, rfl⟩)
      obtain ⟨j, _, hj⟩ := Paired.inL hp x hx
      cases e
      exact ⟨_, _, hj⟩
    have hz2 : (as.map V.ref).length ≤ sizeLine := by
      have := g2.perm.length_eq
      rw [List.length_map] at this ⊢
      omega
    refine ⟨.ref h1'.objs.size, _, I1.laid (t' := tk) (o := .lst (as.map V.ref)) kp' (Nat.le_refl _) ⟨hz2, as.map Value.ref, n, vals_refs _, by exact hn⟩, rfl, q as (as.map fun t => pairIn H (.ref t)) _ ?_ ?_ (paired_map fun t ht => ?_) (I1.hok.fresh (Nat.le_refl _))⟩
    · have e1 : (as.map fun t => pairIn H (.ref t)) = (as.map Value.ref).map (pairIn H) := by rw [List.map_map]; rfl
      have e2 : (ts.map fun x => Value.ref x.2.1).map (pairIn H) = ks := by
        rw [List.map_map]
        refine (Paired.mapEq (g := id) hp fun a b h => ?_).trans (List.map_id ks)
        exact pairIn_of h
      rw [e1, ← e2]
      exact g2.perm.map _
    · have := g1
      rw [SrtO.Srtd, List.pairwise_map] at this
      rw [List.pairwise_map]
      refine this.imp fun {a b} h => ?_
      have := SrtO.lexB_no.mp h
      omega
    · obtain ⟨i, j, e⟩ := hin t ht
      rw [pairIn_of e]
      exact e
end
end L2

set_option Elab.async false
set_option linter.all false
set_option maxRecDepth 100000
set_option maxHeartbeats 4000000
namespace L2
open PySem PySem.Spec PyProof.Rows
/-! ### try: body, several clauses «except x as n» -/
/-- one clause: the class it names, its name's slot, the reading of its suite -/
structure Cl where
  c : Value
  i : Nat
  ts : Addr → Value → Option Addr → TS
def offD (i : Nat) (D : Ends) : Ends := { nx := fun σ H => D.nx (σ.set i none) H, rt := D.rt, bk := fun σ H => D.bk (σ.set i none) H, ct := fun σ H => D.ct (σ.set i none) H }
def wCls (K : PySem.W.Frag) (Wout : WX) (D : Ends) : List Cl → WX
  | [] => Wout
  | q :: r => fun cls d σ H => ∃ b, PySem.W.exmOne K cls q.c = some b ∧ (b = true → ∀ a, H a = none → q.ts a cls d (offD q.i D) (σ.set q.i (some (.ref a))) H) ∧ (b = false → wCls K Wout D r cls d σ H)
inductive ClsOk (X : Cx) : List ExceptHandler → List Cl → Prop
  | nil : ClsOk X [] []
  | cons {x n : Str} {q : Cl} {b₀ : Stmt} {suite : List Stmt} {np hp : Pos} {hds : List ExceptHandler} {l : List Cl} (hc : Names X x q.c) (hi : X.N[q.i]? = some n) (hl : X.env.kindOf n = some .local)
      (hsu : ∀ (a : Addr) (oe : Obj) (cls : Value) (d : Option Addr) (pn : List (Addr × Obj)), Zc cls d oe → (∃ vs, oe.data = .fields vs) → PSs (X.suite a ((a, oe) :: pn)) (b₀ :: suite) (q.ts a cls d)) (r : ClsOk X hds l) :
      ClsOk X (.ExceptHandler (some (.Name x np)) (some n) (b₀ :: suite) hp :: hds) (q :: l)
section
variable {X : Cx} {pins : List (Addr × Obj)} {D : Ends} {Wout : WX}
/-- the clauses, looked at one after the other, at an exception that has landed in this frame -/
theorem clauses_run {hds : List ExceptHandler} {l : List Cl} (ok : X.Ok) (hs : X.stack = X.env :: X.outer) (hf : X.env.frame = some X.env.locals) (hN : X.N.Nodup) (tk : Takes X Wout) (hk : ClsOk X hds l)
    {a : Addr} {B h3 : Heap} {sI s' : Shared} {σ : St} {H : Hp} {cls : Value} {d : Option Addr} (J : Inv X pins σ H sI) (nb : ∀ b o, sI.heap.get? b = some o → b ∉ frs X.stack → B.get? b = some o)
    (fl : HandSPX.FlyingZ B (X.env :: X.outer) a (Zc cls d) h3) (up : sI.heap.UpToSlots h3) (na : H a = none) (os : s'.os = sI.os) (ag : AllBare s'.gens) (w : wCls X.K Wout D l cls d σ H) :
    wpAny (model X.prog X.w) X.A (handleBy (.ref a) X.env hds) (SP X pins D) X.xe { s' with heap := h3 } := by
  have J3 : Inv X pins σ H { s' with heap := h3 } := J.landed nb fl.1 up os ag
  obtain ⟨oe, vs, he, hz, hd⟩ := fl.there
  have nfr : a ∉ frs (X.env :: X.outer) := fun hm => by
    obtain ⟨_, o', e', hnf⟩ := fl.2.2.1.mem hm
    rw [he] at e'
    cases e'
    exact hnf _ hd
  have nL : a ≠ X.env.locals := fun z => nfr (List.mem_filterMap.mpr ⟨X.env, List.mem_cons_self, by rw [hf, z]⟩)
  have nF : a ∉ X.fs := fun hm => by
    obtain ⟨e, h1, h2⟩ := List.mem_filterMap.mp hm
    exact nfr (List.mem_filterMap.mpr ⟨e, List.mem_cons_of_mem _ h1, h2⟩)
  induction hk with
  | nil =>
    refine wpAny_handleBy_nil ?_
    obtain ⟨_, _, _, oe', vs', T, _, _, g1, _, g2, g3, _⟩ := id fl
    unfold PySem.passOn
    refine wpAny_bind (wpAny_field g1 g2 g3 ?_)
    rw [if_neg (by simp : ¬ ((Value.ref T == Value.none) = true))]
    have fin : wpAny (model X.prog X.w) X.A (setFlight (.ref a) X.env.frame) (fun _ s4 => wpAny (model X.prog X.w) X.A (throw (.ref a) : Sem Flow) (SP X pins D) X.xe s4) X.xe { s' with heap := h3 } := by
      rw [hf]
      refine HandSPX.setFlight_upZ fl fun h4 k4 up4 => wpAny_throw (tk _ _ ⟨a, B, sI, pins, σ, H, cls, d, rfl, J, nb, up.trans up4, .inr (.inr ?_), na, os, ag, w⟩)
      rw [hs]
      exact k4
    first
      | exact wpAny_bind (wpAny_pure (wpAny_bind fin))
      | exact wpAny_bind fin
  | @cons x n q b₀ suite np hp hds2 l2 hc hi hl hsu r ih =>
    obtain ⟨b, w1, wy, wn⟩ := w
    refine wpAny_handleBy_cons (codeAny_handlers_test ?_) (by intro z; cases z)
    have S3 := J3.suite he hd na nL nF
    have LT : PySem.W.Looks (model X.prog X.w) h3 (typeOf (.ref a)) cls := fun A Q E s k z => wpAny_typeOf_ref (k _ _ he) (by rw [hz.1]; exact z)
    have LM := PySem.W.exm_one (M := model X.prog X.w) J3.kIn LT w1
    have test : ∀ {Q : Value → Shared → Prop} {E : Value → Shared → Prop}, Q q.c { s' with heap := h3 } → wpAny (model X.prog X.w) (X.A.mark (some (.ref a))) (eval (.Name x np) X.env) Q E { s' with heap := h3 } := fun {Q E} z => by
      obtain ⟨c1, c2, c3 | ⟨c4, c5, c6⟩⟩ := hc
      · exact ld_glob (X := X.suite a ((a, oe) :: (X.pn ++ pins))) S3 c1 c3 z c2
      · exact ld_blt (X := X.suite a ((a, oe) :: (X.pn ++ pins))) S3 c1 c4 c5 z c6 c2
    refine test (LM.here ?_)
    cases b with
    | false =>
      have g := ih (wn rfl)
      first
        | exact codeAny_handlers_next g
        | exact g
    | true =>
      refine codeAny_handlers_suite_as (HandSPX.lands_againZ fl fun h4 fl4 up4 => ?_)
      have J4 : Inv X pins σ H { s' with heap := h4 } := J.landed nb fl4.1 (up.trans up4) os ag
      obtain ⟨oe4, vs4, he4, hz4, hd4⟩ := fl4.there
      have S4 := J4.suite he4 hd4 na nL nF
      refine store_ok (X := X.suite a ((a, oe4) :: (X.pn ++ pins))) (v := .ref a) S4 hN hi (.inl hl) rfl (fun s5 S5 => ?_) (.inr hl)
      refine wpAny_mono ((hsu a oe4 cls d (X.pn ++ pins) hz4 ⟨_, hd4⟩).run [] s5 _ H _ S5 (wy rfl a na)) (fun f s6 g => ?_) (fun _ _ z => False.elim z)
      have out : ∀ {σ6 : St} {H6 : Hp} {Q : Shared → Prop}, Inv (X.suite a ((a, oe4) :: (X.pn ++ pins))) [] σ6 H6 s6 → (∀ s7, Inv X pins (σ6.set q.i none) H6 s7 → Q s7) →
          wpAny (model X.prog X.w) X.A (do bindName X.env n .none; unbindBehindTheSuite X.env n hp) (fun _ s7 => Q s7) X.xe s6 := fun S6 z => gone_ok (S6.unsuite ok) hN hi hl z
      cases f with
      | next => obtain ⟨σ6, H6, S6, z⟩ := g; exact out S6 fun s7 J7 => ⟨_, _, J7, z⟩
      | brk => obtain ⟨σ6, H6, S6, z⟩ := g; exact out S6 fun s7 J7 => ⟨_, _, J7, z⟩
      | cont => obtain ⟨σ6, H6, S6, z⟩ := g; exact out S6 fun s7 J7 => ⟨_, _, J7, z⟩
      | ret u => obtain ⟨v6, σ6, H6, S6, r6, z⟩ := g; exact out S6 fun s7 J7 => ⟨_, _, _, J7, r6, z⟩
theorem ps_try_cls {body : List Stmt} {h₀ : ExceptHandler} {hds : List ExceptHandler} {l : List Cl} {tb : WX → TS} {pos : Pos} (hs : X.stack = X.env :: X.outer) (hf : X.env.frame = some X.env.locals) (hN : X.N.Nodup) (tk : Takes X Wout)
    (hb : ∀ (W : WX) (pn : List (Addr × Obj)) (xe : Value → Shared → Prop), Takes (X.tr pn xe) W → PassesOwn (model X.prog X.w) X.A X.env xe → PSs (X.tr pn xe) body (tb W))
    (hh : ClsOk X (h₀ :: hds) l) : PS X (.Try body (h₀ :: hds) [] [] pos) (fun D σ H => tb (wCls X.K Wout D l) D σ H) := by
  refine ⟨fun pins s σ H D I h => ?_⟩
  have ok := I.ok
  have hfr : X.A.frames = some (X.env :: X.outer) := by rw [ok.frames, hs]
  refine wpAny_Try_except (wpAny_mono ((hb (wCls X.K Wout D l) (X.pn ++ pins) (fun e s₁ => wpAny (model X.prog X.w) X.A (noteFrame e X.env) (fun _ s₂ => wpAny (model X.prog X.w) X.A (setFlight e none) (fun _ s₃ =>
    wpAny (model X.prog X.w) X.A (handleBy e X.env (h₀ :: hds)) (SP X pins D) X.xe s₃) X.xe s₂) X.xe s₁) (fun u s' xx => ?_) PassesOwn.looking).run [] s σ H D (I.toTry _) h) (fun f s1 g => ?_) (fun e s1 he => he))
  · obtain ⟨a, B, sI, pins', σ', H', cls, d, rfl, J', nb, up, sky, na, os, ag, w⟩ := xx
    have sky' : Sky B (X.env :: X.outer) a (Zc cls d) X.env.locals s'.heap := by rw [← hs]; exact sky
    show wpAny (model X.prog X.w) X.A (noteFrame (.ref a) X.env) _ _ _
    exact Sky.land Zc.steady hfr hf sky' fun h3 fl3 up3 => clauses_run ok hs hf hN tk hh (J'.ofTry ok) nb fl3 (up.trans up3) na os ag w
  · cases f with
    | next => obtain ⟨σ', H', J', z⟩ := g; exact wpAny_execs_nil ⟨σ', H', J'.ofTry ok, z⟩
    | brk => obtain ⟨σ', H', J', z⟩ := g; exact ⟨σ', H', J'.ofTry ok, z⟩
    | cont => obtain ⟨σ', H', J', z⟩ := g; exact ⟨σ', H', J'.ofTry ok, z⟩
    | ret u => obtain ⟨v, σ', H', J', r, z⟩ := g; exact ⟨v, σ', H', J'.ofTry ok, r, z⟩
end
end L2

set_option Elab.async false
set_option linter.all false
set_option maxRecDepth 100000
set_option maxHeartbeats 4000000
/-! != of lists and tuples whose items' == is told within one model (the items may hold dicts) -/
namespace PySem.SeqAt
open AutoSeq1 (wpAny_loadPart')
open MeetsSeq MeetsSeq2 MeetsSeq3
abbrev seqO (T : String) (dd : Option Addr) (its : Array Value) (n : Nat) (sl : Array (Option Value)) : Obj := { cls := .type T, dict := dd, data := .seq its n, slots := sl }
section
variable {prog : Program} {w : World} {p q : Addr} {xs ys : Array Value} {m n : Nat} {dp dq : Option Addr} {sp sq : Array (Option Value)} {f : Nat → Bool}
theorem drop_range {z i : Nat} (h : i < z) : (List.range z).drop i = i :: (List.range z).drop (i + 1) := by simp [List.drop_eq_getElem_cons, h]
theorem neIn_loop (hz : xs.size = ys.size) : ∀ (k i : Nat), xs.size - i = k → MeetsIn prog w (Builtin.«list.__eq__.loop» ⟨[.ref p, .ref q, rawInt i, rawInt 3], []⟩)
    (fun A R s => s.heap.get? p = some (seqO "list" dp xs m sp) ∧ s.heap.get? q = some (seqO "list" dq ys n sq) ∧ (∀ j (h1 : j < xs.size) (h2 : j < ys.size), EqIn prog w A.in1 s xs[j] ys[j] (f j)) ∧
      R (.ok (.ret (.bool (!((List.range xs.size).drop i).all f)))) s) := by
  intro k
  induction k with
  | zero =>
    intro i hk A R s ⟨gp, gq, he, hR⟩
    obtain ⟨hp, g, d, tk, os⟩ := s
    have e1 : xs[((i : Nat) : Int).toNat]? = none := by simp; omega
    have e2 : ys[((i : Nat) : Int).toNat]? = none := by simp; omega
    have e3 : (List.range xs.size).drop i = [] := by simp; omega
    rw [e3] at hR
    wp_walk using wpAny_loadPart' gp, wpAny_loadPart' gq
    rw [e1, e2]
    wp_walk using wpAny_loadPart' gp, wpAny_loadPart' gq
    show R (.ok (.ret (.bool (xs.size != ys.size)))) _
    rw [hz]
    simpa using hR
  | succ k ih =>
    intro i hk A R s ⟨gp, gq, he, hR⟩
    obtain ⟨hp, g, d, tk, os⟩ := s
    have l1 : i < xs.size := by omega
    have l2 : i < ys.size := by omega
    have e1 : xs[((i : Nat) : Int).toNat]? = some xs[i] := by simp [l1]
    have e2 : ys[((i : Nat) : Int).toNat]? = some ys[i] := by simp [l2]
    have e3 : ((i : Int) + 1) = ((i + 1 : Nat) : Int) := by push_cast; rfl
    rw [drop_range l1, List.all_cons] at hR
    wp_walk using wpAny_loadPart' gp, wpAny_loadPart' gq
    rw [e1, e2]
    refine wpAny_bind (he i l1 l2 _ _ ?_)
    cases hf : f i with
    | true =>
      rw [hf] at hR
      wp_walk
      rw [e3]
      exact ⟨plainId_quiet plain_eq_loop _, codeAny_builtin entry_eq_loop (by
        rw [Around.under_plainId plain_eq_loop _]
        exact ih (i + 1) (by omega) A R _ ⟨gp, gq, he, by simpa using hR⟩)⟩
    | false =>
      rw [hf] at hR
      wp_walk using wpAny_loadPart' gp, wpAny_loadPart' gq
      rw [e1, e2]
      wp_walk
      simpa using hR
theorem neIn_list (hz : xs.size = ys.size) : MeetsIn prog w (Builtin.«list.__ne__» ⟨[.ref p, .ref q], []⟩)
    (fun A R s => s.heap.get? p = some (seqO "list" dp xs m sp) ∧ s.heap.get? q = some (seqO "list" dq ys n sq) ∧ (∀ j (h1 : j < xs.size) (h2 : j < ys.size), EqIn prog w A.in1 s xs[j] ys[j] (f j)) ∧
      R (.ok (.ret (.bool (!(List.range xs.size).all f)))) s) := by
  intro A R s ⟨gp, gq, he, hR⟩
  obtain ⟨hp, g, d, tk, os⟩ := s
  have f3 := AutoSeq1.sub_list_list
  have hne : ¬ (xs.size != ys.size) = true := by simp [hz]
  wp_walk using wpAny_loadPart' gp, wpAny_loadPart' gq
  exact ⟨plainId_quiet plain_eq_loop _, codeAny_builtin entry_eq_loop (by
    rw [Around.under_plainId plain_eq_loop _]
    exact neIn_loop hz _ 0 rfl A R _ ⟨gp, gq, he, by simpa using hR⟩)⟩
theorem rcNe_lists {A : Around} {s : Shared} {E Q : Value → Shared → Prop} (hp : s.heap.IsList p xs) (hq : s.heap.IsList q ys) (hz : xs.size = ys.size) (hu : A.units < cLine)
    (he : ∀ j (h1 : j < xs.size) (h2 : j < ys.size), EqIn prog w A.in1 s xs[j] ys[j] (f j)) (h : Q (.bool (!(List.range xs.size).all f)) s) : wpAny (model prog w) A (richCompare .NotEq (.ref p) (.ref q)) Q E s := by
  obtain ⟨⟨c1, d1, t1, s1⟩, o1, k1, n1, e1⟩ := id hp
  obtain ⟨⟨c2, d2, t2, s2⟩, o2, k2, n2, e2⟩ := id hq
  simp only at k1 e1 k2 e2
  subst k1 e1 k2 e2
  exact wpAny_richCompare_same_room (T := "list") (op := .NotEq) ⟨_, o1, rfl⟩ ⟨_, o2, rfl⟩ F.slot_list_ne (call_meetsIn F.slot_list_ne ⟨_, o1, rfl⟩ F.entry_list_ne (F.args_list_ne_2 _ _) (neIn_list hz)
    ⟨o1, o2, he, show Value.bool (!(List.range xs.size).all f) ≠ Value.notImplemented ∧ Q (.bool (!(List.range xs.size).all f)) s from ⟨(fun x => nomatch x), h⟩⟩) hu
end
end PySem.SeqAt

set_option Elab.async false
set_option linter.all false
set_option maxRecDepth 100000
set_option maxHeartbeats 4000000
namespace L2
open PySem PySem.Spec PyProof.Rows
/-- two values that are == : the same scalar, the same object, lists, tuples of equal items, dicts of the same keys with equal values; of nesting at most n -/
def dat : V → Bool
  | .non | .bl _ | .int _ | .str _ => true
  | _ => false
inductive EqTr (K : PySem.W.Frag) (H : Hp) : Nat → V → V → Prop
  | flat {n : Nat} {x : V} : dat x = true → EqTr K H n x x
  | same {n : Nat} {a : Addr} : EqTr K H n (.ref a) (.ref a)
  | lst {n : Nat} {a b : Addr} {xs ys : List V} : SqL K H a xs → SqL K H b ys → xs.length = ys.length → (∀ (i : Nat) (x y : V), xs[i]? = some x → ys[i]? = some y → EqTr K H n x y) → EqTr K H (n + 1) (.ref a) (.ref b)
  | tup {n : Nat} {a b : Addr} {xs ys : List V} : SqT K H a xs → SqT K H b ys → xs.length = ys.length → (∀ (i : Nat) (x y : V), xs[i]? = some x → ys[i]? = some y → EqTr K H n x y) → EqTr K H (n + 1) (.ref a) (.ref b)
  | dct {n : Nat} {a b : Addr} {ks ls : List (Key × V)} : Rd H a (.dK ks) → Rd H b (.dK ls) → ks.length = ls.length → (∀ (k : Key) (x : V), (k, x) ∈ ks → ∃ y, valV ls k = some y) → (∀ (k : Key) (x y : V), (k, x) ∈ ks → valV ls k = some y → EqTr K H n x y) → EqTr K H (n + 1) (.ref a) (.ref b)
theorem all_true (n : Nat) : ((List.range n).all fun _ => true) = true := by simp
section
variable {X : Cx} {pins : List (Addr × Obj)} {σ : St} {H : Hp} {s : Shared}
theorem KV.mem {ks : List (Key × V)} {vs : List (Key × Value)} (r : KV ks vs) : ∀ {k : Key} {u : Value}, (k, u) ∈ vs → ∃ x, (k, x) ∈ ks ∧ RelV x u := by
  unfold KV at r
  induction r with
  | nil => intro k u h; cases h
  | @cons p q ps qs h _ ih =>
    intro k u hm
    rcases List.mem_cons.mp hm with e | hm
    · subst e
      obtain ⟨k', x'⟩ := p
      obtain ⟨h1, h2⟩ := h
      cases h1
      exact ⟨x', List.mem_cons_self, h2⟩
    · obtain ⟨x, h1, h2⟩ := ih hm
      exact ⟨x, List.mem_cons_of_mem _ h1, h2⟩
theorem leaf_eq {x : V} (h : dat x = true) {v u : Value} (rx : RelV x v) (ry : RelV x u) (A : Around) : SeqAt.EqAt A s v u true := by
  cases x with
  | non =>
    cases rx
    cases ry
    exact SeqAt.EqAt.same _
  | bl b =>
    cases rx
    cases ry
    have := SeqAt.EqAt.bool_bool (A := A) (s := s) b b
    rwa [beq_self_eq_true] at this
  | int i =>
    obtain ⟨t, rfl⟩ := rx
    obtain ⟨t', rfl⟩ := ry
    have := SeqAt.EqAt.int_int (A := A) (s := s) i t i t'
    rwa [beq_self_eq_true] at this
  | str z =>
    obtain ⟨t, rfl⟩ := rx
    obtain ⟨t', rfl⟩ := ry
    have := SeqAt.EqAt.str_str (A := A) (s := s) z t z t'
    rwa [beq_self_eq_true] at this
  | _ => cases h
theorem eqTr_tree (I : Inv X pins σ H s) {n : Nat} {x y : V} (h : EqTr X.K H n x y) : ∀ {v u : Value}, RelV x v → RelV y u → PySem.W.EqTree X.prog X.w s n v u true := by
  induction h with
  | @flat n x hx =>
    intro v u rx ry
    refine .leaf fun A hu => ?_
    exact leaf_eq hx rx ry A
  | same =>
    intro v u rx ry
    cases rx
    cases ry
    exact .same
  | @lst n a b xs ys ha hb hl _ ih =>
    intro v u rx ry
    cases rx
    cases ry
    by_cases e : a = b
    · subst e; exact .same
    obtain ⟨ia, ra, la, _⟩ := I.list ha
    obtain ⟨ib, rb, lb, _⟩ := I.list hb
    have la' := ra.length
    have lb' := rb.length
    have t := PySem.W.EqTree.lists (prog := X.prog) (w := X.w) (n := n) (e := fun _ => true) e la.isList lb.isList (by simp; omega) fun j h1 h2 => by
      have q1 : j < xs.length := by simp at h1; omega
      have q2 : j < ys.length := by simp at h2; omega
      obtain ⟨u1, e1, r1⟩ := ra.get (List.getElem?_eq_getElem q1)
      obtain ⟨u2, e2, r2⟩ := rb.get (List.getElem?_eq_getElem q2)
      have g := ih j _ _ (List.getElem?_eq_getElem q1) (List.getElem?_eq_getElem q2) r1 r2
      have z1 : ia.toArray[j] = u1 := by
        have := List.getElem?_eq_some_iff.mp e1
        simpa using this.2
      have z2 : ib.toArray[j] = u2 := by
        have := List.getElem?_eq_some_iff.mp e2
        simpa using this.2
      rw [z1, z2]
      exact g
    rwa [all_true] at t
  | @tup n a b xs ys ha hb hl _ ih =>
    intro v u rx ry
    cases rx
    cases ry
    by_cases e : a = b
    · subst e; exact .same
    obtain ⟨ia, ra, la, _⟩ := I.tuple ha
    obtain ⟨ib, rb, lb, _⟩ := I.tuple hb
    have la' := ra.length
    have lb' := rb.length
    have t := PySem.W.EqTree.tuples (prog := X.prog) (w := X.w) (n := n) (e := fun _ => true) e la lb fun j h1 h2 => by
      have q1 : j < xs.length := by simp at h1; omega
      have q2 : j < ys.length := by simp at h2; omega
      obtain ⟨u1, e1, r1⟩ := ra.get (List.getElem?_eq_getElem q1)
      obtain ⟨u2, e2, r2⟩ := rb.get (List.getElem?_eq_getElem q2)
      have g := ih j _ _ (List.getElem?_eq_getElem q1) (List.getElem?_eq_getElem q2) r1 r2
      have z1 : ia.toArray[j] = u1 := by
        have := List.getElem?_eq_some_iff.mp e1
        simpa using this.2
      have z2 : ib.toArray[j] = u2 := by
        have := List.getElem?_eq_some_iff.mp e2
        simpa using this.2
      rw [z1, z2]
      exact g
    rw [all_true] at t
    have zz : (true && ia.toArray.size == ib.toArray.size) = true := by simp; omega
    rwa [zz] at t
  | @dct n a b ks ls ha hb hl hin _ ih =>
    intro v u rx ry
    cases rx
    cases ry
    by_cases e : a = b
    · subst e; exact .same
    obtain ⟨_, ya, va, ra, da⟩ := dk_rd I.hok ha
    obtain ⟨_, yb, vb, rb, db⟩ := dk_rd I.hok hb
    have t := PySem.W.EqTree.dicts (prog := X.prog) (w := X.w) (n := n) (e := fun _ => true) e ya yb da db fun k v y hm hv => by
      obtain ⟨x, hx, rx⟩ := ra.mem hm
      obtain ⟨y', hy⟩ := hin k x hx
      have q := rb.val k
      rw [hy, hv] at q
      exact ih k x y' hx hy rx q
    have zz : (va.length == vb.length && va.all fun p => (valueAt vb p.1).isSome && true) = true := by
      rw [Bool.and_eq_true]
      refine ⟨?_, List.all_eq_true.mpr fun p hp => ?_⟩
      · have h1 := ra.length
        have h2 := rb.length
        simp; omega
      · obtain ⟨x, hx, _⟩ := ra.mem (k := p.1) (u := p.2) hp
        obtain ⟨y', hy⟩ := hin _ x hx
        have q := rb.val p.1
        rw [hy] at q
        cases z : valueAt vb p.1 with
        | none => rw [z] at q; exact q.elim
        | some _ => rfl
    rwa [zz] at t
/-- a == b, a != b of such -/
def rEqT (K : PySem.W.Frag) : R2 := fun x y H Q => ∃ n a b xs ys, n ≤ 40 ∧ x = .ref a ∧ y = .ref b ∧ SqL K H a xs ∧ SqL K H b ys ∧ xs.length = ys.length ∧ (∀ (i : Nat) (x y : V), xs[i]? = some x → ys[i]? = some y → EqTr K H n x y) ∧ Q (.bl true) H
def rNeT (K : PySem.W.Frag) : R2 := fun x y H Q => ∃ n a b xs ys, n ≤ 40 ∧ x = .ref a ∧ y = .ref b ∧ SqL K H a xs ∧ SqL K H b ys ∧ xs.length = ys.length ∧ (∀ (i : Nat) (x y : V), xs[i]? = some x → ys[i]? = some y → EqTr K H n x y) ∧ Q (.bl false) H
theorem sub_getElem {us : List Value} {i : Nat} {u : Value} (h : i < us.toArray.size) (e : us[i]? = some u) : us.toArray[i] = u := by
  have := List.getElem?_eq_some_iff.mp e
  simpa using this.2
theorem op_neT (hu : X.A.units + 64 < cLine) : OpR X (compareOp .NotEq) (rNeT X.K) := by
  intro pins s σ H x y v u Q I rx ry h
  obtain ⟨n, a, b, xs, ys, hn, rfl, rfl, ha, hb, hl, he, q⟩ := h
  cases rx
  cases ry
  obtain ⟨ia, ra, la, _⟩ := I.list ha
  obtain ⟨ib, rb, lb, _⟩ := I.list hb
  have la' := ra.length
  have lb' := rb.length
  refine SeqAt.rcNe_lists (f := fun _ => true) la.isList lb.isList (by simp; omega) (by omega) (fun j h1 h2 => ?_) ?_
  · have q1 : j < xs.length := by simp at h1; omega
    have q2 : j < ys.length := by simp at h2; omega
    obtain ⟨u1, e1, r1⟩ := ra.get (List.getElem?_eq_getElem q1)
    obtain ⟨u2, e2, r2⟩ := rb.get (List.getElem?_eq_getElem q2)
    rw [sub_getElem h1 e1, sub_getElem h2 e2]
    exact (eqTr_tree I (he j _ _ (List.getElem?_eq_getElem q1) (List.getElem?_eq_getElem q2)) r1 r2).at X.A.in1 (by show X.A.units + 1 + n < cLine; omega)
  · rw [all_true]
    exact fin_bl I q rfl
theorem op_eqT (hu : X.A.units + 64 < cLine) : OpR X (compareOp .Eq) (rEqT X.K) := by
  intro pins s σ H x y v u Q I rx ry h
  obtain ⟨n, a, b, xs, ys, hn, rfl, rfl, ha, hb, hl, he, q⟩ := h
  cases rx
  cases ry
  obtain ⟨ia, ra, la, _⟩ := I.list ha
  obtain ⟨ib, rb, lb, _⟩ := I.list hb
  have la' := ra.length
  have lb' := rb.length
  refine PySem.W.eq_listsT (n := n) (e := fun _ => true) la.isList lb.isList (by simp; omega) (fun j h1 h2 => ?_) (by omega) ?_
  · have q1 : j < xs.length := by simp at h1; omega
    have q2 : j < ys.length := by simp at h2; omega
    obtain ⟨u1, e1, r1⟩ := ra.get (List.getElem?_eq_getElem q1)
    obtain ⟨u2, e2, r2⟩ := rb.get (List.getElem?_eq_getElem q2)
    rw [sub_getElem h1 e1, sub_getElem h2 e2]
    exact eqTr_tree I (he j _ _ (List.getElem?_eq_getElem q1) (List.getElem?_eq_getElem q2)) r1 r2
  · rw [all_true]
    exact fin_bl I q rfl
end
end L2

set_option Elab.async false
set_option linter.all false
set_option maxRecDepth 100000
set_option maxHeartbeats 4000000
namespace L2
open PySem PySem.Spec PyProof.Rows
/-- a def without defaults keeps its promise -/
theorem def_ok {P : Program} {w : World} {K : PySem.W.Frag} {mg : Str → Option Value} {base : Heap} {p : Str × Option Str} {nm qual : Str} {params : Arguments} {body : List Stmt} {scope : Scope} {N ps : List Str} {k : Nat} {sp : Sp}
    (F : ∃ fd, FunD K nm qual params body scope [] [] (He.fAd K p) fd) (S : FnScope N ps scope) (len : ∀ vs H Q E, sp vs H Q E → vs.length = ps.length)
    (bd : ∀ (kV doc pm : Value) (an : Option Addr) (cdv ct : Value) (us : List Value), us.length = ps.length → bindArgs (PySem.W.fnOf nm qual params body scope .none kV doc pm an cdv ct) ⟨us, []⟩ = pure (ps.zip us))
    (hb : ∀ (cdv : Value) (A : Around) (outer : List Env) (s : Shared) (H : Hp) (vs : List V) (Q : VK) (E : XK), Room k (A.deeper (envOfC qual scope s.heap.objs.size (He.fAd K p) cdv)) → sp vs H Q E →
      ∃ t, PSs (cxOf (L2.CX P w) P w K mg base N qual scope (He.fAd K p) cdv A outer s H E) body t ∧ t { nx := fun _ H' => Q .non H', rt := Q } (start N vs) H) : DefOk P w K mg base p ps [] (k + 1) sp := by
  obtain ⟨fd, F⟩ := F
  exact ⟨⟨fd, [], F.ok S len hb, F.bindsN bd, .nil⟩, F.kp⟩
theorem Room.units2 {k : Nat} {A : Around} (r : Room k A) : A.units + 2 < cLine := by have := r.un; omega
theorem CX0_of {P : Program} {w : World} {H : Hp} {s : Shared} {e : Value} {s' : Shared} (h : L2.CX P w [] H s (fun _ _ _ => False) e s') : False := by
  obtain ⟨_, _, _, _, _, _, _, _, _, _, _, _, z⟩ := h
  exact z
end L2

set_option Elab.async false
set_option linter.all false
set_option maxRecDepth 100000
set_option maxHeartbeats 4000000
namespace L2
open PySem PySem.Spec PyProof.Rows
/-- isinstance(x, T), T a built-in class -/
def rIsiB (K : PySem.W.Frag) : List V → Hp → VK → Prop := fun xs H Q => ∃ x n, xs = [x, V.ty n] ∧ ∃ t b, TyX K H x (.type t) ∧ kitB t n = some b ∧ Q (.bl b) H
theorem call_isiB {X : Cx} : CallR X (.builtin "isinstance") (rIsiB X.K) := by
  intro pins s σ H xs us Q I r h
  obtain ⟨x, n, rfl, t, b, h1, h2, q⟩ := h
  exact call_isi pins s σ H _ us Q I r ⟨x, .ty n, .type t, .type n, b, rfl, .ty n, h1, kit_ty h2, q⟩
theorem ty_non {K : PySem.W.Frag} {H : Hp} : TyX K H .non (.type "NoneType") := .base .non
theorem ty_bl {K : PySem.W.Frag} {H : Hp} {b : Bool} : TyX K H (.bl b) (.type "bool") := .base (.bl b)
theorem ty_int {K : PySem.W.Frag} {H : Hp} {i : Int} : TyX K H (.int i) (.type "int") := .base (.int i)
theorem ty_str {K : PySem.W.Frag} {H : Hp} {x : Str} : TyX K H (.str x) (.type "str") := .base (.str x)
theorem ty_tup {K : PySem.W.Frag} {H : Hp} {a : Addr} {xs : List V} (h : SqT K H a xs) : TyX K H (.ref a) (.type "tuple") := by
  rcases h with (h | ⟨o, h⟩) | ⟨o, its, n, h, c, _⟩
  · exact .base (.tup h)
  · exact .fTuple h
  · exact .kTuple h c
theorem ty_dK {K : PySem.W.Frag} {H : Hp} {a : Addr} {kvs : List (Key × V)} (h : Rd H a (.dK kvs)) : TyX K H (.ref a) (.type "dict") := by
  rcases h with h | ⟨o, h⟩
  · exact .base (.dK h)
  · exact .fDict h
theorem kit_NoneType_int : kitB "NoneType" "int" = some false := by decide +kernel
theorem kit_NoneType_bool : kitB "NoneType" "bool" = some false := by decide +kernel
theorem kit_NoneType_str : kitB "NoneType" "str" = some false := by decide +kernel
theorem kit_NoneType_tuple : kitB "NoneType" "tuple" = some false := by decide +kernel
theorem kit_NoneType_dict : kitB "NoneType" "dict" = some false := by decide +kernel
theorem kit_NoneType_list : kitB "NoneType" "list" = some false := by decide +kernel
theorem kit_bool_int : kitB "bool" "int" = some true := by decide +kernel
theorem kit_bool_bool : kitB "bool" "bool" = some true := by decide +kernel
theorem kit_bool_str : kitB "bool" "str" = some false := by decide +kernel
theorem kit_bool_tuple : kitB "bool" "tuple" = some false := by decide +kernel
theorem kit_bool_dict : kitB "bool" "dict" = some false := by decide +kernel
theorem kit_bool_list : kitB "bool" "list" = some false := by decide +kernel
theorem kit_int_int : kitB "int" "int" = some true := by decide +kernel
theorem kit_int_bool : kitB "int" "bool" = some false := by decide +kernel
theorem kit_int_str : kitB "int" "str" = some false := by decide +kernel
theorem kit_int_tuple : kitB "int" "tuple" = some false := by decide +kernel
theorem kit_int_dict : kitB "int" "dict" = some false := by decide +kernel
theorem kit_int_list : kitB "int" "list" = some false := by decide +kernel
theorem kit_str_int : kitB "str" "int" = some false := by decide +kernel
theorem kit_str_bool : kitB "str" "bool" = some false := by decide +kernel
theorem kit_str_str : kitB "str" "str" = some true := by decide +kernel
theorem kit_str_tuple : kitB "str" "tuple" = some false := by decide +kernel
theorem kit_str_dict : kitB "str" "dict" = some false := by decide +kernel
theorem kit_str_list : kitB "str" "list" = some false := by decide +kernel
theorem kit_tuple_int : kitB "tuple" "int" = some false := by decide +kernel
theorem kit_tuple_bool : kitB "tuple" "bool" = some false := by decide +kernel
theorem kit_tuple_str : kitB "tuple" "str" = some false := by decide +kernel
theorem kit_tuple_tuple : kitB "tuple" "tuple" = some true := by decide +kernel
theorem kit_tuple_dict : kitB "tuple" "dict" = some false := by decide +kernel
theorem kit_tuple_list : kitB "tuple" "list" = some false := by decide +kernel
theorem kit_list_int : kitB "list" "int" = some false := by decide +kernel
theorem kit_list_bool : kitB "list" "bool" = some false := by decide +kernel
theorem kit_list_str : kitB "list" "str" = some false := by decide +kernel
theorem kit_list_tuple : kitB "list" "tuple" = some false := by decide +kernel
theorem kit_list_dict : kitB "list" "dict" = some false := by decide +kernel
theorem kit_list_list : kitB "list" "list" = some true := by decide +kernel
theorem kit_dict_int : kitB "dict" "int" = some false := by decide +kernel
theorem kit_dict_bool : kitB "dict" "bool" = some false := by decide +kernel
theorem kit_dict_str : kitB "dict" "str" = some false := by decide +kernel
theorem kit_dict_tuple : kitB "dict" "tuple" = some false := by decide +kernel
theorem kit_dict_dict : kitB "dict" "dict" = some true := by decide +kernel
theorem kit_dict_list : kitB "dict" "list" = some false := by decide +kernel
/-! ### what stands still when a heap grows -/
theorem Same.rd {H H' : Hp} (e : Same H H') {a : Addr} {u : HO} (h : Rd H a u) : Rd H' a u := by
  rcases h with h | ⟨o, h⟩
  · exact .inl (e _ _ h)
  · exact .inr ⟨o, e _ _ h⟩
theorem Same.sqT {K : PySem.W.Frag} {H H' : Hp} (e : Same H H') {a : Addr} {xs : List V} (h : SqT K H a xs) : SqT K H' a xs := by
  rcases h with h | h
  · exact .inl (e.rd h)
  · exact .inr h
theorem Same.new {H : Hp} {p : Addr} {o : HO} (h : H p = none) : Same H (upd H p o) := fun b u e => by rw [upd_ne (ne_of_none e h)]; exact e
theorem Same.mut {H H' : Hp} (e : Same H H') {p : Addr} {o : HO} (h : H p = none) : Same H (upd H' p o) := fun b u q => by rw [upd_ne (ne_of_none q h)]; exact e b u q
end L2

set_option Elab.async false
set_option linter.all false
set_option maxRecDepth 100000
set_option maxHeartbeats 4000000
namespace L2
open PySem PySem.Spec PyProof.Rows
/-! ### tuples whose object is told (dict(t) of a tuple of pairs asks that it has no dict of its own) -/
def SqU (H : Hp) (p : Addr) (xs : List V) : Prop := ∃ o, H p = some (.frz o (.tup xs)) ∧ o.dict = none
theorem SqU.sqT {K : PySem.W.Frag} {H : Hp} {p : Addr} {xs : List V} (h : SqU H p xs) : SqT K H p xs := let ⟨o, e, _⟩ := h; .inl (.inr ⟨o, e⟩)
theorem Same.sqU {H H' : Hp} (e : Same H H') {p : Addr} {xs : List V} (h : SqU H p xs) : SqU H' p xs := let ⟨o, a, b⟩ := h; ⟨o, e _ _ a, b⟩
theorem SqU.new {H : Hp} {p : Addr} {xs : List V} {o : Obj} (d : o.dict = none) : SqU (upd H p (.frz o (.tup xs))) p xs := ⟨o, upd_same, d⟩
def tTupF (t : TA) : TE := fun σ H Q => t σ H fun xs H1 => xs.length ≤ sizeLine ∧ ∀ p o, H1 p = none → o.dict = none → Q (.ref p) (upd H1 p (.frz o (.tup xs)))
section
variable {X : Cx} {es : List Expr} {t : TA} {pos : Pos}
theorem pe_tupF {x1} (h : PA X es t) : PE X (.Tuple es x1 pos) (tTupF t) := by
  refine ⟨fun pins s σ H Q I hq => wpAny_Tuple_spliced (thn (h.run pos pins s σ H _ I hq) fun us s1 h1 => ?_)⟩
  obtain ⟨xs, H1, I1, r, z, q⟩ := h1
  refine ⟨by rw [← r.length]; exact z, ?_⟩
  have hf : H1 s1.heap.objs.size = none := I1.hok.fresh (Nat.le_refl _)
  let o : Obj := { cls := .type "tuple", data := .seq us.toArray }
  have J := I1.laid (t' := s1.toks) (o := .frz o (.tup xs)) (fun b u e => Heap.get?_push_of_some o e) (Nat.le_refl _)
    ⟨Heap.get?_push_size _ rfl, z, us, r, ⟨_, Heap.get?_push_size _ rfl, rfl, _, rfl⟩⟩
  exact ⟨.ref s1.heap.objs.size, _, J, rfl, q _ o hf rfl⟩
/-- tuple(l), l a list -/
theorem call_tuple_ofF : CallR X (.type "tuple") (fun xs H Q => ∃ p ys, xs = [.ref p] ∧ SqL X.K H p ys ∧ ∀ l o, H l = none → o.dict = none → Q (.ref l) (upd H l (.frz o (.tup ys)))) := by
  intro pins s σ H xs us Q I r h
  obtain ⟨p, ys, rfl, hq, q⟩ := h
  obtain ⟨u, rfl, rx⟩ := vals1 r
  cases rx
  obtain ⟨its, r', pl, hz⟩ := I.list hq
  have hlen := r'.length
  refine call_tuple_list pl.isList (fun h' kp => ?_) (by simp only [List.size_toArray] <;> omega)
  have I1 : Inv X pins σ H { s with heap := h' } := I.kept (t' := s.toks) kp
  let o : Obj := { cls := .type "tuple", data := .seq its.toArray }
  have I2 : Inv X pins σ (upd H h'.objs.size (.frz o (.tup ys))) { s with heap := h'.push o } :=
    I1.laid (t' := s.toks) (fun b o' e => Heap.get?_push_of_some _ e) (Nat.le_refl _) ⟨Heap.get?_push_size _ rfl, hz, its, r', IsTup.new _ _⟩
  exact ⟨.ref h'.objs.size, _, I2, rfl, q _ o (I1.hok.fresh (Nat.le_refl _)) rfl⟩
/-- dict(t), t a tuple of pairs -/
theorem call_dictU (hcalm : X.calm = true) : CallR X (.type "dict") (fun xs H Q => ∃ (a : Addr) (ps : List Addr) (kvs : List (Key × V)), xs = [.ref a] ∧ SqU H a (ps.map V.ref) ∧ Paired (fun p kv => SqT X.K H p [kV kv.1, kv.2]) ps kvs ∧
    ∀ p, H p = none → Q (.ref p) (upd H p (.dK (mergeK [] kvs)))) := by
  intro pins s σ H xs us Q I r q
  obtain ⟨a, ps, kvs, rfl, ⟨o, ho, hod⟩, hp, q⟩ := q
  obtain ⟨u, rfl, rx⟩ := vals1 r
  cases rx
  obtain ⟨g1, hz, its, rv, ob, g2, g3, n, g4⟩ := I.hok _ _ ho
  rw [g1] at g2
  cases g2
  have ei := refs_at rv
  subst ei
  obtain ⟨prs, rel, hl, hpr⟩ := pairs_of I hp
  have hz' : ps.length ≤ sizeLine := by rw [List.length_map] at hz; exact hz
  have key : ∀ j (q' : Key × Value), prs[j]? = some q' → ∃ (b : Addr) (u : Value), ps[j]? = some b ∧ IsTup s.heap b #[u, q'.2] ∧ keyIs q'.1 u = true := hpr
  let uv : Nat → Value := fun j => match ps[j]?, prs[j]? with
    | some b, some q' => (match s.heap.get? b with
      | some ⟨_, _, .seq its _, _⟩ => its.getD 0 .none
      | _ => .none)
    | _, _ => .none
  let pv2 : List (Value × Value) := (List.range prs.length).map fun j => (uv j, (prs[j]?.map (·.2)).getD .none)
  have pvl : pv2.length = prs.length := by simp [pv2]
  have pvat : ∀ (j : Nat) (q' : Key × Value), prs[j]? = some q' → ∃ (b : Addr), ps[j]? = some b ∧ IsTup s.heap b #[uv j, q'.2] ∧ keyIs q'.1 (uv j) = true ∧ pv2[j]? = some (uv j, q'.2) := fun j q' e => by
    obtain ⟨b, u, e1, e2, e3⟩ := key j q' e
    obtain ⟨ob, f1, f2, m, f3⟩ := id e2
    have eu : uv j = u := by
      obtain ⟨c, d, dt, sl⟩ := ob
      simp only at f3
      subst f3
      show (match ps[j]?, prs[j]? with
        | some b, some q' => (match s.heap.get? b with
          | some ⟨_, _, .seq its _, _⟩ => its.getD 0 .none
          | _ => .none)
        | _, _ => .none) = u
      rw [e1, e]
      show (match s.heap.get? b with
          | some ⟨_, _, .seq its _, _⟩ => its.getD 0 .none
          | _ => .none) = u
      rw [f1]
      rfl
    have hj : j < prs.length := (List.getElem?_eq_some_iff.mp e).1
    refine ⟨b, e1, by rw [eu]; exact e2, by rw [eu]; exact e3, ?_⟩
    simp only [pv2, List.getElem?_map]
    rw [List.getElem?_range hj]
    simp [e]
  refine PySem.call_dict_pairs (knd := mixKind X.prog X.w) (kvs := prs) (PairArg.tuple a (ps.map Value.ref).toArray (fun j => ps.getD j 0) pv2) (I.ok.hd hcalm) ⟨⟨o, n, g1, g3, hod, g4⟩, ⟨by simp [pvl, hl], fun j k v e => ?_⟩⟩ ⟨pvl.symm, fun j k v e => ?_⟩ (by rw [pvl, hl]; exact hz') fun h' tk hd' kp => ?_
  · have hj : j < prs.length := by rw [← pvl]; exact (List.getElem?_eq_some_iff.mp e).1
    obtain ⟨b, e1, e2, e3, e4⟩ := pvat j _ (List.getElem?_eq_getElem hj)
    rw [e4] at e
    cases e
    obtain ⟨ob, f1, f2, m, f3⟩ := e2
    refine ⟨by simp [e1], .inl ?_⟩
    have e5 : ps.getD j 0 = b := by simp [List.getD, e1]
    show s.heap.IsTuple (ps.getD j 0) _
    rw [e5]
    exact ⟨ob, f1, f2, m, f3⟩
  · obtain ⟨e, _⟩ : pv2[j]? = some (k, v) ∧ True := ⟨e, trivial⟩
    have hj : j < prs.length := by rw [← pvl]; exact (List.getElem?_eq_some_iff.mp e).1
    obtain ⟨b, e1, e2, e3, e4⟩ := pvat j _ (List.getElem?_eq_getElem hj)
    rw [e4] at e
    cases e
    exact ⟨_, List.getElem?_eq_getElem hj, e3⟩
  · have hm : (s.heap.objs.size == sysModules) = false := beq_eq_false_iff_ne.mpr (Nat.ne_of_gt I.big)
    have hlen : (mergeK [] kvs).length ≤ sizeLine := by
      refine Nat.le_trans (length_mergeK kvs []) ?_
      rw [List.length_nil, Nat.zero_add, rel.length, hl]
      exact hz'
    exact ⟨.ref s.heap.objs.size, _, I.laid (t' := tk) (o := .dK (mergeK [] kvs)) (fun b o e => kp b o (by simp) e) (Nat.le_refl _) ⟨hlen, hm, merged [] prs, KV.merge rel .nil, hd'⟩, rfl, q _ (I.hok.fresh (Nat.le_refl _))⟩
end
end L2

set_option Elab.async false
set_option linter.all false
set_option maxRecDepth 100000
set_option maxHeartbeats 4000000
/-! the layer's rules with the written part K told by name (so that a reading in a block does not hang on the block) -/
namespace L2
open PySem PySem.Spec PyProof.Rows
section
variable {X : Cx} {K : PySem.W.Frag} {W : WX} {P : Program} {w : World} {mg : Str → Option Value} {base : Heap} {ps : List Str} {dvs : List V} {j k : Nat} {sp : Sp} {c x m : Str} {o e a b : Expr} {es : List Expr} {ta tb te : TE} {t : TA} {p pos apos : Pos}
theorem ixL (h : X.K = K := by rfl) : IxR X (rIxL K) := h ▸ ix_list
theorem ixT (h : X.K = K := by rfl) : IxR X (rIxT K) := h ▸ ix_tup
theorem inQ (h : X.K = K := by rfl) : OpR X (compareOp .In) (rIn K false) := h ▸ op_in_seq
theorem ninQ (h : X.K = K := by rfl) : OpR X (compareOp .NotIn) (rIn K true) := h ▸ op_notIn_seq
theorem eqDD (hu : X.A.units + 64 < cLine) (h : X.K = K := by rfl) : OpR X (compareOp .Eq) (rEqD K) := h ▸ op_eqD hu
theorem neDD (hu : X.A.units + 64 < cLine) (h : X.K = K := by rfl) : OpR X (compareOp .NotEq) (rNeD K) := h ▸ op_neD hu
theorem eqTT (hu : X.A.units + 64 < cLine) (h : X.K = K := by rfl) : OpR X (compareOp .Eq) (rEqT K) := h ▸ op_eqT hu
theorem neTT (hu : X.A.units + 64 < cLine) (h : X.K = K := by rfl) : OpR X (compareOp .NotEq) (rNeT K) := h ▸ op_neT hu
def rLenK (K : PySem.W.Frag) : List V → Hp → VK → Prop := fun xs H Q => ∃ x n, xs = [x] ∧ LenV K x H n ∧ Q (.int n) H
theorem lenK (h : X.K = K := by rfl) : CallR X (.builtin "len") (rLenK K) := h ▸ call_len
def rListK (K : PySem.W.Frag) : List V → Hp → VK → Prop := fun xs H Q => ∃ p ys, xs = [.ref p] ∧ (SqL K H p ys ∨ SqT K H p ys) ∧ ∀ l, H l = none → Q (.ref l) (upd H l (.lst ys))
theorem listK (h : X.K = K := by rfl) : CallR X (.type "list") (rListK K) := h ▸ call_list_of
def rTupleK (K : PySem.W.Frag) : List V → Hp → VK → Prop := fun xs H Q => ∃ p ys, xs = [.ref p] ∧ SqL K H p ys ∧ ∀ l o, H l = none → o.dict = none → Q (.ref l) (upd H l (.frz o (.tup ys)))
theorem tupleK (h : X.K = K := by rfl) : CallR X (.type "tuple") (rTupleK K) := h ▸ call_tuple_ofF
def rDictUK (K : PySem.W.Frag) : List V → Hp → VK → Prop := fun xs H Q => ∃ (a : Addr) (ps : List Addr) (kvs : List (Key × V)), xs = [.ref a] ∧ SqU H a (ps.map V.ref) ∧ Paired (fun p kv => SqT K H p [kV kv.1, kv.2]) ps kvs ∧ ∀ p, H p = none → Q (.ref p) (upd H p (.dK (mergeK [] kvs)))
theorem dictUK (hc : X.calm = true) (h : X.K = K := by rfl) : CallR X (.type "dict") (rDictUK K) := h ▸ call_dictU hc
def rDictPK (K : PySem.W.Frag) : List V → Hp → VK → Prop := fun xs H Q => ∃ (a : Addr) (ps : List Addr) (kvs : List (Key × V)), xs = [.ref a] ∧ SqL K H a (ps.map V.ref) ∧ Paired (fun p kv => SqT K H p [kV kv.1, kv.2]) ps kvs ∧ ∀ p, H p = none → Q (.ref p) (upd H p (.dK (mergeK [] kvs)))
theorem dictPK (hc : X.calm = true) (h : X.K = K := by rfl) : CallR X (.type "dict") (rDictPK K) := h ▸ call_dictP hc
theorem sumK (hc : X.calm = true) (h : X.K = K := by rfl) : CallR X (.builtin "sum") (rSum K) := h ▸ cr_sum hc
theorem sortIK (h : X.K = K := by rfl) : CallR X (.builtin "sorted") (rSortedI K) := h ▸ cr_sortedI
theorem sortDTK (hc : X.calm = true) (h : X.K = K := by rfl) : CallR X (.builtin "sorted") (rSortedDT K) := h ▸ cr_sortedDT hc
theorem isiK (h : X.K = K := by rfl) : CallR X (.builtin "isinstance") (rIsiB K) := h ▸ call_isiB
theorem slL (h : X.K = K := by rfl) : SlR X (rSlL K) := h ▸ sl_list
theorem slT (h : X.K = K := by rfl) : SlR X (rSlT K) := h ▸ sl_tup
theorem catT (h : X.K = K := by rfl) : OpR X (binaryOp .Add) (rCatT K) := h ▸ op_catT
def rDictT (P : Program) (w : World) : List V → Hp → VK → Prop := fun xs H Q => ∃ (a : Addr) (kvs : List (List Key × V)), xs = [.ref a] ∧ Rd H a (.dT kvs) ∧ Apart P w kvs ∧ ∀ p, H p = none → Q (.ref p) (upd H p (.dT kvs))
theorem dictTK (hu : X.A.units + 2 < cLine) (h : X.prog = P := by rfl) (h2 : X.w = w := by rfl) : CallR X (.type "dict") (rDictT P w) := by subst h h2; exact call_dictT hu
theorem fldK (he : PE X e te) {f : Str} (hb : attributeBase e f X.env (eval e X.env) = eval e X.env := by rfl) (h : X.K = K := by rfl) : PE X (.Attribute e f pos) (tFld K te f) := h ▸ pe_fld he hb
theorem sfldK {f : Str} {pos' : Pos} (ho : PE X o ta) (hv : PE X e te) (hs : swapsWith e (some (.Attribute o f pos')) pos.line X.env = pure false := by rfl) (h : X.K = K := by rfl) : PS X (.Assign [.Attribute o f pos'] e pos) (sFld K ta te f) := h ▸ ps_fld ho hv hs
theorem ostK {f : Str} {pos' : Pos} (ho : PE X o ta) (he : PE X e te) (hs : swapsWith e (some (.Attribute o f pos')) pos.line X.env = pure false := by rfl) (h : X.K = K := by rfl) : PS X (.Assign [.Attribute o f pos'] e pos) (tOst K f ta te) := h ▸ ps_ost ho he hs
def tTruK (K : PySem.W.Frag) (ta : TE) : TT := fun σ H Q => ta σ H fun x H' => ∃ k, TruV K x H' k ∧ Q k H'
theorem truK (ha : PE X a ta) (he : ∀ whole, isTrue a X.env whole = (do let v ← whole; standAt a.pos; holding [v] (truthy v)) := by intro _; rfl) (h : X.K = K := by rfl) : PT X a (tTruK K ta) := h ▸ pt_truth ha he
theorem listI {tg : Expr} (hl : PE X e te) (h : X.K = K := by rfl) : PI X tg e (iList K te) := h ▸ pi_list hl
theorem tupI {tg : Expr} (hl : PE X e te) (h : X.K = K := by rfl) : PI X tg e (iTup K te) := h ▸ pi_tup hl
theorem callK (D : DefOk P w K mg base (x, none) ps dvs j sp) (hr : Room k X.A) (hj : j ≤ k) (tk : Takes X W) (hm : mg x = some (.ref (He.fAd K (x, none)))) (ha : PA X (e :: es) t) (hP : X.prog = P := by rfl) (hw : X.w = w := by rfl) (hK : X.K = K := by rfl) (hmg : X.mg = mg := by rfl) (hba : X.base = base := by rfl)
    (hg : Gl X x := by rfl) (hdb : (x == ("__debug__" : Str)) = false := by decide) (he : starEach (e :: es) X.env = (false, eval e X.env) :: starEach es X.env := by rfl) (hpl : (backTo pos (starEach es X.env)).any (·.1) = false := by rfl) :
    PE X (.Call (.Name x p) (e :: es) [] pos) (tCallSD sp dvs (WE W) t) := by
  subst hP hw hK hmg hba
  exact D.call hr hj tk hm ha hg hdb he hpl
theorem callK0 (D : DefOk P w K mg base (x, none) ps dvs j sp) (hr : Room k X.A) (hj : j ≤ k) (hm : mg x = some (.ref (He.fAd K (x, none)))) (ha : PA X (e :: es) t) (hP : X.prog = P := by rfl) (hw : X.w = w := by rfl) (hK : X.K = K := by rfl) (hmg : X.mg = mg := by rfl) (hba : X.base = base := by rfl)
    (hg : Gl X x := by rfl) (hdb : (x == ("__debug__" : Str)) = false := by decide) (he : starEach (e :: es) X.env = (false, eval e X.env) :: starEach es X.env := by rfl) (hpl : (backTo pos (starEach es X.env)).any (·.1) = false := by rfl) :
    PE X (.Call (.Name x p) (e :: es) [] pos) (tCall sp dvs E0 t) := by
  subst hP hw hK hmg hba
  exact D.call0 hr hj hm ha hg hdb he hpl
theorem methK {pl : Sem Bool} (D : DefOk P w K mg base (c, some m) ps dvs j sp) (hr : Room k X.A) (hj : j ≤ k) (tk : Takes X W) (cl : Cls K (He.ga K c)) (hm : Meth K (He.ga K c) m (He.fAd K (c, some m))) (he : PE X o ta) (ha : PA X (e :: es) t) (hP : X.prog = P := by rfl) (hw : X.w = w := by rfl) (hK : X.K = K := by rfl) (hmg : X.mg = mg := by rfl) (hba : X.base = base := by rfl)
    (hst : starEach (e :: es) X.env = (false, eval e X.env) :: starEach es X.env := by rfl) (hpl : (backTo pos (starEach es X.env)).any (·.1) = false := by rfl)
    (ht : eval (.Call (.Attribute o m apos) (e :: es) [] pos) X.env = (do
      let ov ← eval o X.env
      standAt apos.atName
      let (f, first) ← holding [ov] (getMethod ov m pl)
      callWith pos f first (backTo pos (starEach (e :: es) X.env)) (backToKw pos (keywordEach [] X.env))) := by rfl) :
    PE X (.Call (.Attribute o m apos) (e :: es) [] pos) (tMethA (He.ga K c) m sp dvs W ta t) := by
  subst hP hw hK hmg hba
  exact D.meth hr hj tk cl hm he ha hst hpl ht
theorem methK0 {pl : Sem Bool} (D : DefOk P w K mg base (c, some m) ps dvs j sp) (hr : Room k X.A) (hj : j ≤ k) (tk : Takes X W) (cl : Cls K (He.ga K c)) (hm : Meth K (He.ga K c) m (He.fAd K (c, some m))) (he : PE X o ta) (hP : X.prog = P := by rfl) (hw : X.w = w := by rfl) (hK : X.K = K := by rfl) (hmg : X.mg = mg := by rfl) (hba : X.base = base := by rfl)
    (ht : eval (.Call (.Attribute o m apos) [] [] pos) X.env = (do
      let ov ← eval o X.env
      standAt apos.atName
      let (f, first) ← holding [ov] (getMethod ov m pl)
      callWith pos f first (backTo pos (starEach [] X.env)) (backToKw pos (keywordEach [] X.env))) := by rfl) :
    PE X (.Call (.Attribute o m apos) [] [] pos) (tMethA (He.ga K c) m sp dvs W ta tNil) := by
  subst hP hw hK hmg hba
  exact D.meth0 hr hj tk cl hm he ht
theorem makeK (D : DefOk P w K mg base (x, some "__init__") ps dvs j sp) (hr : Room k X.A) (hj : j + 1 ≤ k) (tk : Takes X W) (M : Mk K (He.ga K x) (He.fAd K (x, some "__init__"))) (hm : mg x = some (.ref (He.ga K x))) (ha : PA X (e :: es) t) (hP : X.prog = P := by rfl) (hw : X.w = w := by rfl) (hK : X.K = K := by rfl) (hmg : X.mg = mg := by rfl) (hba : X.base = base := by rfl)
    (hg : Gl X x := by rfl) (hdb : (x == ("__debug__" : Str)) = false := by decide) (he : starEach (e :: es) X.env = (false, eval e X.env) :: starEach es X.env := by rfl) (hpl : (backTo pos (starEach es X.env)).any (·.1) = false := by rfl) :
    PE X (.Call (.Name x p) (e :: es) [] pos) (tMakeA (He.ga K x) sp dvs W t) := by
  subst hP hw hK hmg hba
  exact D.make hr hj tk M hm ha hg hdb he hpl
theorem raiseK {pos2 : Pos} (D : DefOk P w K mg base (c, some "__init__") ps dvs j sp) (hr : Room k X.A) (hj : j + 1 ≤ k) (hc : X.calm = true) (tk : Takes X W) (T : OexC K (He.ga K x)) (iC : PySem.W.findIn K (.ref (He.ga K x)) "__init__" = some (some (.ref (He.fAd K (c, some "__init__")))))
    (tI : PySem.W.typeIn K (.ref (He.fAd K (c, some "__init__"))) = some (.type "function")) (hm : mg x = some (.ref (He.ga K x))) (ha : PA X (e :: es) t) (hP : X.prog = P := by rfl) (hw : X.w = w := by rfl) (hK : X.K = K := by rfl) (hmg : X.mg = mg := by rfl) (hba : X.base = base := by rfl) (hg : Gl X x := by rfl) (hdb : (x == ("__debug__" : Str)) = false := by decide)
    (he : starEach (e :: es) X.env = (false, eval e X.env) :: starEach es X.env := by rfl) (hpl : (backTo pos (starEach es X.env)).any (·.1) = false := by rfl) :
    PS X (.Raise (some (.Call (.Name x p) (e :: es) [] pos)) none pos2) (fun _ σ H => tMkO (He.ga K x) sp dvs t σ H fun cls d H' => W cls d σ H') := by
  subst hP hw hK hmg hba
  exact D.raise hr hj hc tk T iC tI hm ha hg hdb he hpl
end
theorem DGet.s {H : Hp} {a : Addr} {kvs : List (Key × V)} {z : Str} (e : H a = some (.dK kvs)) : DGet H a (.str z) (valV kvs (Sum.inr z)) := DGet.k (k := Sum.inr z) e
theorem DGet.i {H : Hp} {a : Addr} {kvs : List (Key × V)} {z : Int} (e : H a = some (.dK kvs)) : DGet H a (.int z) (valV kvs (Sum.inl z)) := DGet.k (k := Sum.inl z) e
theorem DGet.p {H : Hp} {a b : Addr} {kvs : List (List Key × V)} {i j : Int} (e : H a = some (.dT kvs)) (eb : H b = some (.tup [.int i, .int j])) : DGet H a (.ref b) (valV kvs [Sum.inl i, Sum.inl j]) := DGet.t (k := [Sum.inl i, Sum.inl j]) e eb
theorem DGet.so {H : Hp} {a : Addr} {kvs : List (Key × V)} {z : Str} {o : Option V} (e : H a = some (.dK kvs)) (h : valV kvs (Sum.inr z) = o) : DGet H a (.str z) o := h ▸ DGet.s e
theorem DGet.io {H : Hp} {a : Addr} {kvs : List (Key × V)} {z : Int} {o : Option V} (e : H a = some (.dK kvs)) (h : valV kvs (Sum.inl z) = o) : DGet H a (.int z) o := h ▸ DGet.i e
theorem DGet.po {H : Hp} {a b : Addr} {kvs : List (List Key × V)} {i j : Int} {o : Option V} (e : H a = some (.dT kvs)) (eb : H b = some (.tup [.int i, .int j])) (h : valV kvs [Sum.inl i, Sum.inl j] = o) : DGet H a (.ref b) o := h ▸ DGet.p e eb
theorem DPut.s {H : Hp} {a : Addr} {kvs : List (Key × V)} {z : Str} {v : V} (e : H a = some (.dK kvs)) (hl : kvs.length < sizeLine) : DPut H a (.str z) v (upd H a (.dK (putK kvs (Sum.inr z) v))) := DPut.k (k := Sum.inr z) e hl
theorem DPut.i {H : Hp} {a : Addr} {kvs : List (Key × V)} {z : Int} {v : V} (e : H a = some (.dK kvs)) (hl : kvs.length < sizeLine) : DPut H a (.int z) v (upd H a (.dK (putK kvs (Sum.inl z) v))) := DPut.k (k := Sum.inl z) e hl
theorem DPut.p {H : Hp} {a b : Addr} {kvs : List (List Key × V)} {i j : Int} {v : V} (e : H a = some (.dT kvs)) (eb : H b = some (.tup [.int i, .int j])) (hl : kvs.length < sizeLine) : DPut H a (.ref b) v (upd H a (.dT (putK kvs [Sum.inl i, Sum.inl j] v))) := DPut.t (k := [Sum.inl i, Sum.inl j]) e eb hl
theorem atI_0 {α : Type} {x : α} {l : List α} : atI (x :: l) 0 = some x := atI_nat (j := 0) rfl
theorem atI_1 {α : Type} {x y : α} {l : List α} : atI (x :: y :: l) 1 = some y := atI_nat (j := 1) rfl
theorem atI_2 {α : Type} {x y z : α} {l : List α} : atI (x :: y :: z :: l) 2 = some z := atI_nat (j := 2) rfl
theorem atI_3 {α : Type} {x y z u : α} {l : List α} : atI (x :: y :: z :: u :: l) 3 = some u := atI_nat (j := 3) rfl
theorem atI_4 {α : Type} {x y z u v : α} {l : List α} : atI (x :: y :: z :: u :: v :: l) 4 = some v := atI_nat (j := 4) rfl
theorem upd_free {H : Hp} {d a : Addr} {o x : HO} (h : H d = none) (e : H a = some x) : upd H d o a = some x := by rw [upd_ne (ne_of_none e h)]; exact e
theorem sqT_free {K : PySem.W.Frag} {H : Hp} {d a : Addr} {o : HO} {xs : List V} (h : H d = none) (e : SqT K H a xs) : SqT K (upd H d o) a xs := (Same.new h).sqT e
theorem sqL_free {K : PySem.W.Frag} {H : Hp} {d a : Addr} {o : HO} {xs : List V} (h : H d = none) (e : SqL K H a xs) : SqL K (upd H d o) a xs := (Same.new h).seq e
theorem DGet.fi {H : Hp} {a : Addr} {f : Obj} {kvs : List (Key × V)} {z : Int} {o : Option V} (e : H a = some (.frz f (.dK kvs))) (h : valV kvs (Sum.inl z) = o) : DGet H a (.int z) o := .inl ⟨kvs, Sum.inl z, .inr ⟨f, e⟩, rfl, h.symm⟩
theorem DGet.fs {H : Hp} {a : Addr} {f : Obj} {kvs : List (Key × V)} {z : Str} {o : Option V} (e : H a = some (.frz f (.dK kvs))) (h : valV kvs (Sum.inr z) = o) : DGet H a (.str z) o := .inl ⟨kvs, Sum.inr z, .inr ⟨f, e⟩, rfl, h.symm⟩
end L2

set_option Elab.async false
set_option linter.all false
set_option maxRecDepth 100000
set_option maxHeartbeats 4000000
namespace L2
open PySem PySem.Spec PyProof.Rows
/-! ### == and != of lists of ints -/
section
variable {K : PySem.W.Frag} {H : Hp} {a b : Addr}
theorem dp_allInts : ∀ ns : List Int, DpAll K H (ns.map V.int) (ns.map PyData.int)
  | [] => .nil
  | _ :: r => .cons (.int _) (dp_allInts r)
theorem dp_ints {ns : List Int} (h : SqL K H a (ns.map V.int)) : Dp K H (.ref a) (.list (ns.map PyData.int)) := .lst h (dp_allInts ns)
theorem eqvAll_ints : ∀ ns ms : List Int, PyData.eqvAll (ns.map PyData.int) (ms.map PyData.int) = decide (ns = ms)
  | [], [] => by simp [PyData.eqvAll]
  | [], _ :: _ => by simp [PyData.eqvAll]
  | _ :: _, [] => by simp [PyData.eqvAll]
  | a :: r, b :: t => by
    simp only [List.map_cons, PyData.eqvAll, PyData.eqv, eqvAll_ints r t]
    by_cases h : a = b <;> by_cases h' : r = t <;> simp [h, h']
theorem eqv_ints (ns ms : List Int) : PyData.eqv (.list (ns.map PyData.int)) (.list (ms.map PyData.int)) = decide (ns = ms) := by
  simp only [PyData.eqv]; exact eqvAll_ints ns ms
theorem eqI {ns ms : List Int} {Q : VK} (h1 : SqL K H a (ns.map V.int)) (h2 : SqL K H b (ms.map V.int)) (q : Q (.bl (decide (ns = ms))) H) : rEqD K (.ref a) (.ref b) H Q :=
  ⟨_, _, dp_ints h1, dp_ints h2, PySem.W.ke_shaped_ints _, PySem.W.ke_shaped_ints _, by rw [eqv_ints]; exact q⟩
theorem neI {ns ms : List Int} {Q : VK} (h1 : SqL K H a (ns.map V.int)) (h2 : SqL K H b (ms.map V.int)) (q : Q (.bl (!decide (ns = ms))) H) : rNeD K (.ref a) (.ref b) H Q :=
  ⟨_, _, dp_ints h1, dp_ints h2, PySem.W.ke_shaped_ints _, PySem.W.ke_shaped_ints _, by rw [eqv_ints]; exact q⟩
end
end L2

set_option Elab.async false
set_option linter.all false
set_option maxRecDepth 100000
set_option maxHeartbeats 4000000
namespace L2
open PySem PySem.Spec PyProof.Rows
/-! ### the one sorted row of texts, of pairs -/
def leS (a b : Str) : Bool := !decide (b.cps.toList < a.cps.toList)
def sortS (l : List Str) : List Str := l.mergeSort leS
theorem leS_trans (a b c : Str) (h : leS a b = true) (g : leS b c = true) : leS a c = true := by
  simp only [leS, Bool.not_eq_true', decide_eq_false_iff_not, List.not_lt] at *
  exact List.le_trans h g
theorem leS_total (a b : Str) : (leS a b || leS b a) = true := by
  simp only [leS, Bool.or_eq_true, Bool.not_eq_true', decide_eq_false_iff_not, List.not_lt]
  exact List.le_total a.cps.toList b.cps.toList
theorem leS_anti (a b : Str) (h : leS a b = true) (g : leS b a = true) : a = b := by
  simp only [leS, Bool.not_eq_true', decide_eq_false_iff_not, List.not_lt] at *
  have e := List.le_antisymm h g
  have e : a.cps = b.cps := Array.ext' e
  cases a; cases b; simp_all
theorem leS_of {a b : Str} (h : ltCps b.cps.toList a.cps.toList = false) : leS a b = true := by
  rw [ltCps_eq] at h
  unfold leS
  rw [h]
  rfl
theorem risingS_pw : ∀ (p : Str) (l : List Str), risingS p l = true → (p :: l).Pairwise (fun a b => leS a b = true)
  | p, [], _ => List.pairwise_singleton _ _
  | p, x :: r, h => by
    have h : (!ltCps x.cps.toList p.cps.toList && risingS x r) = true := h
    rw [Bool.and_eq_true, Bool.not_eq_true'] at h
    have ih := risingS_pw x r h.2
    refine List.pairwise_cons.mpr ⟨fun y hy => ?_, ih⟩
    rcases List.mem_cons.mp hy with rfl | hy
    · exact leS_of h.1
    · exact leS_trans _ _ _ (leS_of h.1) ((List.pairwise_cons.mp ih).1 y hy)
theorem sortedS_pw : ∀ {l : List Str}, sortedS l = true → l.Pairwise (fun a b => leS a b = true)
  | [], _ => .nil
  | x :: r, h => risingS_pw x r h
theorem sortS_perm (l : List Str) : (sortS l).Perm l := List.mergeSort_perm _ _
theorem sortS_pw (l : List Str) : (sortS l).Pairwise (fun a b => leS a b = true) := List.pairwise_mergeSort leS_trans leS_total l
theorem eq_sortS' {ns ns' : List Str} (hp : ns'.Perm ns) (hs : ns'.Pairwise (fun a b => leS a b = true)) : ns' = sortS ns :=
  List.Perm.eq_of_pairwise (fun _ _ _ _ a b => leS_anti _ _ a b) hs (sortS_pw ns) (hp.trans (sortS_perm ns).symm)
theorem eq_sortS {ns ns' : List Str} (hp : ns'.Perm ns) (hs : sortedS ns' = true) : ns' = sortS ns := eq_sortS' hp (sortedS_pw hs)
theorem sortS_filter (l : List Str) (p : Str → Bool) : (sortS l).filter p = sortS (l.filter p) := eq_sortS' ((sortS_perm l).filter p) ((sortS_pw l).filter p)
theorem sortS_congr {l m : List Str} (h : l.Perm m) : sortS l = sortS m := eq_sortS' ((sortS_perm l).trans h) (sortS_pw l)
def leP (a b : Int × Int) : Bool := decide (a.1 < b.1 ∨ (a.1 = b.1 ∧ a.2 ≤ b.2))
def sortP (l : List (Int × Int)) : List (Int × Int) := l.mergeSort leP
theorem leP_trans (a b c : Int × Int) (h : leP a b = true) (g : leP b c = true) : leP a c = true := by
  simp only [leP, decide_eq_true_eq] at *; omega
theorem leP_total (a b : Int × Int) : (leP a b || leP b a) = true := by
  simp only [leP, Bool.or_eq_true, decide_eq_true_eq]; omega
theorem leP_anti (a b : Int × Int) (h : leP a b = true) (g : leP b a = true) : a = b := by
  simp only [leP, decide_eq_true_eq] at *
  exact Prod.ext (by omega) (by omega)
theorem sortP_perm (l : List (Int × Int)) : (sortP l).Perm l := List.mergeSort_perm _ _
theorem sortP_pw (l : List (Int × Int)) : (sortP l).Pairwise (fun a b => leP a b = true) := List.pairwise_mergeSort leP_trans leP_total l
theorem eq_sortP' {ns ns' : List (Int × Int)} (hp : ns'.Perm ns) (hs : ns'.Pairwise (fun a b => leP a b = true)) : ns' = sortP ns :=
  List.Perm.eq_of_pairwise (fun _ _ _ _ a b => leP_anti _ _ a b) hs (sortP_pw ns) (hp.trans (sortP_perm ns).symm)
theorem eq_sortP {ns ns' : List (Int × Int)} (hp : ns'.Perm ns) (hs : ns'.Pairwise (fun x y => x.1 < y.1 ∨ (x.1 = y.1 ∧ x.2 ≤ y.2))) : ns' = sortP ns :=
  eq_sortP' hp (hs.imp fun h => decide_eq_true h)
theorem sortP_congr {l m : List (Int × Int)} (h : l.Perm m) : sortP l = sortP m := eq_sortP' ((sortP_perm l).trans h) (sortP_pw l)
/-! ### the first of a row -/
section
variable {α β : Type} {g : α → Option β} {l : List α} {i : Nat} {a : α} {b : β}
theorem fs_at (h : l[i]? = some a) (hn : (l.take i).findSome? g = none) (e : g a = some b) : l.findSome? g = some b := by
  have : l = l.take i ++ a :: l.drop (i + 1) := by
    obtain ⟨hlt, e⟩ := List.getElem?_eq_some_iff.mp h
    rw [← e, ← List.drop_eq_getElem_cons hlt, List.take_append_drop]
  rw [this, List.findSome?_append, hn, List.findSome?_cons, e]
  rfl
theorem fs_next (h : l[i]? = some a) (hn : (l.take i).findSome? g = none) (e : g a = none) : (l.take (i + 1)).findSome? g = none := by
  rw [List.take_succ, h, List.findSome?_append, hn]
  simp [e]
end
/-- the first number that was there before -/
def dupAt (vs : List Int) : Option Nat := (List.range vs.length).findSome? fun i => match vs[i]? with
  | some x => if x ∈ vs.take i then some i else none
  | none => none
end L2

set_option Elab.async false
set_option linter.all false
set_option maxRecDepth 100000
set_option maxHeartbeats 4000000
namespace L2
open PySem PySem.Spec PyProof.Rows
/-- a def with defaults keeps its promise: n values written, the defaults behind the first j fill up -/
theorem def_okD {P : Program} {w : World} {K : PySem.W.Frag} {mg : Str → Option Value} {base : Heap} {p : Str × Option Str} {nm qual : Str} {params : Arguments} {body : List Stmt} {scope : Scope} {N ps : List Str} {dvs : List V} {k : Nat} {sp : Sp}
    (F : ∃ fd, FunD K nm qual params body scope dvs [] (He.fAd K p) fd) (S : FnScope N ps scope) (len : ∀ vs H Q E, sp vs H Q E → vs.length = ps.length) (n j : Nat) (hd : dvs ≠ []) (hn : n + (dvs.length - j) = ps.length)
    (bd : ∀ (T : Addr) (kV doc pm : Value) (an : Option Addr) (cdv ct : Value) (us its : List Value), us.length = n → its.length = dvs.length →
      ∃ k, bindArgs (PySem.W.fnOf nm qual params body scope (.ref T) kV doc pm an cdv ct) ⟨us, []⟩ = seqItems? (.ref T) >>= k ∧ k (some its.toArray) = pure (ps.zip (us ++ its.drop j)))
    (hb : ∀ (cdv : Value) (A : Around) (outer : List Env) (s : Shared) (H : Hp) (vs : List V) (Q : VK) (E : XK), Room k (A.deeper (envOfC qual scope s.heap.objs.size (He.fAd K p) cdv)) → sp vs H Q E →
      ∃ t, PSs (cxOf (L2.CX P w) P w K mg base N qual scope (He.fAd K p) cdv A outer s H E) body t ∧ t { nx := fun _ H' => Q .non H', rt := Q } (start N vs) H) : DefOk P w K mg base p ps (dvs.drop j) (k + 1) sp := by
  obtain ⟨fd, F⟩ := F
  obtain ⟨ds, hv, hbd⟩ := F.binds1 n j hd hn bd
  exact ⟨⟨fd, ds, F.ok S len hb, hbd, hv⟩, F.kp⟩
end L2

set_option Elab.async false
set_option linter.all false
set_option maxRecDepth 100000
set_option maxHeartbeats 4000000
namespace SrtO
open PySem PySem.W PySem.Calls PyProof.Rows Builtin
/-! ### tuples (text, anything), the texts all different: by their texts -/
def IsSP (h : Heap) (v : Value) (z : PySem.Str) : Prop := ∃ a o t y n, v = .ref a ∧ h.get? a = some o ∧ o.cls = .type "tuple" ∧ o.data = .seq #[.str z t, y] n
theorem IsSP.keeps {h h' : Heap} {v : Value} {z : PySem.Str} (p : IsSP h v z) (k : ∀ b o, h.get? b = some o → o.cls = .type "tuple" → h'.get? b = some o) : IsSP h' v z := by
  obtain ⟨a, o, t, u, n, e, ho, hc, hd⟩ := p
  exact ⟨a, o, t, u, n, e, k _ _ ho hc, hc, hd⟩
def ltStr (k : Value → PySem.Str) (v u : Value) : Bool := decide ((k v).cps.toList < (k u).cps.toList)
theorem swo_str (k : Value → PySem.Str) : Swo (ltStr k) := by
  refine ⟨fun x y h => ?_, fun x y z h1 h2 => ?_⟩
  · have a := of_decide_eq_true h
    exact decide_eq_false (List.not_lt.mpr (List.le_of_lt a))
  · have a := of_decide_eq_false h1
    have b := of_decide_eq_false h2
    rw [List.not_lt] at a b
    exact decide_eq_false (List.not_lt.mpr (List.le_trans a b))
theorem sp_firsts {h : Heap} {k : Value → PySem.Str} : ∀ {vs : List Value}, (∀ v ∈ vs, IsSP h v (k v)) → ∃ fs : List Value, PySem.W.KatTups h vs fs ∧ fs.length = vs.length ∧ ∀ f ∈ fs, ∃ x t, f = Value.str x t
  | [], _ => ⟨[], PySem.W.KatTups.nil, rfl, fun _ hm => by simp at hm⟩
  | v :: vs, hp => by
    obtain ⟨fs, h1, h2, h3⟩ := sp_firsts (vs := vs) fun v' hm => hp v' (List.mem_cons_of_mem _ hm)
    obtain ⟨a, o, t, u, n, e, ho, hc, hd⟩ := hp v (List.mem_cons_self ..)
    subst e
    refine ⟨.str (k (.ref a)) t :: fs, PySem.W.KatTups.cons ho hc hd rfl h1, by rw [List.length_cons, List.length_cons, h2], fun f hm => ?_⟩
    rcases List.mem_cons.mp hm with rfl | hm
    · exact ⟨_, t, rfl⟩
    · exact h3 f hm
section
variable {prog : Program} {w : World} {A : Around} {s : Shared}
theorem sp_cmp {vs : List Value} {k : Value → PySem.Str} (hp : ∀ v ∈ vs, IsSP s.heap v (k v)) (inj : ∀ v ∈ vs, ∀ u ∈ vs, k v = k u → v = u) : Cmp prog w A s (tuples' true) (fun p => p.1 ∈ vs) (lt2 (ltStr k)) := by
  intro p q hm hm'
  show wpAny (model prog w) A (keyLt' (tuples' true) p.1 q.1) (fun r s' => s' = s ∧ r = decide ((k p.1).cps.toList < (k q.1).cps.toList)) (fun _ _ => False) s
  by_cases epq : p.1 = q.1
  · rw [← epq]
    obtain ⟨a, o, t, u, n, e, ho, hc, hd⟩ := hp _ hm
    have hf : decide ((k p.1).cps.toList < (k p.1).cps.toList) = false := decide_eq_false (List.lt_irrefl _)
    rw [hf, e]
    refine PySem.W.kat_lt ho hd ho hd ?_
    show PySem.W.KatLex prog w A true (decide (2 < 2)) _ [(.str _ t, .str _ t), (u, u)] 0 s
    exact PySem.W.kat_cons (SeqAt.EqAt.same _ prog w _ _ (PySem.W.kat_yes (PySem.W.kat_cons (SeqAt.EqAt.same _ prog w _ _ (PySem.W.kat_yes (PySem.W.kat_nil ⟨rfl, rfl⟩))))))
  · have hne : k p.1 ≠ k q.1 := fun z => epq (inj _ hm _ hm' z)
    have h1 := hp _ hm
    have h2 := hp _ hm'
    generalize k p.1 = x at h1 hne ⊢
    generalize k q.1 = x' at h2 hne ⊢
    obtain ⟨a, o, t, u, n, e, ho, hc, hd⟩ := h1
    obtain ⟨a', o', t', u', n', e', ho', hc', hd'⟩ := h2
    rw [e, e']
    refine PySem.W.kat_lt ho hd ho' hd' ?_
    show PySem.W.KatLex prog w A true (decide (2 < 2)) _ [(.str x t, .str x' t'), (u, u')] 0 s
    refine PySem.W.kat_cons (SeqAt.EqAt.str_str x t x' t' prog w _ _ ?_)
    have hb : (x == x') = false := beq_eq_false_iff_ne.mpr hne
    rw [hb]
    exact PySem.W.kat_no (oneLt_str ⟨rfl, rfl⟩)
theorem sp_sortableO {a : Addr} {vs : List Value} {k : Value → PySem.Str} (h0 : 0 < vs.length) (hp : ∀ v ∈ vs, IsSP s.heap v (k v)) (inj : ∀ v ∈ vs, ∀ u ∈ vs, k v = k u → v = u) (ha : ∀ o, s.heap.get? a = some o → o.cls ≠ .type "tuple") : SortableO prog w A s a vs (ltStr k) := by
  intro h' keep
  have hp' : ∀ v ∈ vs, IsSP h' v (k v) := fun v hm => (hp v hm).keeps fun b o e c => keep b o (fun z => by subst z; exact ha o e c) e
  obtain ⟨fs, h1, h2, h3⟩ := sp_firsts hp'
  refine ⟨tuples' true, fun Q E hq => ?_, sp_cmp (s := { s with heap := h' }) hp' inj⟩
  refine PySem.W.kat_kind (T := .type "str") h1 (by omega) (fun f hm => ?_) (by rfl) ?_
  · obtain ⟨x, t, rfl⟩ := h3 f hm
    exact PySem.W.Looks.now
  · have e : (Value.type "str" != Value.type "tuple") = true := by first | decide +kernel | rfl | decide
    rw [e]
    exact hq
end
end SrtO
namespace L2
open PySem PySem.Spec PyProof.Rows
/-- sorted(xs), xs a list of tuples (text, anything), the texts all different -/
def rSortedSX (K : PySem.W.Frag) : List V → Hp → VK → Prop := fun vs H Q => ∃ (a : Addr) (ts : List Addr) (kz : Addr → Str), vs = [V.ref a] ∧ SqL K H a (ts.map V.ref) ∧ (∀ t ∈ ts, ∃ y, H t = some (.tup [.str (kz t), y])) ∧ (∀ t ∈ ts, ∀ u ∈ ts, kz t = kz u → t = u) ∧
  ∀ (ts' : List Addr) (p : Addr), ts'.Perm ts → ts'.Pairwise (fun t u => leS (kz t) (kz u) = true) → H p = none → Q (.ref p) (upd H p (.lst (ts'.map V.ref)))
theorem vals_refsA : ∀ as : List Addr, Vals (as.map V.ref) (as.map Value.ref)
  | [] => .nil
  | _ :: l => .cons rfl (vals_refsA l)
def adOf : Value → Addr
  | .ref a => a
  | _ => 0
section
variable {X : Cx}
theorem cr_sortedSX : CallR X (.builtin "sorted") (rSortedSX X.K) := by
  intro pins s σ H vs us Q I r h
  obtain ⟨a, ts, kz, rfl, hs, hx, hinj, q⟩ := h
  obtain ⟨its, rv, hl, hz⟩ := I.list hs
  obtain ⟨u, rfl, ru⟩ := vals1 r
  obtain rfl : u = Value.ref a := ru
  have ei := refs_at rv
  subst ei
  have hsp : ∀ v ∈ ts.map Value.ref, SrtO.IsSP s.heap v (kz (adOf v)) := fun v hv => by
    obtain ⟨t, ht, rfl⟩ := List.mem_map.mp hv
    obtain ⟨y, hy⟩ := hx t ht
    obtain ⟨_, its2, r2, o, ho, hc, n, hd⟩ := I.hok _ _ hy
    obtain ⟨u1, u2, rfl, ri, rj⟩ := vals2 r2
    obtain ⟨t1, rfl⟩ := ri
    exact ⟨t, o, t1, u2, n, rfl, ho, hc, hd⟩
  have hin : ∀ v ∈ ts.map Value.ref, ∀ u ∈ ts.map Value.ref, kz (adOf v) = kz (adOf u) → v = u := fun v hv u hu e => by
    obtain ⟨t, ht, rfl⟩ := List.mem_map.mp hv
    obtain ⟨t', ht', rfl⟩ := List.mem_map.mp hu
    have e : kz t = kz t' := e
    rw [hinj t ht t' ht' e]
  refine SrtO.sorted_ord (SrtO.swo_str fun v => kz (adOf v)) hl.isList (by rw [List.length_map] at hz ⊢; exact hz) (fun h2 h₁ b hb kk => ?_) fun out g1 g2 => ?_
  · refine SrtO.sp_sortableO (s := { s with heap := h₁ }) (by omega) (fun v hm => (hsp v hm).keeps fun c o e _ => (kk c o e).2) hin fun o e => ?_
    have e' : some o = some (seqObj "list" (ts.map Value.ref).toArray 0) := e.symm.trans hb
    cases e'
    intro c
    exact absurd (Value.type.inj c) (by decide)
  · obtain ⟨n, hn⟩ := PyProof.Rows.sortedAll_at s.heap (ts.map Value.ref) out.toArray
    obtain ⟨as, rfl⟩ : ∃ as : List Addr, out = as.map Value.ref := by
      refine ⟨out.map adOf, ?_⟩
      rw [List.map_map]
      refine (List.map_id out).symm.trans (List.map_congr_left fun v hv => ?_)
      obtain ⟨x, _, rfl⟩ := List.mem_map.mp (g2.perm.mem_iff.mp hv)
      rfl
    have hperm : as.Perm ts := by
      have := g2.perm.map adOf
      rw [List.map_map, List.map_map] at this
      simpa [Function.comp_def, adOf] using this
    have hsrt : as.Pairwise (fun t u => leS (kz t) (kz u) = true) := by
      have := List.pairwise_map.mp g1
      refine this.imp fun {x y} h => ?_
      have h : decide ((kz y).cps.toList < (kz x).cps.toList) = false := h
      unfold leS
      rw [h]
      rfl
    have hz2 : (as.map V.ref).length ≤ sizeLine := by
      have h1 := hperm.length_eq
      rw [List.length_map] at hz ⊢
      omega
    have hv : Vals (as.map V.ref) (as.map Value.ref) := by
      exact vals_refsA as
    exact ⟨.ref (s.heap.objs.size + 1), _, I.laid (t' := s.toks) (o := .lst (as.map V.ref)) (fun b o e => PyProof.Rows.sortedAll_old e) (Nat.le_succ _) ⟨hz2, as.map Value.ref, n, hv, hn⟩, rfl, q as _ hperm hsrt (I.hok.fresh (Nat.le_succ _))⟩
theorem sortSXK {K : PySem.W.Frag} (h : X.K = K := by rfl) : CallR X (.builtin "sorted") (rSortedSX K) := h ▸ cr_sortedSX
/-! ### xs != [] -/
def rNeE (K : PySem.W.Frag) : R2 := fun x y H Q => ∃ a b xs, x = .ref a ∧ y = .ref b ∧ SqL K H a xs ∧ SqL K H b [] ∧ Q (.bl (!xs.isEmpty)) H
theorem op_neE (hu : X.A.units + 64 < cLine) : OpR X (compareOp .NotEq) (rNeE X.K) := by
  intro pins s σ H x y v u Q I rx ry h
  obtain ⟨a, b, xs, rfl, rfl, ha, hb, q⟩ := h
  cases xs with
  | nil => exact op_neT hu pins s σ H _ _ v u Q I rx ry ⟨0, a, b, [], [], by omega, rfl, rfl, ha, hb, rfl, fun i x y h => by simp at h, q⟩
  | cons x0 xr =>
    cases rx
    cases ry
    obtain ⟨ia, ra, la, _⟩ := I.list ha
    obtain ⟨ib, rb, lb, _⟩ := I.list hb
    have la' := ra.length
    have lb' := rb.length
    refine SeqAt.RcNeAt.lists_lengths la.isList lb.isList ?_ (by omega) X.prog X.w _ _ (fin_bl I q rfl)
    rw [List.length_cons] at la'
    rw [List.length_nil] at lb'
    simp
    omega
theorem neEK {K : PySem.W.Frag} (hu : X.A.units + 64 < cLine) (h : X.K = K := by rfl) : OpR X (compareOp .NotEq) (rNeE K) := h ▸ op_neE hu
end
end L2

set_option Elab.async false
set_option linter.all false
set_option maxRecDepth 100000
set_option maxHeartbeats 4000000
namespace L2
open PySem PySem.Spec PyProof.Rows
theorem pgTupK {X : Cx} {K : PySem.W.Frag} {es : List Expr} {k n : Nat} {t : TGs} {pos : Pos} (hc : X.calm = true) (h : PGs X es t) (hK : X.K = K := by rfl)
    (hn : (assignEach es X.env).length = n := by rfl) (hst : (assignEach es X.env).findIdx? (·.1) = none := by rfl) : PG X (.Tuple es k pos) (gTup K n t) := by
  subst hK
  exact pg_tup hc h hn hst
end L2

set_option Elab.async false
set_option linter.all false
set_option maxRecDepth 100000
set_option maxHeartbeats 4000000
namespace L2
open PySem PySem.Spec PyProof.Rows
/-! ### the hash of a pair of small numbers tells the pair -/
def thS (a h : Nat) : Nat := (((a + h * 14029467366897019727) % 18446744073709551616 * 2147483648) % 18446744073709551616 + (a + h * 14029467366897019727) % 18446744073709551616 / 8589934592) * 11400714785074694791 % 18446744073709551616
def thA (k p : Nat) : Nat := (thS (thS 2870177450012600261 k) p + 2870177450013471924) % 18446744073709551616
def thF (a : Nat) : Int := if a = 18446744073709551615 then 1546275796 else if a < 9223372036854775808 then (a : Int) else (a : Int) - 18446744073709551616
/-- what a difference of the places can make of the difference of the keys -/
def thOk (d : Nat) : Bool := d == 63 || (
  let e := (((d : Int) - 63) * 10856659086753211129) % 18446744073709551616
  let e0 := e % 2147483648
  let e1 := e / 2147483648
  [(0 : Int), 1].all fun s => [(0 : Int), 1].all fun t =>
    let x := (839798700976720815 * (e0 * 8589934592 + e1 + s - t * 8589934592)) % 18446744073709551616
    decide (1000000000000000 < x ∧ x < 18445744073709551616))
theorem thOk_all : ∀ d < 127, thOk d = true := by decide +kernel
/-- where the special value comes from -/
def thSpV (p : Int) : Int :=
  let r := ((18446744073709551615 - 2870177450013471924) * 614540362697595703 : Int) % 18446744073709551616
  let a2 := (r % 2147483648) * 8589934592 + r / 2147483648
  let r1 := ((a2 - p * 14029467366897019727) * 614540362697595703) % 18446744073709551616
  let u := (r1 % 2147483648) * 8589934592 + r1 / 2147483648
  ((u - 2870177450012600261) * 839798700976720815) % 18446744073709551616
def thSp (p : Nat) : Bool := decide (1000000000000000 < thSpV (p : Int))
theorem thSp_all : ∀ p < 64, thSp p = true := by decide +kernel
def rot (u : Int) : Int := (u % 8589934592) * 2147483648 + u / 8589934592
theorem thS_eq (a h : Nat) : (thS a h : Int) = rot (((a : Int) + h * 14029467366897019727) % 18446744073709551616) * 11400714785074694791 % 18446744073709551616 := by
  unfold thS rot
  generalize hu : (a + h * 14029467366897019727) % 18446744073709551616 = u
  have e : ((a : Int) + h * 14029467366897019727) % 18446744073709551616 = u := by omega
  rw [e]
  have : u < 18446744073709551616 := by omega
  omega
theorem rot_lt {u : Int} (h0 : 0 ≤ u) (h1 : u < 18446744073709551616) : 0 ≤ rot u ∧ rot u < 18446744073709551616 := by unfold rot; omega
/-- back from a product -/
theorem unmul {x y z : Int} (h : (x * 11400714785074694791 + y) % 18446744073709551616 = z) (h0 : 0 ≤ x) (h1 : x < 18446744073709551616) : x = ((z - y) * 614540362697595703) % 18446744073709551616 := by omega
theorem th_key {k u : Int} (h : (2870177450012600261 + k * 14029467366897019727) % 18446744073709551616 = u) (h0 : 0 ≤ k) (h1 : k < 1000000000000000) : k = ((u - 2870177450012600261) * 839798700976720815) % 18446744073709551616 := by omega
theorem unrot {u x : Int} (h : rot u = x) (h0 : 0 ≤ u) (h1 : u < 18446744073709551616) : u = (x % 2147483648) * 8589934592 + x / 2147483648 := by unfold rot at h; omega
theorem rot_step {A u p z : Int} (h : (A + p * 14029467366897019727) % 18446744073709551616 = z) (hA : A = rot u * 11400714785074694791 % 18446744073709551616) (h0 : 0 ≤ u) (h1 : u < 18446744073709551616) : rot u = ((z - p * 14029467366897019727) * 614540362697595703) % 18446744073709551616 := by
  rw [hA, Int.emod_add_emod] at h
  exact unmul h (rot_lt h0 h1).1 (rot_lt h0 h1).2
theorem rot_last {A u z : Int} (h : (A + 2870177450013471924) % 18446744073709551616 = z) (hA : A = rot u * 11400714785074694791 % 18446744073709551616) (h0 : 0 ≤ u) (h1 : u < 18446744073709551616) : rot u = ((z - 2870177450013471924) * 614540362697595703) % 18446744073709551616 := by
  rw [hA, Int.emod_add_emod] at h
  exact unmul h (rot_lt h0 h1).1 (rot_lt h0 h1).2
theorem md (x : Int) : 0 ≤ x % 18446744073709551616 ∧ x % 18446744073709551616 < 18446744073709551616 := by omega
theorem sp_core {k p u1 A1 u2 A2 : Int} (hk : 0 ≤ k) (hk2 : k < 1000000000000000) (e1 : (2870177450012600261 + k * 14029467366897019727) % 18446744073709551616 = u1) (eA1 : A1 = rot u1 * 11400714785074694791 % 18446744073709551616)
    (e2 : (A1 + p * 14029467366897019727) % 18446744073709551616 = u2) (eA2 : A2 = rot u2 * 11400714785074694791 % 18446744073709551616) (h : (A2 + 2870177450013471924) % 18446744073709551616 = 18446744073709551615) :
    k = thSpV p := by
  have b1 : 0 ≤ u1 ∧ u1 < 18446744073709551616 := e1 ▸ md _
  have b2 : 0 ≤ u2 ∧ u2 < 18446744073709551616 := e2 ▸ md _
  have v2 := unrot (rot_last h eA2 b2.1 b2.2) b2.1 b2.2
  have v1 := unrot (rot_step e2 eA1 b1.1 b1.2) b1.1 b1.2
  have vk := th_key e1 hk hk2
  rw [v1, v2] at vk
  exact vk
theorem thA_eq {k p z : Nat} (h : thA k p = z) : ((thS (thS 2870177450012600261 k) p : Int) + 2870177450013471924) % 18446744073709551616 = z := by unfold thA at h; omega
theorem sp_end {k : Nat} {V : Int} (hk : k < 1000000000000000) (h : (k : Int) = V) (g : 1000000000000000 < V) : False := by omega
theorem th_special {k p : Nat} (hk : k < 1000000000000000) (hp : p < 64) : thA k p ≠ 18446744073709551615 := by
  intro h
  have e2 := thS_eq (thS 2870177450012600261 k) p
  have e1 := thS_eq 2870177450012600261 k
  exact sp_end hk (sp_core (k := k) (p := p) (Int.natCast_nonneg k) (Int.ofNat_lt.mpr hk) rfl e1 rfl e2 (thA_eq h)) (of_decide_eq_true (thSp_all p hp))
/-- one turned number less another, turned back -/
theorem rot_diff {u u' e : Int} (h0 : 0 ≤ u) (h1 : u < 18446744073709551616) (h0' : 0 ≤ u') (h1' : u' < 18446744073709551616) (g0 : 0 ≤ e) (g1 : e < 18446744073709551616) (h : (rot u - rot u' - e) % 18446744073709551616 = 0) :
    ∃ s t : Int, (s = 0 ∨ s = 1) ∧ (t = 0 ∨ t = 1) ∧ (u - u' - (e % 2147483648 * 8589934592 + e / 2147483648 + s - t * 8589934592)) % 18446744073709551616 = 0 := by
  unfold rot at h
  have d1 : u = (u / 8589934592) * 8589934592 + u % 8589934592 := by omega
  have d2 : u' = (u' / 8589934592) * 8589934592 + u' % 8589934592 := by omega
  have d3 : e = (e / 2147483648) * 2147483648 + e % 2147483648 := by omega
  have c1 : 0 ≤ u / 8589934592 ∧ u / 8589934592 < 2147483648 ∧ 0 ≤ u % 8589934592 ∧ u % 8589934592 < 8589934592 := by omega
  have c2 : 0 ≤ u' / 8589934592 ∧ u' / 8589934592 < 2147483648 ∧ 0 ≤ u' % 8589934592 ∧ u' % 8589934592 < 8589934592 := by omega
  have c3 : 0 ≤ e / 2147483648 ∧ e / 2147483648 < 8589934592 ∧ 0 ≤ e % 2147483648 ∧ e % 2147483648 < 2147483648 := by omega
  generalize u / 8589934592 = a at *
  generalize u % 8589934592 = b at *
  generalize u' / 8589934592 = a' at *
  generalize u' % 8589934592 = b' at *
  generalize e / 2147483648 = e1 at *
  generalize e % 2147483648 = e0 at *
  subst d1 d2 d3
  clear h0 h1 h0' h1' g0 g1
  -- (b - b' - e1) * 2^31 + (a - a' - e0) = m * 2^64
  obtain ⟨m, hm⟩ : ∃ m, (b - b' - e1) * 2147483648 + (a - a' - e0) = m * 18446744073709551616 := ⟨(b * 2147483648 + a - (b' * 2147483648 + a') - (e1 * 2147483648 + e0)) / 18446744073709551616, by omega⟩
  obtain ⟨s, hs⟩ : ∃ s, a - a' - e0 = - s * 2147483648 := ⟨-((a - a' - e0) / 2147483648), by omega⟩
  have hs2 : s = 0 ∨ s = 1 := by omega
  have hb : b - b' - e1 - s = m * 8589934592 := by omega
  have hm2 : m = 0 ∨ m = -1 := by rcases hs2 with rfl | rfl <;> omega
  refine ⟨s, -m, hs2, by omega, ?_⟩
  have : (a * 8589934592 + b - (a' * 8589934592 + b') - (e0 * 8589934592 + e1 + s - -m * 8589934592)) = -s * 18446744073709551616 := by
    have x1 : a = a' + e0 - s * 2147483648 := by omega
    have x2 : b = b' + e1 + s + m * 8589934592 := by omega
    subst x1 x2
    clear hm hs hb c1 c2 c3 h
    omega
  rw [this]
  clear hm hs hb c1 c2 c3 h this
  omega
theorem df1 {u2 p p' d e r r' : Int} (hd : d = p' - p) (he : d * 10856659086753211129 % 18446744073709551616 = e) (s1 : r = ((u2 - p * 14029467366897019727) * 614540362697595703) % 18446744073709551616) (s2 : r' = ((u2 - p' * 14029467366897019727) * 614540362697595703) % 18446744073709551616) :
    (r - r' - e) % 18446744073709551616 = 0 := by
  subst hd he s1 s2
  omega
theorem df2 {k k' u u' : Int} (h : (2870177450012600261 + k * 14029467366897019727) % 18446744073709551616 = u) (h' : (2870177450012600261 + k' * 14029467366897019727) % 18446744073709551616 = u') : (k - k' - (u - u') * 839798700976720815) % 18446744073709551616 = 0 := by
  subst h h'
  omega
theorem df3 {k k' D V : Int} (h : (k - k' - D * 839798700976720815) % 18446744073709551616 = 0) (g : (D - V) % 18446744073709551616 = 0) : (k - k' - 839798700976720815 * V) % 18446744073709551616 = 0 := by omega
theorem df4 {k k' V : Int} (h0 : 0 ≤ k) (h1 : k < 1000000000000000) (h0' : 0 ≤ k') (h1' : k' < 1000000000000000) (h : (k - k' - V) % 18446744073709551616 = 0) (a : 1000000000000000 < V % 18446744073709551616) (b : V % 18446744073709551616 < 18445744073709551616) : False := by omega
theorem df5 {p p' d : Nat} (hp : p < 64) (hp' : p' < 64) (hd : p' + 63 - p = d) : (d : Int) - 63 = (p' : Int) - p ∧ d < 127 ∧ (d = 63 → p = p') := by omega
theorem th_inj {k p k' p' : Nat} (hk : k < 1000000000000000) (hk' : k' < 1000000000000000) (hp : p < 64) (hp' : p' < 64) (h : thA k p = thA k' p') : k = k' ∧ p = p' := by
  have h2 := (thA_eq (z := thA k' p') h).trans (thA_eq (k := k') (p := p') rfl).symm
  have e2 := thS_eq (thS 2870177450012600261 k) p
  have e1 := thS_eq 2870177450012600261 k
  have e2' := thS_eq (thS 2870177450012600261 k') p'
  have e1' := thS_eq 2870177450012600261 k'
  generalize hu1 : (((2870177450012600261 : Nat) : Int) + (k : Int) * 14029467366897019727) % 18446744073709551616 = u1 at e1
  generalize hu2 : ((thS 2870177450012600261 k : Int) + (p : Int) * 14029467366897019727) % 18446744073709551616 = u2 at e2
  generalize hu1' : (((2870177450012600261 : Nat) : Int) + (k' : Int) * 14029467366897019727) % 18446744073709551616 = u1' at e1'
  generalize hu2' : ((thS 2870177450012600261 k' : Int) + (p' : Int) * 14029467366897019727) % 18446744073709551616 = u2' at e2'
  have b1 : 0 ≤ u1 ∧ u1 < 18446744073709551616 := hu1 ▸ md _
  have b2 : 0 ≤ u2 ∧ u2 < 18446744073709551616 := hu2 ▸ md _
  have b1' : 0 ≤ u1' ∧ u1' < 18446744073709551616 := hu1' ▸ md _
  have b2' : 0 ≤ u2' ∧ u2' < 18446744073709551616 := hu2' ▸ md _
  have v2 : u2 = u2' := by
    refine (unrot ((rot_last (z := ((thS (thS 2870177450012600261 k) p : Int) + 2870177450013471924) % 18446744073709551616) rfl e2 b2.1 b2.2).trans (rot_last (z := ((thS (thS 2870177450012600261 k) p : Int) + 2870177450013471924) % 18446744073709551616) h2.symm e2' b2'.1 b2'.2).symm) b2.1 b2.2).trans (unrot rfl b2'.1 b2'.2).symm
  subst v2
  have hr1 := rot_step hu2 e1 b1.1 b1.2
  have hr1' := rot_step hu2' e1' b1'.1 b1'.2
  clear h h2 e2 e1 e2' e1' hu2 hu2' b2 b2'
  generalize hd : p' + 63 - p = d
  obtain ⟨hd2, hdl, hpp⟩ := df5 hp hp' hd
  have ok := thOk_all d hdl
  unfold thOk at ok
  generalize he : (((d : Int) - 63) * 10856659086753211129) % 18446744073709551616 = e at ok
  have be : 0 ≤ e ∧ e < 18446744073709551616 := he ▸ md _
  have hr := df1 hd2 he hr1 hr1'
  have hk2 := df2 hu1 hu1'
  have i1 : 0 ≤ (k : Int) ∧ (k : Int) < 1000000000000000 := by clear hr hk2 hr1 hr1' he ok; omega
  have i2 : 0 ≤ (k' : Int) ∧ (k' : Int) < 1000000000000000 := by clear hr hk2 hr1 hr1' he ok; omega
  rw [Bool.or_eq_true] at ok
  rcases ok with ok | ok
  · have hd3 : d = 63 := by simpa using ok
    refine ⟨?_, hpp hd3⟩
    subst hd3
    have e0 : e = 0 := by rw [← he]; decide
    have hq : rot u1 = rot u1' := by
      have c1 := rot_lt b1.1 b1.2
      have c2 := rot_lt b1'.1 b1'.2
      subst e0
      clear hk2 hr1 hr1' he ok hu1 hu1'
      omega
    have hu : u1 = u1' := (unrot hq b1.1 b1.2).trans (unrot rfl b1'.1 b1'.2).symm
    have := (th_key hu1 i1.1 i1.2).trans ((congrArg (fun u => ((u - 2870177450012600261) * 839798700976720815) % 18446744073709551616) hu).trans (th_key hu1' i2.1 i2.2).symm)
    exact Int.ofNat.inj this
  · exfalso
    obtain ⟨s, t, hs, ht, huu⟩ := rot_diff b1.1 b1.2 b1'.1 b1'.2 be.1 be.2 hr
    have o1 := List.all_eq_true.mp ok s (by rcases hs with rfl | rfl <;> simp)
    have o2 := List.all_eq_true.mp o1 t (by rcases ht with rfl | rfl <;> simp)
    simp only [decide_eq_true_eq] at o2
    exact df4 i1.1 i1.2 i2.1 i2.2 (df3 hk2 huu) o2.1 o2.2
theorem thF_inj {a b : Nat} (ha : a < 18446744073709551616) (hb : b < 18446744073709551616) (na : a ≠ 18446744073709551615) (nb : b ≠ 18446744073709551615) (h : thF a = thF b) : a = b := by
  unfold thF at h
  rw [if_neg na, if_neg nb] at h
  split at h <;> split at h <;> omega
theorem thA_lt (k p : Nat) : thA k p < 18446744073709551616 := Nat.mod_lt _ (by decide)

def gI (acc : Nat) (h : Int) : Nat :=
    let acc := (acc + (h % ((2 ^ 64 : Nat) : Int)).toNat * 14029467366897019727) % 2 ^ 64
    let acc := (acc * 2 ^ 31) % 2 ^ 64 + acc / 2 ^ 33
    (acc * 11400714785074694791) % 2 ^ 64
def thFin (acc : Nat) : Int := if acc == 2 ^ 64 - 1 then (1546275796 : Int) else if acc < 2 ^ 63 then (acc : Int) else (acc : Int) - (2 ^ 64 : Nat)
theorem a0 (hs : List Int) : Builtin.Tuple.tupleHashOf hs = thFin ((hs.foldl gI 2870177450012600261 + (hs.length ^^^ (2870177450012600261 ^^^ 3527539))) % 2 ^ 64) := rfl
theorem gI_eq (a h : Nat) (hh : h < 1000000000000000) : gI a (h : Int) = thS a h := by
  have m1 : (2 ^ 64 : Nat) = 18446744073709551616 := by decide
  have m2 : (2 ^ 31 : Nat) = 2147483648 := by decide
  have m3 : (2 ^ 33 : Nat) = 8589934592 := by decide
  have e1 : ((h : Int) % ((2 ^ 64 : Nat) : Int)).toNat = h := by omega
  unfold gI thS
  rw [e1, m1, m2, m3]
theorem thFin_eq (x : Nat) : thFin x = thF x := by
  have m1 : (2 ^ 64 : Nat) = 18446744073709551616 := by decide
  have m4 : (2 ^ 63 : Nat) = 9223372036854775808 := by decide
  unfold thFin thF
  rw [m1, m4]
  by_cases h : x = 18446744073709551615
  · rw [if_pos h, if_pos (beq_iff_eq.mpr h)]
  · rw [if_neg h, if_neg (fun z => h (beq_iff_eq.mp z))]
    rfl
theorem th_of (k p : Nat) (hk : k < 1000000000000000) (hp : p < 64) : Builtin.Tuple.tupleHashOf [(k : Int), (p : Int)] = thF (thA k p) := by
  have m1 : (2 ^ 64 : Nat) = 18446744073709551616 := by decide
  have m5 : ([(k : Int), (p : Int)].length ^^^ (2870177450012600261 ^^^ 3527539) : Nat) = 2870177450013471924 := by
    rw [List.length_cons, List.length_cons, List.length_nil]
    decide
  have e : [(k : Int), (p : Int)].foldl gI 2870177450012600261 = gI (gI 2870177450012600261 k) p := by rw [List.foldl_cons, List.foldl_cons, List.foldl_nil]
  unfold thA
  rw [a0, thFin_eq, m5, e, gI_eq _ _ hk, gI_eq _ _ (by omega), m1]
theorem th_raw (n : Nat) (hn : n < 1000000000000000) : rawHash (n : Int) = n := by
  have m : (((2 ^ 61 - 1 : Nat)) : Int) = 2305843009213693951 := by decide
  have h1 : ((n : Int).natAbs : Int) % ((2 ^ 61 - 1 : Nat) : Int) = n := by rw [m]; omega
  unfold rawHash
  dsimp only
  rw [h1, if_neg (show ¬ ((n : Int) < 0) by omega)]
  have : ((n : Int) == -1) = false := by rw [beq_eq_false_iff_ne]; omega
  rw [this]
  rfl
theorem th_int (n : Nat) (hn : n < 1000000000000000) : hashInt (n : Int) = n := by
  unfold hashInt
  rw [th_raw n hn]
  have : ((n : Int) == -1) = false := by rw [beq_eq_false_iff_ne]; omega
  rw [this]
  rfl
theorem hash_pair {P : Program} {w : World} {k p : Nat} (hk : k < 1000000000000000) (hp : p < 64) : (tupleKind (mixKind P w)).hash [Sum.inl (k : Int), Sum.inl (p : Int)] = reduceHash (thF (thA k p)) := by
  show reduceHash (Builtin.Tuple.tupleHashOf [hashInt (k : Int), hashInt (p : Int)]) = _
  rw [th_int k hk, th_int p (by omega), th_of k p hk hp]
theorem thF_range (a : Nat) (h : a < 18446744073709551616) (h2 : a ≠ 18446744073709551615) : -9223372036854775808 ≤ thF a ∧ thF a < 9223372036854775808 ∧ thF a ≠ -1 := by
  unfold thF
  rw [if_neg h2]
  split <;> omega
theorem hash_pair_inj {P : Program} {w : World} {k p k' p' : Int} (h0 : 0 ≤ k) (hk : k < 1000000000000000) (h0' : 0 ≤ k') (hk' : k' < 1000000000000000) (q0 : 0 ≤ p) (hp : p < 64) (q0' : 0 ≤ p') (hp' : p' < 64)
    (h : (tupleKind (mixKind P w)).hash [Sum.inl k, Sum.inl p] = (tupleKind (mixKind P w)).hash [Sum.inl k', Sum.inl p']) : k = k' ∧ p = p' := by
  obtain ⟨k, rfl⟩ := Int.eq_ofNat_of_zero_le h0
  obtain ⟨p, rfl⟩ := Int.eq_ofNat_of_zero_le q0
  obtain ⟨k', rfl⟩ := Int.eq_ofNat_of_zero_le h0'
  obtain ⟨p', rfl⟩ := Int.eq_ofNat_of_zero_le q0'
  rw [hash_pair (by omega) (by omega), hash_pair (by omega) (by omega)] at h
  have n1 := th_special (k := k) (p := p) (by omega) (by omega)
  have n2 := th_special (k := k') (p := p') (by omega) (by omega)
  have g1 := thF_range _ (thA_lt k p) n1
  have g2 := thF_range _ (thA_lt k' p') n2
  have rd : ∀ i : Int, -9223372036854775808 ≤ i → i < 9223372036854775808 → i ≠ -1 → reduceHash i = i := by
    intro i a b c
    unfold reduceHash
    rw [if_pos (by simp; omega)]
    have : (i == -1) = false := beq_eq_false_iff_ne.mpr c
    rw [this]
    rfl
  rw [rd _ g1.1 g1.2.1 g1.2.2, rd _ g2.1 g2.2.1 g2.2.2] at h
  have := th_inj (by omega) (by omega) (by omega) (by omega) (thF_inj (thA_lt _ _) (thA_lt _ _) n1 n2 h)
  omega
end L2

set_option Elab.async false
set_option linter.all false
set_option maxRecDepth 100000
set_option maxHeartbeats 4000000
namespace L2
open PySem PySem.Spec PyProof.Rows
/-! ### t != u, two tuples of the same scalars -/
def rNeU (K : PySem.W.Frag) : R2 := fun x y H Q => ∃ a b xs, x = .ref a ∧ y = .ref b ∧ SqT K H a xs ∧ SqT K H b xs ∧ xs.all dat = true ∧ Q (.bl false) H
theorem op_neU {X : Cx} (hu : X.A.units + 64 < cLine) : OpR X (compareOp .NotEq) (rNeU X.K) := by
  intro pins s σ H x y v u Q I rx ry h
  obtain ⟨a, b, xs, rfl, rfl, ha, hb, hd, q⟩ := h
  cases rx
  cases ry
  obtain ⟨ia, ra, la, _⟩ := I.tuple ha
  obtain ⟨ib, rb, lb, _⟩ := I.tuple hb
  have la' := ra.length
  have lb' := rb.length
  have hsz : ia.toArray.size = ib.toArray.size := by simp; omega
  have e : (!((List.range (min ia.toArray.size ib.toArray.size)).all (fun _ => true) && ia.toArray.size == ib.toArray.size)) = false := by
    rw [all_true, hsz]; simp
  refine SeqAt.RcNeAt.tuples (e := fun _ => true) la lb (by omega) (fun j h1 h2 => ?_) X.prog X.w _ _ ?_
  · have q1 : j < xs.length := by simp at h1; omega
    obtain ⟨u1, e1, r1⟩ := ra.get (List.getElem?_eq_getElem q1)
    obtain ⟨u2, e2, r2⟩ := rb.get (List.getElem?_eq_getElem q1)
    rw [sub_getElem h1 e1, sub_getElem h2 e2]
    exact leaf_eq (List.all_eq_true.mp hd _ (List.getElem_mem q1)) r1 r2 _
  · rw [e]
    exact fin_bl I q rfl
theorem neUK {X : Cx} {K : PySem.W.Frag} (hu : X.A.units + 64 < cLine) (h : X.K = K := by rfl) : OpR X (compareOp .NotEq) (rNeU K) := h ▸ op_neU hu
end L2

set_option Elab.async false
set_option linter.all false
set_option maxRecDepth 100000
set_option maxHeartbeats 4000000
namespace Lw
open PySem PySem.Spec PyProof.Rows L2
def top (i : Nat) : Stmt := PySem.Challenge.pw_halfmoved_k13_rows_out_of_order.main.body.getD i (.Pass ⟨0, 0, 0, 0⟩)
abbrev s_StepError_init : Stmt := inClass (top 2) 0
abbrev N_StepError_init : List Str := ["self", "table", "key", "place"]
theorem sc_StepError_init : FnScope N_StepError_init ["self", "table", "key", "place"] (defScope s_StepError_init) := ⟨rfl, rfl, rfl, by decide +kernel, rfl, by decide +kernel, by decide +kernel⟩
abbrev s_is_whole : Stmt := top 12
abbrev N_is_whole : List Str := ["thing"]
theorem sc_is_whole : FnScope N_is_whole ["thing"] (defScope s_is_whole) := ⟨rfl, rfl, rfl, by decide +kernel, rfl, by decide +kernel, by decide +kernel⟩
abbrev s_fits_plain : Stmt := top 13
abbrev N_fits_plain : List Str := ["kind", "value", "word"]
theorem sc_fits_plain : FnScope N_fits_plain ["kind", "value"] (defScope s_fits_plain) := ⟨rfl, rfl, rfl, by decide +kernel, rfl, by decide +kernel, by decide +kernel⟩
abbrev s_fits_each : Stmt := top 14
abbrev N_fits_each : List Str := ["kind", "value", "one"]
theorem sc_fits_each : FnScope N_fits_each ["kind", "value"] (defScope s_fits_each) := ⟨rfl, rfl, rfl, by decide +kernel, rfl, by decide +kernel, by decide +kernel⟩
abbrev s_fits : Stmt := top 15
abbrev N_fits : List Str := ["kind", "value", "size", "word"]
theorem sc_fits : FnScope N_fits ["kind", "value", "size"] (defScope s_fits) := ⟨rfl, rfl, rfl, by decide +kernel, rfl, by decide +kernel, by decide +kernel⟩
abbrev s_table_at : Stmt := top 17
abbrev N_table_at : List Str := ["form", "table", "one"]
theorem sc_table_at : FnScope N_table_at ["form", "table"] (defScope s_table_at) := ⟨rfl, rfl, rfl, by decide +kernel, rfl, by decide +kernel, by decide +kernel⟩
abbrev s_tables_of : Stmt := top 18
abbrev N_tables_of : List Str := ["form", "one"]
theorem sc_tables_of : FnScope N_tables_of ["form"] (defScope s_tables_of) := ⟨rfl, rfl, rfl, by decide +kernel, rfl, by decide +kernel, by decide +kernel⟩
abbrev s_head_of : Stmt := top 19
abbrev N_head_of : List Str := ["form"]
theorem sc_head_of : FnScope N_head_of ["form"] (defScope s_head_of) := ⟨rfl, rfl, rfl, by decide +kernel, rfl, by decide +kernel, by decide +kernel⟩
abbrev s_sort_of : Stmt := top 20
abbrev N_sort_of : List Str := ["form", "table"]
theorem sc_sort_of : FnScope N_sort_of ["form", "table"] (defScope s_sort_of) := ⟨rfl, rfl, rfl, by decide +kernel, rfl, by decide +kernel, by decide +kernel⟩
abbrev s_columns_of : Stmt := top 21
abbrev N_columns_of : List Str := ["form", "table"]
theorem sc_columns_of : FnScope N_columns_of ["form", "table"] (defScope s_columns_of) := ⟨rfl, rfl, rfl, by decide +kernel, rfl, by decide +kernel, by decide +kernel⟩
abbrev s_fits_columns : Stmt := top 22
abbrev N_fits_columns : List Str := ["size", "columns", "row", "column", "kind"]
theorem sc_fits_columns : FnScope N_fits_columns ["size", "columns", "row"] (defScope s_fits_columns) := ⟨rfl, rfl, rfl, by decide +kernel, rfl, by decide +kernel, by decide +kernel⟩
abbrev s_is_row : Stmt := top 23
abbrev N_is_row : List Str := ["form", "table", "row", "name", "sort", "columns"]
theorem sc_is_row : FnScope N_is_row ["form", "table", "row"] (defScope s_is_row) := ⟨rfl, rfl, rfl, by decide +kernel, rfl, by decide +kernel, by decide +kernel⟩
abbrev s_spot_fits : Stmt := top 25
abbrev N_spot_fits : List Str := ["form", "table", "key", "place"]
theorem sc_spot_fits : FnScope N_spot_fits ["form", "table", "key", "place"] (defScope s_spot_fits) := ⟨rfl, rfl, rfl, by decide +kernel, rfl, by decide +kernel, by decide +kernel⟩
abbrev s_step_fits : Stmt := top 26
abbrev N_step_fits : List Str := ["form", "step"]
theorem sc_step_fits : FnScope N_step_fits ["form", "step"] (defScope s_step_fits) := ⟨rfl, rfl, rfl, by decide +kernel, rfl, by decide +kernel, by decide +kernel⟩
abbrev s_do_step : Stmt := top 27
abbrev N_do_step : List Str := ["form", "sheets", "step", "table", "key", "place", "there"]
theorem sc_do_step : FnScope N_do_step ["form", "sheets", "step"] (defScope s_do_step) := ⟨rfl, rfl, rfl, by decide +kernel, rfl, by decide +kernel, by decide +kernel⟩
abbrev s_places_of : Stmt := top 28
abbrev N_places_of : List Str := ["sheet", "key", "spot"]
theorem sc_places_of : FnScope N_places_of ["sheet", "key"] (defScope s_places_of) := ⟨rfl, rfl, rfl, by decide +kernel, rfl, by decide +kernel, by decide +kernel⟩
abbrev s_look_at_places : Stmt := top 29
abbrev N_look_at_places : List Str := ["table", "sort", "key", "places", "place", "found"]
theorem sc_look_at_places : FnScope N_look_at_places ["table", "sort", "key", "places"] (defScope s_look_at_places) := ⟨rfl, rfl, rfl, by decide +kernel, rfl, by decide +kernel, by decide +kernel⟩
abbrev s_look_at_thing : Stmt := top 30
abbrev N_look_at_thing : List Str := ["form", "sheets", "key", "tables", "many", "table"]
theorem sc_look_at_thing : FnScope N_look_at_thing ["form", "sheets", "key"] (defScope s_look_at_thing) := ⟨rfl, rfl, rfl, by decide +kernel, rfl, by decide +kernel, by decide +kernel⟩
abbrev s_columns_by : Stmt := top 31
abbrev N_columns_by : List Str := ["form", "table", "word", "columns", "column"]
theorem sc_columns_by : FnScope N_columns_by ["form", "table", "word"] (defScope s_columns_by) := ⟨rfl, rfl, rfl, by decide +kernel, rfl, by decide +kernel, by decide +kernel⟩
abbrev s_look_for_twice : Stmt := top 32
abbrev N_look_for_twice : List Str := ["form", "sheets", "table", "sheet", "column", "seen", "spot", "value"]
theorem sc_look_for_twice : FnScope N_look_for_twice ["form", "sheets"] (defScope s_look_for_twice) := ⟨rfl, rfl, rfl, by decide +kernel, rfl, by decide +kernel, by decide +kernel⟩
abbrev s_look_for_nowhere : Stmt := top 33
abbrev N_look_for_nowhere : List Str := ["form", "sheets", "heads", "table", "sheet", "column", "spot", "goal"]
theorem sc_look_for_nowhere : FnScope N_look_for_nowhere ["form", "sheets"] (defScope s_look_for_nowhere) := ⟨rfl, rfl, rfl, by decide +kernel, rfl, by decide +kernel, by decide +kernel⟩
abbrev s_sheets_of : Stmt := top 34
abbrev N_sheets_of : List Str := ["form", "things", "sheets", "table", "key", "place", "row"]
theorem sc_sheets_of : FnScope N_sheets_of ["form", "things"] (defScope s_sheets_of) := ⟨rfl, rfl, rfl, by decide +kernel, rfl, by decide +kernel, by decide +kernel⟩
abbrev s_Plain_init : Stmt := inClass (top 35) 0
abbrev N_Plain_init : List Str := ["self", "form", "things"]
theorem sc_Plain_init : FnScope N_Plain_init ["self", "form", "things"] (defScope s_Plain_init) := ⟨rfl, rfl, rfl, by decide +kernel, rfl, by decide +kernel, by decide +kernel⟩
abbrev s_Plain_write : Stmt := inClass (top 35) 1
abbrev N_Plain_write : List Str := ["self", "steps", "sheets", "table", "named", "step", "keys", "key"]
theorem sc_Plain_write : FnScope N_Plain_write ["self", "steps"] (defScope s_Plain_write) := ⟨rfl, rfl, rfl, by decide +kernel, rfl, by decide +kernel, by decide +kernel⟩
abbrev s_Plain_row : Stmt := inClass (top 35) 2
abbrev N_Plain_row : List Str := ["self", "table", "key", "place", "sheet"]
theorem sc_Plain_row : FnScope N_Plain_row ["self", "table", "key", "place"] (defScope s_Plain_row) := ⟨rfl, rfl, rfl, by decide +kernel, rfl, by decide +kernel, by decide +kernel⟩
abbrev s_Plain_rows : Stmt := inClass (top 35) 3
abbrev N_Plain_rows : List Str := ["self", "table", "sheet", "spot"]
theorem sc_Plain_rows : FnScope N_Plain_rows ["self", "table"] (defScope s_Plain_rows) := ⟨rfl, rfl, rfl, by decide +kernel, rfl, by decide +kernel, by decide +kernel⟩
abbrev s_Plain_piece : Stmt := inClass (top 35) 4
abbrev N_Plain_piece : List Str := ["self", "key", "head", "found", "table", "sheet", "place"]
theorem sc_Plain_piece : FnScope N_Plain_piece ["self", "key"] (defScope s_Plain_piece) := ⟨rfl, rfl, rfl, by decide +kernel, rfl, by decide +kernel, by decide +kernel⟩
abbrev s_Plain_held : Stmt := inClass (top 35) 5
abbrev N_Plain_held : List Str := ["self", "spot"]
theorem sc_Plain_held : FnScope N_Plain_held ["self"] (defScope s_Plain_held) := ⟨rfl, rfl, rfl, by decide +kernel, rfl, by decide +kernel, by decide +kernel⟩
abbrev s_law_cell_at : Stmt := top 37
abbrev N_law_cell_at : List Str := ["script", "k"]
theorem sc_law_cell_at : FnScope N_law_cell_at ["script", "k"] (defScope s_law_cell_at) := ⟨rfl, rfl, rfl, by decide +kernel, rfl, by decide +kernel, by decide +kernel⟩
abbrev s_law_box : Stmt := top 38
abbrev N_law_box : List Str := ["cell"]
theorem sc_law_box : FnScope N_law_box ["cell"] (defScope s_law_box) := ⟨rfl, rfl, rfl, by decide +kernel, rfl, by decide +kernel, by decide +kernel⟩
abbrev s_law_take : Stmt := top 39
abbrev N_law_take : List Str := ["box", "many", "digit", "number"]
theorem sc_law_take : FnScope N_law_take ["box", "many"] (defScope s_law_take) := ⟨rfl, rfl, rfl, by decide +kernel, rfl, by decide +kernel, by decide +kernel⟩
abbrev s_law_pick : Stmt := top 40
abbrev N_law_pick : List Str := ["box", "some"]
theorem sc_law_pick : FnScope N_law_pick ["box", "some"] (defScope s_law_pick) := ⟨rfl, rfl, rfl, by decide +kernel, rfl, by decide +kernel, by decide +kernel⟩
abbrev s_law_names : Stmt := top 41
abbrev N_law_names : List Str := ["box", "many", "letters", "stem", "at", "first", "signs", "names", "turn", "k", "sign"]
theorem sc_law_names : FnScope N_law_names ["box", "many"] (defScope s_law_names) := ⟨rfl, rfl, rfl, by decide +kernel, rfl, by decide +kernel, by decide +kernel⟩
abbrev s_law_order : Stmt := top 42
abbrev N_law_order : List Str := ["box", "many", "order", "k"]
theorem sc_law_order : FnScope N_law_order ["box", "many"] (defScope s_law_order) := ⟨rfl, rfl, rfl, by decide +kernel, rfl, by decide +kernel, by decide +kernel⟩
abbrev s_law_rows : Stmt := top 43
abbrev N_law_rows : List Str := ["box", "base", "keys", "at", "many", "held", "rows", "place", "which", "k", "other", "value"]
theorem sc_law_rows : FnScope N_law_rows ["box", "base", "keys", "at", "many", "held"] (defScope s_law_rows) := ⟨rfl, rfl, rfl, by decide +kernel, rfl, by decide +kernel, by decide +kernel⟩
abbrev s_law_row : Stmt := top 44
abbrev N_law_row : List Str := ["columns", "row", "column", "value"]
theorem sc_law_row : FnScope N_law_row ["columns", "row"] (defScope s_law_row) := ⟨rfl, rfl, rfl, by decide +kernel, rfl, by decide +kernel, by decide +kernel⟩
abbrev s_law_steps : Stmt := top 45
abbrev N_law_steps : List Str := ["box", "side", "columns", "key", "old", "new", "steps", "place", "row", "other"]
theorem sc_law_steps : FnScope N_law_steps ["box", "side", "columns", "key", "old", "new"] (defScope s_law_steps) := ⟨rfl, rfl, rfl, by decide +kernel, rfl, by decide +kernel, by decide +kernel⟩
abbrev s_law_listed : Stmt := top 46
abbrev N_law_listed : List Str := ["things", "rows", "key", "place", "row"]
theorem sc_law_listed : FnScope N_law_listed ["things"] (defScope s_law_listed) := ⟨rfl, rfl, rfl, by decide +kernel, rfl, by decide +kernel, by decide +kernel⟩
abbrev s_law_due : Stmt := top 47
abbrev N_law_due : List Str := ["side", "columns", "things", "rows", "column", "at", "seen", "key", "place", "row"]
theorem sc_law_due : FnScope N_law_due ["side", "columns", "things"] (defScope s_law_due) := ⟨rfl, rfl, rfl, by decide +kernel, rfl, by decide +kernel, by decide +kernel⟩
abbrev s_law_written : Stmt := top 48
abbrev N_law_written : List Str := ["plain", "steps", "found", "e"]
theorem sc_law_written : FnScope N_law_written ["plain", "steps"] (defScope s_law_written) := ⟨rfl, rfl, rfl, by decide +kernel, rfl, by decide +kernel, by decide +kernel⟩
abbrev s_law_made : Stmt := top 49
abbrev N_law_made : List Str := ["form", "names", "columns", "things", "pieces", "key", "found", "e", "row"]
theorem sc_law_made : FnScope N_law_made ["form", "names", "columns", "things"] (defScope s_law_made) := ⟨rfl, rfl, rfl, by decide +kernel, rfl, by decide +kernel, by decide +kernel⟩
abbrev s_law_tells : Stmt := top 50
abbrev N_law_tells : List Str := ["plain", "names", "columns", "things", "due", "key", "place", "row"]
theorem sc_law_tells : FnScope N_law_tells ["plain", "names", "columns", "things"] (defScope s_law_tells) := ⟨rfl, rfl, rfl, by decide +kernel, rfl, by decide +kernel, by decide +kernel⟩
abbrev s_law_deed : Stmt := top 51
abbrev N_law_deed : List Str := ["box", "names", "columns", "sort", "base", "keys", "things", "at", "key", "old", "gone", "many", "new", "steps", "after", "place", "one"]
theorem sc_law_deed : FnScope N_law_deed ["box", "names", "columns", "sort", "base", "keys", "things"] (defScope s_law_deed) := ⟨rfl, rfl, rfl, by decide +kernel, rfl, by decide +kernel, by decide +kernel⟩
abbrev s_law : Stmt := top 52
abbrev N_law : List Str := ["script", "box", "names", "columns", "sort", "size", "first", "keys", "base", "shape", "form", "plain", "things", "k", "key", "steps", "after", "due", "made"]
theorem sc_law : FnScope N_law ["script"] (defScope s_law) := ⟨rfl, rfl, rfl, by decide +kernel, rfl, by decide +kernel, by decide +kernel⟩
/-- what the top has written -/
structure Tx (K : PySem.W.Frag) (mg : Str → Option Value) : Prop where
  b_len : mg "len" = none
  b_range : mg "range" = none
  b_isinstance : mg "isinstance" = none
  b_sorted : mg "sorted" = none
  b_dict : mg "dict" = none
  b_list : mg "list" = none
  b_tuple : mg "tuple" = none
  b_int : mg "int" = none
  b_str : mg "str" = none
  b_bool : mg "bool" = none
  b_enumerate : mg "enumerate" = none
  b_zip : mg "zip" = none
  b_sum : mg "sum" = none
  b_max : mg "max" = none
  b_min : mg "min" = none
  f_StepError_init : ∃ fd, FunD K "__init__" "StepError.__init__" (defArgs s_StepError_init) (defBody s_StepError_init) (defScope s_StepError_init) [] [] (He.fAd K ("StepError", some "__init__")) fd
  f_is_whole : ∃ fd, FunD K "is_whole" "is_whole" (defArgs s_is_whole) (defBody s_is_whole) (defScope s_is_whole) [] [] (He.fAd K ("is_whole", none)) fd
  g_is_whole : mg "is_whole" = some (.ref (He.fAd K ("is_whole", none)))
  f_fits_plain : ∃ fd, FunD K "fits_plain" "fits_plain" (defArgs s_fits_plain) (defBody s_fits_plain) (defScope s_fits_plain) [] [] (He.fAd K ("fits_plain", none)) fd
  g_fits_plain : mg "fits_plain" = some (.ref (He.fAd K ("fits_plain", none)))
  f_fits_each : ∃ fd, FunD K "fits_each" "fits_each" (defArgs s_fits_each) (defBody s_fits_each) (defScope s_fits_each) [] [] (He.fAd K ("fits_each", none)) fd
  g_fits_each : mg "fits_each" = some (.ref (He.fAd K ("fits_each", none)))
  f_fits : ∃ fd, FunD K "fits" "fits" (defArgs s_fits) (defBody s_fits) (defScope s_fits) [] [] (He.fAd K ("fits", none)) fd
  g_fits : mg "fits" = some (.ref (He.fAd K ("fits", none)))
  f_table_at : ∃ fd, FunD K "table_at" "table_at" (defArgs s_table_at) (defBody s_table_at) (defScope s_table_at) [] [] (He.fAd K ("table_at", none)) fd
  g_table_at : mg "table_at" = some (.ref (He.fAd K ("table_at", none)))
  f_tables_of : ∃ fd, FunD K "tables_of" "tables_of" (defArgs s_tables_of) (defBody s_tables_of) (defScope s_tables_of) [] [] (He.fAd K ("tables_of", none)) fd
  g_tables_of : mg "tables_of" = some (.ref (He.fAd K ("tables_of", none)))
  f_head_of : ∃ fd, FunD K "head_of" "head_of" (defArgs s_head_of) (defBody s_head_of) (defScope s_head_of) [] [] (He.fAd K ("head_of", none)) fd
  g_head_of : mg "head_of" = some (.ref (He.fAd K ("head_of", none)))
  f_sort_of : ∃ fd, FunD K "sort_of" "sort_of" (defArgs s_sort_of) (defBody s_sort_of) (defScope s_sort_of) [] [] (He.fAd K ("sort_of", none)) fd
  g_sort_of : mg "sort_of" = some (.ref (He.fAd K ("sort_of", none)))
  f_columns_of : ∃ fd, FunD K "columns_of" "columns_of" (defArgs s_columns_of) (defBody s_columns_of) (defScope s_columns_of) [] [] (He.fAd K ("columns_of", none)) fd
  g_columns_of : mg "columns_of" = some (.ref (He.fAd K ("columns_of", none)))
  f_fits_columns : ∃ fd, FunD K "fits_columns" "fits_columns" (defArgs s_fits_columns) (defBody s_fits_columns) (defScope s_fits_columns) [] [] (He.fAd K ("fits_columns", none)) fd
  g_fits_columns : mg "fits_columns" = some (.ref (He.fAd K ("fits_columns", none)))
  f_is_row : ∃ fd, FunD K "is_row" "is_row" (defArgs s_is_row) (defBody s_is_row) (defScope s_is_row) [] [] (He.fAd K ("is_row", none)) fd
  g_is_row : mg "is_row" = some (.ref (He.fAd K ("is_row", none)))
  f_spot_fits : ∃ fd, FunD K "spot_fits" "spot_fits" (defArgs s_spot_fits) (defBody s_spot_fits) (defScope s_spot_fits) [] [] (He.fAd K ("spot_fits", none)) fd
  g_spot_fits : mg "spot_fits" = some (.ref (He.fAd K ("spot_fits", none)))
  f_step_fits : ∃ fd, FunD K "step_fits" "step_fits" (defArgs s_step_fits) (defBody s_step_fits) (defScope s_step_fits) [] [] (He.fAd K ("step_fits", none)) fd
  g_step_fits : mg "step_fits" = some (.ref (He.fAd K ("step_fits", none)))
  f_do_step : ∃ fd, FunD K "do_step" "do_step" (defArgs s_do_step) (defBody s_do_step) (defScope s_do_step) [] [] (He.fAd K ("do_step", none)) fd
  g_do_step : mg "do_step" = some (.ref (He.fAd K ("do_step", none)))
  f_places_of : ∃ fd, FunD K "places_of" "places_of" (defArgs s_places_of) (defBody s_places_of) (defScope s_places_of) [] [] (He.fAd K ("places_of", none)) fd
  g_places_of : mg "places_of" = some (.ref (He.fAd K ("places_of", none)))
  f_look_at_places : ∃ fd, FunD K "look_at_places" "look_at_places" (defArgs s_look_at_places) (defBody s_look_at_places) (defScope s_look_at_places) [] [] (He.fAd K ("look_at_places", none)) fd
  g_look_at_places : mg "look_at_places" = some (.ref (He.fAd K ("look_at_places", none)))
  f_look_at_thing : ∃ fd, FunD K "look_at_thing" "look_at_thing" (defArgs s_look_at_thing) (defBody s_look_at_thing) (defScope s_look_at_thing) [] [] (He.fAd K ("look_at_thing", none)) fd
  g_look_at_thing : mg "look_at_thing" = some (.ref (He.fAd K ("look_at_thing", none)))
  f_columns_by : ∃ fd, FunD K "columns_by" "columns_by" (defArgs s_columns_by) (defBody s_columns_by) (defScope s_columns_by) [] [] (He.fAd K ("columns_by", none)) fd
  g_columns_by : mg "columns_by" = some (.ref (He.fAd K ("columns_by", none)))
  f_look_for_twice : ∃ fd, FunD K "look_for_twice" "look_for_twice" (defArgs s_look_for_twice) (defBody s_look_for_twice) (defScope s_look_for_twice) [] [] (He.fAd K ("look_for_twice", none)) fd
  g_look_for_twice : mg "look_for_twice" = some (.ref (He.fAd K ("look_for_twice", none)))
  f_look_for_nowhere : ∃ fd, FunD K "look_for_nowhere" "look_for_nowhere" (defArgs s_look_for_nowhere) (defBody s_look_for_nowhere) (defScope s_look_for_nowhere) [] [] (He.fAd K ("look_for_nowhere", none)) fd
  g_look_for_nowhere : mg "look_for_nowhere" = some (.ref (He.fAd K ("look_for_nowhere", none)))
  f_sheets_of : ∃ fd, FunD K "sheets_of" "sheets_of" (defArgs s_sheets_of) (defBody s_sheets_of) (defScope s_sheets_of) [] [] (He.fAd K ("sheets_of", none)) fd
  g_sheets_of : mg "sheets_of" = some (.ref (He.fAd K ("sheets_of", none)))
  f_Plain_init : ∃ fd, FunD K "__init__" "Plain.__init__" (defArgs s_Plain_init) (defBody s_Plain_init) (defScope s_Plain_init) [L2.V.non] [] (He.fAd K ("Plain", some "__init__")) fd
  f_Plain_write : ∃ fd, FunD K "write" "Plain.write" (defArgs s_Plain_write) (defBody s_Plain_write) (defScope s_Plain_write) [] [] (He.fAd K ("Plain", some "write")) fd
  f_Plain_row : ∃ fd, FunD K "row" "Plain.row" (defArgs s_Plain_row) (defBody s_Plain_row) (defScope s_Plain_row) [L2.V.int 0] [] (He.fAd K ("Plain", some "row")) fd
  f_Plain_rows : ∃ fd, FunD K "rows" "Plain.rows" (defArgs s_Plain_rows) (defBody s_Plain_rows) (defScope s_Plain_rows) [] [] (He.fAd K ("Plain", some "rows")) fd
  f_Plain_piece : ∃ fd, FunD K "piece" "Plain.piece" (defArgs s_Plain_piece) (defBody s_Plain_piece) (defScope s_Plain_piece) [] [] (He.fAd K ("Plain", some "piece")) fd
  f_Plain_held : ∃ fd, FunD K "held" "Plain.held" (defArgs s_Plain_held) (defBody s_Plain_held) (defScope s_Plain_held) [] [] (He.fAd K ("Plain", some "held")) fd
  f_law_cell_at : ∃ fd, FunD K "_law_cell_at" "_law_cell_at" (defArgs s_law_cell_at) (defBody s_law_cell_at) (defScope s_law_cell_at) [] [] (He.fAd K ("_law_cell_at", none)) fd
  g_law_cell_at : mg "_law_cell_at" = some (.ref (He.fAd K ("_law_cell_at", none)))
  f_law_box : ∃ fd, FunD K "_law_box" "_law_box" (defArgs s_law_box) (defBody s_law_box) (defScope s_law_box) [] [] (He.fAd K ("_law_box", none)) fd
  g_law_box : mg "_law_box" = some (.ref (He.fAd K ("_law_box", none)))
  f_law_take : ∃ fd, FunD K "_law_take" "_law_take" (defArgs s_law_take) (defBody s_law_take) (defScope s_law_take) [] [] (He.fAd K ("_law_take", none)) fd
  g_law_take : mg "_law_take" = some (.ref (He.fAd K ("_law_take", none)))
  f_law_pick : ∃ fd, FunD K "_law_pick" "_law_pick" (defArgs s_law_pick) (defBody s_law_pick) (defScope s_law_pick) [] [] (He.fAd K ("_law_pick", none)) fd
  g_law_pick : mg "_law_pick" = some (.ref (He.fAd K ("_law_pick", none)))
  f_law_names : ∃ fd, FunD K "_law_names" "_law_names" (defArgs s_law_names) (defBody s_law_names) (defScope s_law_names) [] [] (He.fAd K ("_law_names", none)) fd
  g_law_names : mg "_law_names" = some (.ref (He.fAd K ("_law_names", none)))
  f_law_order : ∃ fd, FunD K "_law_order" "_law_order" (defArgs s_law_order) (defBody s_law_order) (defScope s_law_order) [] [] (He.fAd K ("_law_order", none)) fd
  g_law_order : mg "_law_order" = some (.ref (He.fAd K ("_law_order", none)))
  f_law_rows : ∃ fd, FunD K "_law_rows" "_law_rows" (defArgs s_law_rows) (defBody s_law_rows) (defScope s_law_rows) [] [] (He.fAd K ("_law_rows", none)) fd
  g_law_rows : mg "_law_rows" = some (.ref (He.fAd K ("_law_rows", none)))
  f_law_row : ∃ fd, FunD K "_law_row" "_law_row" (defArgs s_law_row) (defBody s_law_row) (defScope s_law_row) [] [] (He.fAd K ("_law_row", none)) fd
  g_law_row : mg "_law_row" = some (.ref (He.fAd K ("_law_row", none)))
  f_law_steps : ∃ fd, FunD K "_law_steps" "_law_steps" (defArgs s_law_steps) (defBody s_law_steps) (defScope s_law_steps) [] [] (He.fAd K ("_law_steps", none)) fd
  g_law_steps : mg "_law_steps" = some (.ref (He.fAd K ("_law_steps", none)))
  f_law_listed : ∃ fd, FunD K "_law_listed" "_law_listed" (defArgs s_law_listed) (defBody s_law_listed) (defScope s_law_listed) [] [] (He.fAd K ("_law_listed", none)) fd
  g_law_listed : mg "_law_listed" = some (.ref (He.fAd K ("_law_listed", none)))
  f_law_due : ∃ fd, FunD K "_law_due" "_law_due" (defArgs s_law_due) (defBody s_law_due) (defScope s_law_due) [] [] (He.fAd K ("_law_due", none)) fd
  g_law_due : mg "_law_due" = some (.ref (He.fAd K ("_law_due", none)))
  f_law_written : ∃ fd, FunD K "_law_written" "_law_written" (defArgs s_law_written) (defBody s_law_written) (defScope s_law_written) [] [] (He.fAd K ("_law_written", none)) fd
  g_law_written : mg "_law_written" = some (.ref (He.fAd K ("_law_written", none)))
  f_law_made : ∃ fd, FunD K "_law_made" "_law_made" (defArgs s_law_made) (defBody s_law_made) (defScope s_law_made) [] [] (He.fAd K ("_law_made", none)) fd
  g_law_made : mg "_law_made" = some (.ref (He.fAd K ("_law_made", none)))
  f_law_tells : ∃ fd, FunD K "_law_tells" "_law_tells" (defArgs s_law_tells) (defBody s_law_tells) (defScope s_law_tells) [] [] (He.fAd K ("_law_tells", none)) fd
  g_law_tells : mg "_law_tells" = some (.ref (He.fAd K ("_law_tells", none)))
  f_law_deed : ∃ fd, FunD K "_law_deed" "_law_deed" (defArgs s_law_deed) (defBody s_law_deed) (defScope s_law_deed) [] [] (He.fAd K ("_law_deed", none)) fd
  g_law_deed : mg "_law_deed" = some (.ref (He.fAd K ("_law_deed", none)))
  f_law : ∃ fd, FunD K "law" "law" (defArgs s_law) (defBody s_law) (defScope s_law) [] [] (He.fAd K ("law", none)) fd
  g_law : mg "law" = some (.ref (He.fAd K ("law", none)))
  g_Plain : mg "Plain" = some (.ref (He.ga K "Plain"))
  cl_Plain : Cls K (He.ga K "Plain")
  mk_Plain : Mk K (He.ga K "Plain") (He.fAd K ("Plain", some "__init__"))
  na_Plain_shape : NoAttr K (He.ga K "Plain") "shape"
  na_Plain_sheets : NoAttr K (He.ga K "Plain") "sheets"
  me_Plain_write : Meth K (He.ga K "Plain") "write" (He.fAd K ("Plain", some "write"))
  me_Plain_row : Meth K (He.ga K "Plain") "row" (He.fAd K ("Plain", some "row"))
  me_Plain_rows : Meth K (He.ga K "Plain") "rows" (He.fAd K ("Plain", some "rows"))
  me_Plain_piece : Meth K (He.ga K "Plain") "piece" (He.fAd K ("Plain", some "piece"))
  me_Plain_held : Meth K (He.ga K "Plain") "held" (He.fAd K ("Plain", some "held"))
  g_NoTable : mg "NoTable" = some (.ref (He.ga K "NoTable"))
  ox_NoTable : OexC K (He.ga K "NoTable")
  oi_NoTable : PySem.W.findIn K (.ref (He.ga K "NoTable")) "__init__" = some (some (.ref (He.fAd K ("StepError", some "__init__"))))
  ot_NoTable : PySem.W.typeIn K (.ref (He.fAd K ("StepError", some "__init__"))) = some (.type "function")
  xf_NoTable : XfC K (He.ga K "NoTable")
  xn_NoTable_table : PySem.W.findIn K (.ref (He.ga K "NoTable")) "table" = some none
  xn_NoTable_key : PySem.W.findIn K (.ref (He.ga K "NoTable")) "key" = some none
  xn_NoTable_place : PySem.W.findIn K (.ref (He.ga K "NoTable")) "place" = some none
  g_BadRow : mg "BadRow" = some (.ref (He.ga K "BadRow"))
  ox_BadRow : OexC K (He.ga K "BadRow")
  oi_BadRow : PySem.W.findIn K (.ref (He.ga K "BadRow")) "__init__" = some (some (.ref (He.fAd K ("StepError", some "__init__"))))
  ot_BadRow : PySem.W.typeIn K (.ref (He.fAd K ("StepError", some "__init__"))) = some (.type "function")
  xf_BadRow : XfC K (He.ga K "BadRow")
  xn_BadRow_table : PySem.W.findIn K (.ref (He.ga K "BadRow")) "table" = some none
  xn_BadRow_key : PySem.W.findIn K (.ref (He.ga K "BadRow")) "key" = some none
  xn_BadRow_place : PySem.W.findIn K (.ref (He.ga K "BadRow")) "place" = some none
  g_Taken : mg "Taken" = some (.ref (He.ga K "Taken"))
  ox_Taken : OexC K (He.ga K "Taken")
  oi_Taken : PySem.W.findIn K (.ref (He.ga K "Taken")) "__init__" = some (some (.ref (He.fAd K ("StepError", some "__init__"))))
  ot_Taken : PySem.W.typeIn K (.ref (He.fAd K ("StepError", some "__init__"))) = some (.type "function")
  xf_Taken : XfC K (He.ga K "Taken")
  xn_Taken_table : PySem.W.findIn K (.ref (He.ga K "Taken")) "table" = some none
  xn_Taken_key : PySem.W.findIn K (.ref (He.ga K "Taken")) "key" = some none
  xn_Taken_place : PySem.W.findIn K (.ref (He.ga K "Taken")) "place" = some none
  g_Missing : mg "Missing" = some (.ref (He.ga K "Missing"))
  ox_Missing : OexC K (He.ga K "Missing")
  oi_Missing : PySem.W.findIn K (.ref (He.ga K "Missing")) "__init__" = some (some (.ref (He.fAd K ("StepError", some "__init__"))))
  ot_Missing : PySem.W.typeIn K (.ref (He.fAd K ("StepError", some "__init__"))) = some (.type "function")
  xf_Missing : XfC K (He.ga K "Missing")
  xn_Missing_table : PySem.W.findIn K (.ref (He.ga K "Missing")) "table" = some none
  xn_Missing_key : PySem.W.findIn K (.ref (He.ga K "Missing")) "key" = some none
  xn_Missing_place : PySem.W.findIn K (.ref (He.ga K "Missing")) "place" = some none
  g_Lone : mg "Lone" = some (.ref (He.ga K "Lone"))
  ox_Lone : OexC K (He.ga K "Lone")
  oi_Lone : PySem.W.findIn K (.ref (He.ga K "Lone")) "__init__" = some (some (.ref (He.fAd K ("StepError", some "__init__"))))
  ot_Lone : PySem.W.typeIn K (.ref (He.fAd K ("StepError", some "__init__"))) = some (.type "function")
  xf_Lone : XfC K (He.ga K "Lone")
  xn_Lone_table : PySem.W.findIn K (.ref (He.ga K "Lone")) "table" = some none
  xn_Lone_key : PySem.W.findIn K (.ref (He.ga K "Lone")) "key" = some none
  xn_Lone_place : PySem.W.findIn K (.ref (He.ga K "Lone")) "place" = some none
  g_Gap : mg "Gap" = some (.ref (He.ga K "Gap"))
  ox_Gap : OexC K (He.ga K "Gap")
  oi_Gap : PySem.W.findIn K (.ref (He.ga K "Gap")) "__init__" = some (some (.ref (He.fAd K ("StepError", some "__init__"))))
  ot_Gap : PySem.W.typeIn K (.ref (He.fAd K ("StepError", some "__init__"))) = some (.type "function")
  xf_Gap : XfC K (He.ga K "Gap")
  xn_Gap_table : PySem.W.findIn K (.ref (He.ga K "Gap")) "table" = some none
  xn_Gap_key : PySem.W.findIn K (.ref (He.ga K "Gap")) "key" = some none
  xn_Gap_place : PySem.W.findIn K (.ref (He.ga K "Gap")) "place" = some none
  g_Twice : mg "Twice" = some (.ref (He.ga K "Twice"))
  ox_Twice : OexC K (He.ga K "Twice")
  oi_Twice : PySem.W.findIn K (.ref (He.ga K "Twice")) "__init__" = some (some (.ref (He.fAd K ("StepError", some "__init__"))))
  ot_Twice : PySem.W.typeIn K (.ref (He.fAd K ("StepError", some "__init__"))) = some (.type "function")
  xf_Twice : XfC K (He.ga K "Twice")
  xn_Twice_table : PySem.W.findIn K (.ref (He.ga K "Twice")) "table" = some none
  xn_Twice_key : PySem.W.findIn K (.ref (He.ga K "Twice")) "key" = some none
  xn_Twice_place : PySem.W.findIn K (.ref (He.ga K "Twice")) "place" = some none
  g_Nowhere : mg "Nowhere" = some (.ref (He.ga K "Nowhere"))
  ox_Nowhere : OexC K (He.ga K "Nowhere")
  oi_Nowhere : PySem.W.findIn K (.ref (He.ga K "Nowhere")) "__init__" = some (some (.ref (He.fAd K ("StepError", some "__init__"))))
  ot_Nowhere : PySem.W.typeIn K (.ref (He.fAd K ("StepError", some "__init__"))) = some (.type "function")
  xf_Nowhere : XfC K (He.ga K "Nowhere")
  xn_Nowhere_table : PySem.W.findIn K (.ref (He.ga K "Nowhere")) "table" = some none
  xn_Nowhere_key : PySem.W.findIn K (.ref (He.ga K "Nowhere")) "key" = some none
  xn_Nowhere_place : PySem.W.findIn K (.ref (He.ga K "Nowhere")) "place" = some none
  em_NoTable_Nowhere : PySem.W.exmOne K (.ref (He.ga K "NoTable")) (.ref (He.ga K "Nowhere")) = some false
  em_NoTable_Twice : PySem.W.exmOne K (.ref (He.ga K "NoTable")) (.ref (He.ga K "Twice")) = some false
  em_BadRow_Nowhere : PySem.W.exmOne K (.ref (He.ga K "BadRow")) (.ref (He.ga K "Nowhere")) = some false
  em_BadRow_Twice : PySem.W.exmOne K (.ref (He.ga K "BadRow")) (.ref (He.ga K "Twice")) = some false
  em_Taken_Nowhere : PySem.W.exmOne K (.ref (He.ga K "Taken")) (.ref (He.ga K "Nowhere")) = some false
  em_Taken_Twice : PySem.W.exmOne K (.ref (He.ga K "Taken")) (.ref (He.ga K "Twice")) = some false
  em_Missing_Nowhere : PySem.W.exmOne K (.ref (He.ga K "Missing")) (.ref (He.ga K "Nowhere")) = some false
  em_Missing_Twice : PySem.W.exmOne K (.ref (He.ga K "Missing")) (.ref (He.ga K "Twice")) = some false
  em_Lone_Nowhere : PySem.W.exmOne K (.ref (He.ga K "Lone")) (.ref (He.ga K "Nowhere")) = some false
  em_Lone_Twice : PySem.W.exmOne K (.ref (He.ga K "Lone")) (.ref (He.ga K "Twice")) = some false
  em_Gap_Nowhere : PySem.W.exmOne K (.ref (He.ga K "Gap")) (.ref (He.ga K "Nowhere")) = some false
  em_Gap_Twice : PySem.W.exmOne K (.ref (He.ga K "Gap")) (.ref (He.ga K "Twice")) = some false
  em_Twice_Nowhere : PySem.W.exmOne K (.ref (He.ga K "Twice")) (.ref (He.ga K "Nowhere")) = some false
  em_Twice_Twice : PySem.W.exmOne K (.ref (He.ga K "Twice")) (.ref (He.ga K "Twice")) = some true
  em_Nowhere_Nowhere : PySem.W.exmOne K (.ref (He.ga K "Nowhere")) (.ref (He.ga K "Nowhere")) = some true
  em_Nowhere_Twice : PySem.W.exmOne K (.ref (He.ga K "Nowhere")) (.ref (He.ga K "Twice")) = some false
end Lw

set_option Elab.async false
set_option linter.all false
set_option maxRecDepth 100000
set_option maxHeartbeats 4000000
namespace Lw
open PySem PySem.Spec PyProof.Rows L2
def dd_StepError_init : He.DefD := ⟨("StepError", some "__init__"), "__init__", "StepError.__init__", defArgs s_StepError_init, defBody s_StepError_init, defScope s_StepError_init, [], []⟩
def dd_is_whole : He.DefD := ⟨("is_whole", none), "is_whole", "is_whole", defArgs s_is_whole, defBody s_is_whole, defScope s_is_whole, [], []⟩
def dd_fits_plain : He.DefD := ⟨("fits_plain", none), "fits_plain", "fits_plain", defArgs s_fits_plain, defBody s_fits_plain, defScope s_fits_plain, [], []⟩
def dd_fits_each : He.DefD := ⟨("fits_each", none), "fits_each", "fits_each", defArgs s_fits_each, defBody s_fits_each, defScope s_fits_each, [], []⟩
def dd_fits : He.DefD := ⟨("fits", none), "fits", "fits", defArgs s_fits, defBody s_fits, defScope s_fits, [], []⟩
def dd_table_at : He.DefD := ⟨("table_at", none), "table_at", "table_at", defArgs s_table_at, defBody s_table_at, defScope s_table_at, [], []⟩
def dd_tables_of : He.DefD := ⟨("tables_of", none), "tables_of", "tables_of", defArgs s_tables_of, defBody s_tables_of, defScope s_tables_of, [], []⟩
def dd_head_of : He.DefD := ⟨("head_of", none), "head_of", "head_of", defArgs s_head_of, defBody s_head_of, defScope s_head_of, [], []⟩
def dd_sort_of : He.DefD := ⟨("sort_of", none), "sort_of", "sort_of", defArgs s_sort_of, defBody s_sort_of, defScope s_sort_of, [], []⟩
def dd_columns_of : He.DefD := ⟨("columns_of", none), "columns_of", "columns_of", defArgs s_columns_of, defBody s_columns_of, defScope s_columns_of, [], []⟩
def dd_fits_columns : He.DefD := ⟨("fits_columns", none), "fits_columns", "fits_columns", defArgs s_fits_columns, defBody s_fits_columns, defScope s_fits_columns, [], []⟩
def dd_is_row : He.DefD := ⟨("is_row", none), "is_row", "is_row", defArgs s_is_row, defBody s_is_row, defScope s_is_row, [], []⟩
def dd_spot_fits : He.DefD := ⟨("spot_fits", none), "spot_fits", "spot_fits", defArgs s_spot_fits, defBody s_spot_fits, defScope s_spot_fits, [], []⟩
def dd_step_fits : He.DefD := ⟨("step_fits", none), "step_fits", "step_fits", defArgs s_step_fits, defBody s_step_fits, defScope s_step_fits, [], []⟩
def dd_do_step : He.DefD := ⟨("do_step", none), "do_step", "do_step", defArgs s_do_step, defBody s_do_step, defScope s_do_step, [], []⟩
def dd_places_of : He.DefD := ⟨("places_of", none), "places_of", "places_of", defArgs s_places_of, defBody s_places_of, defScope s_places_of, [], []⟩
def dd_look_at_places : He.DefD := ⟨("look_at_places", none), "look_at_places", "look_at_places", defArgs s_look_at_places, defBody s_look_at_places, defScope s_look_at_places, [], []⟩
def dd_look_at_thing : He.DefD := ⟨("look_at_thing", none), "look_at_thing", "look_at_thing", defArgs s_look_at_thing, defBody s_look_at_thing, defScope s_look_at_thing, [], []⟩
def dd_columns_by : He.DefD := ⟨("columns_by", none), "columns_by", "columns_by", defArgs s_columns_by, defBody s_columns_by, defScope s_columns_by, [], []⟩
def dd_look_for_twice : He.DefD := ⟨("look_for_twice", none), "look_for_twice", "look_for_twice", defArgs s_look_for_twice, defBody s_look_for_twice, defScope s_look_for_twice, [], []⟩
def dd_look_for_nowhere : He.DefD := ⟨("look_for_nowhere", none), "look_for_nowhere", "look_for_nowhere", defArgs s_look_for_nowhere, defBody s_look_for_nowhere, defScope s_look_for_nowhere, [], []⟩
def dd_sheets_of : He.DefD := ⟨("sheets_of", none), "sheets_of", "sheets_of", defArgs s_sheets_of, defBody s_sheets_of, defScope s_sheets_of, [], []⟩
def dd_Plain_init : He.DefD := ⟨("Plain", some "__init__"), "__init__", "Plain.__init__", defArgs s_Plain_init, defBody s_Plain_init, defScope s_Plain_init, [He.Dv.non], []⟩
def dd_Plain_write : He.DefD := ⟨("Plain", some "write"), "write", "Plain.write", defArgs s_Plain_write, defBody s_Plain_write, defScope s_Plain_write, [], []⟩
def dd_Plain_row : He.DefD := ⟨("Plain", some "row"), "row", "Plain.row", defArgs s_Plain_row, defBody s_Plain_row, defScope s_Plain_row, [He.Dv.int 0], []⟩
def dd_Plain_rows : He.DefD := ⟨("Plain", some "rows"), "rows", "Plain.rows", defArgs s_Plain_rows, defBody s_Plain_rows, defScope s_Plain_rows, [], []⟩
def dd_Plain_piece : He.DefD := ⟨("Plain", some "piece"), "piece", "Plain.piece", defArgs s_Plain_piece, defBody s_Plain_piece, defScope s_Plain_piece, [], []⟩
def dd_Plain_held : He.DefD := ⟨("Plain", some "held"), "held", "Plain.held", defArgs s_Plain_held, defBody s_Plain_held, defScope s_Plain_held, [], []⟩
def dd_law_cell_at : He.DefD := ⟨("_law_cell_at", none), "_law_cell_at", "_law_cell_at", defArgs s_law_cell_at, defBody s_law_cell_at, defScope s_law_cell_at, [], []⟩
def dd_law_box : He.DefD := ⟨("_law_box", none), "_law_box", "_law_box", defArgs s_law_box, defBody s_law_box, defScope s_law_box, [], []⟩
def dd_law_take : He.DefD := ⟨("_law_take", none), "_law_take", "_law_take", defArgs s_law_take, defBody s_law_take, defScope s_law_take, [], []⟩
def dd_law_pick : He.DefD := ⟨("_law_pick", none), "_law_pick", "_law_pick", defArgs s_law_pick, defBody s_law_pick, defScope s_law_pick, [], []⟩
def dd_law_names : He.DefD := ⟨("_law_names", none), "_law_names", "_law_names", defArgs s_law_names, defBody s_law_names, defScope s_law_names, [], []⟩
def dd_law_order : He.DefD := ⟨("_law_order", none), "_law_order", "_law_order", defArgs s_law_order, defBody s_law_order, defScope s_law_order, [], []⟩
def dd_law_rows : He.DefD := ⟨("_law_rows", none), "_law_rows", "_law_rows", defArgs s_law_rows, defBody s_law_rows, defScope s_law_rows, [], []⟩
def dd_law_row : He.DefD := ⟨("_law_row", none), "_law_row", "_law_row", defArgs s_law_row, defBody s_law_row, defScope s_law_row, [], []⟩
def dd_law_steps : He.DefD := ⟨("_law_steps", none), "_law_steps", "_law_steps", defArgs s_law_steps, defBody s_law_steps, defScope s_law_steps, [], []⟩
def dd_law_listed : He.DefD := ⟨("_law_listed", none), "_law_listed", "_law_listed", defArgs s_law_listed, defBody s_law_listed, defScope s_law_listed, [], []⟩
def dd_law_due : He.DefD := ⟨("_law_due", none), "_law_due", "_law_due", defArgs s_law_due, defBody s_law_due, defScope s_law_due, [], []⟩
def dd_law_written : He.DefD := ⟨("_law_written", none), "_law_written", "_law_written", defArgs s_law_written, defBody s_law_written, defScope s_law_written, [], []⟩
def dd_law_made : He.DefD := ⟨("_law_made", none), "_law_made", "_law_made", defArgs s_law_made, defBody s_law_made, defScope s_law_made, [], []⟩
def dd_law_tells : He.DefD := ⟨("_law_tells", none), "_law_tells", "_law_tells", defArgs s_law_tells, defBody s_law_tells, defScope s_law_tells, [], []⟩
def dd_law_deed : He.DefD := ⟨("_law_deed", none), "_law_deed", "_law_deed", defArgs s_law_deed, defBody s_law_deed, defScope s_law_deed, [], []⟩
def dd_law : He.DefD := ⟨("law", none), "law", "law", defArgs s_law, defBody s_law, defScope s_law, [], []⟩
def fn : List He.DefD := ([dd_StepError_init, dd_is_whole, dd_fits_plain, dd_fits_each, dd_fits, dd_table_at, dd_tables_of, dd_head_of] : List He.DefD) ++ ([dd_sort_of, dd_columns_of, dd_fits_columns, dd_is_row, dd_spot_fits, dd_step_fits, dd_do_step, dd_places_of] : List He.DefD) ++ ([dd_look_at_places, dd_look_at_thing, dd_columns_by, dd_look_for_twice, dd_look_for_nowhere, dd_sheets_of, dd_Plain_init, dd_Plain_write] : List He.DefD) ++ ([dd_Plain_row, dd_Plain_rows, dd_Plain_piece, dd_Plain_held, dd_law_cell_at, dd_law_box, dd_law_take, dd_law_pick] : List He.DefD) ++ ([dd_law_names, dd_law_order, dd_law_rows, dd_law_row, dd_law_steps, dd_law_listed, dd_law_due, dd_law_written] : List He.DefD) ++ ([dd_law_made, dd_law_tells, dd_law_deed, dd_law] : List He.DefD)
def fa : List He.Fa := ([.free "len", .free "range", .free "isinstance", .free "sorted", .free "dict", .free "list", .free "tuple", .free "int"] : List He.Fa) ++ ([.free "str", .free "bool", .free "enumerate", .free "zip", .free "sum", .free "max", .free "min", .glo "is_whole"] : List He.Fa) ++ ([.glo "fits_plain", .glo "fits_each", .glo "fits", .glo "table_at", .glo "tables_of", .glo "head_of", .glo "sort_of", .glo "columns_of"] : List He.Fa) ++ ([.glo "fits_columns", .glo "is_row", .glo "spot_fits", .glo "step_fits", .glo "do_step", .glo "places_of", .glo "look_at_places", .glo "look_at_thing"] : List He.Fa) ++ ([.glo "columns_by", .glo "look_for_twice", .glo "look_for_nowhere", .glo "sheets_of", .glo "_law_cell_at", .glo "_law_box", .glo "_law_take", .glo "_law_pick"] : List He.Fa) ++ ([.glo "_law_names", .glo "_law_order", .glo "_law_rows", .glo "_law_row", .glo "_law_steps", .glo "_law_listed", .glo "_law_due", .glo "_law_written"] : List He.Fa) ++ ([.glo "_law_made", .glo "_law_tells", .glo "_law_deed", .glo "law", .glo "Plain", .cls "Plain", .mkr "Plain", .noat "Plain" "shape"] : List He.Fa) ++ ([.noat "Plain" "sheets", .meth "Plain" "write", .meth "Plain" "row", .meth "Plain" "rows", .meth "Plain" "piece", .meth "Plain" "held", .glo "NoTable", .glo "BadRow"] : List He.Fa) ++ ([.glo "Taken", .glo "Missing", .glo "Lone", .glo "Gap", .glo "Twice", .glo "Nowhere", .exm "NoTable" "Nowhere" false, .exm "NoTable" "Twice" false] : List He.Fa) ++ ([.exm "BadRow" "Nowhere" false, .exm "BadRow" "Twice" false, .exm "Taken" "Nowhere" false, .exm "Taken" "Twice" false, .exm "Missing" "Nowhere" false, .exm "Missing" "Twice" false, .exm "Lone" "Nowhere" false, .exm "Lone" "Twice" false] : List He.Fa) ++ ([.exm "Gap" "Nowhere" false, .exm "Gap" "Twice" false, .exm "Twice" "Nowhere" false, .exm "Twice" "Twice" true, .exm "Nowhere" "Nowhere" true, .exm "Nowhere" "Twice" false] : List He.Fa)
def exL (K : PySem.W.Frag) : List Bool := ([oexB K (He.ga K "NoTable"), decide (PySem.W.findIn K (.ref (He.ga K "NoTable")) "__init__" = some (some (.ref (He.fAd K ("StepError", some "__init__"))))), decide (PySem.W.typeIn K (.ref (He.fAd K ("StepError", some "__init__"))) = some (.type "function")), xfB K (He.ga K "NoTable"), decide (PySem.W.findIn K (.ref (He.ga K "NoTable")) "table" = some none), decide (PySem.W.findIn K (.ref (He.ga K "NoTable")) "key" = some none)] : List Bool) ++ ([decide (PySem.W.findIn K (.ref (He.ga K "NoTable")) "place" = some none), oexB K (He.ga K "BadRow"), decide (PySem.W.findIn K (.ref (He.ga K "BadRow")) "__init__" = some (some (.ref (He.fAd K ("StepError", some "__init__"))))), decide (PySem.W.typeIn K (.ref (He.fAd K ("StepError", some "__init__"))) = some (.type "function")), xfB K (He.ga K "BadRow"), decide (PySem.W.findIn K (.ref (He.ga K "BadRow")) "table" = some none)] : List Bool) ++ ([decide (PySem.W.findIn K (.ref (He.ga K "BadRow")) "key" = some none), decide (PySem.W.findIn K (.ref (He.ga K "BadRow")) "place" = some none), oexB K (He.ga K "Taken"), decide (PySem.W.findIn K (.ref (He.ga K "Taken")) "__init__" = some (some (.ref (He.fAd K ("StepError", some "__init__"))))), decide (PySem.W.typeIn K (.ref (He.fAd K ("StepError", some "__init__"))) = some (.type "function")), xfB K (He.ga K "Taken")] : List Bool) ++ ([decide (PySem.W.findIn K (.ref (He.ga K "Taken")) "table" = some none), decide (PySem.W.findIn K (.ref (He.ga K "Taken")) "key" = some none), decide (PySem.W.findIn K (.ref (He.ga K "Taken")) "place" = some none), oexB K (He.ga K "Missing"), decide (PySem.W.findIn K (.ref (He.ga K "Missing")) "__init__" = some (some (.ref (He.fAd K ("StepError", some "__init__"))))), decide (PySem.W.typeIn K (.ref (He.fAd K ("StepError", some "__init__"))) = some (.type "function"))] : List Bool) ++ ([xfB K (He.ga K "Missing"), decide (PySem.W.findIn K (.ref (He.ga K "Missing")) "table" = some none), decide (PySem.W.findIn K (.ref (He.ga K "Missing")) "key" = some none), decide (PySem.W.findIn K (.ref (He.ga K "Missing")) "place" = some none), oexB K (He.ga K "Lone"), decide (PySem.W.findIn K (.ref (He.ga K "Lone")) "__init__" = some (some (.ref (He.fAd K ("StepError", some "__init__")))))] : List Bool) ++ ([decide (PySem.W.typeIn K (.ref (He.fAd K ("StepError", some "__init__"))) = some (.type "function")), xfB K (He.ga K "Lone"), decide (PySem.W.findIn K (.ref (He.ga K "Lone")) "table" = some none), decide (PySem.W.findIn K (.ref (He.ga K "Lone")) "key" = some none), decide (PySem.W.findIn K (.ref (He.ga K "Lone")) "place" = some none), oexB K (He.ga K "Gap")] : List Bool) ++ ([decide (PySem.W.findIn K (.ref (He.ga K "Gap")) "__init__" = some (some (.ref (He.fAd K ("StepError", some "__init__"))))), decide (PySem.W.typeIn K (.ref (He.fAd K ("StepError", some "__init__"))) = some (.type "function")), xfB K (He.ga K "Gap"), decide (PySem.W.findIn K (.ref (He.ga K "Gap")) "table" = some none), decide (PySem.W.findIn K (.ref (He.ga K "Gap")) "key" = some none), decide (PySem.W.findIn K (.ref (He.ga K "Gap")) "place" = some none)] : List Bool) ++ ([oexB K (He.ga K "Twice"), decide (PySem.W.findIn K (.ref (He.ga K "Twice")) "__init__" = some (some (.ref (He.fAd K ("StepError", some "__init__"))))), decide (PySem.W.typeIn K (.ref (He.fAd K ("StepError", some "__init__"))) = some (.type "function")), xfB K (He.ga K "Twice"), decide (PySem.W.findIn K (.ref (He.ga K "Twice")) "table" = some none), decide (PySem.W.findIn K (.ref (He.ga K "Twice")) "key" = some none)] : List Bool) ++ ([decide (PySem.W.findIn K (.ref (He.ga K "Twice")) "place" = some none), oexB K (He.ga K "Nowhere"), decide (PySem.W.findIn K (.ref (He.ga K "Nowhere")) "__init__" = some (some (.ref (He.fAd K ("StepError", some "__init__"))))), decide (PySem.W.typeIn K (.ref (He.fAd K ("StepError", some "__init__"))) = some (.type "function")), xfB K (He.ga K "Nowhere"), decide (PySem.W.findIn K (.ref (He.ga K "Nowhere")) "table" = some none)] : List Bool) ++ ([decide (PySem.W.findIn K (.ref (He.ga K "Nowhere")) "key" = some none), decide (PySem.W.findIn K (.ref (He.ga K "Nowhere")) "place" = some none)] : List Bool)
def exB (K : PySem.W.Frag) : Bool := (exL K).all id
theorem exAt {K : PySem.W.Frag} (m : exB K = true) (i : Nat) {b : Bool} (e : (exL K)[i]? = some b) : b = true := List.all_eq_true.mp m b (List.mem_of_getElem? e)
abbrev R : PySem.W.OpenRow := PySem.W.OpenLaw.row PySem.Challenge.rw_halfmoved_k13_rows_out_of_order
abbrev hk : PySem.W.Hook := He.hookX 5 fa fn [] [] exB
def ob (s : PySem.W.SharedT) : He.AlX := He.obsX 5 fa fn [] [] exB (HandSHeadRun.getT s)
theorem ob_eq (s : PySem.W.SharedT) : ob s = hk.obs s.abs := He.obsX_eq (HandSHeadRun.getT_eq s)
def names : List PySem.Str := (["TableError", "StepError", "NoTable", "BadRow", "Taken", "Missing", "Lone", "Gap"] : List PySem.Str) ++ (["Twice", "Nowhere", "is_whole", "fits_plain", "fits_each", "fits", "table_at", "tables_of"] : List PySem.Str) ++ (["head_of", "sort_of", "columns_of", "fits_columns", "is_row", "spot_fits", "step_fits", "do_step"] : List PySem.Str) ++ (["places_of", "look_at_places", "look_at_thing", "columns_by", "look_for_twice", "look_for_nowhere", "sheets_of", "Plain"] : List PySem.Str) ++ (["_law_cell_at", "_law_box", "_law_take", "_law_pick", "_law_names", "_law_order", "_law_rows", "_law_row"] : List PySem.Str) ++ (["_law_steps", "_law_listed", "_law_due", "_law_written", "_law_made", "_law_tells", "_law_deed"] : List PySem.Str)
theorem run (w : World) : HandSHeadRun.RunEq R (PySem.W.view R.prog [52]) hk ob 6000 names w := by
  intro os
  kernel_rfl
theorem tx_of {K : PySem.W.Frag} {h : Heap} {mg : Str → Option Value} {w : World} (X : K.In h) (G : h.Ns mainGlobals mg) (c : He.SaysX fa fn [] [] exB w h K) : Tx K mg := by
  have d := c.t.d
  have m := c.more
  exact {
    b_len := He.free_ok X G (d.fact 0 (f := .free "len") rfl)
    b_range := He.free_ok X G (d.fact 1 (f := .free "range") rfl)
    b_isinstance := He.free_ok X G (d.fact 2 (f := .free "isinstance") rfl)
    b_sorted := He.free_ok X G (d.fact 3 (f := .free "sorted") rfl)
    b_dict := He.free_ok X G (d.fact 4 (f := .free "dict") rfl)
    b_list := He.free_ok X G (d.fact 5 (f := .free "list") rfl)
    b_tuple := He.free_ok X G (d.fact 6 (f := .free "tuple") rfl)
    b_int := He.free_ok X G (d.fact 7 (f := .free "int") rfl)
    b_str := He.free_ok X G (d.fact 8 (f := .free "str") rfl)
    b_bool := He.free_ok X G (d.fact 9 (f := .free "bool") rfl)
    b_enumerate := He.free_ok X G (d.fact 10 (f := .free "enumerate") rfl)
    b_zip := He.free_ok X G (d.fact 11 (f := .free "zip") rfl)
    b_sum := He.free_ok X G (d.fact 12 (f := .free "sum") rfl)
    b_max := He.free_ok X G (d.fact 13 (f := .free "max") rfl)
    b_min := He.free_ok X G (d.fact 14 (f := .free "min") rfl)
    f_StepError_init := d.def_ 0 (d := dd_StepError_init) rfl
    f_is_whole := d.def_ 1 (d := dd_is_whole) rfl
    g_is_whole := He.glo_ok X G (d.fact 15 (f := .glo "is_whole") rfl)
    f_fits_plain := d.def_ 2 (d := dd_fits_plain) rfl
    g_fits_plain := He.glo_ok X G (d.fact 16 (f := .glo "fits_plain") rfl)
    f_fits_each := d.def_ 3 (d := dd_fits_each) rfl
    g_fits_each := He.glo_ok X G (d.fact 17 (f := .glo "fits_each") rfl)
    f_fits := d.def_ 4 (d := dd_fits) rfl
    g_fits := He.glo_ok X G (d.fact 18 (f := .glo "fits") rfl)
    f_table_at := d.def_ 5 (d := dd_table_at) rfl
    g_table_at := He.glo_ok X G (d.fact 19 (f := .glo "table_at") rfl)
    f_tables_of := d.def_ 6 (d := dd_tables_of) rfl
    g_tables_of := He.glo_ok X G (d.fact 20 (f := .glo "tables_of") rfl)
    f_head_of := d.def_ 7 (d := dd_head_of) rfl
    g_head_of := He.glo_ok X G (d.fact 21 (f := .glo "head_of") rfl)
    f_sort_of := d.def_ 8 (d := dd_sort_of) rfl
    g_sort_of := He.glo_ok X G (d.fact 22 (f := .glo "sort_of") rfl)
    f_columns_of := d.def_ 9 (d := dd_columns_of) rfl
    g_columns_of := He.glo_ok X G (d.fact 23 (f := .glo "columns_of") rfl)
    f_fits_columns := d.def_ 10 (d := dd_fits_columns) rfl
    g_fits_columns := He.glo_ok X G (d.fact 24 (f := .glo "fits_columns") rfl)
    f_is_row := d.def_ 11 (d := dd_is_row) rfl
    g_is_row := He.glo_ok X G (d.fact 25 (f := .glo "is_row") rfl)
    f_spot_fits := d.def_ 12 (d := dd_spot_fits) rfl
    g_spot_fits := He.glo_ok X G (d.fact 26 (f := .glo "spot_fits") rfl)
    f_step_fits := d.def_ 13 (d := dd_step_fits) rfl
    g_step_fits := He.glo_ok X G (d.fact 27 (f := .glo "step_fits") rfl)
    f_do_step := d.def_ 14 (d := dd_do_step) rfl
    g_do_step := He.glo_ok X G (d.fact 28 (f := .glo "do_step") rfl)
    f_places_of := d.def_ 15 (d := dd_places_of) rfl
    g_places_of := He.glo_ok X G (d.fact 29 (f := .glo "places_of") rfl)
    f_look_at_places := d.def_ 16 (d := dd_look_at_places) rfl
    g_look_at_places := He.glo_ok X G (d.fact 30 (f := .glo "look_at_places") rfl)
    f_look_at_thing := d.def_ 17 (d := dd_look_at_thing) rfl
    g_look_at_thing := He.glo_ok X G (d.fact 31 (f := .glo "look_at_thing") rfl)
    f_columns_by := d.def_ 18 (d := dd_columns_by) rfl
    g_columns_by := He.glo_ok X G (d.fact 32 (f := .glo "columns_by") rfl)
    f_look_for_twice := d.def_ 19 (d := dd_look_for_twice) rfl
    g_look_for_twice := He.glo_ok X G (d.fact 33 (f := .glo "look_for_twice") rfl)
    f_look_for_nowhere := d.def_ 20 (d := dd_look_for_nowhere) rfl
    g_look_for_nowhere := He.glo_ok X G (d.fact 34 (f := .glo "look_for_nowhere") rfl)
    f_sheets_of := d.def_ 21 (d := dd_sheets_of) rfl
    g_sheets_of := He.glo_ok X G (d.fact 35 (f := .glo "sheets_of") rfl)
    f_Plain_init := d.def_ 22 (d := dd_Plain_init) rfl
    f_Plain_write := d.def_ 23 (d := dd_Plain_write) rfl
    f_Plain_row := d.def_ 24 (d := dd_Plain_row) rfl
    f_Plain_rows := d.def_ 25 (d := dd_Plain_rows) rfl
    f_Plain_piece := d.def_ 26 (d := dd_Plain_piece) rfl
    f_Plain_held := d.def_ 27 (d := dd_Plain_held) rfl
    f_law_cell_at := d.def_ 28 (d := dd_law_cell_at) rfl
    g_law_cell_at := He.glo_ok X G (d.fact 36 (f := .glo "_law_cell_at") rfl)
    f_law_box := d.def_ 29 (d := dd_law_box) rfl
    g_law_box := He.glo_ok X G (d.fact 37 (f := .glo "_law_box") rfl)
    f_law_take := d.def_ 30 (d := dd_law_take) rfl
    g_law_take := He.glo_ok X G (d.fact 38 (f := .glo "_law_take") rfl)
    f_law_pick := d.def_ 31 (d := dd_law_pick) rfl
    g_law_pick := He.glo_ok X G (d.fact 39 (f := .glo "_law_pick") rfl)
    f_law_names := d.def_ 32 (d := dd_law_names) rfl
    g_law_names := He.glo_ok X G (d.fact 40 (f := .glo "_law_names") rfl)
    f_law_order := d.def_ 33 (d := dd_law_order) rfl
    g_law_order := He.glo_ok X G (d.fact 41 (f := .glo "_law_order") rfl)
    f_law_rows := d.def_ 34 (d := dd_law_rows) rfl
    g_law_rows := He.glo_ok X G (d.fact 42 (f := .glo "_law_rows") rfl)
    f_law_row := d.def_ 35 (d := dd_law_row) rfl
    g_law_row := He.glo_ok X G (d.fact 43 (f := .glo "_law_row") rfl)
    f_law_steps := d.def_ 36 (d := dd_law_steps) rfl
    g_law_steps := He.glo_ok X G (d.fact 44 (f := .glo "_law_steps") rfl)
    f_law_listed := d.def_ 37 (d := dd_law_listed) rfl
    g_law_listed := He.glo_ok X G (d.fact 45 (f := .glo "_law_listed") rfl)
    f_law_due := d.def_ 38 (d := dd_law_due) rfl
    g_law_due := He.glo_ok X G (d.fact 46 (f := .glo "_law_due") rfl)
    f_law_written := d.def_ 39 (d := dd_law_written) rfl
    g_law_written := He.glo_ok X G (d.fact 47 (f := .glo "_law_written") rfl)
    f_law_made := d.def_ 40 (d := dd_law_made) rfl
    g_law_made := He.glo_ok X G (d.fact 48 (f := .glo "_law_made") rfl)
    f_law_tells := d.def_ 41 (d := dd_law_tells) rfl
    g_law_tells := He.glo_ok X G (d.fact 49 (f := .glo "_law_tells") rfl)
    f_law_deed := d.def_ 42 (d := dd_law_deed) rfl
    g_law_deed := He.glo_ok X G (d.fact 50 (f := .glo "_law_deed") rfl)
    f_law := d.def_ 43 (d := dd_law) rfl
    g_law := He.glo_ok X G (d.fact 51 (f := .glo "law") rfl)
    g_Plain := He.glo_ok X G (d.fact 52 (f := .glo "Plain") rfl)
    cl_Plain := He.cls_ok (d.fact 53 (f := .cls "Plain") rfl)
    mk_Plain := He.mkr_ok (d.fact 54 (f := .mkr "Plain") rfl)
    na_Plain_shape := He.noat_ok (d.fact 55 (f := .noat "Plain" "shape") rfl)
    na_Plain_sheets := He.noat_ok (d.fact 56 (f := .noat "Plain" "sheets") rfl)
    me_Plain_write := He.meth_ok (d.fact 57 (f := .meth "Plain" "write") rfl)
    me_Plain_row := He.meth_ok (d.fact 58 (f := .meth "Plain" "row") rfl)
    me_Plain_rows := He.meth_ok (d.fact 59 (f := .meth "Plain" "rows") rfl)
    me_Plain_piece := He.meth_ok (d.fact 60 (f := .meth "Plain" "piece") rfl)
    me_Plain_held := He.meth_ok (d.fact 61 (f := .meth "Plain" "held") rfl)
    g_NoTable := He.glo_ok X G (d.fact 62 (f := .glo "NoTable") rfl)
    ox_NoTable := oexB_ok (exAt m 0 rfl)
    oi_NoTable := of_decide_eq_true (exAt m 1 rfl)
    ot_NoTable := of_decide_eq_true (exAt m 2 rfl)
    xf_NoTable := xfB_ok (exAt m 3 rfl)
    xn_NoTable_table := of_decide_eq_true (exAt m 4 rfl)
    xn_NoTable_key := of_decide_eq_true (exAt m 5 rfl)
    xn_NoTable_place := of_decide_eq_true (exAt m 6 rfl)
    g_BadRow := He.glo_ok X G (d.fact 63 (f := .glo "BadRow") rfl)
    ox_BadRow := oexB_ok (exAt m 7 rfl)
    oi_BadRow := of_decide_eq_true (exAt m 8 rfl)
    ot_BadRow := of_decide_eq_true (exAt m 9 rfl)
    xf_BadRow := xfB_ok (exAt m 10 rfl)
    xn_BadRow_table := of_decide_eq_true (exAt m 11 rfl)
    xn_BadRow_key := of_decide_eq_true (exAt m 12 rfl)
    xn_BadRow_place := of_decide_eq_true (exAt m 13 rfl)
    g_Taken := He.glo_ok X G (d.fact 64 (f := .glo "Taken") rfl)
    ox_Taken := oexB_ok (exAt m 14 rfl)
    oi_Taken := of_decide_eq_true (exAt m 15 rfl)
    ot_Taken := of_decide_eq_true (exAt m 16 rfl)
    xf_Taken := xfB_ok (exAt m 17 rfl)
    xn_Taken_table := of_decide_eq_true (exAt m 18 rfl)
    xn_Taken_key := of_decide_eq_true (exAt m 19 rfl)
    xn_Taken_place := of_decide_eq_true (exAt m 20 rfl)
    g_Missing := He.glo_ok X G (d.fact 65 (f := .glo "Missing") rfl)
    ox_Missing := oexB_ok (exAt m 21 rfl)
    oi_Missing := of_decide_eq_true (exAt m 22 rfl)
    ot_Missing := of_decide_eq_true (exAt m 23 rfl)
    xf_Missing := xfB_ok (exAt m 24 rfl)
    xn_Missing_table := of_decide_eq_true (exAt m 25 rfl)
    xn_Missing_key := of_decide_eq_true (exAt m 26 rfl)
    xn_Missing_place := of_decide_eq_true (exAt m 27 rfl)
    g_Lone := He.glo_ok X G (d.fact 66 (f := .glo "Lone") rfl)
    ox_Lone := oexB_ok (exAt m 28 rfl)
    oi_Lone := of_decide_eq_true (exAt m 29 rfl)
    ot_Lone := of_decide_eq_true (exAt m 30 rfl)
    xf_Lone := xfB_ok (exAt m 31 rfl)
    xn_Lone_table := of_decide_eq_true (exAt m 32 rfl)
    xn_Lone_key := of_decide_eq_true (exAt m 33 rfl)
    xn_Lone_place := of_decide_eq_true (exAt m 34 rfl)
    g_Gap := He.glo_ok X G (d.fact 67 (f := .glo "Gap") rfl)
    ox_Gap := oexB_ok (exAt m 35 rfl)
    oi_Gap := of_decide_eq_true (exAt m 36 rfl)
    ot_Gap := of_decide_eq_true (exAt m 37 rfl)
    xf_Gap := xfB_ok (exAt m 38 rfl)
    xn_Gap_table := of_decide_eq_true (exAt m 39 rfl)
    xn_Gap_key := of_decide_eq_true (exAt m 40 rfl)
    xn_Gap_place := of_decide_eq_true (exAt m 41 rfl)
    g_Twice := He.glo_ok X G (d.fact 68 (f := .glo "Twice") rfl)
    ox_Twice := oexB_ok (exAt m 42 rfl)
    oi_Twice := of_decide_eq_true (exAt m 43 rfl)
    ot_Twice := of_decide_eq_true (exAt m 44 rfl)
    xf_Twice := xfB_ok (exAt m 45 rfl)
    xn_Twice_table := of_decide_eq_true (exAt m 46 rfl)
    xn_Twice_key := of_decide_eq_true (exAt m 47 rfl)
    xn_Twice_place := of_decide_eq_true (exAt m 48 rfl)
    g_Nowhere := He.glo_ok X G (d.fact 69 (f := .glo "Nowhere") rfl)
    ox_Nowhere := oexB_ok (exAt m 49 rfl)
    oi_Nowhere := of_decide_eq_true (exAt m 50 rfl)
    ot_Nowhere := of_decide_eq_true (exAt m 51 rfl)
    xf_Nowhere := xfB_ok (exAt m 52 rfl)
    xn_Nowhere_table := of_decide_eq_true (exAt m 53 rfl)
    xn_Nowhere_key := of_decide_eq_true (exAt m 54 rfl)
    xn_Nowhere_place := of_decide_eq_true (exAt m 55 rfl)
    em_NoTable_Nowhere := He.exm_ok (d.fact 70 (f := .exm "NoTable" "Nowhere" false) rfl)
    em_NoTable_Twice := He.exm_ok (d.fact 71 (f := .exm "NoTable" "Twice" false) rfl)
    em_BadRow_Nowhere := He.exm_ok (d.fact 72 (f := .exm "BadRow" "Nowhere" false) rfl)
    em_BadRow_Twice := He.exm_ok (d.fact 73 (f := .exm "BadRow" "Twice" false) rfl)
    em_Taken_Nowhere := He.exm_ok (d.fact 74 (f := .exm "Taken" "Nowhere" false) rfl)
    em_Taken_Twice := He.exm_ok (d.fact 75 (f := .exm "Taken" "Twice" false) rfl)
    em_Missing_Nowhere := He.exm_ok (d.fact 76 (f := .exm "Missing" "Nowhere" false) rfl)
    em_Missing_Twice := He.exm_ok (d.fact 77 (f := .exm "Missing" "Twice" false) rfl)
    em_Lone_Nowhere := He.exm_ok (d.fact 78 (f := .exm "Lone" "Nowhere" false) rfl)
    em_Lone_Twice := He.exm_ok (d.fact 79 (f := .exm "Lone" "Twice" false) rfl)
    em_Gap_Nowhere := He.exm_ok (d.fact 80 (f := .exm "Gap" "Nowhere" false) rfl)
    em_Gap_Twice := He.exm_ok (d.fact 81 (f := .exm "Gap" "Twice" false) rfl)
    em_Twice_Nowhere := He.exm_ok (d.fact 82 (f := .exm "Twice" "Nowhere" false) rfl)
    em_Twice_Twice := He.exm_ok (d.fact 83 (f := .exm "Twice" "Twice" true) rfl)
    em_Nowhere_Nowhere := He.exm_ok (d.fact 84 (f := .exm "Nowhere" "Nowhere" true) rfl)
    em_Nowhere_Twice := He.exm_ok (d.fact 85 (f := .exm "Nowhere" "Twice" false) rfl) }
end Lw

set_option Elab.async false
set_option linter.all false
set_option maxRecDepth 100000
set_option maxHeartbeats 4000000
set_option pp.deepTerms false
set_option pp.maxSteps 1500
namespace Lw
open PySem PySem.Spec PyProof.Rows L2
local macro_rules | `(tactic| walk_at "num") => `(tactic| first | (dsimp only [CPos, CMulA, CDivA, CPow]; omega) | decide | assumption | (simp; done))
local macro_rules | `(tactic| walk_at "cnd") => `(tactic| first | (with_reducible show CPos _ _) | (with_reducible show CMulA _ _) | (with_reducible show CDivA _ _) | (with_reducible show CPow _ _))
local macro_rules | `(tactic| walk_at "hp") => `(tactic| first | assumption | with_reducible exact upd_same | (with_reducible apply upd_free; assumption; walk_at "hp") | grind [Same])
local macro_rules | `(tactic| walk_at "sz") => `(tactic| first | exact small1000 (by show _ ≤ 1000; simp) | exact Nat.le_of_lt (small1000 (by show _ ≤ 1000; simp)))
local macro_rules | `(tactic| walk_at "seq") => `(tactic| first | assumption | (with_reducible apply SqU.sqT; assumption) | (with_reducible apply SqL.of; assumption) | (with_reducible apply SqT.of; assumption) | with_reducible exact SqL.of upd_same | with_reducible exact SqT.of upd_same | (with_reducible apply sqT_free; assumption; walk_at "seq") | (with_reducible apply sqL_free; assumption; walk_at "seq") | (with_reducible apply SqL.of; walk_at "hp") | (with_reducible apply SqT.of; walk_at "hp"))
local macro_rules | `(tactic| walk_at "at") => `(tactic| first | rfl | exact atI_0 | exact atI_1 | exact atI_2 | exact atI_3 | exact atI_4 | exact atI_nat (by assumption))
local macro_rules | `(tactic| walk_at "dget") => `(tactic| first | (with_reducible apply DGet.so; walk_at "hp"; assumption) | (with_reducible apply DGet.io; walk_at "hp"; assumption) | (with_reducible apply DGet.po; walk_at "hp"; walk_at "hp"; assumption) | (with_reducible apply DGet.s; walk_at "hp") | (with_reducible apply DGet.i; walk_at "hp") | (with_reducible apply DGet.p; walk_at "hp"; walk_at "hp") | (with_reducible apply DGet.fi; walk_at "hp"; assumption) | (with_reducible apply DGet.fs; walk_at "hp"; assumption))
local macro_rules | `(tactic| walk_at "kit") => `(tactic| first | exact kit_NoneType_int | exact kit_NoneType_bool | exact kit_NoneType_str | exact kit_NoneType_tuple | exact kit_NoneType_dict | exact kit_NoneType_list | exact kit_bool_int | exact kit_bool_bool | exact kit_bool_str | exact kit_bool_tuple | exact kit_bool_dict | exact kit_bool_list | exact kit_int_int | exact kit_int_bool | exact kit_int_str | exact kit_int_tuple | exact kit_int_dict | exact kit_int_list | exact kit_str_int | exact kit_str_bool | exact kit_str_str | exact kit_str_tuple | exact kit_str_dict | exact kit_str_list | exact kit_tuple_int | exact kit_tuple_bool | exact kit_tuple_str | exact kit_tuple_tuple | exact kit_tuple_dict | exact kit_tuple_list | exact kit_list_int | exact kit_list_bool | exact kit_list_str | exact kit_list_tuple | exact kit_list_dict | exact kit_list_list | exact kit_dict_int | exact kit_dict_bool | exact kit_dict_str | exact kit_dict_tuple | exact kit_dict_dict | exact kit_dict_list)
local macro_rules | `(tactic| walk_at "ty") => `(tactic| first | exact ty_int | exact ty_bl | exact ty_non | exact ty_str | exact ty_tup (by walk_at "seq") | exact ty_dK (by walk_at "rd"))
local macro_rules | `(tactic| walk_at "rd") => `(tactic| first | assumption | exact Or.inl (by walk_at "hp"))
local macro_rules | `(tactic| walk_at "g1") => `(tactic| first
  | refine ⟨_, rfl, ?_⟩
  | refine ⟨_, _, rfl, rfl, ?_⟩
  | ((with_reducible show gCons _ _ _ _ _ _); refine ⟨_, _, rfl, ?_⟩)
  | ((with_reducible show gName _ _ _ _ _); dsimp only [gName, List.set])
  | refine ⟨_, _, _, _, rfl, rfl, (by walk_at "seq"), (by walk_at "at"), ?_⟩
  | refine ⟨_, _, rfl, rfl, (by walk_at "num"), ?_⟩
  | refine ⟨_, _, rfl, (by walk_at "seq"), rfl, ?_⟩
  | refine ⟨_, _, rfl, (by walk_at "dget"), ?_⟩
  | refine ⟨_, _, rfl, .inr (SqT.of upd_same), rfl, rfl, ?_⟩
  | refine And.intro rfl ?_
  | refine ⟨_, _, rfl, _, _, (by walk_at "ty"), (by walk_at "kit"), ?_⟩
  | refine ifT (by first | rfl | decide +kernel) ?_
  | refine ifF (by first | rfl | decide +kernel) ?_
  | refine And.intro (by (walk_at "cnd"); (walk_at "num")) ?_
  | refine And.intro (by assumption) ?_)
local macro_rules | `(tactic| walk_at "go") => `(tactic| repeat walk_at "g1")
section
variable {P : Program} {w : World} {K : PySem.W.Frag} {mg : Str → Option Value} {base : Heap}


/-! ### the errors -/
def seF (t k p : V) : List (Str × V) := [("place", p), ("key", k), ("table", t)]
def spSE (K : PySem.W.Frag) : Sp := fun vs H Q _ => ∃ (a C : Addr) (t k p : V), vs = [.ref a, t, k, p] ∧ H a = some (exo a C none) ∧ OexC K C ∧ PySem.W.findIn K (.ref C) "table" = some none ∧ PySem.W.findIn K (.ref C) "key" = some none ∧ PySem.W.findIn K (.ref C) "place" = some none ∧
  ∀ d H', H d = none → d ≠ a → H' a = some (exo a C (some d)) → H' d = some (exd d (seF t k p)) → (∀ b, b ≠ a → b ≠ d → H' b = H b) → Q .non H'
theorem ok_StepError_init (T : Tx K mg) : DefOk P w K mg base ("StepError", some "__init__") ["self", "table", "key", "place"] [] 1 (spSE K) := by
  refine def_ok T.f_StepError_init sc_StepError_init (fun vs H Q E h => by first | (obtain ⟨ rfl, _⟩ := h; rfl) | (obtain ⟨_,  rfl, _⟩ := h; rfl) | (obtain ⟨_, _,  rfl, _⟩ := h; rfl) | (obtain ⟨_, _, _,  rfl, _⟩ := h; rfl) | (obtain ⟨_, _, _, _,  rfl, _⟩ := h; rfl) | (obtain ⟨_, _, _, _, _,  rfl, _⟩ := h; rfl) | (obtain ⟨_, _, _, _, _, _,  rfl, _⟩ := h; rfl) | (obtain ⟨_, _, _, _, _, _, _,  rfl, _⟩ := h; rfl) | (obtain ⟨_, _, _, _, _, _, _, _,  rfl, _⟩ := h; rfl) | (obtain ⟨_, _, _, _, _, _, _, _, _,  rfl, _⟩ := h; rfl) | (obtain ⟨_, _, _, _, _, _, _, _, _, _,  rfl, _⟩ := h; rfl) | (obtain ⟨_, _, _, _, _, _, _, _, _, _, _,  rfl, _⟩ := h; rfl) | (obtain ⟨_, _, _, _, _, _, _, _, _, _, _, _,  rfl, _⟩ := h; rfl) | (obtain ⟨_, _, _, _, _, _, _, _, _, _, _, _, _,  rfl, _⟩ := h; rfl)) (fun _ _ _ _ _ _ us hl => match us, hl with | [_, _, _, _], _ => rfl) (fun cdv A outer s H vs Q E hr h => ?_)
  have hu := hu_of hr
  refine ⟨_, (pss_cons (ostK (K := K) (pv 0) (pv 1))
      (pss_cons (ostK (K := K) (pv 0) (pv 2))
      (pss_one (ostK (K := K) (pv 0) (pv 3))))), ?_⟩
  obtain ⟨a, C, t, k, p, rfl, ha, hC, n1, n2, n3, q⟩ := h
  refine ⟨_, rfl, _, rfl, a, C, rfl, hC, n1, .inl ⟨ha, fun d hd hda => ?_⟩⟩
  refine ⟨_, rfl, _, rfl, a, C, rfl, hC, n2, .inr ⟨d, _, upd_same, by rw [upd_ne hda]; exact upd_same, (by show _ ≤ 900; simp), ?_⟩⟩
  refine ⟨_, rfl, _, rfl, a, C, rfl, hC, n3, .inr ⟨d, _, by rw [upd_ne (Ne.symm hda)]; exact upd_same, upd_same, (by show _ ≤ 900; simp), ?_⟩⟩
  refine q d _ hd hda ?_ upd_same fun b h1 h2 => ?_
  · rw [upd_ne (Ne.symm hda), upd_ne (Ne.symm hda)]
    exact upd_same
  · rw [upd_ne h2, upd_ne h2, upd_ne h1, upd_ne h2]
/-- C(t, k, p) raised: what is left -/
theorem se_raised {C : Addr} {t k p : V} {ta : TA} {σ : L2.St} {H : Hp} {Q : XK} (hC : OexC K C) (n1 : PySem.W.findIn K (.ref C) "table" = some none) (n2 : PySem.W.findIn K (.ref C) "key" = some none) (n3 : PySem.W.findIn K (.ref C) "place" = some none)
    (hq : ∀ d, H d = none → Q (.ref C) (some d) (upd H d (.xd (seF t k p)))) (ha : ∀ R : List V → Hp → Prop, R [t, k, p] H → ta σ H R) : tMkO C (spSE K) [] ta σ H Q := by
  refine ha _ ⟨(by show _ ≤ 1000; simp), fun a na => ⟨a, C, t, k, p, rfl, upd_same, hC, n1, n2, n3, fun d H' hd hda e1 e2 e3 => ?_⟩⟩
  have hd' : H d = none := by rw [upd_ne hda] at hd; exact hd
  refine ⟨rfl, d, _, e1, e2, hd', ?_⟩
  have e : upd (del H' a) d (.xd (seF t k p)) = upd H d (.xd (seF t k p)) := by
    funext b
    by_cases h1 : b = d
    · subst h1; rw [upd_same, upd_same]
    · rw [upd_ne h1, upd_ne h1]
      by_cases h2 : b = a
      · subst h2; rw [del_same, na]
      · rw [del_ne h2, e3 b h2 h1, upd_ne h2]
  rw [e]
  exact hq d hd'


/-! ### data: kinds, forms -/
inductive PK | whole | below (n : Int) | upto (n : Int) | word | without (s : Str)
inductive Kd | pl (k : PK) | key | list (k : PK) | some (k : PK) | once (k : PK)
def PKAt (K : PySem.W.Frag) (H : Hp) (v : V) : PK → Prop
  | .whole => ∃ p, v = .ref p ∧ SqT K H p [.str "whole"]
  | .below n => ∃ p, v = .ref p ∧ SqT K H p [.str "below", .int n]
  | .upto n => ∃ p, v = .ref p ∧ SqT K H p [.str "upto", .int n]
  | .word => ∃ p, v = .ref p ∧ SqT K H p [.str "word"]
  | .without s => ∃ p, v = .ref p ∧ SqT K H p [.str "without", .str s]
def KdAt (K : PySem.W.Frag) (H : Hp) (v : V) : Kd → Prop
  | .pl k => PKAt K H v k
  | .key => ∃ p, v = .ref p ∧ SqT K H p [.str "key"]
  | .list k => ∃ p u, v = .ref p ∧ SqT K H p [.str "list", u] ∧ PKAt K H u k
  | .some k => ∃ p u, v = .ref p ∧ SqT K H p [.str "some", u] ∧ PKAt K H u k
  | .once k => ∃ p u, v = .ref p ∧ SqT K H p [.str "once", u] ∧ PKAt K H u k
/-- a value that a row may hold: a scalar, a tuple of scalars -/
def Val0 : V → Bool
  | .non | .bl _ | .int _ | .str _ => true
  | _ => false
def isInt : V → Bool
  | .int _ => true
  | _ => false
def spIsWhole : Sp := fun vs H Q _ => ∃ x, vs = [x] ∧ Val0 x = true ∧ Q (.bl (isInt x)) H
theorem ok_is_whole (T : Tx K mg) : DefOk P w K mg base ("is_whole", none) ["thing"] [] 1 spIsWhole := by
  refine def_ok T.f_is_whole sc_is_whole (fun vs H Q E h => by first | (obtain ⟨ rfl, _⟩ := h; rfl) | (obtain ⟨_,  rfl, _⟩ := h; rfl) | (obtain ⟨_, _,  rfl, _⟩ := h; rfl) | (obtain ⟨_, _, _,  rfl, _⟩ := h; rfl) | (obtain ⟨_, _, _, _,  rfl, _⟩ := h; rfl) | (obtain ⟨_, _, _, _, _,  rfl, _⟩ := h; rfl) | (obtain ⟨_, _, _, _, _, _,  rfl, _⟩ := h; rfl) | (obtain ⟨_, _, _, _, _, _, _,  rfl, _⟩ := h; rfl) | (obtain ⟨_, _, _, _, _, _, _, _,  rfl, _⟩ := h; rfl) | (obtain ⟨_, _, _, _, _, _, _, _, _,  rfl, _⟩ := h; rfl) | (obtain ⟨_, _, _, _, _, _, _, _, _, _,  rfl, _⟩ := h; rfl) | (obtain ⟨_, _, _, _, _, _, _, _, _, _, _,  rfl, _⟩ := h; rfl) | (obtain ⟨_, _, _, _, _, _, _, _, _, _, _, _,  rfl, _⟩ := h; rfl) | (obtain ⟨_, _, _, _, _, _, _, _, _, _, _, _, _,  rfl, _⟩ := h; rfl)) (fun _ _ _ _ _ _ us hl => match us, hl with | [_], _ => rfl) (fun cdv A outer s H vs Q E hr h => ?_)
  have hu := hu_of hr
  refine ⟨_, (pss_one (ps_ret (pe_and (pe_callB (isiK (K := K)) rfl T.b_isinstance (by decide +kernel) (pa_cons (pv 0) (pa_cons (pe_bltn (v := .ty "int") rfl T.b_int (by decide +kernel) rfl) pa_nil))) (pe_one (pe_not (pe_callB (isiK (K := K)) rfl T.b_isinstance (by decide +kernel) (pa_cons (pv 0) (pa_cons (pe_bltn (v := .ty "bool") rfl T.b_bool (by decide +kernel) rfl) pa_nil)))))))), ?_⟩
  obtain ⟨x, rfl, hx, q⟩ := h
  cases x with
  | non => exact ⟨_, rfl, _, _, rfl, "NoneType", false, ty_non, by decide +kernel, _, rfl, q⟩
  | bl b => exact ⟨_, rfl, _, _, rfl, "bool", true, ty_bl, by decide +kernel, _, rfl, _, rfl, _, _, rfl, "bool", true, ty_bl, by decide +kernel, _, rfl, q⟩
  | int i => exact ⟨_, rfl, _, _, rfl, "int", true, ty_int, by decide +kernel, _, rfl, _, rfl, _, _, rfl, "int", false, ty_int, by decide +kernel, _, rfl, q⟩
  | str z => exact ⟨_, rfl, _, _, rfl, "str", false, ty_str, by decide +kernel, _, rfl, q⟩
  | _ => cases hx
/-! fits: kinds of plain whole numbers, pointers -/
def fitsP : PK → V → Bool
  | .whole, .int _ => true
  | .below n, .int i => decide (0 ≤ i) && decide (i < n)
  | .upto n, .int i => decide (i ≤ n)
  | .word, .str _ => true
  | _, _ => false
def simpK : PK → Bool
  | .whole | .word => true
  | _ => false
def spFitsPlain (K : PySem.W.Frag) : Sp := fun vs H Q _ => ∃ kv x k, vs = [kv, x] ∧ PKAt K H kv k ∧ simpK k = true ∧ Val0 x = true ∧ Q (.bl (fitsP k x)) H
theorem ok_fits_plain (T : Tx K mg) : DefOk P w K mg base ("fits_plain", none) ["kind", "value"] [] 2 (spFitsPlain K) := by
  refine def_ok T.f_fits_plain sc_fits_plain (fun vs H Q E h => by first | (obtain ⟨ rfl, _⟩ := h; rfl) | (obtain ⟨_,  rfl, _⟩ := h; rfl) | (obtain ⟨_, _,  rfl, _⟩ := h; rfl) | (obtain ⟨_, _, _,  rfl, _⟩ := h; rfl) | (obtain ⟨_, _, _, _,  rfl, _⟩ := h; rfl) | (obtain ⟨_, _, _, _, _,  rfl, _⟩ := h; rfl) | (obtain ⟨_, _, _, _, _, _,  rfl, _⟩ := h; rfl) | (obtain ⟨_, _, _, _, _, _, _,  rfl, _⟩ := h; rfl) | (obtain ⟨_, _, _, _, _, _, _, _,  rfl, _⟩ := h; rfl) | (obtain ⟨_, _, _, _, _, _, _, _, _,  rfl, _⟩ := h; rfl) | (obtain ⟨_, _, _, _, _, _, _, _, _, _,  rfl, _⟩ := h; rfl) | (obtain ⟨_, _, _, _, _, _, _, _, _, _, _,  rfl, _⟩ := h; rfl) | (obtain ⟨_, _, _, _, _, _, _, _, _, _, _, _,  rfl, _⟩ := h; rfl) | (obtain ⟨_, _, _, _, _, _, _, _, _, _, _, _, _,  rfl, _⟩ := h; rfl)) (fun _ _ _ _ _ _ us hl => match us, hl with | [_, _], _ => rfl) (fun cdv A outer s H vs Q E hr h => ?_)
  have hu := hu_of hr
  refine ⟨_, (pss_cons (ps_set (i := 2) sc_fits_plain.nd rfl (Or.inl rfl) (pe_ix (ixT (K := K)) (pv 0) pe_int (fun _ _ => rfl)))
      (pss_cons (ps_if (pt_cmpR op_eq (pv 2) pe_str (nomark _))
      (pss_one (ps_ret (pe_callB (isiK (K := K)) rfl T.b_isinstance (by decide +kernel) (pa_cons (pv 1) (pa_cons (pe_bltn (v := .ty "str") rfl T.b_str (by decide +kernel) rfl) pa_nil)))))
      pss_nil)
      (pss_cons (ps_if (pt_cmpR op_eq (pv 2) pe_str (nomark _))
      (pss_one (ps_ret (pe_and (pe_callB (isiK (K := K)) rfl T.b_isinstance (by decide +kernel) (pa_cons (pv 1) (pa_cons (pe_bltn (v := .ty "str") rfl T.b_str (by decide +kernel) rfl) pa_nil))) (pe_one (pe_cmpR (ninQ (K := K)) (pe_ix (ixT (K := K)) (pv 0) pe_int (fun _ _ => rfl)) (pv 1) (by with_unfolding_all rfl))))))
      pss_nil)
      (pss_cons (ps_if (pt_not (pt_val (callK (ok_is_whole T) hr (by decide) (takes_of rfl rfl rfl rfl) T.g_is_whole (pa_cons (pv 1) pa_nil))))
      (pss_one (ps_ret pe_bl))
      pss_nil)
      (pss_cons (ps_if (pt_cmpR op_eq (pv 2) pe_str (nomark _))
      (pss_one (ps_ret (pe_chain op_le op_lt pe_int (pv 1) (pe_ix (ixT (K := K)) (pv 0) pe_int (fun _ _ => rfl)))))
      pss_nil)
      (pss_one (ps_ret (pe_or (pe_cmpR op_eq (pv 2) pe_str (nomark _)) (pe_one (pe_cmpR op_le (pv 1) (pe_ix (ixT (K := K)) (pv 0) pe_int (fun _ _ => rfl)) (nomark _))))))))))), ?_⟩
  obtain ⟨kv, x, k, rfl, hk, hw, hx, q⟩ := h
  cases k with
  | whole =>
    obtain ⟨p, rfl, hp⟩ := hk
    cases x with
    | int i => walk_at "go"; exact q
    | non => walk_at "go"; exact q
    | bl b => walk_at "go"; exact q
    | str z => walk_at "go"; exact q
    | _ => cases hx
  | word =>
    obtain ⟨p, rfl, hp⟩ := hk
    cases x with
    | int i => walk_at "go"; exact q
    | non => walk_at "go"; exact q
    | bl b => walk_at "go"; exact q
    | str z => walk_at "go"; exact q
    | _ => cases hx
  | _ => cases hw
/-- not called here -/
def spNever (n : Nat) : Sp := fun vs _ _ _ => vs.length = n ∧ False
/-- a value of a row: a scalar, or a tuple of scalars -/
inductive Vl | v (x : V) | tp (xs : List V)
def VlAt (K : PySem.W.Frag) (H : Hp) (u : V) : Vl → Prop
  | .v x => u = x ∧ Val0 x = true
  | .tp xs => ∃ p, u = .ref p ∧ SqT K H p xs ∧ xs.all Val0 = true
def fitsK (size : Int) : Kd → Vl → Bool
  | .pl k, .v x => fitsP k x
  | .key, .v .non => true
  | .key, .v (.int i) => decide (0 ≤ i) && decide (i < size)
  | .list k, .tp xs => xs.all (fitsP k)
  | .once k, .v x => fitsP k x
  | _, _ => false
def simpKd : Kd → Bool
  | .pl k | .once k => simpK k
  | .key => true
  | .list k => simpK k
  | _ => false
def spFitsEach (K : PySem.W.Frag) : Sp := fun vs H Q _ => ∃ kv u k xs, vs = [kv, u] ∧ PKAt K H kv k ∧ simpK k = true ∧ VlAt K H u (.tp xs) ∧ Q (.bl (xs.all (fitsP k))) H
theorem ok_fits_each (T : Tx K mg) : DefOk P w K mg base ("fits_each", none) ["kind", "value"] [] 3 (spFitsEach K) := by
  refine def_ok T.f_fits_each sc_fits_each (fun vs H Q E h => by first | (obtain ⟨ rfl, _⟩ := h; rfl) | (obtain ⟨_,  rfl, _⟩ := h; rfl) | (obtain ⟨_, _,  rfl, _⟩ := h; rfl) | (obtain ⟨_, _, _,  rfl, _⟩ := h; rfl) | (obtain ⟨_, _, _, _,  rfl, _⟩ := h; rfl) | (obtain ⟨_, _, _, _, _,  rfl, _⟩ := h; rfl) | (obtain ⟨_, _, _, _, _, _,  rfl, _⟩ := h; rfl) | (obtain ⟨_, _, _, _, _, _, _,  rfl, _⟩ := h; rfl) | (obtain ⟨_, _, _, _, _, _, _, _,  rfl, _⟩ := h; rfl) | (obtain ⟨_, _, _, _, _, _, _, _, _,  rfl, _⟩ := h; rfl) | (obtain ⟨_, _, _, _, _, _, _, _, _, _,  rfl, _⟩ := h; rfl) | (obtain ⟨_, _, _, _, _, _, _, _, _, _, _,  rfl, _⟩ := h; rfl) | (obtain ⟨_, _, _, _, _, _, _, _, _, _, _, _,  rfl, _⟩ := h; rfl) | (obtain ⟨_, _, _, _, _, _, _, _, _, _, _, _, _,  rfl, _⟩ := h; rfl)) (fun _ _ _ _ _ _ us hl => match us, hl with | [_, _], _ => rfl) (fun cdv A outer s H vs Q E hr h => ?_)
  have hu := hu_of hr
  refine ⟨_, (pss_cons (ps_if (pt_not (pt_val (pe_callB (isiK (K := K)) rfl T.b_isinstance (by decide +kernel) (pa_cons (pv 1) (pa_cons (pe_bltn (v := .ty "tuple") rfl T.b_tuple (by decide +kernel) rfl) pa_nil)))))
      (pss_one (ps_ret pe_bl))
      pss_nil)
      (pss_cons (ps_for (passes_of rfl) rfl (tupI (K := K) (pv 1)) (pg_name (i := 2) sc_fits_each.nd rfl (Or.inl rfl))
      (pss_one (ps_if (pt_not (pt_val (callK (ok_fits_plain T) hr (by decide) (takes_of rfl rfl rfl rfl) T.g_fits_plain (pa_cons (pv 0) (pa_cons (pv 2) pa_nil)))))
      (pss_one (ps_ret pe_bl))
      pss_nil)))
      (pss_one (ps_ret pe_bl)))), ?_⟩
  obtain ⟨kv, u, k, xs, rfl, hk, hw, ⟨p, rfl, hp, hx⟩, q⟩ := h
  walk_at "go"
  refine ⟨⟨_, hp⟩, for_tup (K := K) (a := p) (xs := xs) (fun i σ H' => ∃ v, σ = [some kv, some (.ref p), v] ∧ H' = H ∧ (xs.take i).all (fitsP k) = true) ⟨none, rfl, rfl, rfl⟩ (fun i σ H' _ h => h.choose_spec.2.1 ▸ hp) ?_ ?_⟩
  · rintro i x σ H' hi ⟨v, rfl, rfl, ha⟩
    have hx0 : Val0 x = true := List.all_eq_true.mp hx x (List.mem_of_getElem? hi)
    walk_at "go"
    refine ⟨kv, x, k, rfl, hk, hw, hx0, ?_⟩
    cases e : fitsP k x with
    | true =>
      walk_at "go"
      rw [List.take_succ, hi, List.all_append, ha]
      simpa using e
    | false =>
      walk_at "go"
      have : xs.all (fitsP k) = false := List.all_eq_false.mpr ⟨x, List.mem_of_getElem? hi, by simp [e]⟩
      rw [this] at q
      exact q
  · rintro σ H' ⟨v, rfl, rfl, ha⟩
    rw [List.take_length] at ha
    rw [ha] at q
    exact q
def spFits (K : PySem.W.Frag) : Sp := fun vs H Q _ => ∃ kv u size kd x, vs = [kv, u, .int size] ∧ KdAt K H kv kd ∧ simpKd kd = true ∧ VlAt K H u x ∧ (∀ k, kd = .list k → ∃ xs, x = .tp xs) ∧ (∀ xs, x = .tp xs → ∃ k, kd = .list k) ∧ Q (.bl (fitsK size kd x)) H
theorem ok_fits (T : Tx K mg) : DefOk P w K mg base ("fits", none) ["kind", "value", "size"] [] 4 (spFits K) := by
  refine def_ok T.f_fits sc_fits (fun vs H Q E h => by first | (obtain ⟨ rfl, _⟩ := h; rfl) | (obtain ⟨_,  rfl, _⟩ := h; rfl) | (obtain ⟨_, _,  rfl, _⟩ := h; rfl) | (obtain ⟨_, _, _,  rfl, _⟩ := h; rfl) | (obtain ⟨_, _, _, _,  rfl, _⟩ := h; rfl) | (obtain ⟨_, _, _, _, _,  rfl, _⟩ := h; rfl) | (obtain ⟨_, _, _, _, _, _,  rfl, _⟩ := h; rfl) | (obtain ⟨_, _, _, _, _, _, _,  rfl, _⟩ := h; rfl) | (obtain ⟨_, _, _, _, _, _, _, _,  rfl, _⟩ := h; rfl) | (obtain ⟨_, _, _, _, _, _, _, _, _,  rfl, _⟩ := h; rfl) | (obtain ⟨_, _, _, _, _, _, _, _, _, _,  rfl, _⟩ := h; rfl) | (obtain ⟨_, _, _, _, _, _, _, _, _, _, _,  rfl, _⟩ := h; rfl) | (obtain ⟨_, _, _, _, _, _, _, _, _, _, _, _,  rfl, _⟩ := h; rfl) | (obtain ⟨_, _, _, _, _, _, _, _, _, _, _, _, _,  rfl, _⟩ := h; rfl)) (fun _ _ _ _ _ _ us hl => match us, hl with | [_, _, _], _ => rfl) (fun cdv A outer s H vs Q E hr h => ?_)
  have hu := hu_of hr
  refine ⟨_, (pss_cons (ps_set (i := 3) sc_fits.nd rfl (Or.inl rfl) (pe_ix (ixT (K := K)) (pv 0) pe_int (fun _ _ => rfl)))
      (pss_cons (ps_if (pt_cmpR op_eq (pv 3) pe_str (nomark _))
      (pss_one (ps_ret (pe_or (pe_cmpR op_isN (pv 1) pe_non (nomark _)) (pe_one (pe_and (callK (ok_is_whole T) hr (by decide) (takes_of rfl rfl rfl rfl) T.g_is_whole (pa_cons (pv 1) pa_nil)) (pe_one (pe_chain op_le op_lt pe_int (pv 1) (pv 2))))))))
      pss_nil)
      (pss_cons (ps_if (pt_cmpR op_eq (pv 3) pe_str (nomark _))
      (pss_one (ps_ret (callK (ok_fits_each T) hr (by decide) (takes_of rfl rfl rfl rfl) T.g_fits_each (pa_cons (pe_ix (ixT (K := K)) (pv 0) pe_int (fun _ _ => rfl)) (pa_cons (pv 1) pa_nil)))))
      pss_nil)
      (pss_cons (ps_if (pt_cmpR op_eq (pv 3) pe_str (nomark _))
      (pss_one (ps_ret (pe_and (callK (ok_fits_each T) hr (by decide) (takes_of rfl rfl rfl rfl) T.g_fits_each (pa_cons (pe_ix (ixT (K := K)) (pv 0) pe_int (fun _ _ => rfl)) (pa_cons (pv 1) pa_nil))) (pe_one (pe_cmpR op_gt (pe_callB (lenK (K := K)) rfl T.b_len (by decide +kernel) (pa_cons (pv 1) pa_nil)) pe_int (nomark _))))))
      pss_nil)
      (pss_cons (ps_if (pt_cmpR op_eq (pv 3) pe_str (nomark _))
      (pss_one (ps_ret (callK (ok_fits_plain T) hr (by decide) (takes_of rfl rfl rfl rfl) T.g_fits_plain (pa_cons (pe_ix (ixT (K := K)) (pv 0) pe_int (fun _ _ => rfl)) (pa_cons (pv 1) pa_nil)))))
      pss_nil)
      (pss_one (ps_ret (callK (ok_fits_plain T) hr (by decide) (takes_of rfl rfl rfl rfl) T.g_fits_plain (pa_cons (pv 0) (pa_cons (pv 1) pa_nil)))))))))), ?_⟩
  obtain ⟨kv, u, size, kd, x, rfl, hk, hw, hx, h1, h2, q⟩ := h
  cases kd with
  | key =>
    obtain ⟨p, rfl, hp⟩ := hk
    cases x with
    | tp xs => obtain ⟨_, e⟩ := h2 _ rfl; cases e
    | v x =>
      obtain ⟨rfl, hv⟩ := hx
      cases u with
      | non => walk_at "go"; exact q
      | bl b => walk_at "go"; exact q
      | str b => walk_at "go"; exact q
      | int i =>
        walk_at "go"
        have e : fitsK size .key (.v (.int i)) = (decide (0 ≤ i) && decide (i < size)) := rfl
        rw [e] at q
        refine iteD (fun h0 => ?_) (fun h0 => ?_)
        · rw [decide_eq_true h0] at q
          walk_at "go"
          exact q
        · rw [decide_eq_false h0] at q
          exact q
      | _ => cases hv
  | pl k =>
    cases x with
    | tp xs => obtain ⟨_, e⟩ := h2 _ rfl; cases e
    | v x =>
      obtain ⟨rfl, hv⟩ := hx
      cases k with
      | whole => obtain ⟨p, rfl, hp⟩ := id hk; walk_at "go"; exact ⟨_, _, PK.whole, rfl, hk, hw, hv, q⟩
      | word => obtain ⟨p, rfl, hp⟩ := id hk; walk_at "go"; exact ⟨_, _, PK.word, rfl, hk, hw, hv, q⟩
      | _ => cases hw
  | list k =>
    obtain ⟨xs, rfl⟩ := h1 _ rfl
    obtain ⟨p, kv, rfl, hp, hk⟩ := hk
    walk_at "go"
    exact ⟨_, _, _, _, rfl, hk, hw, hx, q⟩
  | some k => cases hw
  | once k =>
    cases x with
    | tp xs => obtain ⟨_, e⟩ := h2 _ rfl; cases e
    | v x =>
      obtain ⟨rfl, hv⟩ := hx
      obtain ⟨p, kv, rfl, hp, hk⟩ := hk
      walk_at "go"
      exact ⟨_, _, _, rfl, hk, hw, hv, q⟩


/-! ### forms -/
structure Tb where
  name : Str
  sort : Str
  cols : List (Str × Kd)
structure Fm where
  size : Int
  tabs : List Tb
def ColAt (K : PySem.W.Frag) (H : Hp) (p : Addr) (c : Str × Kd) : Prop := ∃ kv, SqT K H p [.str c.1, kv] ∧ KdAt K H kv c.2
def TbAt (K : PySem.W.Frag) (H : Hp) (v : V) (t : Tb) : Prop := ∃ p c ps, v = .ref p ∧ SqT K H p [.str t.name, .str t.sort, .ref c] ∧ SqU H c (ps.map V.ref) ∧ Paired (ColAt K H) ps t.cols
def FmAt (K : PySem.W.Frag) (H : Hp) (v : V) (F : Fm) : Prop := ∃ p q ts, v = .ref p ∧ SqT K H p [.int F.size, .ref q] ∧ SqT K H q ts ∧ Paired (TbAt K H) ts F.tabs ∧ F.tabs.length ≤ 8 ∧ (F.tabs.map (·.name)).Nodup ∧ ∀ t ∈ F.tabs, t.cols.length ≤ 12 ∧ (t.cols.map (·.1)).Nodup ∧ ∀ c ∈ t.cols, simpKd c.2 = true
theorem PKAt.mono {K : PySem.W.Frag} {H H' : Hp} (e : Same H H') {v : V} {k : PK} (h : PKAt K H v k) : PKAt K H' v k := by
  cases k <;> (obtain ⟨p, rfl, hp⟩ := h; exact ⟨p, rfl, e.sqT hp⟩)
theorem KdAt.mono {K : PySem.W.Frag} {H H' : Hp} (e : Same H H') {v : V} {k : Kd} (h : KdAt K H v k) : KdAt K H' v k := by
  cases k with
  | pl k => exact PKAt.mono e h
  | key => obtain ⟨p, rfl, hp⟩ := h; exact ⟨p, rfl, e.sqT hp⟩
  | list k => obtain ⟨p, u, rfl, hp, hk⟩ := h; exact ⟨p, u, rfl, e.sqT hp, hk.mono e⟩
  | some k => obtain ⟨p, u, rfl, hp, hk⟩ := h; exact ⟨p, u, rfl, e.sqT hp, hk.mono e⟩
  | once k => obtain ⟨p, u, rfl, hp, hk⟩ := h; exact ⟨p, u, rfl, e.sqT hp, hk.mono e⟩
theorem ColAt.mono {K : PySem.W.Frag} {H H' : Hp} (e : Same H H') {p : Addr} {c : Str × Kd} (h : ColAt K H p c) : ColAt K H' p c := let ⟨kv, a, b⟩ := h; ⟨kv, e.sqT a, b.mono e⟩
theorem TbAt.mono {K : PySem.W.Frag} {H H' : Hp} (e : Same H H') {v : V} {t : Tb} (h : TbAt K H v t) : TbAt K H' v t :=
  let ⟨p, c, ps, a, b, d, f⟩ := h; ⟨p, c, ps, a, e.sqT b, e.sqU d, L2.Paired.mapP f fun _ _ z => z.mono e⟩
theorem FmAt.mono {K : PySem.W.Frag} {H H' : Hp} (e : Same H H') {v : V} {F : Fm} (h : FmAt K H v F) : FmAt K H' v F :=
  let ⟨p, q, ts, a, b, c, d, f⟩ := h; ⟨p, q, ts, a, e.sqT b, e.sqT c, L2.Paired.mapP d fun _ _ z => z.mono e, f⟩
theorem Paired.at {α β : Type} {F : α → β → Prop} {l : List α} {m : List β} (h : Paired F l m) : ∀ {i : Nat} {a : α}, l[i]? = some a → ∃ b, m[i]? = some b ∧ F a b := by
  induction h with
  | nil => intro i a e; simp at e
  | cons r _ ih =>
    intro i a e
    cases i with
    | zero => exact ⟨_, rfl, by simp at e; exact e ▸ r⟩
    | succ i => simp at e; simpa using ih e
def tabAt (F : Fm) (n : Str) : Option Tb := F.tabs.find? fun t => t.name == n
def spTableAt (K : PySem.W.Frag) : Sp := fun vs H Q _ => ∃ f n F t, vs = [f, .str n] ∧ FmAt K H f F ∧ tabAt F n = some t ∧ ∀ v, TbAt K H v t → Q v H
theorem ok_table_at (T : Tx K mg) : DefOk P w K mg base ("table_at", none) ["form", "table"] [] 3 (spTableAt K) := by
  refine def_ok T.f_table_at sc_table_at (fun vs H Q E h => by first | (obtain ⟨ rfl, _⟩ := h; rfl) | (obtain ⟨_,  rfl, _⟩ := h; rfl) | (obtain ⟨_, _,  rfl, _⟩ := h; rfl) | (obtain ⟨_, _, _,  rfl, _⟩ := h; rfl) | (obtain ⟨_, _, _, _,  rfl, _⟩ := h; rfl) | (obtain ⟨_, _, _, _, _,  rfl, _⟩ := h; rfl) | (obtain ⟨_, _, _, _, _, _,  rfl, _⟩ := h; rfl) | (obtain ⟨_, _, _, _, _, _, _,  rfl, _⟩ := h; rfl) | (obtain ⟨_, _, _, _, _, _, _, _,  rfl, _⟩ := h; rfl) | (obtain ⟨_, _, _, _, _, _, _, _, _,  rfl, _⟩ := h; rfl) | (obtain ⟨_, _, _, _, _, _, _, _, _, _,  rfl, _⟩ := h; rfl) | (obtain ⟨_, _, _, _, _, _, _, _, _, _, _,  rfl, _⟩ := h; rfl) | (obtain ⟨_, _, _, _, _, _, _, _, _, _, _, _,  rfl, _⟩ := h; rfl) | (obtain ⟨_, _, _, _, _, _, _, _, _, _, _, _, _,  rfl, _⟩ := h; rfl)) (fun _ _ _ _ _ _ us hl => match us, hl with | [_, _], _ => rfl) (fun cdv A outer s H vs Q E hr h => ?_)
  have hu := hu_of hr
  refine ⟨_, (pss_cons (ps_for (passes_of rfl) rfl (tupI (K := K) (pe_ix (ixT (K := K)) (pv 0) pe_int (fun _ _ => rfl))) (pg_name (i := 2) sc_table_at.nd rfl (Or.inl rfl))
      (pss_one (ps_if (pt_cmpR op_eq (pe_ix (ixT (K := K)) (pv 2) pe_int (fun _ _ => rfl)) (pv 1) (nomark _))
      (pss_one (ps_ret (pv 2)))
      pss_nil)))
      (pss_one (raiseK (ok_StepError_init T) hr (by decide) rfl (takes_of rfl rfl rfl rfl) T.ox_NoTable T.oi_NoTable T.ot_NoTable T.g_NoTable (pa_cons (pv 1) (pa_cons pe_non (pa_cons pe_non pa_nil)))))), ?_⟩
  obtain ⟨f, n, F, t, rfl, hF, ht, q⟩ := h
  obtain ⟨p, c, ts, rfl, hp, hc, hts, _⟩ := hF
  walk_at "go"
  refine ⟨⟨_, hc⟩, for_tup (K := K) (a := c) (xs := ts) (fun i σ H' => ∃ v, σ = [some (.ref p), some (.str n), v] ∧ H' = H ∧ (F.tabs.take i).find? (fun t => t.name == n) = none) ⟨none, rfl, rfl, rfl⟩ (fun i σ H' _ h => h.choose_spec.2.1 ▸ hc) ?_ ?_⟩
  · rintro i x σ H' hi ⟨v, rfl, rfl, hn⟩
    obtain ⟨tb, htb, hx⟩ := Paired.at hts hi
    obtain ⟨a, b, ps, rfl, ha, hb, hps⟩ := id hx
    walk_at "go"
    refine iteD (fun e => ?_) (fun e => ?_)
    · walk_at "go"
      have e1 : tb.name = n := V.str.inj e
      have : tabAt F n = some tb := by
        unfold tabAt
        have : F.tabs = F.tabs.take i ++ tb :: F.tabs.drop (i + 1) := by
          obtain ⟨hlt, e⟩ := List.getElem?_eq_some_iff.mp htb
          rw [← e, ← List.drop_eq_getElem_cons hlt, List.take_append_drop]
        rw [this, List.find?_append, hn, List.find?_cons]
        simp [e1]
      rw [ht] at this
      cases this
      exact q _ hx
    · walk_at "go"
      rw [List.take_succ, htb, List.find?_append, hn]
      have : ¬ tb.name = n := fun z => e (by rw [z])
      simp [this]
  · rintro σ H' ⟨v, rfl, rfl, hn⟩
    have : F.tabs.length = ts.length := hts.length.symm
    rw [← this, List.take_length] at hn
    unfold tabAt at ht
    rw [hn] at ht
    cases ht
def spTablesOf (K : PySem.W.Frag) : Sp := fun vs H Q _ => ∃ f F, vs = [f] ∧ FmAt K H f F ∧ ∀ p, H p = none → Q (.ref p) (upd H p (.lst (F.tabs.map fun t => V.str t.name)))
theorem ok_tables_of (T : Tx K mg) : DefOk P w K mg base ("tables_of", none) ["form"] [] 1 (spTablesOf K) := by
  refine def_ok T.f_tables_of sc_tables_of (fun vs H Q E h => by first | (obtain ⟨ rfl, _⟩ := h; rfl) | (obtain ⟨_,  rfl, _⟩ := h; rfl) | (obtain ⟨_, _,  rfl, _⟩ := h; rfl) | (obtain ⟨_, _, _,  rfl, _⟩ := h; rfl) | (obtain ⟨_, _, _, _,  rfl, _⟩ := h; rfl) | (obtain ⟨_, _, _, _, _,  rfl, _⟩ := h; rfl) | (obtain ⟨_, _, _, _, _, _,  rfl, _⟩ := h; rfl) | (obtain ⟨_, _, _, _, _, _, _,  rfl, _⟩ := h; rfl) | (obtain ⟨_, _, _, _, _, _, _, _,  rfl, _⟩ := h; rfl) | (obtain ⟨_, _, _, _, _, _, _, _, _,  rfl, _⟩ := h; rfl) | (obtain ⟨_, _, _, _, _, _, _, _, _, _,  rfl, _⟩ := h; rfl) | (obtain ⟨_, _, _, _, _, _, _, _, _, _, _,  rfl, _⟩ := h; rfl) | (obtain ⟨_, _, _, _, _, _, _, _, _, _, _, _,  rfl, _⟩ := h; rfl) | (obtain ⟨_, _, _, _, _, _, _, _, _, _, _, _, _,  rfl, _⟩ := h; rfl)) (fun _ _ _ _ _ _ us hl => match us, hl with | [_], _ => rfl) (fun cdv A outer s H vs Q E hr h => ?_)
  have hu := hu_of hr
  refine ⟨_, (pss_one (ps_ret (pe_lc (own := [("one", 1)]) rfl sc_tables_of.nd (tupI (K := K) (pe_ix (ixT (K := K)) (pv 0) pe_int (fun _ _ => rfl))) (blkOk_by (own := [("one", 1)]) (N := N_tables_of) (sc := defScope s_tables_of) (by decide +kernel)) (fun _ _ _ _ _ => (pg_name (i := 1) sc_tables_of.nd rfl (Or.inl rfl))) (fun _ _ _ _ _ => pts_nil) (fun _ _ _ _ _ => (pe_ix (ixT (K := K)) (pv 1) pe_int (fun _ _ => rfl)))))), ?_⟩
  obtain ⟨f, F, rfl, hF, q⟩ := h
  obtain ⟨p, c, ts, rfl, hp, hc, hts, h8, _⟩ := hF
  walk_at "go"
  have hl := hts.length
  refine ⟨⟨_, hc⟩, fun D hD => lc_tup (K := K) (a := c) (xs := ts) (fun i H' => H' = upd H D (.lst ((F.tabs.take i).map fun t => V.str t.name))) rfl (fun i H' _ h => ?_) ?_ ?_⟩
  · subst h
    exact (Same.new hD).sqT hc
  · rintro i x H' hi rfl
    obtain ⟨tb, htb, hx⟩ := Paired.at hts hi
    obtain ⟨a, b, ps, rfl, ha, hb, hps⟩ := hx
    have ha' := (Same.new (o := .lst ((F.tabs.take i).map fun t => V.str t.name)) hD).sqT ha
    walk_at "go"
    refine ⟨_, upd_same, ?_, ?_⟩
    · rw [List.length_map, List.length_take]
      exact small1000 (by omega)
    · rw [upd_upd, List.take_succ, htb, List.map_append]
      rfl
  · rintro H' rfl
    rw [← hl.symm, List.take_length]
    exact q D hD
def spHeadOf (K : PySem.W.Frag) : Sp := fun vs H Q _ => ∃ f F t ts, vs = [f] ∧ FmAt K H f F ∧ F.tabs = t :: ts ∧ Q (.str t.name) H
theorem ok_head_of (T : Tx K mg) : DefOk P w K mg base ("head_of", none) ["form"] [] 1 (spHeadOf K) := by
  refine def_ok T.f_head_of sc_head_of (fun vs H Q E h => by first | (obtain ⟨ rfl, _⟩ := h; rfl) | (obtain ⟨_,  rfl, _⟩ := h; rfl) | (obtain ⟨_, _,  rfl, _⟩ := h; rfl) | (obtain ⟨_, _, _,  rfl, _⟩ := h; rfl) | (obtain ⟨_, _, _, _,  rfl, _⟩ := h; rfl) | (obtain ⟨_, _, _, _, _,  rfl, _⟩ := h; rfl) | (obtain ⟨_, _, _, _, _, _,  rfl, _⟩ := h; rfl) | (obtain ⟨_, _, _, _, _, _, _,  rfl, _⟩ := h; rfl) | (obtain ⟨_, _, _, _, _, _, _, _,  rfl, _⟩ := h; rfl) | (obtain ⟨_, _, _, _, _, _, _, _, _,  rfl, _⟩ := h; rfl) | (obtain ⟨_, _, _, _, _, _, _, _, _, _,  rfl, _⟩ := h; rfl) | (obtain ⟨_, _, _, _, _, _, _, _, _, _, _,  rfl, _⟩ := h; rfl) | (obtain ⟨_, _, _, _, _, _, _, _, _, _, _, _,  rfl, _⟩ := h; rfl) | (obtain ⟨_, _, _, _, _, _, _, _, _, _, _, _, _,  rfl, _⟩ := h; rfl)) (fun _ _ _ _ _ _ us hl => match us, hl with | [_], _ => rfl) (fun cdv A outer s H vs Q E hr h => ?_)
  have hu := hu_of hr
  refine ⟨_, (pss_one (ps_ret (pe_ix (ixT (K := K)) (pe_ix (ixT (K := K)) (pe_ix (ixT (K := K)) (pv 0) pe_int (fun _ _ => rfl)) pe_int (fun _ _ => rfl)) pe_int (fun _ _ => rfl)))), ?_⟩
  obtain ⟨f, F, t, tl, rfl, hF, e, q⟩ := h
  obtain ⟨p, c, ts, rfl, hp, hc, hts, h8, _⟩ := hF
  rw [e] at hts
  cases hts with
  | cons hx hr =>
    obtain ⟨a, b, ps, rfl, ha, hb, hps⟩ := hx
    walk_at "go"
    exact q
def spSortOf (K : PySem.W.Frag) : Sp := fun vs H Q _ => ∃ f n F t, vs = [f, .str n] ∧ FmAt K H f F ∧ tabAt F n = some t ∧ Q (.str t.sort) H
theorem ok_sort_of (T : Tx K mg) : DefOk P w K mg base ("sort_of", none) ["form", "table"] [] 4 (spSortOf K) := by
  refine def_ok T.f_sort_of sc_sort_of (fun vs H Q E h => by first | (obtain ⟨ rfl, _⟩ := h; rfl) | (obtain ⟨_,  rfl, _⟩ := h; rfl) | (obtain ⟨_, _,  rfl, _⟩ := h; rfl) | (obtain ⟨_, _, _,  rfl, _⟩ := h; rfl) | (obtain ⟨_, _, _, _,  rfl, _⟩ := h; rfl) | (obtain ⟨_, _, _, _, _,  rfl, _⟩ := h; rfl) | (obtain ⟨_, _, _, _, _, _,  rfl, _⟩ := h; rfl) | (obtain ⟨_, _, _, _, _, _, _,  rfl, _⟩ := h; rfl) | (obtain ⟨_, _, _, _, _, _, _, _,  rfl, _⟩ := h; rfl) | (obtain ⟨_, _, _, _, _, _, _, _, _,  rfl, _⟩ := h; rfl) | (obtain ⟨_, _, _, _, _, _, _, _, _, _,  rfl, _⟩ := h; rfl) | (obtain ⟨_, _, _, _, _, _, _, _, _, _, _,  rfl, _⟩ := h; rfl) | (obtain ⟨_, _, _, _, _, _, _, _, _, _, _, _,  rfl, _⟩ := h; rfl) | (obtain ⟨_, _, _, _, _, _, _, _, _, _, _, _, _,  rfl, _⟩ := h; rfl)) (fun _ _ _ _ _ _ us hl => match us, hl with | [_, _], _ => rfl) (fun cdv A outer s H vs Q E hr h => ?_)
  have hu := hu_of hr
  refine ⟨_, (pss_one (ps_ret (pe_ix (ixT (K := K)) (callK (ok_table_at T) hr (by decide) (takes_of rfl rfl rfl rfl) T.g_table_at (pa_cons (pv 0) (pa_cons (pv 1) pa_nil))) pe_int (fun _ _ => rfl)))), ?_⟩
  obtain ⟨f, n, F, t, rfl, hF, ht, q⟩ := h
  walk_at "go"
  refine ⟨f, n, F, t, rfl, hF, ht, fun v hv => ?_⟩
  obtain ⟨a, b, ps, rfl, ha, hb, hps⟩ := hv
  walk_at "go"
  exact q
/-- the columns of a table as a dict holds them -/
def ColsAt (K : PySem.W.Frag) (H : Hp) (ks : List (Key × V)) (cols : List (Str × Kd)) : Prop := Paired (fun (kv : Key × V) (c : Str × Kd) => kv.1 = Sum.inr c.1 ∧ KdAt K H kv.2 c.2) ks cols
theorem mergeK_nd : ∀ (ks acc : List (Key × V)), (acc.map (·.1) ++ ks.map (·.1)).Nodup → mergeK acc ks = acc ++ ks
  | [], acc, _ => by simp [mergeK]
  | k :: ks, acc, h => by
    have hk : valV acc k.1 = none := by
      cases e : valV acc k.1 with
      | none => rfl
      | some v =>
        have := valV_in e
        rw [List.map_cons] at h
        exact absurd rfl ((List.nodup_append.mp h).2.2 _ this _ List.mem_cons_self)
    show mergeK (putK acc k.1 k.2) ks = _
    rw [putK_new _ hk, mergeK_nd ks (acc ++ [(k.1, k.2)]) (by rw [List.map_append, List.append_assoc]; simpa using h)]
    simp
theorem ColsAt.keys {K : PySem.W.Frag} {H : Hp} {ks : List (Key × V)} {cols : List (Str × Kd)} (h : ColsAt K H ks cols) : ks.map (·.1) = cols.map fun c => Sum.inr c.1 := Paired.mapEq h fun _ _ z => z.1
theorem ColsAt.mono {K : PySem.W.Frag} {H H' : Hp} (e : Same H H') {ks : List (Key × V)} {cols : List (Str × Kd)} (h : ColsAt K H ks cols) : ColsAt K H' ks cols := L2.Paired.mapP h fun _ _ z => ⟨z.1, z.2.mono e⟩
theorem cols_of {K : PySem.W.Frag} {H : Hp} : ∀ {ps : List Addr} {cols : List (Str × Kd)}, Paired (ColAt K H) ps cols → ∃ ks, ColsAt K H ks cols ∧ Paired (fun p kv => SqT K H p [kV kv.1, kv.2]) ps ks
  | _, _, .nil => ⟨[], .nil, .nil⟩
  | _, _, .cons (b := c) h t => by
    obtain ⟨ks, h1, h2⟩ := cols_of t
    obtain ⟨kv, a, b⟩ := h
    exact ⟨(Sum.inr c.1, kv) :: ks, .cons ⟨rfl, b⟩ h1, .cons a h2⟩
theorem inr_nd : ∀ {l : List Str}, l.Nodup → (l.map fun c => (Sum.inr c : Key)).Nodup := fun {l} h => List.Pairwise.map _ (fun a b z e => z (Sum.inr.inj e)) h
def spColumnsOf (K : PySem.W.Frag) : Sp := fun vs H Q _ => ∃ f n F t, vs = [f, .str n] ∧ FmAt K H f F ∧ tabAt F n = some t ∧ ∀ p ks, ColsAt K H ks t.cols → H p = none → Q (.ref p) (upd H p (.dK ks))
theorem ok_columns_of (T : Tx K mg) : DefOk P w K mg base ("columns_of", none) ["form", "table"] [] 4 (spColumnsOf K) := by
  refine def_ok T.f_columns_of sc_columns_of (fun vs H Q E h => by first | (obtain ⟨ rfl, _⟩ := h; rfl) | (obtain ⟨_,  rfl, _⟩ := h; rfl) | (obtain ⟨_, _,  rfl, _⟩ := h; rfl) | (obtain ⟨_, _, _,  rfl, _⟩ := h; rfl) | (obtain ⟨_, _, _, _,  rfl, _⟩ := h; rfl) | (obtain ⟨_, _, _, _, _,  rfl, _⟩ := h; rfl) | (obtain ⟨_, _, _, _, _, _,  rfl, _⟩ := h; rfl) | (obtain ⟨_, _, _, _, _, _, _,  rfl, _⟩ := h; rfl) | (obtain ⟨_, _, _, _, _, _, _, _,  rfl, _⟩ := h; rfl) | (obtain ⟨_, _, _, _, _, _, _, _, _,  rfl, _⟩ := h; rfl) | (obtain ⟨_, _, _, _, _, _, _, _, _, _,  rfl, _⟩ := h; rfl) | (obtain ⟨_, _, _, _, _, _, _, _, _, _, _,  rfl, _⟩ := h; rfl) | (obtain ⟨_, _, _, _, _, _, _, _, _, _, _, _,  rfl, _⟩ := h; rfl) | (obtain ⟨_, _, _, _, _, _, _, _, _, _, _, _, _,  rfl, _⟩ := h; rfl)) (fun _ _ _ _ _ _ us hl => match us, hl with | [_, _], _ => rfl) (fun cdv A outer s H vs Q E hr h => ?_)
  have hu := hu_of hr
  refine ⟨_, (pss_one (ps_ret (pe_callTy (dictUK (K := K) rfl) rfl T.b_dict (by decide +kernel) (pa_cons (pe_ix (ixT (K := K)) (callK (ok_table_at T) hr (by decide) (takes_of rfl rfl rfl rfl) T.g_table_at (pa_cons (pv 0) (pa_cons (pv 1) pa_nil))) pe_int (fun _ _ => rfl)) pa_nil)))), ?_⟩
  obtain ⟨f, n, F, t, rfl, hF, ht, q⟩ := h
  obtain ⟨_, _, _, _, _, _, _, _, _, hco⟩ := id hF
  have hn := (hco t (List.mem_of_find?_eq_some ht)).2.1
  walk_at "go"
  refine ⟨f, n, F, t, rfl, hF, ht, fun v hv => ?_⟩
  obtain ⟨a, b, ps, rfl, ha, hb, hps⟩ := hv
  obtain ⟨ks, h1, h2⟩ := cols_of hps
  walk_at "go"
  refine ⟨_, ps, ks, rfl, hb, h2, fun p hp => ?_⟩
  have e : mergeK [] ks = ks := by
    have := mergeK_nd ks [] (by
      rw [List.map_nil, List.nil_append, h1.keys]
      have := inr_nd hn
      rwa [List.map_map] at this)
    simpa using this
  rw [e]
  exact q p ks h1 hp


/-! ### rows and sheets -/
abbrev Row := List (Key × V)
def shapeOk (kd : Kd) (x : Vl) : Prop := (∀ k, kd = .list k → ∃ xs, x = .tp xs) ∧ (∀ xs, x = .tp xs → ∃ k, kd = .list k)
def RowOk (K : PySem.W.Frag) (H : Hp) (size : Int) (row : Row) (cols : List (Str × Kd)) : Prop := row.length = cols.length ∧ ∀ c ∈ cols, ∃ v x, valV row (Sum.inr c.1) = some v ∧ VlAt K H v x ∧ shapeOk c.2 x ∧ fitsK size c.2 x = true
theorem VlAt.mono {K : PySem.W.Frag} {H H' : Hp} (e : Same H H') {v : V} {x : Vl} (h : VlAt K H v x) : VlAt K H' v x := by
  cases x with
  | v x => exact h
  | tp xs => obtain ⟨p, a, b, c⟩ := h; exact ⟨p, a, e.sqT b, c⟩
theorem RowOk.mono {K : PySem.W.Frag} {H H' : Hp} (e : Same H H') {size : Int} {row : Row} {cols : List (Str × Kd)} (h : RowOk K H size row cols) : RowOk K H' size row cols :=
  ⟨h.1, fun c hc => let ⟨v, x, a, b, d⟩ := h.2 c hc; ⟨v, x, a, b.mono e, d⟩⟩
theorem kd_simp {F : Fm} {K : PySem.W.Frag} {H : Hp} {f : V} (h : FmAt K H f F) {n : Str} {t : Tb} (ht : tabAt F n = some t) : t.cols.length ≤ 12 ∧ (t.cols.map (·.1)).Nodup ∧ ∀ c ∈ t.cols, simpKd c.2 = true :=
  let ⟨_, _, _, _, _, _, _, _, _, z⟩ := h; z t (List.mem_of_find?_eq_some ht)
def spFitsColumns (K : PySem.W.Frag) : Sp := fun vs H Q _ => ∃ (size : Int) (c r : Addr) (ps : List Addr) (cols : List (Str × Kd)) (row : Row), vs = [.int size, .ref c, .ref r] ∧ SqU H c (ps.map V.ref) ∧ Paired (ColAt K H) ps cols ∧ (∀ c ∈ cols, simpKd c.2 = true) ∧ H r = some (.dK row) ∧ RowOk K H size row cols ∧ Q (.bl true) H
theorem ok_fits_columns (T : Tx K mg) : DefOk P w K mg base ("fits_columns", none) ["size", "columns", "row"] [] 5 (spFitsColumns K) := by
  refine def_ok T.f_fits_columns sc_fits_columns (fun vs H Q E h => by first | (obtain ⟨ rfl, _⟩ := h; rfl) | (obtain ⟨_,  rfl, _⟩ := h; rfl) | (obtain ⟨_, _,  rfl, _⟩ := h; rfl) | (obtain ⟨_, _, _,  rfl, _⟩ := h; rfl) | (obtain ⟨_, _, _, _,  rfl, _⟩ := h; rfl) | (obtain ⟨_, _, _, _, _,  rfl, _⟩ := h; rfl) | (obtain ⟨_, _, _, _, _, _,  rfl, _⟩ := h; rfl) | (obtain ⟨_, _, _, _, _, _, _,  rfl, _⟩ := h; rfl) | (obtain ⟨_, _, _, _, _, _, _, _,  rfl, _⟩ := h; rfl) | (obtain ⟨_, _, _, _, _, _, _, _, _,  rfl, _⟩ := h; rfl) | (obtain ⟨_, _, _, _, _, _, _, _, _, _,  rfl, _⟩ := h; rfl) | (obtain ⟨_, _, _, _, _, _, _, _, _, _, _,  rfl, _⟩ := h; rfl) | (obtain ⟨_, _, _, _, _, _, _, _, _, _, _, _,  rfl, _⟩ := h; rfl) | (obtain ⟨_, _, _, _, _, _, _, _, _, _, _, _, _,  rfl, _⟩ := h; rfl)) (fun _ _ _ _ _ _ us hl => match us, hl with | [_, _, _], _ => rfl) (fun cdv A outer s H vs Q E hr h => ?_)
  have hu := hu_of hr
  refine ⟨_, (pss_cons (ps_if (PW.pt (pw_or (pt_not (pt_val (pe_callB (isiK (K := K)) rfl T.b_isinstance (by decide +kernel) (pa_cons (pv 2) (pa_cons (pe_bltn (v := .ty "dict") rfl T.b_dict (by decide +kernel) rfl) pa_nil))))) (pw_or1 (pt_cmpR op_ne (pe_callB call_lenD rfl T.b_len (by decide +kernel) (pa_cons (pv 2) pa_nil)) (pe_callB (lenK (K := K)) rfl T.b_len (by decide +kernel) (pa_cons (pv 1) pa_nil)) (nomark _)))))
      (pss_one (ps_ret pe_bl))
      pss_nil)
      (pss_cons (ps_for (passes_of rfl) rfl (tupI (K := K) (pv 1)) (pg_tup rfl (pgs_cons (pg_name (i := 3) sc_fits_columns.nd rfl (Or.inl rfl)) (pgs_cons (pg_name (i := 4) sc_fits_columns.nd rfl (Or.inl rfl)) pgs_nil)))
      (pss_one (ps_if (PW.pt (pw_or (pt_cmp (pc_dnotin hu (pv 3) (pv 2)) (by with_unfolding_all rfl)) (pw_or1 (pt_not (pt_val (callK (ok_fits T) hr (by decide) (takes_of rfl rfl rfl rfl) T.g_fits (pa_cons (pv 4) (pa_cons (pe_dget hu (pv 2) (pv 3) (fun _ _ => rfl)) (pa_cons (pv 0) pa_nil)))))))))
      (pss_one (ps_ret pe_bl))
      pss_nil)))
      (pss_one (ps_ret pe_bl)))), ?_⟩
  obtain ⟨size, c, r, ps, cols, row, rfl, hc, hps, hsi, hr', ⟨hlen, hro⟩, q⟩ := h
  have hl := hps.length
  walk_at "go"
  refine ⟨_, row, rfl, hr', ?_⟩
  walk_at "go"
  refine ⟨_, (ps.map V.ref).length, rfl, .inr ⟨_, hc.sqT, rfl⟩, ?_⟩
  walk_at "go"
  refine iteN (fun e => ?_) (fun _ => ?_)
  · exact absurd (by rw [List.length_map, hl, hlen]) e
  walk_at "go"
  refine ⟨⟨_, hc.sqT⟩, for_tup (K := K) (a := c) (xs := ps.map V.ref) (fun i σ H' => ∃ v u, σ = [some (.int size), some (.ref c), some (.ref r), v, u] ∧ H' = H) ⟨none, none, rfl, rfl⟩ (fun i σ H' _ h => by obtain ⟨_, _, _, rfl⟩ := h; exact hc.sqT) ?_ ?_⟩
  · rintro i x σ H' hi ⟨v, u, rfl, rfl⟩
    rw [List.getElem?_map] at hi
    obtain ⟨p, hp, rfl⟩ := Option.map_eq_some_iff.mp hi
    obtain ⟨col, hcol, kv, ha, hk⟩ := Paired.at hps hp
    have hm := List.mem_of_getElem? hcol
    obtain ⟨v, x, g1, g2, ⟨g3, g4⟩, g5⟩ := hro col hm
    walk_at "go"
    refine ⟨kv, v, size, col.2, x, rfl, hk, hsi _ hm, g2, g3, g4, ?_⟩
    rw [g5]
    walk_at "go"
    exact ⟨_, _, rfl, rfl⟩
  · rintro σ H' ⟨v, u, rfl, rfl⟩
    walk_at "go"
    exact q
def spIsRow (K : PySem.W.Frag) : Sp := fun vs H Q _ => ∃ (f : V) (n : Str) (r : Addr) (F : Fm) (t : Tb) (row : Row), vs = [f, .str n, .ref r] ∧ FmAt K H f F ∧ tabAt F n = some t ∧ H r = some (.dK row) ∧ RowOk K H F.size row t.cols ∧ Q (.bl true) H
theorem ok_is_row (T : Tx K mg) : DefOk P w K mg base ("is_row", none) ["form", "table", "row"] [] 6 (spIsRow K) := by
  refine def_ok T.f_is_row sc_is_row (fun vs H Q E h => by first | (obtain ⟨ rfl, _⟩ := h; rfl) | (obtain ⟨_,  rfl, _⟩ := h; rfl) | (obtain ⟨_, _,  rfl, _⟩ := h; rfl) | (obtain ⟨_, _, _,  rfl, _⟩ := h; rfl) | (obtain ⟨_, _, _, _,  rfl, _⟩ := h; rfl) | (obtain ⟨_, _, _, _, _,  rfl, _⟩ := h; rfl) | (obtain ⟨_, _, _, _, _, _,  rfl, _⟩ := h; rfl) | (obtain ⟨_, _, _, _, _, _, _,  rfl, _⟩ := h; rfl) | (obtain ⟨_, _, _, _, _, _, _, _,  rfl, _⟩ := h; rfl) | (obtain ⟨_, _, _, _, _, _, _, _, _,  rfl, _⟩ := h; rfl) | (obtain ⟨_, _, _, _, _, _, _, _, _, _,  rfl, _⟩ := h; rfl) | (obtain ⟨_, _, _, _, _, _, _, _, _, _, _,  rfl, _⟩ := h; rfl) | (obtain ⟨_, _, _, _, _, _, _, _, _, _, _, _,  rfl, _⟩ := h; rfl) | (obtain ⟨_, _, _, _, _, _, _, _, _, _, _, _, _,  rfl, _⟩ := h; rfl)) (fun _ _ _ _ _ _ us hl => match us, hl with | [_, _, _], _ => rfl) (fun cdv A outer s H vs Q E hr h => ?_)
  have hu := hu_of hr
  refine ⟨_, (pss_cons (ps_for (passes_of rfl) rfl (tupI (K := K) (pe_ix (ixT (K := K)) (pv 0) pe_int (fun _ _ => rfl))) (pg_tup rfl (pgs_cons (pg_name (i := 3) sc_is_row.nd rfl (Or.inl rfl)) (pgs_cons (pg_name (i := 4) sc_is_row.nd rfl (Or.inl rfl)) (pgs_cons (pg_name (i := 5) sc_is_row.nd rfl (Or.inl rfl)) pgs_nil))))
      (pss_one (ps_if (pt_cmpR op_eq (pv 3) (pv 1) (nomark _))
      (pss_one (ps_ret (callK (ok_fits_columns T) hr (by decide) (takes_of rfl rfl rfl rfl) T.g_fits_columns (pa_cons (pe_ix (ixT (K := K)) (pv 0) pe_int (fun _ _ => rfl)) (pa_cons (pv 5) (pa_cons (pv 2) pa_nil))))))
      pss_nil)))
      (pss_one (ps_ret pe_bl))), ?_⟩
  obtain ⟨f, n, r, F, t, row, rfl, hF, ht, hr', hro, q⟩ := h
  have hsi := (kd_simp hF ht).2.2
  obtain ⟨p, c, ts, rfl, hp, hc, hts, _⟩ := hF
  walk_at "go"
  refine ⟨⟨_, hc⟩, for_tup (K := K) (a := c) (xs := ts) (fun i σ H' => ∃ v u z, σ = [some (.ref p), some (.str n), some (.ref r), v, u, z] ∧ H' = H ∧ (F.tabs.take i).find? (fun t => t.name == n) = none) ⟨none, none, none, rfl, rfl, rfl⟩ (fun i σ H' _ h => by obtain ⟨_, _, _, _, rfl, _⟩ := h; exact hc) ?_ ?_⟩
  · rintro i x σ H' hi ⟨v, u, z, rfl, rfl, hn⟩
    obtain ⟨tb, htb, hx⟩ := Paired.at hts hi
    obtain ⟨a, b, ps, rfl, ha, hb, hps⟩ := id hx
    walk_at "go"
    refine iteD (fun e => ?_) (fun e => ?_)
    · have e1 : tb.name = n := V.str.inj e
      have : tabAt F n = some tb := by
        unfold tabAt
        have : F.tabs = F.tabs.take i ++ tb :: F.tabs.drop (i + 1) := by
          obtain ⟨hlt, e⟩ := List.getElem?_eq_some_iff.mp htb
          rw [← e, ← List.drop_eq_getElem_cons hlt, List.take_append_drop]
        rw [this, List.find?_append, hn, List.find?_cons]
        simp [e1]
      rw [ht] at this
      cases this
      walk_at "go"
      refine ⟨F.size, b, r, ps, t.cols, row, rfl, hb, hps, hsi, hr', hro, ?_⟩
      exact q
    · walk_at "go"
      refine ⟨_, _, _, rfl, rfl, ?_⟩
      rw [List.take_succ, htb, List.find?_append, hn]
      have : ¬ tb.name = n := fun z => e (by rw [z])
      simp [this]
  · rintro σ H' ⟨v, u, z, rfl, rfl, hn⟩
    have : F.tabs.length = ts.length := hts.length.symm
    rw [← this, List.take_length] at hn
    unfold tabAt at ht
    rw [hn] at ht
    cases ht
/-- a place that a table may have -/
def spSpotFits (K : PySem.W.Frag) : Sp := fun vs H Q _ => ∃ (f : V) (n : Str) (k p : Int) (F : Fm) (t : Tb), vs = [f, .str n, .int k, .int p] ∧ FmAt K H f F ∧ tabAt F n = some t ∧ 0 ≤ k ∧ k < F.size ∧ 0 ≤ p ∧ (p = 0 ∨ t.sort = "many" ∨ t.sort = "some") ∧ ∀ H', Same H H' → Q (.bl true) H'
theorem ok_spot_fits (T : Tx K mg) : DefOk P w K mg base ("spot_fits", none) ["form", "table", "key", "place"] [] 5 (spSpotFits K) := by
  refine def_ok T.f_spot_fits sc_spot_fits (fun vs H Q E h => by first | (obtain ⟨ rfl, _⟩ := h; rfl) | (obtain ⟨_,  rfl, _⟩ := h; rfl) | (obtain ⟨_, _,  rfl, _⟩ := h; rfl) | (obtain ⟨_, _, _,  rfl, _⟩ := h; rfl) | (obtain ⟨_, _, _, _,  rfl, _⟩ := h; rfl) | (obtain ⟨_, _, _, _, _,  rfl, _⟩ := h; rfl) | (obtain ⟨_, _, _, _, _, _,  rfl, _⟩ := h; rfl) | (obtain ⟨_, _, _, _, _, _, _,  rfl, _⟩ := h; rfl) | (obtain ⟨_, _, _, _, _, _, _, _,  rfl, _⟩ := h; rfl) | (obtain ⟨_, _, _, _, _, _, _, _, _,  rfl, _⟩ := h; rfl) | (obtain ⟨_, _, _, _, _, _, _, _, _, _,  rfl, _⟩ := h; rfl) | (obtain ⟨_, _, _, _, _, _, _, _, _, _, _,  rfl, _⟩ := h; rfl) | (obtain ⟨_, _, _, _, _, _, _, _, _, _, _, _,  rfl, _⟩ := h; rfl) | (obtain ⟨_, _, _, _, _, _, _, _, _, _, _, _, _,  rfl, _⟩ := h; rfl)) (fun _ _ _ _ _ _ us hl => match us, hl with | [_, _, _, _], _ => rfl) (fun cdv A outer s H vs Q E hr h => ?_)
  have hu := hu_of hr
  refine ⟨_, (pss_cons (ps_if (PW.pt (pw_or (pt_not (pt_val (callK (ok_is_whole T) hr (by decide) (takes_of rfl rfl rfl rfl) T.g_is_whole (pa_cons (pv 2) pa_nil)))) (pw_or1 (pt_not (pt_val (callK (ok_is_whole T) hr (by decide) (takes_of rfl rfl rfl rfl) T.g_is_whole (pa_cons (pv 3) pa_nil)))))))
      (pss_one (ps_ret pe_bl))
      pss_nil)
      (pss_cons (ps_if (PW.pt (pw_or (pt_cmpR op_lt (pv 2) pe_int (nomark _)) (pw_or (pt_cmpR op_ge (pv 2) (pe_ix (ixT (K := K)) (pv 0) pe_int (fun _ _ => rfl)) (nomark _)) (pw_or1 (pt_cmpR op_lt (pv 3) pe_int (nomark _))))))
      (pss_one (ps_ret pe_bl))
      pss_nil)
      (pss_one (ps_ret (pe_or (pe_cmpR op_eq (pv 3) pe_int (nomark _)) (pe_one (pe_cmpR (inQ (K := K)) (callK (ok_sort_of T) hr (by decide) (takes_of rfl rfl rfl rfl) T.g_sort_of (pa_cons (pv 0) (pa_cons (pv 1) pa_nil))) (pe_tup (pa_cons pe_str (pa_cons pe_str pa_nil))) (by with_unfolding_all rfl)))))))), ?_⟩
  obtain ⟨f0, n, k, p, F, t, rfl, hF, ht, h1, h2, h3, h4, q⟩ := h
  obtain ⟨a, c, ts, rfl, hp, hc, hts, _⟩ := id hF
  walk_at "go"
  refine iteD (fun h => ?_) (fun h => ?_)
  · omega
  walk_at "go"
  refine iteD (fun h => ?_) (fun h => ?_)
  · omega
  walk_at "go"
  refine iteD (fun h => ?_) (fun h => ?_)
  · omega
  walk_at "go"
  refine iteD (fun _ => q _ fun _ _ e => e) (fun h0 => ?_)
  walk_at "go"
  refine ⟨.ref a, n, F, t, rfl, hF, ht, ?_⟩
  walk_at "go"
  refine ⟨by walk_at "sz", fun d hd => ?_⟩
  refine ⟨_, _, rfl, .inr (SqT.of upd_same), rfl, rfl, ?_⟩
  have e : inV (V.str t.sort) [V.str "many", V.str "some"] = true := by
    rcases h4 with rfl | h | h
    · exact absurd rfl h0
    · rw [h]; decide +kernel
    · rw [h]; decide +kernel
  show Q (.bl (inV (V.str t.sort) [V.str "many", V.str "some"])) _
  rw [e]
  exact q _ (Same.new hd)
def StepAt (K : PySem.W.Frag) (H : Hp) (v : V) (op : Str) (n : Str) (k p : Int) (row : Row) : Prop := ∃ a, v = .ref a ∧ ((op = "cut" ∧ SqT K H a [.str op, .str n, .int k, .int p]) ∨ (op ≠ "cut" ∧ ∃ r, SqT K H a [.str op, .str n, .int k, .int p, .ref r] ∧ H r = some (.dK row)))
def spStepFits (K : PySem.W.Frag) : Sp := fun vs H Q _ => ∃ (f s : V) (F : Fm) (op n : Str) (k p : Int) (row : Row) (t : Tb), vs = [f, s] ∧ FmAt K H f F ∧ StepAt K H s op n k p row ∧ tabAt F n = some t ∧ 0 ≤ k ∧ k < F.size ∧ 0 ≤ p ∧ (p = 0 ∨ t.sort = "many" ∨ t.sort = "some") ∧ (op ≠ "cut" → RowOk K H F.size row t.cols) ∧ ∀ H', Same H H' → Q (.bl true) H'
theorem ok_step_fits (T : Tx K mg) : DefOk P w K mg base ("step_fits", none) ["form", "step"] [] 7 (spStepFits K) := by
  refine def_ok T.f_step_fits sc_step_fits (fun vs H Q E h => by first | (obtain ⟨ rfl, _⟩ := h; rfl) | (obtain ⟨_,  rfl, _⟩ := h; rfl) | (obtain ⟨_, _,  rfl, _⟩ := h; rfl) | (obtain ⟨_, _, _,  rfl, _⟩ := h; rfl) | (obtain ⟨_, _, _, _,  rfl, _⟩ := h; rfl) | (obtain ⟨_, _, _, _, _,  rfl, _⟩ := h; rfl) | (obtain ⟨_, _, _, _, _, _,  rfl, _⟩ := h; rfl) | (obtain ⟨_, _, _, _, _, _, _,  rfl, _⟩ := h; rfl) | (obtain ⟨_, _, _, _, _, _, _, _,  rfl, _⟩ := h; rfl) | (obtain ⟨_, _, _, _, _, _, _, _, _,  rfl, _⟩ := h; rfl) | (obtain ⟨_, _, _, _, _, _, _, _, _, _,  rfl, _⟩ := h; rfl) | (obtain ⟨_, _, _, _, _, _, _, _, _, _, _,  rfl, _⟩ := h; rfl) | (obtain ⟨_, _, _, _, _, _, _, _, _, _, _, _,  rfl, _⟩ := h; rfl) | (obtain ⟨_, _, _, _, _, _, _, _, _, _, _, _, _,  rfl, _⟩ := h; rfl)) (fun _ _ _ _ _ _ us hl => match us, hl with | [_, _], _ => rfl) (fun cdv A outer s H vs Q E hr h => ?_)
  have hu := hu_of hr
  refine ⟨_, (pss_cons (ps_if (pt_not (pt_val (callK (ok_spot_fits T) hr (by decide) (takes_of rfl rfl rfl rfl) T.g_spot_fits (pa_cons (pv 0) (pa_cons (pe_ix (ixT (K := K)) (pv 1) pe_int (fun _ _ => rfl)) (pa_cons (pe_ix (ixT (K := K)) (pv 1) pe_int (fun _ _ => rfl)) (pa_cons (pe_ix (ixT (K := K)) (pv 1) pe_int (fun _ _ => rfl)) pa_nil)))))))
      (pss_one (ps_ret pe_bl))
      pss_nil)
      (pss_one (ps_ret (pe_or (pe_cmpR op_eq (pe_ix (ixT (K := K)) (pv 1) pe_int (fun _ _ => rfl)) pe_str (nomark _)) (pe_one (callK (ok_is_row T) hr (by decide) (takes_of rfl rfl rfl rfl) T.g_is_row (pa_cons (pv 0) (pa_cons (pe_ix (ixT (K := K)) (pv 1) pe_int (fun _ _ => rfl)) (pa_cons (pe_ix (ixT (K := K)) (pv 1) pe_int (fun _ _ => rfl)) pa_nil))))))))), ?_⟩
  obtain ⟨f, s, F, op, n, k, p, row, t, rfl, hF, hS, ht, h1, h2, h3, h4, h5, q⟩ := h
  have hF0 := hF
  obtain ⟨fa, c, ts, rfl, hp, hc, hts, _⟩ := hF
  obtain ⟨a, rfl, ⟨e, hs⟩ | ⟨e, r, hs, hr0⟩⟩ := hS
  · walk_at "go"
    refine ⟨.ref fa, n, k, p, F, t, rfl, hF0, ht, h1, h2, h3, h4, fun H' sm => ?_⟩
    have hs' := sm.sqT hs
    walk_at "go"
    exact iteD (fun _ => q _ sm) fun z => absurd (by rw [e]) z
  · walk_at "go"
    refine ⟨.ref fa, n, k, p, F, t, rfl, hF0, ht, h1, h2, h3, h4, fun H' sm => ?_⟩
    have hs' := sm.sqT hs
    have hr' := sm _ _ hr0
    have hF1 := hF0.mono sm
    walk_at "go"
    refine iteD (fun z => absurd (V.str.inj z) e) (fun _ => ?_)
    walk_at "go"
    exact ⟨.ref fa, n, r, F, t, row, rfl, hF1, ht, hr', (h5 e).mono sm, q _ sm⟩


/-! ### sheets -/
section
variable {κ β γ : Type} [DecidableEq κ]
def lookB (l : List (κ × β)) (k : κ) : Option β := (l.find? fun x => decide (x.1 = k)).map (·.2)
def putB (l : List (κ × β)) (k : κ) (v : β) : List (κ × β) := if (l.any fun x => decide (x.1 = k)) = true then l.map (fun x => if x.1 = k then (x.1, v) else x) else l ++ [(k, v)]
def cutB (l : List (κ × β)) (k : κ) : List (κ × β) := l.filter fun x => decide (x.1 ≠ k)
theorem lookB_cons (a : κ × β) (l : List (κ × β)) (k : κ) : lookB (a :: l) k = if a.1 = k then some a.2 else lookB l k := by
  unfold lookB; by_cases h : a.1 = k <;> simp [List.find?_cons, h]
theorem anyB (l : List (κ × β)) (k : κ) : (l.any fun x => decide (x.1 = k)) = (lookB l k).isSome := by
  induction l with
  | nil => rfl
  | cons a l ih => rw [lookB_cons, List.any_cons, ih]; by_cases h : a.1 = k <;> simp [h]
theorem lookB_mem {l : List (κ × β)} {k : κ} {v : β} (h : lookB l k = some v) : (k, v) ∈ l := by
  induction l with
  | nil => cases h
  | cons a l ih =>
    rw [lookB_cons] at h
    by_cases e : a.1 = k
    · rw [if_pos e] at h; cases h; subst e; exact List.mem_cons_self
    · rw [if_neg e] at h; exact List.mem_cons_of_mem _ (ih h)
theorem lookB_put (l : List (κ × β)) (k j : κ) (v : β) : lookB (putB l k v) j = if k = j then some v else lookB l j := by
  unfold putB
  by_cases h : (l.any fun x => decide (x.1 = k)) = true
  · rw [if_pos h]
    induction l with
    | nil => cases h
    | cons a l ih =>
      rw [List.map_cons, lookB_cons, lookB_cons]
      rw [List.any_cons] at h
      by_cases e : a.1 = k
      · subst e
        simp only [if_true]
        by_cases ej : a.1 = j
        · simp [ej]
        · simp only [if_neg ej]
          by_cases h2 : (l.any fun x => decide (x.1 = a.1)) = true
          · rw [ih h2, if_neg ej]
          · have : l.map (fun x => if x.1 = a.1 then (x.1, v) else x) = l := by
              have : ∀ x ∈ l, ¬ x.1 = a.1 := fun x hx z => h2 (List.any_eq_true.mpr ⟨x, hx, by simp [z]⟩)
              conv => rhs; rw [← List.map_id l]
              exact List.map_congr_left fun x hx => by rw [if_neg (this x hx)]; rfl
            rw [this]
      · simp only [if_neg e]
        have h2 : (l.any fun x => decide (x.1 = k)) = true := by simpa [e] using h
        rw [ih h2]
        by_cases ej : a.1 = j
        · subst ej; rw [if_pos rfl, if_neg (fun z : k = a.1 => e z.symm), if_pos rfl]
        · rw [if_neg ej, if_neg ej]
  · rw [if_neg h]
    have hn : ∀ x ∈ l, ¬ x.1 = k := fun x hx z => h (List.any_eq_true.mpr ⟨x, hx, by simp [z]⟩)
    clear h
    induction l with
    | nil => simp [lookB_cons]
    | cons a l ih =>
      rw [List.cons_append, lookB_cons, lookB_cons, ih fun x hx => hn x (List.mem_cons_of_mem _ hx)]
      by_cases e : a.1 = j
      · have := hn a List.mem_cons_self; subst e; rw [if_pos rfl, if_neg (fun z : k = a.1 => this z.symm), if_pos rfl]
      · simp [e]
theorem lookB_cut (l : List (κ × β)) (k j : κ) : lookB (cutB l k) j = if k = j then none else lookB l j := by
  unfold cutB
  induction l with
  | nil => simp [lookB]
  | cons a l ih =>
    by_cases e : a.1 = k
    · subst e
      rw [List.filter_cons_of_neg (by simp), ih, lookB_cons]
      by_cases ej : a.1 = j <;> simp [ej]
    · rw [List.filter_cons_of_pos (by simp [e]), lookB_cons, lookB_cons, ih]
      by_cases ej : a.1 = j
      · subst ej; rw [if_pos rfl, if_neg (fun z : k = a.1 => e z.symm), if_pos rfl]
      · rw [if_neg ej, if_neg ej]
theorem putB_len (l : List (κ × β)) (k : κ) (v : β) : (putB l k v).length ≤ l.length + 1 := by
  unfold putB; split <;> simp
theorem cutB_len (l : List (κ × β)) (k : κ) : (cutB l k).length ≤ l.length := List.length_filter_le _ _
theorem look_rel {F : κ × V → γ × β → Prop} [DecidableEq γ] {e : γ → κ} (he : ∀ x y, e x = e y → x = y) (hF : ∀ a b, F a b → a.1 = e b.1) {l : List (κ × V)} {m : List (γ × β)} (h : Paired F l m) (k : γ) :
    (valV l (e k) = none ∧ lookB m k = none) ∨ ∃ v r, valV l (e k) = some v ∧ lookB m k = some r ∧ F (e k, v) (k, r) := by
  induction h with
  | nil => exact .inl ⟨rfl, rfl⟩
  | cons r _ ih =>
    rename_i a b as bs _
    have e1 := hF _ _ r
    rw [lookB_cons]
    by_cases ek : b.1 = k
    · subst ek
      refine .inr ⟨a.2, b.2, valV_pos e1, if_pos rfl, ?_⟩
      rw [← e1]
      exact r
    · rw [valV_neg (fun z => ek (he _ _ (e1.symm.trans z))), if_neg ek]
      exact ih
theorem any_rel {F : κ × V → γ × β → Prop} [DecidableEq γ] {e : γ → κ} (he : ∀ x y, e x = e y → x = y) (hF : ∀ a b, F a b → a.1 = e b.1) {l : List (κ × V)} {m : List (γ × β)} (h : Paired F l m) (k : γ) :
    (l.any fun x => decide (x.1 = e k)) = m.any fun x => decide (x.1 = k) := by
  induction h with
  | nil => rfl
  | cons r _ ih =>
    rw [List.any_cons, List.any_cons, ih, hF _ _ r]
    congr 1
    exact decide_eq_decide.mpr ⟨he _ _, fun z => by rw [z]⟩
theorem put_rel {F : κ × V → γ × β → Prop} [DecidableEq γ] {e : γ → κ} (he : ∀ x y, e x = e y → x = y) (hF : ∀ a b, F a b → a.1 = e b.1) {l : List (κ × V)} {m : List (γ × β)} (h : Paired F l m) {k : γ} {v : V} {b : β} (hv : F (e k, v) (k, b)) : Paired F (putK l (e k) v) (putB m k b) := by
  unfold putK putB
  rw [any_rel he hF h]
  by_cases c : (m.any fun x => decide (x.1 = k)) = true
  · rw [if_pos c, if_pos c]
    clear c
    induction h with
    | nil => exact .nil
    | cons r _ ih =>
      rename_i a b' as bs _
      rw [List.map_cons, List.map_cons]
      refine .cons ?_ ih
      have e1 := hF _ _ r
      by_cases ek : b'.1 = k
      · rw [if_pos ek, if_pos (by rw [e1, ek]), e1, ek]; exact hv
      · rw [if_neg ek, if_neg (fun z => ek (he _ _ (e1.symm.trans z)))]; exact r
  · rw [if_neg c, if_neg c]
    clear c
    induction h with
    | nil => exact .cons hv .nil
    | cons r _ ih => exact .cons r ih
theorem cut_rel {F : κ × V → γ × β → Prop} [DecidableEq γ] {e : γ → κ} (he : ∀ x y, e x = e y → x = y) (hF : ∀ a b, F a b → a.1 = e b.1) {l : List (κ × V)} {m : List (γ × β)} (h : Paired F l m) (k : γ) : Paired F (dropK l (e k)) (cutB m k) := by
  unfold dropK cutB
  induction h with
  | nil => exact .nil
  | cons r _ ih =>
    have e1 := hF _ _ r
    rename_i a b' as bs _
    by_cases ek : b'.1 = k
    · have e2 : a.1 = e k := by rw [e1, ek]
      rw [List.filter_cons_of_neg (by simp [e2]), List.filter_cons_of_neg (by simp [ek])]; exact ih
    · have e2 : ¬ a.1 = e k := fun z => ek (he _ _ (e1.symm.trans z))
      rw [List.filter_cons_of_pos (by simp [e2]), List.filter_cons_of_pos (by simp [ek])]; exact .cons r ih
end
abbrev Sheet := List ((Int × Int) × Row)
def spotKey (p : Int × Int) : List Key := [Sum.inl p.1, Sum.inl p.2]
theorem spotKey_inj : ∀ x y, spotKey x = spotKey y → x = y := fun ⟨a, b⟩ ⟨c, d⟩ h => by
  have := List.cons.inj h
  have h1 : a = c := Sum.inl.inj this.1
  have h2 : b = d := Sum.inl.inj (List.cons.inj this.2).1
  rw [h1, h2]
def SpotAt (H : Hp) (kv : List Key × V) (s : (Int × Int) × Row) : Prop := kv.1 = spotKey s.1 ∧ ∃ b, kv.2 = .ref b ∧ H b = some (.dK s.2)
def ShAt (H : Hp) (a : Addr) (S : Sheet) : Prop := ∃ kvs, H a = some (.dT kvs) ∧ Paired (SpotAt H) kvs S
/-- the sheets of a Plain: their names and addresses, what they hold -/
structure ShsAt (H : Hp) (q : Addr) (L : List (Str × Addr)) (C : Str → Sheet) : Prop where
  top : H q = some (.dK (L.map fun x => (Sum.inr x.1, V.ref x.2)))
  ns : (L.map (·.1)).Nodup
  as : (L.map (·.2)).Nodup
  sh : ∀ x ∈ L, ShAt H x.2 (C x.1)
theorem SpotAt.mono {H H' : Hp} (e : Same H H') {kv : List Key × V} {s : (Int × Int) × Row} (h : SpotAt H kv s) : SpotAt H' kv s := let ⟨a, b, c, d⟩ := h; ⟨a, b, c, e _ _ d⟩
theorem ShAt.mono {H H' : Hp} (e : Same H H') {a : Addr} {S : Sheet} (h : ShAt H a S) : ShAt H' a S := let ⟨k, x, y⟩ := h; ⟨k, e _ _ x, L2.Paired.mapP y fun _ _ z => z.mono e⟩
theorem ShsAt.mono {H H' : Hp} (e : Same H H') {q : Addr} {L : List (Str × Addr)} {C : Str → Sheet} (h : ShsAt H q L C) : ShsAt H' q L C := ⟨e _ _ h.top, h.ns, h.as, fun x hx => (h.sh x hx).mono e⟩
/-- all but the sheets stands -/
def But (L : List (Str × Addr)) (H H' : Hp) : Prop := ∀ b o, H b = some o → (∀ x ∈ L, x.2 ≠ b) → H' b = some o
def putC (C : Str → Sheet) (n : Str) (S : Sheet) : Str → Sheet := fun m => if m = n then S else C m
theorem sh_get {L : List (Str × Addr)} (nd : (L.map (·.1)).Nodup) {n : Str} {a : Addr} (h : (n, a) ∈ L) : valV (L.map fun x => ((Sum.inr x.1 : Key), V.ref x.2)) (Sum.inr n) = some (.ref a) := by
  induction L with
  | nil => cases h
  | cons x L ih =>
    rw [List.map_cons] at nd ⊢
    rcases List.mem_cons.mp h with e | h
    · subst e; exact valV_pos rfl
    · have : x.1 ≠ n := fun z => (List.nodup_cons.mp nd).1 (z ▸ List.mem_map.mpr ⟨_, h, rfl⟩)
      rw [valV_neg (fun z => this (Sum.inr.inj z))]
      exact ih (List.nodup_cons.mp nd).2 h
theorem sh_none {L : List (Str × Addr)} {n : Str} (h : ∀ x ∈ L, x.1 ≠ n) : valV (L.map fun x => ((Sum.inr x.1 : Key), V.ref x.2)) (Sum.inr n) = none := by
  induction L with
  | nil => rfl
  | cons x L ih =>
    rw [List.map_cons, valV_neg (fun z => h x List.mem_cons_self (Sum.inr.inj z))]
    exact ih fun y hy => h y (List.mem_cons_of_mem _ hy)
theorem sh_inj {L : List (Str × Addr)} (nd : (L.map (·.2)).Nodup) {n m : Str} {a : Addr} (h : (n, a) ∈ L) (h' : (m, a) ∈ L) : n = m := by
  induction L with
  | nil => cases h
  | cons x L ih =>
    rw [List.map_cons] at nd
    have := (List.nodup_cons.mp nd)
    rcases List.mem_cons.mp h with e | g <;> rcases List.mem_cons.mp h' with e' | g'
    · exact congrArg Prod.fst (e.trans e'.symm)
    · subst e; exact absurd (List.mem_map.mpr ⟨(m, a), g', rfl⟩ : a ∈ L.map (·.2)) this.1
    · subst e'; exact absurd (List.mem_map.mpr ⟨(n, a), g, rfl⟩ : a ∈ L.map (·.2)) this.1
    · exact ih this.2 g g'
/-- one sheet is changed: the rest of the sheets stands -/
theorem ShsAt.put {H H' : Hp} {q : Addr} {L : List (Str × Addr)} {C : Str → Sheet} (h : ShsAt H q L C) {n : Str} {a : Addr} (hn : (n, a) ∈ L) {S : Sheet} (hs : ShAt H' a S) (e : ∀ b o, H b = some o → b ≠ a → H' b = some o) : ShsAt H' q L (putC C n S) := by
  have ha : ∃ kvs, H a = some (.dT kvs) := let ⟨k, x, _⟩ := h.sh _ hn; ⟨k, x⟩
  obtain ⟨ka, ha⟩ := ha
  refine ⟨e _ _ h.top (fun z => by have := h.top; rw [z, ha] at this; cases this), h.ns, h.as, fun x hx => ?_⟩
  obtain ⟨m, b⟩ := x
  unfold putC
  by_cases em : m = n
  · subst em
    rw [if_pos rfl]
    have : b = a := by
      have e1 := sh_get h.ns hx
      rw [sh_get h.ns hn] at e1
      cases e1
      rfl
    subst this
    exact hs
  · rw [if_neg em]
    obtain ⟨k, x, y⟩ := h.sh _ hx
    refine ⟨k, e _ _ x (fun z => em (sh_inj h.as (z ▸ hx) hn)), L2.Paired.mapP y fun kv s z => ?_⟩
    obtain ⟨u, b, c, d⟩ := z
    exact ⟨u, b, c, e _ _ d (fun z => by rw [z, ha] at d; cases d)⟩
theorem sheet_get {H : Hp} {S : Sheet} {kvs : List (List Key × V)} (h : Paired (SpotAt H) kvs S) (i j : Int) : (valV kvs [Sum.inl i, Sum.inl j]).isSome = (lookB S (i, j)).isSome ∧ (∀ r, lookB S (i, j) = some r → ∃ b, valV kvs [Sum.inl i, Sum.inl j] = some (.ref b) ∧ H b = some (.dK r)) := by
  rcases look_rel (e := spotKey) spotKey_inj (fun _ _ z => z.1) h (i, j) with ⟨h1, h2⟩ | ⟨v, r, h1, h2, _, b, h3, h4⟩
  · have h1 : valV kvs [Sum.inl i, Sum.inl j] = none := h1
    rw [h1, h2]
    exact ⟨rfl, fun r z => by cases z⟩
  · have h1 : valV kvs [Sum.inl i, Sum.inl j] = some v := h1
    have h3 : v = .ref b := h3
    subst h3
    rw [h1, h2]
    refine ⟨rfl, fun r' z => ?_⟩
    cases z
    exact ⟨b, rfl, h4⟩
def doStep (S : Sheet) (op : Str) (p : Int × Int) (row : Row) : Sheet := if op = "cut" then cutB S p else putB S p row
theorem put_done {H H4 : Hp} {q a c : Addr} {L : List (Str × Addr)} {C : Str → Sheet} {n : Str} {kvs : List (List Key × V)} {k p : Int} {row : Row} (hC : ShsAt H q L C) (ha : (n, a) ∈ L) (sm : Same H H4) (hk : H a = some (.dT kvs)) (hkv : Paired (SpotAt H) kvs (C n)) (hc : H4 c = some (.dK row)) :
    But L H (upd H4 a (.dT (putK kvs [Sum.inl k, Sum.inl p] (.ref c)))) ∧ ShsAt (upd H4 a (.dT (putK kvs [Sum.inl k, Sum.inl p] (.ref c)))) q L (putC C n (putB (C n) (k, p) row)) := by
  have e : ∀ b o, H b = some o → b ≠ a → upd H4 a (.dT (putK kvs [Sum.inl k, Sum.inl p] (.ref c))) b = some o := fun b o hb ne => by rw [upd_ne ne]; exact sm _ _ hb
  have hka := sm _ _ hk
  refine ⟨fun b o hb hn => e b o hb (fun z => hn _ ha z.symm), hC.put ha ⟨_, upd_same, ?_⟩ e⟩
  refine put_rel (F := SpotAt _) (e := spotKey) (k := (k, p)) spotKey_inj (fun _ _ z => z.1) (L2.Paired.mapP hkv fun kv s z => ?_) ⟨rfl, c, rfl, ?_⟩
  · obtain ⟨z1, b, z2, z3⟩ := z
    exact ⟨z1, b, z2, e _ _ z3 (fun y => by rw [y, hk] at z3; cases z3)⟩
  · rw [upd_ne (fun y => by rw [y, hka] at hc; cases hc)]
    exact hc
theorem cut_done {H H4 : Hp} {q a : Addr} {L : List (Str × Addr)} {C : Str → Sheet} {n : Str} {kvs : List (List Key × V)} {k p : Int} (hC : ShsAt H q L C) (ha : (n, a) ∈ L) (sm : Same H H4) (hk : H a = some (.dT kvs)) (hkv : Paired (SpotAt H) kvs (C n)) :
    But L H (upd H4 a (.dT (dropK kvs [Sum.inl k, Sum.inl p]))) ∧ ShsAt (upd H4 a (.dT (dropK kvs [Sum.inl k, Sum.inl p]))) q L (putC C n (cutB (C n) (k, p))) := by
  have e : ∀ b o, H b = some o → b ≠ a → upd H4 a (.dT (dropK kvs [Sum.inl k, Sum.inl p])) b = some o := fun b o hb ne => by rw [upd_ne ne]; exact sm _ _ hb
  refine ⟨fun b o hb hn => e b o hb (fun z => hn _ ha z.symm), hC.put ha ⟨_, upd_same, ?_⟩ e⟩
  refine cut_rel (F := SpotAt _) (e := spotKey) spotKey_inj (fun _ _ z => z.1) (L2.Paired.mapP hkv fun kv s z => ?_) (k, p)
  obtain ⟨z1, b, z2, z3⟩ := z
  exact ⟨z1, b, z2, e _ _ z3 (fun y => by rw [y, hk] at z3; cases z3)⟩
theorem paired_mem {α β : Type} {F G : α → β → Prop} {l : List α} {m : List β} (h : Paired F l m) (e : ∀ a b, a ∈ l → F a b → G a b) : Paired G l m := by
  induction h with
  | nil => exact .nil
  | cons r _ ih => exact .cons (e _ _ List.mem_cons_self r) (ih fun a b ha => e a b (List.mem_cons_of_mem _ ha))
/-- where the rows stand -/
def Off (P : Addr → Prop) (H : Hp) (L : List (Str × Addr)) : Prop := ∀ x ∈ L, ∀ kvs, H x.2 = some (.dT kvs) → ∀ kv ∈ kvs, ∀ b, kv.2 = .ref b → P b
theorem ShsAt.other {P : Addr → Prop} {H H' : Hp} {q a : Addr} {L : List (Str × Addr)} {C : Str → Sheet} (hC : ShsAt H q L C) (hO : Off P H L) (hP : ¬ P a) (haq : a ≠ q) (haL : ∀ x ∈ L, x.2 ≠ a) (e : ∀ b o, H b = some o → b ≠ a → H' b = some o) : ShsAt H' q L C ∧ Off P H' L := by
  refine ⟨⟨e _ _ hC.top (Ne.symm haq), hC.ns, hC.as, fun x hx => ?_⟩, fun x hx ks e' kv hkv => ?_⟩
  · obtain ⟨k, h1, h2⟩ := hC.sh x hx
    refine ⟨k, e _ _ h1 (haL x hx), paired_mem h2 fun kv s hkv z => ?_⟩
    obtain ⟨u, b, c, d⟩ := z
    exact ⟨u, b, c, e _ _ d (fun z => hP (z ▸ hO x hx k h1 kv hkv b c))⟩
  · obtain ⟨k, h1, _⟩ := hC.sh x hx
    have := e _ _ h1 (haL x hx)
    rw [this] at e'
    cases e'
    exact hO x hx _ h1 kv hkv
theorem mem_putK {κ : Type} [DecidableEq κ] {kvs : List (κ × V)} {k : κ} {v : V} {p : κ × V} (h : p ∈ putK kvs k v) : p ∈ kvs ∨ p.2 = v := by
  unfold putK at h
  split at h
  · obtain ⟨x, hx, rfl⟩ := List.mem_map.mp h
    by_cases e : x.1 = k
    · rw [if_pos e]; exact .inr rfl
    · rw [if_neg e]; exact .inl hx
  · rcases List.mem_append.mp h with h | h
    · exact .inl h
    · cases List.mem_singleton.mp h; exact .inr rfl
theorem Off.put {P : Addr → Prop} {H H4 : Hp} {q a c : Addr} {L : List (Str × Addr)} {C : Str → Sheet} {kvs : List (List Key × V)} {k : List Key} (h : Off P H L) (hC : ShsAt H q L C) (sm : Same H H4) (ha : H a = some (.dT kvs)) {n : Str} (hn : (n, a) ∈ L) (hc : P c) : Off P (upd H4 a (.dT (putK kvs k (.ref c)))) L := by
  intro x hx ks e kv hkv b hb
  by_cases ea : x.2 = a
  · rw [ea, upd_same] at e
    cases e
    rcases mem_putK hkv with h1 | h1
    · exact h _ hn kvs ha kv h1 b hb
    · rw [h1] at hb; cases hb; exact hc
  · rw [upd_ne ea] at e
    obtain ⟨k, h1, _⟩ := hC.sh x hx
    have := sm _ _ h1
    rw [this] at e
    cases e
    exact h x hx _ h1 kv hkv b hb
theorem Off.cut {P : Addr → Prop} {H H4 : Hp} {q a : Addr} {L : List (Str × Addr)} {C : Str → Sheet} {kvs : List (List Key × V)} {k : List Key} (h : Off P H L) (hC : ShsAt H q L C) (sm : Same H H4) (ha : H a = some (.dT kvs)) {n : Str} (hn : (n, a) ∈ L) : Off P (upd H4 a (.dT (dropK kvs k))) L := by
  intro x hx ks e kv hkv b hb
  by_cases ea : x.2 = a
  · rw [ea, upd_same] at e
    cases e
    exact h _ hn kvs ha kv (dropK_mem hkv) b hb
  · rw [upd_ne ea] at e
    obtain ⟨k, h1, _⟩ := hC.sh x hx
    have := sm _ _ h1
    rw [this] at e
    cases e
    exact h x hx _ h1 kv hkv b hb
def spDoStep (K : PySem.W.Frag) : Sp := fun vs H Q E => ∃ (f s : V) (q a : Addr) (F : Fm) (t : Tb) (L : List (Str × Addr)) (C : Str → Sheet) (op n : Str) (k p : Int) (row : Row), vs = [f, .ref q, s] ∧ FmAt K H f F ∧ StepAt K H s op n k p row ∧ ShsAt H q L C ∧ tabAt F n = some t ∧ (n, a) ∈ L ∧
  0 ≤ k ∧ k < F.size ∧ 0 ≤ p ∧ (p = 0 ∨ t.sort = "many" ∨ t.sort = "some") ∧ (op ≠ "cut" → RowOk K H F.size row t.cols) ∧ (C n).length < sizeLine ∧ (op = "cut" ∨ op = "add" ∨ op = "set") ∧ (op ≠ "add" → (lookB (C n) (k, p)).isSome = true) ∧
  ((op = "add" → lookB (C n) (k, p) = none) → ∀ H', But L H H' → ShsAt H' q L (putC C n (doStep (C n) op (k, p) row)) → (∀ P : Addr → Prop, Off P H L → (∀ c, H c = none → P c) → Off P H' L) → Q .non H') ∧
  (op = "add" → (lookB (C n) (k, p)).isSome = true → ∀ d H', Same H H' → H' d = none → E (.ref (He.ga K "Taken")) (some d) (upd H' d (.xd (seF (.str n) (.int k) (.int p)))))
theorem ok_do_step (T : Tx K mg) : DefOk P w K mg base ("do_step", none) ["form", "sheets", "step"] [] 8 (spDoStep K) := by
  refine def_ok T.f_do_step sc_do_step (fun vs H Q E h => by first | (obtain ⟨ rfl, _⟩ := h; rfl) | (obtain ⟨_,  rfl, _⟩ := h; rfl) | (obtain ⟨_, _,  rfl, _⟩ := h; rfl) | (obtain ⟨_, _, _,  rfl, _⟩ := h; rfl) | (obtain ⟨_, _, _, _,  rfl, _⟩ := h; rfl) | (obtain ⟨_, _, _, _, _,  rfl, _⟩ := h; rfl) | (obtain ⟨_, _, _, _, _, _,  rfl, _⟩ := h; rfl) | (obtain ⟨_, _, _, _, _, _, _,  rfl, _⟩ := h; rfl) | (obtain ⟨_, _, _, _, _, _, _, _,  rfl, _⟩ := h; rfl) | (obtain ⟨_, _, _, _, _, _, _, _, _,  rfl, _⟩ := h; rfl) | (obtain ⟨_, _, _, _, _, _, _, _, _, _,  rfl, _⟩ := h; rfl) | (obtain ⟨_, _, _, _, _, _, _, _, _, _, _,  rfl, _⟩ := h; rfl) | (obtain ⟨_, _, _, _, _, _, _, _, _, _, _, _,  rfl, _⟩ := h; rfl) | (obtain ⟨_, _, _, _, _, _, _, _, _, _, _, _, _,  rfl, _⟩ := h; rfl)) (fun _ _ _ _ _ _ us hl => match us, hl with | [_, _, _], _ => rfl) (fun cdv A outer s H vs Q E hr h => ?_)
  have hu := hu_of hr
  refine ⟨_, (pss_cons (ps_set (i := 3) sc_do_step.nd rfl (Or.inl rfl) (pe_ix (ixT (K := K)) (pv 2) pe_int (fun _ _ => rfl)))
      (pss_cons (ps_set (i := 4) sc_do_step.nd rfl (Or.inl rfl) (pe_ix (ixT (K := K)) (pv 2) pe_int (fun _ _ => rfl)))
      (pss_cons (ps_set (i := 5) sc_do_step.nd rfl (Or.inl rfl) (pe_ix (ixT (K := K)) (pv 2) pe_int (fun _ _ => rfl)))
      (pss_cons (ps_if (pt_cmp (pc_dnotin hu (pv 3) (pv 1)) (by with_unfolding_all rfl))
      (pss_one (raiseK (ok_StepError_init T) hr (by decide) rfl (takes_of rfl rfl rfl rfl) T.ox_NoTable T.oi_NoTable T.ot_NoTable T.g_NoTable (pa_cons (pv 3) (pa_cons (pv 4) (pa_cons (pv 5) pa_nil)))))
      pss_nil)
      (pss_cons (ps_if (pt_not (pt_val (callK (ok_step_fits T) hr (by decide) (takes_of rfl rfl rfl rfl) T.g_step_fits (pa_cons (pv 0) (pa_cons (pv 2) pa_nil)))))
      (pss_one (raiseK (ok_StepError_init T) hr (by decide) rfl (takes_of rfl rfl rfl rfl) T.ox_BadRow T.oi_BadRow T.ot_BadRow T.g_BadRow (pa_cons (pv 3) (pa_cons (pv 4) (pa_cons (pv 5) pa_nil)))))
      pss_nil)
      (pss_cons (ps_set (i := 6) sc_do_step.nd rfl (Or.inl rfl) (pe_cmp (pc_din hu (pe_tup (pa_cons (pv 4) (pa_cons (pv 5) pa_nil))) (pe_dget hu (pv 1) (pv 3) (fun _ _ => rfl))) (by with_unfolding_all rfl)))
      (pss_cons (ps_if (PW.pt (pw_and (pt_cmpR op_eq (pe_ix (ixT (K := K)) (pv 2) pe_int (fun _ _ => rfl)) pe_str (nomark _)) (pw_and1 (pt_val (pv 6)))))
      (pss_one (raiseK (ok_StepError_init T) hr (by decide) rfl (takes_of rfl rfl rfl rfl) T.ox_Taken T.oi_Taken T.ot_Taken T.g_Taken (pa_cons (pv 3) (pa_cons (pv 4) (pa_cons (pv 5) pa_nil)))))
      pss_nil)
      (pss_cons (ps_if (PW.pt (pw_and (pt_cmpR op_ne (pe_ix (ixT (K := K)) (pv 2) pe_int (fun _ _ => rfl)) pe_str (nomark _)) (pw_and1 (pt_not (pt_val (pv 6))))))
      (pss_one (raiseK (ok_StepError_init T) hr (by decide) rfl (takes_of rfl rfl rfl rfl) T.ox_Missing T.oi_Missing T.ot_Missing T.g_Missing (pa_cons (pv 3) (pa_cons (pv 4) (pa_cons (pv 5) pa_nil)))))
      pss_nil)
      (pss_one (ps_if (pt_cmpR op_eq (pe_ix (ixT (K := K)) (pv 2) pe_int (fun _ _ => rfl)) pe_str (nomark _))
      (pss_one (ps_expr (pe_bm PySem.F.plainAttrs_dict PySem.F.slot_dict_pop PySem.F.type_dict_pop (mt_popT1 hu) (pe_dget hu (pv 1) (pv 3) (fun _ _ => rfl)) (pa_cons (pe_tup (pa_cons (pv 4) (pa_cons (pv 5) pa_nil))) pa_nil))))
      (pss_one (ps_dput hu (pe_dget hu (pv 1) (pv 3) (fun _ _ => rfl)) (pe_tup (pa_cons (pv 4) (pa_cons (pv 5) pa_nil))) (pe_callTy call_dictD rfl T.b_dict (by decide +kernel) (pa_cons (pe_ix (ixT (K := K)) (pv 2) pe_int (fun _ _ => rfl)) pa_nil)) rfl)))))))))))), ?_⟩
  obtain ⟨f, s0, q, a, F, t, L, C, op, n, k, p, row, rfl, hF, hS, hC, ht, ha, h1, h2, h3, h4, h5, h6, h7, h8, hq, he⟩ := h
  have hg := sh_get hC.ns ha
  have htop := hC.top
  obtain ⟨kvs, hk, hkv⟩ := hC.sh _ ha
  have hlen : kvs.length < sizeLine := by rw [hkv.length]; exact h6
  have hS0 := hS
  obtain ⟨sa, rfl, hs⟩ := hS
  have hix : ∃ xs, SqT K H sa (.str op :: .str n :: .int k :: .int p :: xs) ∧ (op ≠ "cut" → ∃ r, xs = [.ref r] ∧ H r = some (.dK row)) := by
    rcases hs with ⟨e, h⟩ | ⟨e, r, h, hr⟩
    · exact ⟨[], h, fun z => absurd e z⟩
    · exact ⟨[.ref r], h, fun _ => ⟨r, rfl, hr⟩⟩
  obtain ⟨xs, hix, hxs⟩ := hix
  walk_at "go"
  refine ⟨f, .ref sa, F, op, n, k, p, row, t, rfl, hF, hS0, ht, h1, h2, h3, h4, h5, fun H1 sm => ?_⟩
  have hC1 := hC.mono sm
  have hk1 := sm _ _ hk
  have htop1 := sm _ _ htop
  have hix1 := sm.sqT hix
  have hkv1 := L2.Paired.mapP hkv fun _ _ z => SpotAt.mono sm z
  walk_at "go"
  refine ⟨by walk_at "sz", fun d hd => ?_⟩
  walk_at "go"
  obtain ⟨g1, g2⟩ := sheet_get hkv1 k p
  rw [g1]
  walk_at "go"
  walk_at "go"
  refine iteD (fun e => ?_) (fun e => ?_)
  · have e := V.str.inj e
    walk_at "go"
    refine ifB (fun ee => ?_) (fun ee => ?_)
    · refine se_raised (t := .str n) (k := .int k) (p := .int p) T.ox_Taken T.xn_Taken_table T.xn_Taken_key T.xn_Taken_place (fun d' hd' => he e ee _ _ (sm.trans (Same.new hd)) hd') fun R hR => ?_
      walk_at "go"
      exact hR
    · walk_at "go"
      refine iteN (fun z => absurd (by rw [e]) z) (fun _ => ?_)
      walk_at "go"
      refine iteD (fun z => absurd (z.symm.trans (by rw [e])) (by decide)) (fun _ => ?_)
      obtain ⟨r, rfl, hr0⟩ := hxs (by rw [e]; decide)
      have hr1 := sm _ _ hr0
      walk_at "go"
      refine ⟨_, _, rfl, .inl (by walk_at "hp"), fun c hc => ?_⟩
      walk_at "go"
      refine ⟨by walk_at "sz", fun e2 he2 => ⟨_, _, rfl, DPut.p (by walk_at "hp") (by walk_at "hp") hlen, ?_⟩⟩
      have D := (put_done (k := k) (p := p) (row := row) hC ha (((sm.trans (Same.new hd)).trans (Same.new hc)).trans (Same.new (o := .tup [.int k, .int p]) he2)) hk hkv (upd_free he2 upd_same))
      refine hq (fun _ => ?_) _ D.1 ?_ (fun P hO hP => hO.put hC (((sm.trans (Same.new hd)).trans (Same.new hc)).trans (Same.new he2)) hk ha (hP c ((sm.trans (Same.new hd)).free hc)))
      · rw [← Option.isNone_iff_eq_none, Option.isNone_iff_eq_none]
        exact Option.not_isSome_iff_eq_none.mp (by rw [ee]; decide)
      · have : doStep (C n) op (k, p) row = putB (C n) (k, p) row := if_neg (by rw [e]; decide)
        rw [this]
        exact D.2
  · have e : op ≠ "add" := fun z => e (by rw [z])
    walk_at "go"
    refine iteN (fun _ => ?_) (fun z => absurd (V.str.inj z) e)
    walk_at "go"
    rw [h8 e]
    walk_at "go"
    refine iteD (fun z => ?_) (fun z => ?_)
    · have z := V.str.inj z
      walk_at "go"
      refine ⟨.inr (.inr (.inl ⟨rfl, .inr ⟨_, by walk_at "hp"⟩⟩)), ?_⟩
      walk_at "go"
      refine ⟨by walk_at "sz", fun e2 he2 => ?_⟩
      obtain ⟨r, hlk⟩ := Option.isSome_iff_exists.mp (h8 e)
      obtain ⟨b, hb, _⟩ := g2 r hlk
      refine ⟨_, _, _, [.inl k, .inl p], _, rfl, rfl, by walk_at "hp", upd_same, hb, ?_⟩
      have D := (cut_done (k := k) (p := p) hC ha ((sm.trans (Same.new hd)).trans (Same.new (o := .tup [.int k, .int p]) he2)) hk hkv)
      refine hq (fun y => absurd y e) _ D.1 ?_ (fun P hO hP => hO.cut hC ((sm.trans (Same.new hd)).trans (Same.new he2)) hk ha)
      have : doStep (C n) op (k, p) row = cutB (C n) (k, p) := if_pos z
      rw [this]
      exact D.2
    · obtain ⟨r, rfl, hr0⟩ := hxs (fun y => z (by rw [y]))
      have hr1 := sm _ _ hr0
      walk_at "go"
      refine ⟨_, _, rfl, .inl (by walk_at "hp"), fun c hc => ?_⟩
      walk_at "go"
      refine ⟨by walk_at "sz", fun e2 he2 => ⟨_, _, rfl, DPut.p (by walk_at "hp") (by walk_at "hp") hlen, ?_⟩⟩
      have D := (put_done (k := k) (p := p) (row := row) hC ha (((sm.trans (Same.new hd)).trans (Same.new hc)).trans (Same.new (o := .tup [.int k, .int p]) he2)) hk hkv (upd_free he2 upd_same))
      refine hq (fun y => absurd y e) _ D.1 ?_ (fun P hO hP => hO.put hC (((sm.trans (Same.new hd)).trans (Same.new hc)).trans (Same.new he2)) hk ha (hP c ((sm.trans (Same.new hd)).free hc)))
      have : doStep (C n) op (k, p) row = putB (C n) (k, p) row := if_neg (fun y => z (by rw [y]))
      rw [this]
      exact D.2


def placesL (S : Sheet) (k : Int) : List Int := (S.filter fun s => decide (s.1.1 = k)).map fun s => s.1.2
theorem shAt_keys {H : Hp} {kvs : List (List Key × V)} {S : Sheet} (h : Paired (SpotAt H) kvs S) : kvs.map (·.1) = S.map fun s => spotKey s.1 := Paired.mapEq h fun _ _ z => z.1
/-- the key at a turn over a sheet -/
theorem turn_spot {H : Hp} {kvs : List (List Key × V)} {S : Sheet} (hk : kvs.map (·.1) = S.map fun s => spotKey s.1) {i : Nat} {k : List Key} {v : V} {q : Addr} (h1 : kvs[i]? = some (k, v)) (h2 : H q = some (.tup (k.map kV))) : ∃ s, S[i]? = some s ∧ H q = some (.tup [.int s.1.1, .int s.1.2]) := by
  have e : (kvs.map (·.1))[i]? = some k := by rw [List.getElem?_map, h1]; rfl
  rw [hk, List.getElem?_map] at e
  obtain ⟨s, hs, e⟩ := Option.map_eq_some_iff.mp e
  refine ⟨s, hs, ?_⟩
  rw [h2, ← e]
  rfl
theorem placesL_take (S : Sheet) (k : Int) (i : Nat) {s : (Int × Int) × Row} (h : S[i]? = some s) : placesL (S.take (i + 1)) k = if s.1.1 = k then placesL (S.take i) k ++ [s.1.2] else placesL (S.take i) k := by
  unfold placesL
  rw [List.take_succ, h, List.filter_append, List.map_append]
  by_cases e : s.1.1 = k <;> simp [e]
theorem placesL_len (S : Sheet) (k : Int) : (placesL S k).length ≤ S.length := by
  unfold placesL; rw [List.length_map]; exact List.length_filter_le _ _
def plc (S : Sheet) (k : Int) : List Int := PySem.W.sortI (placesL S k)
theorem plc_len (S : Sheet) (k : Int) : (plc S k).length = (placesL S k).length := (PySem.W.sortI_perm _).length_eq
def spPlacesOf : Sp := fun vs H Q _ => ∃ (a : Addr) (kvs : List (List Key × V)) (S : Sheet) (k : Int), vs = [.ref a, .int k] ∧ H a = some (.dT kvs) ∧ kvs.map (·.1) = S.map (fun s => spotKey s.1) ∧ S.length < sizeLine ∧
  ∀ (p : Addr) (H' : Hp), Same H H' → H p = none → H' p = some (.lst ((plc S k).map V.int)) → Q (.ref p) H'
theorem ok_places_of (T : Tx K mg) : DefOk P w K mg base ("places_of", none) ["sheet", "key"] [] 1 spPlacesOf := by
  refine def_ok T.f_places_of sc_places_of (fun vs H Q E h => by first | (obtain ⟨ rfl, _⟩ := h; rfl) | (obtain ⟨_,  rfl, _⟩ := h; rfl) | (obtain ⟨_, _,  rfl, _⟩ := h; rfl) | (obtain ⟨_, _, _,  rfl, _⟩ := h; rfl) | (obtain ⟨_, _, _, _,  rfl, _⟩ := h; rfl) | (obtain ⟨_, _, _, _, _,  rfl, _⟩ := h; rfl) | (obtain ⟨_, _, _, _, _, _,  rfl, _⟩ := h; rfl) | (obtain ⟨_, _, _, _, _, _, _,  rfl, _⟩ := h; rfl) | (obtain ⟨_, _, _, _, _, _, _, _,  rfl, _⟩ := h; rfl) | (obtain ⟨_, _, _, _, _, _, _, _, _,  rfl, _⟩ := h; rfl) | (obtain ⟨_, _, _, _, _, _, _, _, _, _,  rfl, _⟩ := h; rfl) | (obtain ⟨_, _, _, _, _, _, _, _, _, _, _,  rfl, _⟩ := h; rfl) | (obtain ⟨_, _, _, _, _, _, _, _, _, _, _, _,  rfl, _⟩ := h; rfl) | (obtain ⟨_, _, _, _, _, _, _, _, _, _, _, _, _,  rfl, _⟩ := h; rfl)) (fun _ _ _ _ _ _ us hl => match us, hl with | [_, _], _ => rfl) (fun cdv A outer s H vs Q E hr h => ?_)
  have hu := hu_of hr
  refine ⟨_, (pss_one (ps_ret (pe_callB (sortIK (K := K)) rfl T.b_sorted (by decide +kernel) (pa_cons (pe_lock (pe_lc (own := [("spot", 2)]) rfl sc_places_of.nd (pi_keys (pv 0)) (blkOk_by (own := [("spot", 2)]) (N := N_places_of) (sc := defScope s_places_of) (by decide +kernel)) (fun _ _ _ _ _ => (pg_name (i := 2) sc_places_of.nd rfl (Or.inl rfl))) (fun _ _ _ _ _ => pts_one (pt_cmpR op_eq (pe_ix (ixT (K := K)) (pv 2) pe_int (fun _ _ => rfl)) (pv 1) (nomark _))) (fun _ _ _ _ _ => (pe_ix (ixT (K := K)) (pv 2) pe_int (fun _ _ => rfl))))) pa_nil)))), ?_⟩
  obtain ⟨a, kvs, S, k, rfl, ha, hk, hl, q⟩ := h
  have hln : kvs.length = S.length := by have := congrArg List.length hk; simpa using this
  walk_at "go"
  refine ⟨a, .dT kvs, ha, trivial, fun od => ?_⟩
  walk_at "go"
  refine ⟨_, _, rfl, .inr ⟨_, upd_same, fun D hD => ?_⟩⟩
  have hne : a ≠ D := by grind
  refine lc_it walk_keysT (fun i H' => H' = upd (upd H a (.frz od (.dT kvs))) D (.lst ((placesL (S.take i) k).map V.int))) rfl (fun i H' _ h => by rw [h, upd_ne hne]; exact upd_same) ?_ ?_
  · rintro i x H1 H2 hi rfl ⟨rfl, kk, v, q', h1, rfl, h2⟩
    obtain ⟨s, hs, h3⟩ := turn_spot hk h1 h2
    walk_at "go"
    refine iteD (fun e => ?_) (fun e => ?_)
    · have e := V.int.inj e
      walk_at "go"
      refine ⟨_, upd_same, ?_, ?_⟩
      · rw [List.length_map]
        have := placesL_len (S.take i) k
        have := List.length_take_le i S
        omega
      · rw [upd_upd, placesL_take S k i hs, if_pos e, List.map_append]
        rfl
    · have e : ¬ s.1.1 = k := fun z => e (by rw [z])
      show _ = _
      rw [placesL_take S k i hs, if_neg e]
  · rintro H1 rfl
    refine ⟨by rw [upd_ne hne]; exact upd_same, ?_⟩
    walk_at "go"
    refine ⟨D, placesL S k, rfl, SqL.of ?_, fun ns p hp hso hn => q p _ ?_ ?_ (by rw [PySem.W.eq_sortI hp hso]; exact upd_same)⟩
    · rw [upd_ne hne.symm, upd_same, hln, List.take_length]
    · grind [Same]
    · grind
def okPlaces (sort : Str) (ns : List Int) : Prop := ((sort = "head" ∨ sort = "twin") ∧ ns ≠ []) ∨ ((sort = "many" ∨ sort = "some" ∧ ns ≠ []) ∧ ∀ (i : Nat) (x : Int), ns[i]? = some x → x = (i : Nat))
def spLookPlaces (K : PySem.W.Frag) : Sp := fun vs H Q E => ∃ (n sort : Str) (k : Int) (a : Addr) (ns : List Int), vs = [.str n, .str sort, .int k, .ref a] ∧ H a = some (.lst (ns.map V.int)) ∧ (sort = "head" ∨ sort = "twin" ∨ sort = "many" ∨ sort = "some") ∧ ((sort = "head" ∨ sort = "twin") → ns ≠ []) ∧
  (okPlaces sort ns → ∀ H', Same H H' → Q .non H') ∧
  ((sort = "many" ∨ sort = "some") → ∀ (i : Nat), (∀ (j : Nat) (x : Int), j < i → ns[j]? = some x → x = (j : Nat)) → (∃ x, ns[i]? = some x ∧ x ≠ (i : Nat)) ∨ (sort = "some" ∧ ns = [] ∧ i = 0) → ∀ d H', Same H H' → H' d = none → E (.ref (He.ga K "Gap")) (some d) (upd H' d (.xd (seF (.str n) (.int k) (.int (i : Nat))))))
theorem ok_look_at_places (T : Tx K mg) : DefOk P w K mg base ("look_at_places", none) ["table", "sort", "key", "places"] [] 3 (spLookPlaces K) := by
  refine def_ok T.f_look_at_places sc_look_at_places (fun vs H Q E h => by first | (obtain ⟨ rfl, _⟩ := h; rfl) | (obtain ⟨_,  rfl, _⟩ := h; rfl) | (obtain ⟨_, _,  rfl, _⟩ := h; rfl) | (obtain ⟨_, _, _,  rfl, _⟩ := h; rfl) | (obtain ⟨_, _, _, _,  rfl, _⟩ := h; rfl) | (obtain ⟨_, _, _, _, _,  rfl, _⟩ := h; rfl) | (obtain ⟨_, _, _, _, _, _,  rfl, _⟩ := h; rfl) | (obtain ⟨_, _, _, _, _, _, _,  rfl, _⟩ := h; rfl) | (obtain ⟨_, _, _, _, _, _, _, _,  rfl, _⟩ := h; rfl) | (obtain ⟨_, _, _, _, _, _, _, _, _,  rfl, _⟩ := h; rfl) | (obtain ⟨_, _, _, _, _, _, _, _, _, _,  rfl, _⟩ := h; rfl) | (obtain ⟨_, _, _, _, _, _, _, _, _, _, _,  rfl, _⟩ := h; rfl) | (obtain ⟨_, _, _, _, _, _, _, _, _, _, _, _,  rfl, _⟩ := h; rfl) | (obtain ⟨_, _, _, _, _, _, _, _, _, _, _, _, _,  rfl, _⟩ := h; rfl)) (fun _ _ _ _ _ _ us hl => match us, hl with | [_, _, _, _], _ => rfl) (fun cdv A outer s H vs Q E hr h => ?_)
  have hu := hu_of hr
  refine ⟨_, (pss_cons (ps_if (pt_cmpR (inQ (K := K)) (pv 1) (pe_tup (pa_cons pe_str (pa_cons pe_str pa_nil))) (by with_unfolding_all rfl))
      (pss_cons (ps_if (pt_cmpR (eqDD (K := K) (Room.units hr)) (pv 3) (pe_lst pa_nil) (nomark _))
      (pss_one (raiseK (ok_StepError_init T) hr (by decide) rfl (takes_of rfl rfl rfl rfl) T.ox_Lone T.oi_Lone T.ot_Lone T.g_Lone (pa_cons (pv 0) (pa_cons (pv 2) (pa_cons pe_int pa_nil)))))
      pss_nil)
      (pss_one ps_retN))
      pss_nil)
      (pss_cons (ps_for (passes_of rfl) rfl (pi_enum rfl T.b_enumerate (pa_cons (pv 3) pa_nil)) (pg_tup rfl (pgs_cons (pg_name (i := 4) sc_look_at_places.nd rfl (Or.inl rfl)) (pgs_cons (pg_name (i := 5) sc_look_at_places.nd rfl (Or.inl rfl)) pgs_nil)))
      (pss_one (ps_if (pt_cmpR op_ne (pv 5) (pv 4) (nomark _))
      (pss_one (raiseK (ok_StepError_init T) hr (by decide) rfl (takes_of rfl rfl rfl rfl) T.ox_Gap T.oi_Gap T.ot_Gap T.g_Gap (pa_cons (pv 0) (pa_cons (pv 2) (pa_cons (pv 4) pa_nil)))))
      pss_nil)))
      (pss_one (ps_if (PW.pt (pw_and (pt_cmpR op_eq (pv 1) pe_str (nomark _)) (pw_and1 (pt_cmpR (eqDD (K := K) (Room.units hr)) (pv 3) (pe_lst pa_nil) (nomark _)))))
      (pss_one (raiseK (ok_StepError_init T) hr (by decide) rfl (takes_of rfl rfl rfl rfl) T.ox_Gap T.oi_Gap T.ot_Gap T.g_Gap (pa_cons (pv 0) (pa_cons (pv 2) (pa_cons pe_int pa_nil)))))
      pss_nil)))), ?_⟩
  obtain ⟨n, sort, k, a, ns, rfl, ha, hso, hne, q, e⟩ := h
  rcases hso with rfl | rfl | rfl | rfl
  · walk_at "go"
    refine ⟨by walk_at "sz", fun d hd => ?_⟩
    walk_at "go"
    refine ⟨by walk_at "sz", fun d2 hd2 => eqI (ns := ns) (ms := []) (by walk_at "seq") (SqL.of upd_same) ?_⟩
    rw [decide_eq_false (hne (by first | exact .inl rfl | exact .inr rfl))]
    walk_at "go"
    exact q (.inl ⟨(by first | exact .inl rfl | exact .inr rfl), hne (by first | exact .inl rfl | exact .inr rfl)⟩) _ ((Same.new hd).trans (Same.new hd2))
  · walk_at "go"
    refine ⟨by walk_at "sz", fun d hd => ?_⟩
    walk_at "go"
    refine ⟨by walk_at "sz", fun d2 hd2 => eqI (ns := ns) (ms := []) (by walk_at "seq") (SqL.of upd_same) ?_⟩
    rw [decide_eq_false (hne (by first | exact .inl rfl | exact .inr rfl))]
    walk_at "go"
    exact q (.inl ⟨(by first | exact .inl rfl | exact .inr rfl), hne (by first | exact .inl rfl | exact .inr rfl)⟩) _ ((Same.new hd).trans (Same.new hd2))
  · walk_at "go"
    refine ⟨by walk_at "sz", fun d hd => ?_⟩
    walk_at "go"
    refine ⟨a, ns.map V.int, rfl, by walk_at "seq", for_it (walk_enum (K := K) (a := a) (xs := ns.map V.int)) (fun i σ H' => ∃ u v, σ = [some (.str n), some (.str "many"), some (.int k), some (.ref a), u, v] ∧ Same H H' ∧ ∀ (j : Nat) (x : Int), j < i → ns[j]? = some x → x = (j : Nat)) ⟨none, none, rfl, Same.new hd, fun j x h => by omega⟩ (fun i σ H' _ ⟨u, v, e, sm, _⟩ => SqL.of (sm _ _ ha)) ?_ ?_⟩
    · rintro i x σ H1 H2 hi ⟨u, v, rfl, sm, hj⟩ ⟨c, y, z, rfl, hc, rfl, e1, e2⟩
      cases e1
      have e2 : (ns.map V.int)[i]? = some z := e2
      rw [List.getElem?_map] at e2
      obtain ⟨x, hx, rfl⟩ := Option.map_eq_some_iff.mp e2
      walk_at "go"
      refine iteN (fun ne => ?_) (fun eq => ?_)
      · refine se_raised (t := .str n) (k := .int k) (p := .int (i : Nat)) T.ox_Gap T.xn_Gap_table T.xn_Gap_key T.xn_Gap_place (fun d' hd' => e (by first | exact .inl rfl | exact .inr rfl) i hj (.inl ⟨x, hx, fun z => ne (by rw [z])⟩) _ _ (sm.trans (Same.new hc)) hd') fun R hR => ?_
        walk_at "go"
        exact hR
      · walk_at "go"
        refine ⟨_, _, rfl, sm.trans (Same.new hc), fun j y hj' hy => ?_⟩
        rcases Nat.lt_succ_iff_lt_or_eq.mp hj' with h | rfl
        · exact hj j y h hy
        · rw [hx] at hy
          cases hy
          exact V.int.inj eq
    · rintro σ H1 ⟨u, v, rfl, sm, hj⟩
      rw [List.length_map] at hj
      have hok : ∀ (i : Nat) (x : Int), ns[i]? = some x → x = (i : Nat) := fun i x h => hj i x (List.getElem?_eq_some_iff.mp h).1 h
      walk_at "go"
      exact q (.inr ⟨.inl rfl, hok⟩) _ sm
  · walk_at "go"
    refine ⟨by walk_at "sz", fun d hd => ?_⟩
    walk_at "go"
    refine ⟨a, ns.map V.int, rfl, by walk_at "seq", for_it (walk_enum (K := K) (a := a) (xs := ns.map V.int)) (fun i σ H' => ∃ u v, σ = [some (.str n), some (.str "some"), some (.int k), some (.ref a), u, v] ∧ Same H H' ∧ ∀ (j : Nat) (x : Int), j < i → ns[j]? = some x → x = (j : Nat)) ⟨none, none, rfl, Same.new hd, fun j x h => by omega⟩ (fun i σ H' _ ⟨u, v, e, sm, _⟩ => SqL.of (sm _ _ ha)) ?_ ?_⟩
    · rintro i x σ H1 H2 hi ⟨u, v, rfl, sm, hj⟩ ⟨c, y, z, rfl, hc, rfl, e1, e2⟩
      cases e1
      have e2 : (ns.map V.int)[i]? = some z := e2
      rw [List.getElem?_map] at e2
      obtain ⟨x, hx, rfl⟩ := Option.map_eq_some_iff.mp e2
      walk_at "go"
      refine iteN (fun ne => ?_) (fun eq => ?_)
      · refine se_raised (t := .str n) (k := .int k) (p := .int (i : Nat)) T.ox_Gap T.xn_Gap_table T.xn_Gap_key T.xn_Gap_place (fun d' hd' => e (by first | exact .inl rfl | exact .inr rfl) i hj (.inl ⟨x, hx, fun z => ne (by rw [z])⟩) _ _ (sm.trans (Same.new hc)) hd') fun R hR => ?_
        walk_at "go"
        exact hR
      · walk_at "go"
        refine ⟨_, _, rfl, sm.trans (Same.new hc), fun j y hj' hy => ?_⟩
        rcases Nat.lt_succ_iff_lt_or_eq.mp hj' with h | rfl
        · exact hj j y h hy
        · rw [hx] at hy
          cases hy
          exact V.int.inj eq
    · rintro σ H1 ⟨u, v, rfl, sm, hj⟩
      rw [List.length_map] at hj
      have hok : ∀ (i : Nat) (x : Int), ns[i]? = some x → x = (i : Nat) := fun i x h => hj i x (List.getElem?_eq_some_iff.mp h).1 h
      walk_at "go"
      refine ⟨by walk_at "sz", fun d2 hd2 => eqI (ns := ns) (ms := []) (SqL.of (upd_free hd2 (sm _ _ ha))) (SqL.of upd_same) ?_⟩
      walk_at "go"
      refine iteD (fun z => ?_) (fun z => ?_)
      · refine se_raised (t := .str n) (k := .int k) (p := .int 0) T.ox_Gap T.xn_Gap_table T.xn_Gap_key T.xn_Gap_place (fun d' hd' => e (.inr rfl) 0 (fun j x h => by omega) (.inr ⟨rfl, z, rfl⟩) _ _ (sm.trans (Same.new hd2)) hd') fun R hR => ?_
        walk_at "go"
        exact hR
      · walk_at "go"
        exact q (.inr ⟨.inr ⟨rfl, z⟩, hok⟩) _ (sm.trans (Same.new hd2))
def badPlaces (sort : Str) (ns : List Int) (i : Nat) : Prop := (sort = "many" ∨ sort = "some") ∧ (∀ (j : Nat) (x : Int), j < i → ns[j]? = some x → x = (j : Nat)) ∧ ((∃ x, ns[i]? = some x ∧ x ≠ (i : Nat)) ∨ (sort = "some" ∧ ns = [] ∧ i = 0))
def sorts4 (sort : Str) : Prop := sort = "head" ∨ sort = "twin" ∨ sort = "many" ∨ sort = "some"
def spLookThing (K : PySem.W.Frag) : Sp := fun vs H Q E => ∃ (f : V) (q : Addr) (k : Int) (F : Fm) (L : List (Str × Addr)) (C : Str → Sheet), vs = [f, .ref q, .int k] ∧ FmAt K H f F ∧ ShsAt H q L C ∧ L.map (·.1) = F.tabs.map (·.name) ∧ (∀ x ∈ L, (C x.1).length < sizeLine) ∧ (∀ t ∈ F.tabs, sorts4 t.sort) ∧
  ((∀ t ∈ F.tabs, plc (C t.name) k = []) ∨ ∀ t ∈ F.tabs, (t.sort = "head" ∨ t.sort = "twin") → plc (C t.name) k ≠ []) ∧
  (((∀ t ∈ F.tabs, plc (C t.name) k = []) ∨ ∀ t ∈ F.tabs, okPlaces t.sort (plc (C t.name) k)) → ∀ H', Same H H' → Q .non H') ∧
  (∀ (j i : Nat) (t : Tb), F.tabs[j]? = some t → (∀ (m : Nat) (u : Tb), m < j → F.tabs[m]? = some u → okPlaces u.sort (plc (C u.name) k)) → (∃ u ∈ F.tabs, plc (C u.name) k ≠ []) → badPlaces t.sort (plc (C t.name) k) i →
    ∀ d H', Same H H' → H' d = none → E (.ref (He.ga K "Gap")) (some d) (upd H' d (.xd (seF (.str t.name) (.int k) (.int (i : Nat))))))
theorem tab_self {K : PySem.W.Frag} {H : Hp} {f : V} {F : Fm} (h : FmAt K H f F) {t : Tb} (ht : t ∈ F.tabs) : tabAt F t.name = some t := by
  obtain ⟨_, _, _, _, _, _, _, _, nd, _⟩ := h
  unfold tabAt
  generalize F.tabs = l at ht nd
  induction l with
  | nil => cases ht
  | cons a l ih =>
    rw [List.map_cons] at nd
    rw [List.find?_cons]
    rcases List.mem_cons.mp ht with rfl | ht
    · simp
    · have : ¬ a.name = t.name := fun z => (List.nodup_cons.mp nd).1 (z ▸ List.mem_map.mpr ⟨t, ht, rfl⟩)
      rw [show (a.name == t.name) = false from beq_eq_false_iff_ne.mpr this]
      exact ih ht (List.nodup_cons.mp nd).2
theorem sum_zero {α : Type} : ∀ (l : List α) (f : α → Nat), ((l.map fun x => ((f x : Nat) : Int)).sum = 0 ↔ ∀ x ∈ l, f x = 0)
  | [], f => by simp
  | a :: l, f => by
    have ih := sum_zero l f
    have h0 : 0 ≤ (l.map fun x => ((f x : Nat) : Int)).sum := by
      clear ih
      induction l with
      | nil => simp
      | cons b l ih => rw [List.map_cons, List.sum_cons]; omega
    rw [List.map_cons, List.sum_cons]
    constructor
    · intro h x hx
      rcases List.mem_cons.mp hx with rfl | hx
      · omega
      · exact ih.mp (by omega) x hx
    · intro h
      have := ih.mpr fun x hx => h x (List.mem_cons_of_mem _ hx)
      have := h a List.mem_cons_self
      omega
theorem ok_look_at_thing (T : Tx K mg) : DefOk P w K mg base ("look_at_thing", none) ["form", "sheets", "key"] [] 5 (spLookThing K) := by
  refine def_ok T.f_look_at_thing sc_look_at_thing (fun vs H Q E h => by first | (obtain ⟨ rfl, _⟩ := h; rfl) | (obtain ⟨_,  rfl, _⟩ := h; rfl) | (obtain ⟨_, _,  rfl, _⟩ := h; rfl) | (obtain ⟨_, _, _,  rfl, _⟩ := h; rfl) | (obtain ⟨_, _, _, _,  rfl, _⟩ := h; rfl) | (obtain ⟨_, _, _, _, _,  rfl, _⟩ := h; rfl) | (obtain ⟨_, _, _, _, _, _,  rfl, _⟩ := h; rfl) | (obtain ⟨_, _, _, _, _, _, _,  rfl, _⟩ := h; rfl) | (obtain ⟨_, _, _, _, _, _, _, _,  rfl, _⟩ := h; rfl) | (obtain ⟨_, _, _, _, _, _, _, _, _,  rfl, _⟩ := h; rfl) | (obtain ⟨_, _, _, _, _, _, _, _, _, _,  rfl, _⟩ := h; rfl) | (obtain ⟨_, _, _, _, _, _, _, _, _, _, _,  rfl, _⟩ := h; rfl) | (obtain ⟨_, _, _, _, _, _, _, _, _, _, _, _,  rfl, _⟩ := h; rfl) | (obtain ⟨_, _, _, _, _, _, _, _, _, _, _, _, _,  rfl, _⟩ := h; rfl)) (fun _ _ _ _ _ _ us hl => match us, hl with | [_, _, _], _ => rfl) (fun cdv A outer s H vs Q E hr h => ?_)
  have hu := hu_of hr
  refine ⟨_, (pss_cons (ps_set (i := 3) sc_look_at_thing.nd rfl (Or.inl rfl) (callK (ok_tables_of T) hr (by decide) (takes_of rfl rfl rfl rfl) T.g_tables_of (pa_cons (pv 0) pa_nil)))
      (pss_cons (ps_set (i := 4) sc_look_at_thing.nd rfl (Or.inl rfl) (pe_callB (sumK (K := K) rfl) rfl T.b_sum (by decide +kernel) (pa_cons (pe_lc (own := [("table", 5)]) rfl sc_look_at_thing.nd (listI (K := K) (pv 3)) (blkOk_by (own := [("table", 5)]) (N := N_look_at_thing) (sc := defScope s_look_at_thing) (by decide +kernel)) (fun _ _ _ _ _ => (pg_name (i := 5) sc_look_at_thing.nd rfl (Or.inl rfl))) (fun _ _ _ _ _ => pts_nil) (fun _ _ _ _ _ => (pe_callB (lenK (K := K)) rfl T.b_len (by decide +kernel) (pa_cons (callK0 (ok_places_of T) hr (by decide) T.g_places_of (pa_cons (pe_dget hu (pv 1) (pv 5) (fun _ _ => rfl)) (pa_cons (pv 2) pa_nil))) pa_nil)))) pa_nil)))
      (pss_cons (ps_if (pt_cmpR op_eq (pv 4) pe_int (nomark _))
      (pss_one ps_retN)
      pss_nil)
      (pss_one (ps_for (passes_of rfl) rfl (listI (K := K) (pv 3)) (pg_name (i := 5) sc_look_at_thing.nd rfl (Or.inl rfl))
      (pss_one (ps_expr (callK (ok_look_at_places T) hr (by decide) (takes_of rfl rfl rfl rfl) T.g_look_at_places (pa_cons (pv 5) (pa_cons (callK (ok_sort_of T) hr (by decide) (takes_of rfl rfl rfl rfl) T.g_sort_of (pa_cons (pv 0) (pa_cons (pv 5) pa_nil))) (pa_cons (pv 2) (pa_cons (callK (ok_places_of T) hr (by decide) (takes_of rfl rfl rfl rfl) T.g_places_of (pa_cons (pe_dget hu (pv 1) (pv 5) (fun _ _ => rfl)) (pa_cons (pv 2) pa_nil))) pa_nil)))))))))))), ?_⟩
  obtain ⟨f, q, k, F, L, C, rfl, hF, hC, hL, hlen, hso, hne, hok, hbad⟩ := h
  walk_at "go"
  refine ⟨f, F, rfl, hF, fun tp htp => ?_⟩
  walk_at "go"
  have sm0 := Same.new (o := .lst (F.tabs.map fun t => V.str t.name)) htp
  have hsh : ∀ t ∈ F.tabs, ∃ a, (t.name, a) ∈ L := fun t ht => by
    have : t.name ∈ L.map (·.1) := by rw [hL]; exact List.mem_map.mpr ⟨t, ht, rfl⟩
    obtain ⟨x, hx, e⟩ := List.mem_map.mp this
    exact ⟨x.2, by rw [← e]; exact hx⟩
  have hat : ∀ (i : Nat) (x : V), (F.tabs.map fun t => V.str t.name)[i]? = some x → ∃ t, F.tabs[i]? = some t ∧ x = .str t.name := fun i x h => by
    rw [List.getElem?_map] at h
    obtain ⟨t, h1, h2⟩ := Option.map_eq_some_iff.mp h
    exact ⟨t, h1, h2.symm⟩
  obtain ⟨_, _, _, _, _, _, hts, h8, _⟩ := id hF
  refine ⟨⟨_, SqL.of upd_same⟩, fun D hD => lc_list (K := K) (a := tp) (xs := F.tabs.map fun t => V.str t.name) (fun i H' => Same (upd H tp (.lst (F.tabs.map fun t => V.str t.name))) H' ∧ H' D = some (.lst ((F.tabs.take i).map fun t => V.int ((plc (C t.name) k).length : Nat)))) ⟨Same.new hD, upd_same⟩ (fun i H' _ h => SqL.of (h.1 _ _ upd_same)) ?_ ?_⟩
  · rintro i x H1 hi ⟨sm, hl⟩
    obtain ⟨t, ht, rfl⟩ := hat i x hi
    have htm := List.mem_of_getElem? ht
    obtain ⟨a, ha⟩ := hsh t htm
    have smT := sm0.trans sm
    have hC1 := hC.mono smT
    have hq1 := hC1.top
    have hg := sh_get hC.ns ha
    obtain ⟨kvs, hk, hkv⟩ := hC1.sh _ ha
    walk_at "go"
    refine ⟨a, kvs, C t.name, k, rfl, hk, shAt_keys hkv, hlen _ ha, fun p H2 sm2 hp hl2 => ?_⟩
    walk_at "go"
    refine ⟨_, _, rfl, .inl ⟨_, SqL.of hl2, rfl⟩, ?_⟩
    walk_at "go"
    refine ⟨_, sm2 _ _ hl, ?_, ?_, ?_⟩
    · rw [List.length_map, List.length_take]
      exact small1000 (by omega)
    · exact (sm.trans sm2).mut hD
    · rw [upd_same, List.take_succ, ht, List.map_append, List.length_map]
      rfl
  · rintro H1 ⟨sm, hl⟩
    have smT := sm0.trans sm
    rw [List.length_map, List.take_length] at hl
    walk_at "go"
    refine ⟨D, F.tabs.map fun t => ((plc (C t.name) k).length : Int), rfl, SqL.of (by rw [hl, List.map_map]; rfl), ?_⟩
    walk_at "go"
    refine iteD (fun z => ?_) (fun z => ?_)
    · have z := (sum_zero F.tabs fun t => (plc (C t.name) k).length).mp (V.int.inj z)
      exact hok (.inl fun t ht => List.length_eq_zero_iff.mp (z t ht)) _ smT
    · have hn0 : ¬ ∀ t ∈ F.tabs, plc (C t.name) k = [] := fun y => z (by
        rw [(sum_zero F.tabs fun t => (plc (C t.name) k).length).mpr fun t ht => by rw [y t ht]; rfl])
      have hex : ∃ u ∈ F.tabs, plc (C u.name) k ≠ [] := by
        apply Classical.byContradiction
        intro h
        exact hn0 fun t ht => Classical.byContradiction fun y => h ⟨t, ht, y⟩
      have hne := hne.resolve_left hn0
      walk_at "go"
      refine ⟨⟨_, SqL.of (sm _ _ upd_same)⟩, for_list (K := K) (a := tp) (xs := F.tabs.map fun t => V.str t.name) (fun i σ H' => ∃ v, σ = [some f, some (.ref q), some (.int k), some (.ref tp), some (.int (F.tabs.map fun t => ((plc (C t.name) k).length : Int)).sum), v] ∧ Same H H' ∧ H' tp = some (.lst (F.tabs.map fun t => V.str t.name)) ∧ ∀ (m : Nat) (u : Tb), m < i → F.tabs[m]? = some u → okPlaces u.sort (plc (C u.name) k)) ⟨none, rfl, smT, sm _ _ upd_same, fun m u h => by omega⟩ (fun i σ H' _ ⟨v, _, _, h, _⟩ => SqL.of h) ?_ ?_⟩
      · rintro i x σ H2 hi ⟨v, rfl, sm2, htp2, hm⟩
        obtain ⟨t, ht, rfl⟩ := hat i x hi
        have htm := List.mem_of_getElem? ht
        obtain ⟨a, ha⟩ := hsh t htm
        have hC1 := hC.mono sm2
        have hq1 := hC1.top
        have hg := sh_get hC.ns ha
        obtain ⟨kvs, hk, hkv⟩ := hC1.sh _ ha
        have hta : tabAt F t.name = some t := tab_self hF htm
        walk_at "go"
        refine ⟨f, t.name, F, t, rfl, hF.mono sm2, hta, ?_⟩
        walk_at "go"
        refine ⟨a, kvs, C t.name, k, rfl, hk, shAt_keys hkv, hlen _ ha, fun p H3 sm3 hp hl3 => ?_⟩
        walk_at "go"
        refine ⟨t.name, t.sort, k, p, plc (C t.name) k, rfl, hl3, hso t htm, hne t htm, fun ok H4 sm4 => ?_, fun hs i' hj hb d H4 sm4 hd => ?_⟩
        · walk_at "go"
          refine ⟨(sm2.trans sm3).trans sm4, sm4 _ _ (sm3 _ _ htp2), fun m u h1 h2 => ?_⟩
          rcases Nat.lt_succ_iff_lt_or_eq.mp h1 with h | rfl
          · exact hm m u h h2
          · rw [ht] at h2
            cases h2
            exact ok
        · exact hbad i i' t ht hm hex ⟨hs, hj, hb⟩ d _ ((sm2.trans sm3).trans sm4) hd
      · rintro σ H2 ⟨v, rfl, sm2, htp2, hm⟩
        refine hok (.inr fun t ht => ?_) _ sm2
        obtain ⟨j, hj⟩ := List.getElem?_of_mem ht
        exact hm j t (by rw [List.length_map]; exact (List.getElem?_eq_some_iff.mp hj).1) hj


def wordK : PK → Str
  | .whole => "whole"
  | .below _ => "below"
  | .upto _ => "upto"
  | .word => "word"
  | .without _ => "without"
def wordOf : Kd → Str
  | .pl k => wordK k
  | .key => "key"
  | .list _ => "list"
  | .some _ => "some"
  | .once _ => "once"
theorem KdAt.word {K : PySem.W.Frag} {H : Hp} {v : V} {k : Kd} (h : KdAt K H v k) : ∃ p xs, v = .ref p ∧ SqT K H p (.str (wordOf k) :: xs) := by
  cases k with
  | pl k => cases k <;> (obtain ⟨p, rfl, hp⟩ := h; exact ⟨p, _, rfl, hp⟩)
  | key => obtain ⟨p, rfl, hp⟩ := h; exact ⟨p, _, rfl, hp⟩
  | list k => obtain ⟨p, u, rfl, hp, hk⟩ := h; exact ⟨p, _, rfl, hp⟩
  | some k => obtain ⟨p, u, rfl, hp, hk⟩ := h; exact ⟨p, _, rfl, hp⟩
  | once k => obtain ⟨p, u, rfl, hp, hk⟩ := h; exact ⟨p, _, rfl, hp⟩
/-- the columns of a kind, in their order -/
def colsBy (cols : List (Str × Kd)) (word : Str) : List Str := (sortS (cols.map (·.1))).filter fun c => decide ((lookB cols c).map wordOf = some word)
theorem lookB_self {κ β : Type} [DecidableEq κ] : ∀ {l : List (κ × β)}, (l.map (·.1)).Nodup → ∀ {x : κ × β}, x ∈ l → lookB l x.1 = some x.2
  | a :: l, nd, x, hx => by
    rw [List.map_cons] at nd
    rw [lookB_cons]
    rcases List.mem_cons.mp hx with rfl | hx
    · exact if_pos rfl
    · have hne : ¬ a.1 = x.1 := fun z => (List.nodup_cons.mp nd).1 (z ▸ List.mem_map.mpr ⟨x, hx, rfl⟩)
      rw [if_neg hne]
      exact lookB_self (List.nodup_cons.mp nd).2 hx
theorem cols_get {K : PySem.W.Frag} {H : Hp} {ks : List (Key × V)} {cols : List (Str × Kd)} (h : ColsAt K H ks cols) (c : Str) (hc : c ∈ cols.map (·.1)) : ∃ v k, valV ks (Sum.inr c) = some v ∧ lookB cols c = some k ∧ KdAt K H v k := by
  rcases look_rel (F := fun (kv : Key × V) (c : Str × Kd) => kv.1 = Sum.inr c.1 ∧ KdAt K H kv.2 c.2) (e := fun c => (Sum.inr c : Key)) (fun _ _ z => Sum.inr.inj z) (fun _ _ z => z.1) h c with ⟨_, h2⟩ | ⟨v, r, h1, h2, h3⟩
  · obtain ⟨x, hx, rfl⟩ := List.mem_map.mp hc
    exfalso
    clear h hc
    induction cols with
    | nil => cases hx
    | cons a l ih =>
      rw [lookB_cons] at h2
      by_cases e : a.1 = x.1
      · rw [if_pos e] at h2; cases h2
      · rw [if_neg e] at h2
        rcases List.mem_cons.mp hx with rfl | hx
        · exact e rfl
        · exact ih hx h2
  · exact ⟨v, r, h1, h2, h3.2⟩
def spColumnsBy (K : PySem.W.Frag) : Sp := fun vs H Q _ => ∃ (f : V) (n word : Str) (F : Fm) (t : Tb), vs = [f, .str n, .str word] ∧ FmAt K H f F ∧ tabAt F n = some t ∧ ∀ p H', Same H H' → H p = none → H' p = some (.lst ((colsBy t.cols word).map V.str)) → Q (.ref p) H'
theorem ok_columns_by (T : Tx K mg) : DefOk P w K mg base ("columns_by", none) ["form", "table", "word"] [] 5 (spColumnsBy K) := by
  refine def_ok T.f_columns_by sc_columns_by (fun vs H Q E h => by first | (obtain ⟨ rfl, _⟩ := h; rfl) | (obtain ⟨_,  rfl, _⟩ := h; rfl) | (obtain ⟨_, _,  rfl, _⟩ := h; rfl) | (obtain ⟨_, _, _,  rfl, _⟩ := h; rfl) | (obtain ⟨_, _, _, _,  rfl, _⟩ := h; rfl) | (obtain ⟨_, _, _, _, _,  rfl, _⟩ := h; rfl) | (obtain ⟨_, _, _, _, _, _,  rfl, _⟩ := h; rfl) | (obtain ⟨_, _, _, _, _, _, _,  rfl, _⟩ := h; rfl) | (obtain ⟨_, _, _, _, _, _, _, _,  rfl, _⟩ := h; rfl) | (obtain ⟨_, _, _, _, _, _, _, _, _,  rfl, _⟩ := h; rfl) | (obtain ⟨_, _, _, _, _, _, _, _, _, _,  rfl, _⟩ := h; rfl) | (obtain ⟨_, _, _, _, _, _, _, _, _, _, _,  rfl, _⟩ := h; rfl) | (obtain ⟨_, _, _, _, _, _, _, _, _, _, _, _,  rfl, _⟩ := h; rfl) | (obtain ⟨_, _, _, _, _, _, _, _, _, _, _, _, _,  rfl, _⟩ := h; rfl)) (fun _ _ _ _ _ _ us hl => match us, hl with | [_, _, _], _ => rfl) (fun cdv A outer s H vs Q E hr h => ?_)
  have hu := hu_of hr
  refine ⟨_, (pss_cons (ps_set (i := 3) sc_columns_by.nd rfl (Or.inr rfl) (callK (ok_columns_of T) hr (by decide) (takes_of rfl rfl rfl rfl) T.g_columns_of (pa_cons (pv 0) (pa_cons (pv 1) pa_nil))))
      (pss_one (ps_ret (pe_lc (own := [("column", 4)]) rfl sc_columns_by.nd (listI (K := K) (pe_callB (call_sortedD rfl) rfl T.b_sorted (by decide +kernel) (pa_cons (pv 3) pa_nil))) (blkOk_by (own := [("column", 4)]) (N := N_columns_by) (sc := defScope s_columns_by) (by decide +kernel)) (fun _ _ _ _ _ => (pg_name (i := 4) sc_columns_by.nd rfl (Or.inl rfl))) (fun _ _ _ _ _ => pts_one (pt_cmpR op_eq (pe_ix (ixT (K := K)) (pe_dget hu (pv 3) (pv 4) (fun _ _ => rfl)) pe_int (fun _ _ => rfl)) (pv 2) (nomark _))) (fun _ _ _ _ _ => (pv 4)))))), ?_⟩
  obtain ⟨f, n, word, F, t, rfl, hF, ht, q⟩ := h
  obtain ⟨h12, hnd, hsi⟩ := kd_simp hF ht
  walk_at "go"
  refine ⟨f, n, F, t, rfl, hF, ht, fun cp ks hks hcp => ?_⟩
  have sm0 := Same.new (o := .dK ks) hcp
  have hks := hks.mono sm0
  walk_at "go"
  refine ⟨cp, ks, t.cols.map (·.1), rfl, .inl upd_same, by rw [hks.keys, List.map_map]; rfl, by rw [List.length_map]; omega, fun ys p hp hs hpn => ?_⟩
  have ey := eq_sortS hp hs
  subst ey
  walk_at "go"
  refine ⟨⟨_, SqL.of upd_same⟩, fun D hD => lc_list (K := K) (a := p) (xs := (sortS (t.cols.map (·.1))).map V.str) (fun i H' => Same (upd (upd H cp (.dK ks)) p (.lst ((sortS (t.cols.map (·.1))).map V.str))) H' ∧ H' D = some (.lst ((((sortS (t.cols.map (·.1))).take i).filter fun c => decide ((lookB t.cols c).map wordOf = some word)).map V.str))) ⟨Same.new hD, upd_same⟩ (fun i H' _ h => SqL.of (h.1 _ _ upd_same)) ?_ ?_⟩
  · rintro i x H1 hi ⟨sm, hl⟩
    rw [List.getElem?_map] at hi
    obtain ⟨c, hc, rfl⟩ := Option.map_eq_some_iff.mp hi
    have hcm : c ∈ t.cols.map (·.1) := (sortS_perm _).mem_iff.mp (List.mem_of_getElem? hc)
    have hd1 := sm _ _ (upd_free hpn upd_same)
    obtain ⟨v, k, e1, e2, e3⟩ := cols_get (hks.mono ((Same.new hpn).trans sm)) c hcm
    obtain ⟨kp, xs, rfl, hkp⟩ := e3.word
    walk_at "go"
    have hlk : (lookB t.cols c).map wordOf = some (wordOf k) := by rw [e2]; rfl
    refine iteD (fun e => ?_) (fun e => ?_)
    · have e := V.str.inj e
      walk_at "go"
      refine ⟨_, hl, ?_, ?_, ?_⟩
      · rw [List.length_map]
        refine small1000 (Nat.le_trans (List.length_filter_le _ _) ?_)
        rw [List.length_take, (sortS_perm _).length_eq, List.length_map]
        omega
      · exact sm.mut hD
      · rw [upd_same, List.take_succ, hc, List.filter_append, List.map_append]
        simp [e2, e, List.filter_cons]
    · refine ⟨sm, ?_⟩
      have e : ¬ wordOf k = word := fun z => e (by rw [z])
      rw [List.take_succ, hc, List.filter_append, List.map_append, hl]
      simp [e2, e, List.filter_cons]
  · rintro H1 ⟨sm, hl⟩
    rw [List.length_map, List.take_length] at hl
    exact q D H1 ((sm0.trans (Same.new hpn)).trans sm) (by have := (sm0.trans (Same.new (o := .lst ((sortS (t.cols.map (·.1))).map V.str)) hpn)).free hD; exact this) hl


def spots (S : Sheet) : List (Int × Int) := sortP (S.map (·.1))
def cellV (S : Sheet) (p : Int × Int) (c : Str) : V := ((lookB S p).bind fun r => valV r (Sum.inr c)).getD .non
def intOf : V → Int
  | .int i => i
  | _ => 0
def colInts (S : Sheet) (c : Str) : List Int := (spots S).map fun p => intOf (cellV S p c)
def twCol (S : Sheet) (c : Str) : Option (Int × Int) := (dupAt (colInts S c)).bind fun i => (spots S)[i]?
def twTab (C : Str → Sheet) (t : Tb) : Option (Str × (Int × Int)) := (colsBy t.cols "once").findSome? fun c => (twCol (C t.name) c).map fun p => (t.name, p)
def twiceOf (F : Fm) (C : Str → Sheet) : Option (Str × (Int × Int)) := F.tabs.findSome? (twTab C)
def ShsRows (K : PySem.W.Frag) (H : Hp) (F : Fm) (C : Str → Sheet) : Prop := ∀ t ∈ F.tabs, ∀ s ∈ C t.name, RowOk K H F.size s.2 t.cols
def onceWhole (F : Fm) : Prop := ∀ t ∈ F.tabs, ∀ c ∈ t.cols, ∀ k, c.2 = .once k → k = .whole
theorem ShsRows.mono {K : PySem.W.Frag} {H H' : Hp} (e : Same H H') {F : Fm} {C : Str → Sheet} (h : ShsRows K H F C) : ShsRows K H' F C := fun t ht s hs => (h t ht s hs).mono e
theorem colsBy_mem {cols : List (Str × Kd)} {word c : Str} (h : c ∈ colsBy cols word) : ∃ k, (c, k) ∈ cols ∧ wordOf k = word := by
  have := of_decide_eq_true (List.mem_filter.mp h).2
  obtain ⟨k, h1, h2⟩ := Option.map_eq_some_iff.mp this
  exact ⟨k, lookB_mem h1, h2⟩
theorem colsBy_len (cols : List (Str × Kd)) (word : Str) : (colsBy cols word).length ≤ cols.length := by
  refine Nat.le_trans (List.length_filter_le _ _) ?_
  rw [(sortS_perm _).length_eq, List.length_map]
  exact Nat.le_refl _
theorem word_once {k : Kd} (h : wordOf k = "once") : ∃ kk, k = .once kk := by
  cases k with
  | once kk => exact ⟨kk, rfl⟩
  | pl k => cases k <;> (dsimp only [wordOf, wordK] at h; exact absurd h (by decide +kernel))
  | _ => (dsimp only [wordOf, wordK] at h; exact absurd h (by decide +kernel))
theorem word_key {k : Kd} (h : wordOf k = "key") : k = .key := by
  cases k with
  | key => rfl
  | pl k => cases k <;> (dsimp only [wordOf, wordK] at h; exact absurd h (by decide +kernel))
  | _ => (dsimp only [wordOf, wordK] at h; exact absurd h (by decide +kernel))
theorem spot_row {S : Sheet} {p : Int × Int} (h : p ∈ spots S) : ∃ row, lookB S p = some row ∧ (p, row) ∈ S := by
  have h := (sortP_perm _).mem_iff.mp h
  obtain ⟨x, hx, rfl⟩ := List.mem_map.mp h
  cases e : lookB S x.1 with
  | some row => exact ⟨row, rfl, lookB_mem e⟩
  | none =>
    have := anyB S x.1
    rw [e] at this
    have h2 : (S.any fun y => decide (y.1 = x.1)) = true := List.any_eq_true.mpr ⟨x, hx, by simp⟩
    rw [h2] at this
    cases this
theorem cell_once {K : PySem.W.Frag} {H : Hp} {F : Fm} {t : Tb} {row : Row} {c : Str} (hr : RowOk K H F.size row t.cols) (hw : onceWhole F) (ht : t ∈ F.tabs) (hc : c ∈ colsBy t.cols "once") : ∃ n, valV row (Sum.inr c) = some (.int n) := by
  obtain ⟨k, hm, e⟩ := colsBy_mem hc
  obtain ⟨kk, rfl⟩ := word_once e
  obtain ⟨v, x, h1, h2, h3, h4⟩ := hr.2 _ hm
  have := hw t ht _ hm kk rfl
  subst this
  cases x with
  | tp xs => cases h4
  | v x =>
    obtain ⟨rfl, _⟩ := h2
    cases v with
    | int n => exact ⟨n, h1⟩
    | _ => cases h4
theorem cell_key {K : PySem.W.Frag} {H : Hp} {F : Fm} {t : Tb} {row : Row} {c : Str} (hr : RowOk K H F.size row t.cols) (hc : c ∈ colsBy t.cols "key") : ∃ v, valV row (Sum.inr c) = some v ∧ (v = .non ∨ ∃ n, v = .int n) := by
  obtain ⟨k, hm, e⟩ := colsBy_mem hc
  have := word_key e
  subst this
  obtain ⟨v, x, h1, h2, h3, h4⟩ := hr.2 _ hm
  cases x with
  | tp xs => cases h4
  | v x =>
    obtain ⟨rfl, _⟩ := h2
    cases v with
    | int n => exact ⟨_, h1, .inr ⟨n, rfl⟩⟩
    | non => exact ⟨_, h1, .inl rfl⟩
    | _ => cases h4
theorem seen_val (vs : List Int) (x : Int) : valV (vs.map fun v => ((Sum.inl v : Key), V.bl true)) (Sum.inl x) = if x ∈ vs then some (.bl true) else none := by
  induction vs with
  | nil => rfl
  | cons a l ih =>
    rw [List.map_cons]
    by_cases e : a = x
    · subst e; rw [valV_pos rfl, if_pos List.mem_cons_self]
    · rw [valV_neg (fun z => e (Sum.inl.inj z)), ih]
      by_cases h : x ∈ l
      · rw [if_pos h, if_pos (List.mem_cons_of_mem _ h)]
      · rw [if_neg h, if_neg (fun z => (List.mem_cons.mp z).elim (fun y => e y.symm) h)]
theorem sh_of {F : Fm} {L : List (Str × Addr)} (hL : L.map (·.1) = F.tabs.map (·.name)) {t : Tb} (ht : t ∈ F.tabs) : ∃ a, (t.name, a) ∈ L := by
  have : t.name ∈ L.map (·.1) := by rw [hL]; exact List.mem_map.mpr ⟨t, ht, rfl⟩
  obtain ⟨x, hx, e⟩ := List.mem_map.mp this
  exact ⟨x.2, by rw [← e]; exact hx⟩
theorem tab_at {F : Fm} {i : Nat} {x : V} (h : (F.tabs.map fun t => V.str t.name)[i]? = some x) : ∃ t, F.tabs[i]? = some t ∧ x = .str t.name := by
  rw [List.getElem?_map] at h
  obtain ⟨t, h1, h2⟩ := Option.map_eq_some_iff.mp h
  exact ⟨t, h1, h2.symm⟩
theorem strs_get {l : List Str} {i : Nat} {x : V} (h : (l.map V.str)[i]? = some x) : ∃ c, l[i]? = some c ∧ x = .str c := by
  rw [List.getElem?_map] at h
  obtain ⟨t, h1, h2⟩ := Option.map_eq_some_iff.mp h
  exact ⟨t, h1, h2.symm⟩
theorem refs_get {l : List Addr} {i : Nat} {x : V} (h : (l.map V.ref)[i]? = some x) : ∃ c, l[i]? = some c ∧ x = .ref c := by
  rw [List.getElem?_map] at h
  obtain ⟨t, h1, h2⟩ := Option.map_eq_some_iff.mp h
  exact ⟨t, h1, h2.symm⟩
def spTwice (K : PySem.W.Frag) : Sp := fun vs H Q E => ∃ (f : V) (q : Addr) (F : Fm) (L : List (Str × Addr)) (C : Str → Sheet), vs = [f, .ref q] ∧ FmAt K H f F ∧ ShsAt H q L C ∧ L.map (·.1) = F.tabs.map (·.name) ∧ (∀ x ∈ L, (C x.1).length < sizeLine) ∧ ShsRows K H F C ∧ onceWhole F ∧
  (twiceOf F C = none → ∀ H', Same H H' → Q .non H') ∧
  (∀ n p, twiceOf F C = some (n, p) → ∀ d H', Same H H' → H' d = none → E (.ref (He.ga K "Twice")) (some d) (upd H' d (.xd (seF (.str n) (.int p.1) (.int p.2)))))
theorem ok_look_for_twice (T : Tx K mg) : DefOk P w K mg base ("look_for_twice", none) ["form", "sheets"] [] 6 (spTwice K) := by
  refine def_ok T.f_look_for_twice sc_look_for_twice (fun vs H Q E h => by first | (obtain ⟨ rfl, _⟩ := h; rfl) | (obtain ⟨_,  rfl, _⟩ := h; rfl) | (obtain ⟨_, _,  rfl, _⟩ := h; rfl) | (obtain ⟨_, _, _,  rfl, _⟩ := h; rfl) | (obtain ⟨_, _, _, _,  rfl, _⟩ := h; rfl) | (obtain ⟨_, _, _, _, _,  rfl, _⟩ := h; rfl) | (obtain ⟨_, _, _, _, _, _,  rfl, _⟩ := h; rfl) | (obtain ⟨_, _, _, _, _, _, _,  rfl, _⟩ := h; rfl) | (obtain ⟨_, _, _, _, _, _, _, _,  rfl, _⟩ := h; rfl) | (obtain ⟨_, _, _, _, _, _, _, _, _,  rfl, _⟩ := h; rfl) | (obtain ⟨_, _, _, _, _, _, _, _, _, _,  rfl, _⟩ := h; rfl) | (obtain ⟨_, _, _, _, _, _, _, _, _, _, _,  rfl, _⟩ := h; rfl) | (obtain ⟨_, _, _, _, _, _, _, _, _, _, _, _,  rfl, _⟩ := h; rfl) | (obtain ⟨_, _, _, _, _, _, _, _, _, _, _, _, _,  rfl, _⟩ := h; rfl)) (fun _ _ _ _ _ _ us hl => match us, hl with | [_, _], _ => rfl) (fun cdv A outer s H vs Q E hr h => ?_)
  have hu := hu_of hr
  refine ⟨_, (pss_one (ps_for (passes_of rfl) rfl (listI (K := K) (callK (ok_tables_of T) hr (by decide) (takes_of rfl rfl rfl rfl) T.g_tables_of (pa_cons (pv 0) pa_nil))) (pg_name (i := 2) sc_look_for_twice.nd rfl (Or.inl rfl))
      (pss_cons (ps_set (i := 3) sc_look_for_twice.nd rfl (Or.inl rfl) (pe_dget hu (pv 1) (pv 2) (fun _ _ => rfl)))
      (pss_one (ps_for (passes_of rfl) rfl (listI (K := K) (callK (ok_columns_by T) hr (by decide) (takes_of rfl rfl rfl rfl) T.g_columns_by (pa_cons (pv 0) (pa_cons (pv 2) (pa_cons pe_str pa_nil))))) (pg_name (i := 4) sc_look_for_twice.nd rfl (Or.inl rfl))
      (pss_cons (ps_set (i := 5) sc_look_for_twice.nd rfl (Or.inl rfl) pe_dnewK)
      (pss_one (ps_for (passes_of rfl) rfl (listI (K := K) (pe_callB (sortDTK (K := K) rfl) rfl T.b_sorted (by decide +kernel) (pa_cons (pv 3) pa_nil))) (pg_name (i := 6) sc_look_for_twice.nd rfl (Or.inl rfl))
      (pss_cons (ps_set (i := 7) sc_look_for_twice.nd rfl (Or.inl rfl) (pe_dget hu (pe_dget hu (pv 3) (pv 6) (fun _ _ => rfl)) (pv 4) (fun _ _ => rfl)))
      (pss_cons (ps_if (pt_cmp (pc_din hu (pv 7) (pv 5)) (by with_unfolding_all rfl))
      (pss_one (raiseK (ok_StepError_init T) hr (by decide) rfl (takes_of rfl rfl rfl rfl) T.ox_Twice T.oi_Twice T.ot_Twice T.g_Twice (pa_cons (pv 2) (pa_cons (pe_ix (ixT (K := K)) (pv 6) pe_int (fun _ _ => rfl)) (pa_cons (pe_ix (ixT (K := K)) (pv 6) pe_int (fun _ _ => rfl)) pa_nil)))))
      pss_nil)
      (pss_one (ps_dput hu (pv 5) (pv 7) pe_bl rfl)))))))))))), ?_⟩
  obtain ⟨f, q, F, L, C, rfl, hF, hC, hL, hlen, hro, how, hok, hbad⟩ := h
  walk_at "go"
  refine ⟨f, F, rfl, hF, fun tp htp => ?_⟩
  have sm0 := Same.new (o := .lst (F.tabs.map fun t => V.str t.name)) htp
  walk_at "go"
  refine ⟨⟨_, SqL.of upd_same⟩, for_list (K := K) (a := tp) (xs := F.tabs.map fun t => V.str t.name) (fun i σ H' => ∃ a b c d e g, σ = [some f, some (.ref q), a, b, c, d, e, g] ∧ Same (upd H tp (.lst (F.tabs.map fun t => V.str t.name))) H' ∧ (F.tabs.take i).findSome? (twTab C) = none) ⟨none, none, none, none, none, none, rfl, Same.refl _, rfl⟩ (fun i σ H' _ h => by obtain ⟨_, _, _, _, _, _, _, h, _⟩ := h; exact SqL.of (h _ _ upd_same)) ?_ ?_⟩
  · rintro i x σ H1 hi ⟨a1, a2, a3, a4, a5, a6, rfl, sm1, hn1⟩
    obtain ⟨t, ht, rfl⟩ := tab_at hi
    have htm := List.mem_of_getElem? ht
    obtain ⟨a, ha⟩ := sh_of hL htm
    have smT := sm0.trans sm1
    have hC1 := hC.mono smT
    have hq1 := hC1.top
    have hg := sh_get hC.ns ha
    walk_at "go"
    refine ⟨f, t.name, "once", F, t, rfl, hF.mono smT, tab_self hF htm, fun cp H2 sm2 hcp hcl => ?_⟩
    walk_at "go"
    refine ⟨⟨_, SqL.of hcl⟩, for_list (K := K) (a := cp) (xs := (colsBy t.cols "once").map V.str) (fun j σ H' => ∃ c d e g, σ = [some f, some (.ref q), some (.str t.name), some (.ref a), c, d, e, g] ∧ Same H2 H' ∧ ((colsBy t.cols "once").take j).findSome? (fun c => (twCol (C t.name) c).map fun p => (t.name, p)) = none) ⟨a3, a4, a5, a6, rfl, Same.refl _, rfl⟩ (fun i σ H' _ h => by obtain ⟨_, _, _, _, _, h, _⟩ := h; exact SqL.of (h _ _ hcl)) ?_ ?_⟩
    · rintro j x σ H3 hj ⟨b1, b2, b3, b4, rfl, sm3, hn3⟩
      obtain ⟨c, hc, rfl⟩ := strs_get hj
      have hcm := List.mem_of_getElem? hc
      have sm13 := (smT.trans sm2).trans sm3
      have hC3 := hC.mono sm13
      obtain ⟨kvs, hk, hkv⟩ := hC3.sh _ ha
      walk_at "go"
      refine fun d hd => ?_
      walk_at "go"
      refine ⟨a, kvs, (C t.name).map (·.1), rfl, .inl (by walk_at "hp"), by rw [shAt_keys hkv, List.map_map]; rfl, fun ts js p hperm hsrt hpair hpn => ?_⟩
      have ejs : js = spots (C t.name) := eq_sortP hperm hsrt
      subst ejs
      have hpair : Paired (fun u j => H3 u = some (.tup [.int j.1, .int j.2])) ts (spots (C t.name)) := L2.Paired.mapP hpair fun u j z => by
        have ne : u ≠ d := fun y => by rw [y, upd_same] at z; cases z
        rw [upd_ne ne] at z; exact z
      have hts : ts.length = (spots (C t.name)).length := hpair.length
      have hcl : (colInts (C t.name) c).length = (spots (C t.name)).length := by unfold colInts; rw [List.length_map]
      have hsl : (spots (C t.name)).length = (C t.name).length := by unfold spots; rw [(sortP_perm _).length_eq, List.length_map]
      walk_at "go"
      refine ⟨⟨_, SqL.of upd_same⟩, for_list (K := K) (a := p) (xs := ts.map V.ref) (fun i σ H' => ∃ u v, σ = [some f, some (.ref q), some (.str t.name), some (.ref a), some (.str c), some (.ref d), u, v] ∧ Same H3 H' ∧ H' p = some (.lst (ts.map V.ref)) ∧ H' d = some (.dK (((colInts (C t.name) c).take i).map fun v => ((Sum.inl v : Key), V.bl true))) ∧ ((List.range (colInts (C t.name) c).length).take i).findSome? (fun i => match (colInts (C t.name) c)[i]? with
          | some x => if x ∈ (colInts (C t.name) c).take i then some i else none
          | none => none) = none) ⟨_, _, rfl, (Same.new hd).trans (Same.new hpn), upd_same, by walk_at "hp", rfl⟩ (fun i σ H' _ h => by obtain ⟨_, _, _, _, h, _⟩ := h; exact SqL.of h) ?_ ?_⟩
      · rintro m x σ H4 hm ⟨u, v, rfl, sm4, hp4, hd4, hn4⟩
        obtain ⟨sp, hsp, rfl⟩ := refs_get hm
        obtain ⟨pp, hpp, htu⟩ := Paired.at hpair hsp
        obtain ⟨p1, p2⟩ := pp
        obtain ⟨row, hrow, hmem⟩ := spot_row (List.mem_of_getElem? hpp)
        obtain ⟨n, hcell⟩ := cell_once (hro t htm _ hmem) how htm hcm
        have hkv4 := L2.Paired.mapP hkv fun _ _ z => SpotAt.mono sm4 z
        obtain ⟨_, g2⟩ := sheet_get hkv4 p1 p2
        obtain ⟨b, hb1, hb2⟩ := g2 row hrow
        have hk4 := sm4 _ _ hk
        have htu4 := sm4 _ _ htu
        have hci : (colInts (C t.name) c)[m]? = some n := by
          unfold colInts
          rw [List.getElem?_map, hpp]
          show some (intOf (((lookB (C t.name) (p1, p2)).bind fun r => valV r (Sum.inr c)).getD .non)) = _
          rw [hrow]
          show some (intOf ((valV row (Sum.inr c)).getD .non)) = _
          rw [hcell]
          rfl
        have hrg : (List.range (colInts (C t.name) c).length)[m]? = some m := by
          rw [List.getElem?_range (List.getElem?_eq_some_iff.mp hci).1]
        have hsv := seen_val ((colInts (C t.name) c).take m) n
        by_cases hdup : n ∈ (colInts (C t.name) c).take m
        · rw [if_pos hdup] at hsv
          walk_at "go"
          refine se_raised (ta := fun _ H R => R [.str t.name, .int p1, .int p2] H) (σ := []) T.ox_Twice T.xn_Twice_table T.xn_Twice_key T.xn_Twice_place (fun d' hd' => hbad t.name (p1, p2) ?_ _ _ (sm13.trans sm4) hd') fun R hR => hR
          · refine fs_at ht hn1 (fs_at hc hn3 ?_)
            have : dupAt (colInts (C t.name) c) = some m := fs_at hrg hn4 (by rw [hci]; exact if_pos hdup)
            show Option.map _ (Option.bind (dupAt (colInts (C t.name) c)) _) = _
            rw [this]
            show Option.map _ ((spots (C t.name))[m]?) = _
            rw [hpp]
            rfl
        · rw [if_neg hdup] at hsv
          walk_at "go"
          refine ⟨_, _, rfl, DPut.i hd4 ?_, ?_⟩
          · rw [List.length_map, List.length_take]
            have := hlen _ ha
            have : (C t.name).length < sizeLine := this
            omega
          · have hpd : p ≠ d := fun z => by rw [z, hd4] at hp4; cases hp4
            refine ⟨_, _, rfl, sm4.mut hd, by rw [upd_ne hpd]; exact hp4, ?_, ?_⟩
            · rw [upd_same, putK_new _ hsv, List.take_succ, hci, List.map_append]
              rfl
            · refine fs_next hrg hn4 ?_
              rw [hci]
              exact if_neg hdup
      · rintro σ H4 ⟨u, v, rfl, sm4, hp4, hd4, hn4⟩
        refine ⟨_, _, _, _, rfl, sm3.trans sm4, fs_next hc hn3 ?_⟩
        rw [List.length_map, hts, ← hcl, List.take_of_length_le (by rw [List.length_range]; exact Nat.le_refl _)] at hn4
        show Option.map _ (Option.bind (dupAt (colInts (C t.name) c)) _) = none
        have : dupAt (colInts (C t.name) c) = none := hn4
        rw [this]
        rfl
    · rintro σ H3 ⟨b1, b2, b3, b4, rfl, sm3, hn3⟩
      refine ⟨_, _, _, _, _, _, rfl, sm1.trans (sm2.trans sm3), ?_⟩
      refine fs_next ht hn1 ?_
      rw [List.length_map, List.take_length] at hn3
      exact hn3
  · rintro σ H1 ⟨a1, a2, a3, a4, a5, a6, rfl, sm1, hn1⟩
    rw [List.length_map, List.take_length] at hn1
    exact hok hn1 _ (sm0.trans sm1)


def hdName (F : Fm) : Str := match F.tabs with
  | t :: _ => t.name
  | [] => ""
def nwSpot (heads S : Sheet) (c : Str) (p : Int × Int) : Option (Int × Int) := match cellV S p c with
  | .int g => if (lookB heads (g, 0)).isSome then none else some p
  | _ => none
def nwTab (heads : Sheet) (C : Str → Sheet) (t : Tb) : Option (Str × (Int × Int)) := (colsBy t.cols "key").findSome? fun c => ((spots (C t.name)).findSome? (nwSpot heads (C t.name) c)).map fun p => (t.name, p)
def nowhereOf (F : Fm) (C : Str → Sheet) : Option (Str × (Int × Int)) := F.tabs.findSome? (nwTab (C (hdName F)) C)
def spNowhere (K : PySem.W.Frag) : Sp := fun vs H Q E => ∃ (f : V) (q : Addr) (F : Fm) (L : List (Str × Addr)) (C : Str → Sheet), vs = [f, .ref q] ∧ FmAt K H f F ∧ ShsAt H q L C ∧ L.map (·.1) = F.tabs.map (·.name) ∧ (∀ x ∈ L, (C x.1).length < sizeLine) ∧ ShsRows K H F C ∧ F.tabs ≠ [] ∧
  (nowhereOf F C = none → ∀ H', Same H H' → Q .non H') ∧
  (∀ n p, nowhereOf F C = some (n, p) → ∀ d H', Same H H' → H' d = none → E (.ref (He.ga K "Nowhere")) (some d) (upd H' d (.xd (seF (.str n) (.int p.1) (.int p.2)))))
theorem ok_look_for_nowhere (T : Tx K mg) : DefOk P w K mg base ("look_for_nowhere", none) ["form", "sheets"] [] 6 (spNowhere K) := by
  refine def_ok T.f_look_for_nowhere sc_look_for_nowhere (fun vs H Q E h => by first | (obtain ⟨ rfl, _⟩ := h; rfl) | (obtain ⟨_,  rfl, _⟩ := h; rfl) | (obtain ⟨_, _,  rfl, _⟩ := h; rfl) | (obtain ⟨_, _, _,  rfl, _⟩ := h; rfl) | (obtain ⟨_, _, _, _,  rfl, _⟩ := h; rfl) | (obtain ⟨_, _, _, _, _,  rfl, _⟩ := h; rfl) | (obtain ⟨_, _, _, _, _, _,  rfl, _⟩ := h; rfl) | (obtain ⟨_, _, _, _, _, _, _,  rfl, _⟩ := h; rfl) | (obtain ⟨_, _, _, _, _, _, _, _,  rfl, _⟩ := h; rfl) | (obtain ⟨_, _, _, _, _, _, _, _, _,  rfl, _⟩ := h; rfl) | (obtain ⟨_, _, _, _, _, _, _, _, _, _,  rfl, _⟩ := h; rfl) | (obtain ⟨_, _, _, _, _, _, _, _, _, _, _,  rfl, _⟩ := h; rfl) | (obtain ⟨_, _, _, _, _, _, _, _, _, _, _, _,  rfl, _⟩ := h; rfl) | (obtain ⟨_, _, _, _, _, _, _, _, _, _, _, _, _,  rfl, _⟩ := h; rfl)) (fun _ _ _ _ _ _ us hl => match us, hl with | [_, _], _ => rfl) (fun cdv A outer s H vs Q E hr h => ?_)
  have hu := hu_of hr
  refine ⟨_, (pss_cons (ps_set (i := 2) sc_look_for_nowhere.nd rfl (Or.inl rfl) (pe_dget hu (pv 1) (callK (ok_head_of T) hr (by decide) (takes_of rfl rfl rfl rfl) T.g_head_of (pa_cons (pv 0) pa_nil)) (fun _ _ => rfl)))
      (pss_one (ps_for (passes_of rfl) rfl (listI (K := K) (callK (ok_tables_of T) hr (by decide) (takes_of rfl rfl rfl rfl) T.g_tables_of (pa_cons (pv 0) pa_nil))) (pg_name (i := 3) sc_look_for_nowhere.nd rfl (Or.inl rfl))
      (pss_cons (ps_set (i := 4) sc_look_for_nowhere.nd rfl (Or.inl rfl) (pe_dget hu (pv 1) (pv 3) (fun _ _ => rfl)))
      (pss_one (ps_for (passes_of rfl) rfl (listI (K := K) (callK (ok_columns_by T) hr (by decide) (takes_of rfl rfl rfl rfl) T.g_columns_by (pa_cons (pv 0) (pa_cons (pv 3) (pa_cons pe_str pa_nil))))) (pg_name (i := 5) sc_look_for_nowhere.nd rfl (Or.inl rfl))
      (pss_one (ps_for (passes_of rfl) rfl (listI (K := K) (pe_callB (sortDTK (K := K) rfl) rfl T.b_sorted (by decide +kernel) (pa_cons (pv 4) pa_nil))) (pg_name (i := 6) sc_look_for_nowhere.nd rfl (Or.inl rfl))
      (pss_cons (ps_set (i := 7) sc_look_for_nowhere.nd rfl (Or.inl rfl) (pe_dget hu (pe_dget hu (pv 4) (pv 6) (fun _ _ => rfl)) (pv 5) (fun _ _ => rfl)))
      (pss_one (ps_if (PW.pt (pw_and (pt_cmpR op_notN (pv 7) pe_non (nomark _)) (pw_and1 (pt_cmp (pc_dnotin hu (pe_tup (pa_cons (pv 7) (pa_cons pe_int pa_nil))) (pv 2)) (by with_unfolding_all rfl)))))
      (pss_one (raiseK (ok_StepError_init T) hr (by decide) rfl (takes_of rfl rfl rfl rfl) T.ox_Nowhere T.oi_Nowhere T.ot_Nowhere T.g_Nowhere (pa_cons (pv 3) (pa_cons (pe_ix (ixT (K := K)) (pv 6) pe_int (fun _ _ => rfl)) (pa_cons (pe_ix (ixT (K := K)) (pv 6) pe_int (fun _ _ => rfl)) pa_nil)))))
      pss_nil))))))))))), ?_⟩
  obtain ⟨f, q, F, L, C, rfl, hF, hC, hL, hlen, hro, hne, hok, hbad⟩ := h
  obtain ⟨t0, tl, e0⟩ : ∃ t0 tl, F.tabs = t0 :: tl := by
    cases e : F.tabs with
    | nil => exact absurd e hne
    | cons a b => exact ⟨a, b, rfl⟩
  have hhd : hdName F = t0.name := by unfold hdName; rw [e0]
  obtain ⟨a0, ha0⟩ := sh_of hL (t := t0) (by rw [e0]; exact List.mem_cons_self)
  have hq0 := hC.top
  have hg0 := sh_get hC.ns ha0
  walk_at "go"
  refine ⟨f, F, t0, tl, rfl, hF, e0, ?_⟩
  walk_at "go"
  refine ⟨f, F, rfl, hF, fun tp htp => ?_⟩
  have sm0 := Same.new (o := .lst (F.tabs.map fun t => V.str t.name)) htp
  walk_at "go"
  refine ⟨⟨_, SqL.of upd_same⟩, for_list (K := K) (a := tp) (xs := F.tabs.map fun t => V.str t.name) (fun i σ H' => ∃ a b c d e, σ = [some f, some (.ref q), some (.ref a0), a, b, c, d, e] ∧ Same (upd H tp (.lst (F.tabs.map fun t => V.str t.name))) H' ∧ (F.tabs.take i).findSome? (nwTab (C (hdName F)) C) = none) ⟨none, none, none, none, none, rfl, Same.refl _, rfl⟩ (fun i σ H' _ h => by obtain ⟨_, _, _, _, _, _, h, _⟩ := h; exact SqL.of (h _ _ upd_same)) ?_ ?_⟩
  · rintro i x σ H1 hi ⟨a1, a2, a3, a4, a5, rfl, sm1, hn1⟩
    obtain ⟨t, ht, rfl⟩ := tab_at hi
    have htm := List.mem_of_getElem? ht
    obtain ⟨a, ha⟩ := sh_of hL htm
    have smT := sm0.trans sm1
    have hC1 := hC.mono smT
    have hq1 := hC1.top
    have hg := sh_get hC.ns ha
    walk_at "go"
    refine ⟨f, t.name, "key", F, t, rfl, hF.mono smT, tab_self hF htm, fun cp H2 sm2 hcp hcl => ?_⟩
    walk_at "go"
    refine ⟨⟨_, SqL.of hcl⟩, for_list (K := K) (a := cp) (xs := (colsBy t.cols "key").map V.str) (fun j σ H' => ∃ c d e, σ = [some f, some (.ref q), some (.ref a0), some (.str t.name), some (.ref a), c, d, e] ∧ Same H2 H' ∧ ((colsBy t.cols "key").take j).findSome? (fun c => ((spots (C t.name)).findSome? (nwSpot (C (hdName F)) (C t.name) c)).map fun p => (t.name, p)) = none) ⟨a3, a4, a5, rfl, Same.refl _, rfl⟩ (fun i σ H' _ h => by obtain ⟨_, _, _, _, h, _⟩ := h; exact SqL.of (h _ _ hcl)) ?_ ?_⟩
    · rintro j x σ H3 hj ⟨b1, b2, b3, rfl, sm3, hn3⟩
      obtain ⟨c, hc, rfl⟩ := strs_get hj
      have hcm := List.mem_of_getElem? hc
      have sm13 := (smT.trans sm2).trans sm3
      have hC3 := hC.mono sm13
      obtain ⟨kvs, hk, hkv⟩ := hC3.sh _ ha
      obtain ⟨kvs0, hk0, hkv0⟩ := hC3.sh _ ha0
      walk_at "go"
      refine ⟨a, kvs, (C t.name).map (·.1), rfl, .inl (by walk_at "hp"), by rw [shAt_keys hkv, List.map_map]; rfl, fun ts js p hperm hsrt hpair hpn => ?_⟩
      have ejs : js = spots (C t.name) := eq_sortP hperm hsrt
      subst ejs
      have hts : ts.length = (spots (C t.name)).length := hpair.length
      walk_at "go"
      refine ⟨⟨_, SqL.of upd_same⟩, for_list (K := K) (a := p) (xs := ts.map V.ref) (fun i σ H' => ∃ u v, σ = [some f, some (.ref q), some (.ref a0), some (.str t.name), some (.ref a), some (.str c), u, v] ∧ Same (upd H3 p (.lst (ts.map V.ref))) H' ∧ ((spots (C t.name)).take i).findSome? (nwSpot (C (hdName F)) (C t.name) c) = none) ⟨_, _, rfl, Same.refl _, rfl⟩ (fun i σ H' _ h => by obtain ⟨_, _, _, h, _⟩ := h; exact SqL.of (h _ _ upd_same)) ?_ ?_⟩
      · rintro m x σ H4 hm ⟨u, v, rfl, sm4, hn4⟩
        obtain ⟨sp, hsp, rfl⟩ := refs_get hm
        obtain ⟨pp, hpp, htu⟩ := Paired.at hpair hsp
        obtain ⟨p1, p2⟩ := pp
        obtain ⟨row, hrow, hmem⟩ := spot_row (List.mem_of_getElem? hpp)
        obtain ⟨cv, hcell, hcv⟩ := cell_key (hro t htm _ hmem) hcm
        have sm34 := (Same.new (o := .lst (ts.map V.ref)) hpn).trans sm4
        have hkv4 := L2.Paired.mapP hkv fun _ _ z => SpotAt.mono sm34 z
        obtain ⟨_, g2⟩ := sheet_get hkv4 p1 p2
        obtain ⟨b, hb1, hb2⟩ := g2 row hrow
        have hk4 := sm34 _ _ hk
        have hk04 := sm34 _ _ hk0
        have htu4 := sm34 _ _ htu
        have hcellV : cellV (C t.name) (p1, p2) c = cv := by
          show ((lookB (C t.name) (p1, p2)).bind fun r => valV r (Sum.inr c)).getD .non = _
          rw [hrow]
          show (valV row (Sum.inr c)).getD .non = _
          rw [hcell]
          rfl
        rcases hcv with rfl | ⟨g, rfl⟩
        · walk_at "go"
          refine ⟨_, _, rfl, sm4, fs_next hpp hn4 ?_⟩
          show (match cellV (C t.name) (p1, p2) c with
            | .int g => if (lookB (C (hdName F)) (g, 0)).isSome then none else some (p1, p2)
            | _ => none) = none
          rw [hcellV]
        · have hnw : nwSpot (C (hdName F)) (C t.name) c (p1, p2) = if (lookB (C t0.name) (g, 0)).isSome then none else some (p1, p2) := by
            show (match cellV (C t.name) (p1, p2) c with
              | .int g => if (lookB (C (hdName F)) (g, 0)).isSome then none else some (p1, p2)
              | _ => none) = _
            rw [hcellV, hhd]
          walk_at "go"
          refine ⟨by walk_at "sz", fun d hd => ?_⟩
          have hhas := (sheet_get hkv0 g 0).1
          walk_at "go"
          rw [hhas]
          cases hh : (lookB (C t0.name) (g, 0)).isSome with
          | true =>
            rw [hh] at hnw
            walk_at "go"
            exact ⟨_, _, rfl, sm4.trans (Same.new hd), fs_next hpp hn4 hnw⟩
          | false =>
            rw [hh] at hnw
            walk_at "go"
            refine se_raised (ta := fun _ H R => R [.str t.name, .int p1, .int p2] H) (σ := []) T.ox_Nowhere T.xn_Nowhere_table T.xn_Nowhere_key T.xn_Nowhere_place (fun d' hd' => hbad t.name (p1, p2) ?_ _ _ ((sm13.trans sm34).trans (Same.new hd)) hd') fun R hR => hR
            refine fs_at ht hn1 (fs_at hc hn3 ?_)
            rw [fs_at hpp hn4 hnw]
            rfl
      · rintro σ H4 ⟨u, v, rfl, sm4, hn4⟩
        refine ⟨_, _, _, rfl, (sm3.trans (Same.new hpn)).trans sm4, fs_next hc hn3 ?_⟩
        rw [List.length_map, hts, List.take_length] at hn4
        rw [hn4]
        rfl
    · rintro σ H3 ⟨b1, b2, b3, rfl, sm3, hn3⟩
      refine ⟨_, _, _, _, _, rfl, sm1.trans (sm2.trans sm3), ?_⟩
      refine fs_next ht hn1 ?_
      rw [List.length_map, List.take_length] at hn3
      exact hn3
  · rintro σ H1 ⟨a1, a2, a3, a4, a5, rfl, sm1, hn1⟩
    rw [List.length_map, List.take_length] at hn1
    exact hok hn1 _ (sm0.trans sm1)


abbrev Things := List (Int × (Str → List Row))
def PieceAt (H : Hp) (a : Addr) (names : List Str) (kv : Key × V) (x : Int × (Str → List Row)) : Prop := kv.1 = Sum.inl x.1 ∧ ∃ b ks, kv.2 = .ref b ∧ b ≠ a ∧ H b = some (.dK ks) ∧ ∀ n ∈ names, ∃ l rs, valV ks (Sum.inr n) = some (.ref l) ∧ H l = some (.lst (rs.map V.ref)) ∧ Paired (fun r row => r ≠ a ∧ H r = some (.dK row)) rs (x.2 n)
def ThAt (H : Hp) (a : Addr) (names : List Str) (T : Things) : Prop := ∃ kvs, H a = some (.dK kvs) ∧ Paired (PieceAt H a names) kvs T
def rowsFrom (k : Int) (rows : List Row) : Sheet := rows.zipIdx.map fun r => ((k, (r.2 : Int)), r.1)
def sheetOf (T : Things) (n : Str) : Sheet := T.flatMap fun x => rowsFrom x.1 (x.2 n)
theorem lookB_none {κ β : Type} [DecidableEq κ] {l : List (κ × β)} {k : κ} (h : ∀ x ∈ l, x.1 ≠ k) : lookB l k = none := by
  cases e : lookB l k with
  | none => rfl
  | some v => exact absurd rfl (h _ (lookB_mem e))
theorem putB_new {κ β : Type} [DecidableEq κ] {l : List (κ × β)} {k : κ} (v : β) (h : ∀ x ∈ l, x.1 ≠ k) : putB l k v = l ++ [(k, v)] := by
  unfold putB
  rw [if_neg]
  rw [anyB, lookB_none h]
  exact fun z => by cases z
theorem rowsFrom_mem {k : Int} {rows : List Row} {s : (Int × Int) × Row} (h : s ∈ rowsFrom k rows) : s.1.1 = k ∧ 0 ≤ s.1.2 ∧ s.1.2 < rows.length ∧ s.2 ∈ rows := by
  obtain ⟨r, hr, rfl⟩ := List.mem_map.mp h
  obtain ⟨r1, r2⟩ := r
  have := List.mem_zipIdx hr
  simp at this
  obtain ⟨h1, h2⟩ := this
  refine ⟨rfl, Int.natCast_nonneg _, by show (r2 : Int) < _; omega, ?_⟩
  rw [h2]
  exact List.getElem_mem _
theorem rowsFrom_take {k : Int} {rows : List Row} {j : Nat} {row : Row} (h : rows[j]? = some row) : rowsFrom k (rows.take (j + 1)) = rowsFrom k (rows.take j) ++ [((k, (j : Int)), row)] := by
  have hj := (List.getElem?_eq_some_iff.mp h).1
  unfold rowsFrom
  rw [List.take_succ, h, List.zipIdx_append, List.map_append]
  congr 1
  simp
  omega
theorem rowsFrom_len (k : Int) (rows : List Row) : (rowsFrom k rows).length = rows.length := by unfold rowsFrom; simp
theorem sheetOf_take {T : Things} {n : Str} {i : Nat} {x : Int × (Str → List Row)} (h : T[i]? = some x) : sheetOf (T.take (i + 1)) n = sheetOf (T.take i) n ++ rowsFrom x.1 (x.2 n) := by
  unfold sheetOf
  rw [List.take_succ, h, List.flatMap_append]
  simp
theorem sheetOf_mem {T : Things} {n : Str} {s : (Int × Int) × Row} (h : s ∈ sheetOf T n) : ∃ x ∈ T, s.1.1 = x.1 ∧ 0 ≤ s.1.2 ∧ s.1.2 < (x.2 n).length ∧ s.2 ∈ x.2 n := by
  obtain ⟨x, hx, hs⟩ := List.mem_flatMap.mp h
  exact ⟨x, hx, rowsFrom_mem hs⟩
theorem take_len {T : Things} {n : Str} (i : Nat) : (sheetOf (T.take i) n).length ≤ (sheetOf T n).length := by
  conv => rhs; rw [← List.take_append_drop i T]
  unfold sheetOf
  rw [List.flatMap_append, List.length_append]
  omega
theorem nd_take {T : Things} (nd : (T.map (·.1)).Nodup) {i : Nat} {x : Int × (Str → List Row)} (h : T[i]? = some x) : ∀ y ∈ T.take i, y.1 ≠ x.1 := by
  intro y hy e
  obtain ⟨j, hj⟩ := List.getElem?_of_mem hy
  obtain ⟨hlt, hj'⟩ := List.getElem?_eq_some_iff.mp hj
  rw [List.length_take] at hlt
  rw [List.getElem?_take_of_lt (by omega)] at hj
  have hi := (List.getElem?_eq_some_iff.mp h).1
  have e1 : (T.map (·.1))[j]? = some x.1 := by rw [List.getElem?_map, hj, ← e]; rfl
  have e2 : (T.map (·.1))[i]? = some x.1 := by rw [List.getElem?_map, h]; rfl
  have := ((List.getElem?_inj (by rw [List.length_map]; omega) nd).mp (e1.trans e2.symm))
  omega
/-- what holds of dicts and sheets alone -/
def KeepD (H H' : Hp) : Prop := ∀ b o, H b = some o → ((∃ k, o = .dK k) ∨ ∃ k, o = .dT k) → H' b = some o
theorem ShsAt.keep {H H' : Hp} (e : KeepD H H') {q : Addr} {L : List (Str × Addr)} {C : Str → Sheet} (h : ShsAt H q L C) : ShsAt H' q L C := by
  refine ⟨e _ _ h.top (.inl ⟨_, rfl⟩), h.ns, h.as, fun x hx => ?_⟩
  obtain ⟨k, h1, h2⟩ := h.sh x hx
  exact ⟨k, e _ _ h1 (.inr ⟨_, rfl⟩), L2.Paired.mapP h2 fun kv s z => let ⟨a, b, c, d⟩ := z; ⟨a, b, c, e _ _ d (.inl ⟨_, rfl⟩)⟩⟩
theorem ShsAt.congr {H : Hp} {q : Addr} {L : List (Str × Addr)} {C C' : Str → Sheet} (h : ShsAt H q L C) (e : ∀ x ∈ L, C x.1 = C' x.1) : ShsAt H q L C' := ⟨h.top, h.ns, h.as, fun x hx => e x hx ▸ h.sh x hx⟩
theorem Off.snoc {P : Addr → Prop} {H : Hp} {q sa : Addr} {L : List (Str × Addr)} {C : Str → Sheet} {n : Str} {o : List (Key × V)} (h : Off P H L) (hC : ShsAt H q L C) (hsa : H sa = none) : Off P (upd (upd H sa (.dT [])) q (.dK o)) (L ++ [(n, sa)]) := by
  have hqs : q ≠ sa := fun z => by have := hC.top; rw [z, hsa] at this; cases this
  intro x hx ks e kv hkv
  rcases List.mem_append.mp hx with hx | hx
  · obtain ⟨k, h1, _⟩ := hC.sh x hx
    rw [upd_ne (fun z => by have := hC.top; rw [← z, h1] at this; cases this), upd_ne (ne_of_none h1 hsa), h1] at e
    cases e
    exact h x hx _ h1 kv hkv
  · cases List.mem_singleton.mp hx
    rw [upd_ne (Ne.symm hqs), upd_same] at e
    cases e
    cases hkv
theorem ShsAt.snoc {H : Hp} {q sa : Addr} {L : List (Str × Addr)} {C : Str → Sheet} {n : Str} {P : Addr → Prop} (h : ShsAt H q L C) (hO : Off P H L) (hP : ¬ P q) (hsa : H sa = none) (hnew : ∀ x ∈ L, x.1 ≠ n) :
    ShsAt (upd (upd H sa (.dT [])) q (.dK (L.map (fun x => ((Sum.inr x.1 : Key), V.ref x.2)) ++ [(Sum.inr n, .ref sa)]))) q (L ++ [(n, sa)]) (putC C n []) := by
  have hqs : q ≠ sa := fun z => by have := h.top; rw [z, hsa] at this; cases this
  have hold : ∀ b o, H b = some o → b ≠ q → upd (upd H sa (.dT [])) q (.dK (L.map (fun x => ((Sum.inr x.1 : Key), V.ref x.2)) ++ [(Sum.inr n, .ref sa)])) b = some o := fun b o hb ne => by
    rw [upd_ne ne, upd_ne (ne_of_none hb hsa)]; exact hb
  refine ⟨by rw [upd_same, List.map_append]; rfl, ?_, ?_, fun x hx => ?_⟩
  · rw [List.map_append]
    refine List.nodup_append.mpr ⟨h.ns, List.nodup_cons.mpr ⟨fun z => (by cases z), .nil⟩, fun x hx y hy => ?_⟩
    obtain ⟨z, hz, rfl⟩ := List.mem_map.mp hx
    cases List.mem_singleton.mp hy
    exact hnew z hz
  · rw [List.map_append]
    refine List.nodup_append.mpr ⟨h.as, List.nodup_cons.mpr ⟨fun z => (by cases z), .nil⟩, fun x hx y hy => ?_⟩
    obtain ⟨z, hz, rfl⟩ := List.mem_map.mp hx
    cases List.mem_singleton.mp hy
    obtain ⟨k, h1, _⟩ := h.sh z hz
    exact fun e => by rw [e] at h1; rw [hsa] at h1; cases h1
  · rcases List.mem_append.mp hx with hx | hx
    · obtain ⟨k, h1, h2⟩ := h.sh x hx
      refine ⟨k, hold _ _ h1 (fun z => by have := h.top; rw [← z, h1] at this; cases this), ?_⟩
      have : putC C n [] x.1 = C x.1 := if_neg (hnew x hx)
      rw [this]
      refine paired_mem h2 fun kv s hkv z => ?_
      obtain ⟨a, b, c, d⟩ := z
      exact ⟨a, b, c, hold _ _ d (fun z => hP (z ▸ hO x hx _ h1 kv hkv b c))⟩
    · cases List.mem_singleton.mp hx
      refine ⟨[], by rw [upd_ne (Ne.symm hqs)]; exact upd_same, ?_⟩
      have : putC C n [] n = [] := if_pos rfl
      rw [this]
      exact .nil
def spSheetsOf (K : PySem.W.Frag) : Sp := fun vs H Q _ => ∃ (f : V) (a : Addr) (F : Fm) (T : Things), vs = [f, .ref a] ∧ FmAt K H f F ∧ ThAt H a (F.tabs.map (·.name)) T ∧ (T.map (·.1)).Nodup ∧ (∀ t ∈ F.tabs, (sheetOf T t.name).length < sizeLine) ∧
  ∀ q L H', Same H H' → H q = none → ShsAt H' q L (sheetOf T) → L.map (·.1) = F.tabs.map (·.name) → (∀ x ∈ L, H x.2 = none) → Q (.ref q) H'
theorem ok_sheets_of (T : Tx K mg) : DefOk P w K mg base ("sheets_of", none) ["form", "things"] [] 2 (spSheetsOf K) := by
  refine def_ok T.f_sheets_of sc_sheets_of (fun vs H Q E h => by first | (obtain ⟨ rfl, _⟩ := h; rfl) | (obtain ⟨_,  rfl, _⟩ := h; rfl) | (obtain ⟨_, _,  rfl, _⟩ := h; rfl) | (obtain ⟨_, _, _,  rfl, _⟩ := h; rfl) | (obtain ⟨_, _, _, _,  rfl, _⟩ := h; rfl) | (obtain ⟨_, _, _, _, _,  rfl, _⟩ := h; rfl) | (obtain ⟨_, _, _, _, _, _,  rfl, _⟩ := h; rfl) | (obtain ⟨_, _, _, _, _, _, _,  rfl, _⟩ := h; rfl) | (obtain ⟨_, _, _, _, _, _, _, _,  rfl, _⟩ := h; rfl) | (obtain ⟨_, _, _, _, _, _, _, _, _,  rfl, _⟩ := h; rfl) | (obtain ⟨_, _, _, _, _, _, _, _, _, _,  rfl, _⟩ := h; rfl) | (obtain ⟨_, _, _, _, _, _, _, _, _, _, _,  rfl, _⟩ := h; rfl) | (obtain ⟨_, _, _, _, _, _, _, _, _, _, _, _,  rfl, _⟩ := h; rfl) | (obtain ⟨_, _, _, _, _, _, _, _, _, _, _, _, _,  rfl, _⟩ := h; rfl)) (fun _ _ _ _ _ _ us hl => match us, hl with | [_, _], _ => rfl) (fun cdv A outer s H vs Q E hr h => ?_)
  have hu := hu_of hr
  refine ⟨_, (pss_cons (ps_set (i := 2) sc_sheets_of.nd rfl (Or.inl rfl) pe_dnewK)
      (pss_cons (ps_for (passes_of rfl) rfl (listI (K := K) (callK (ok_tables_of T) hr (by decide) (takes_of rfl rfl rfl rfl) T.g_tables_of (pa_cons (pv 0) pa_nil))) (pg_name (i := 3) sc_sheets_of.nd rfl (Or.inl rfl))
      (pss_cons (ps_dput hu (pv 2) (pv 3) pe_dnewT rfl)
      (pss_one (ps_lock (ps_for (passes_of rfl) rfl (pi_keys (pv 1)) (pg_name (i := 4) sc_sheets_of.nd rfl (Or.inl rfl))
      (pss_one (ps_for (passes_of rfl) rfl (pi_enum rfl T.b_enumerate (pa_cons (pe_dget hu (pe_dget hu (pv 1) (pv 4) (fun _ _ => rfl)) (pv 3) (fun _ _ => rfl)) pa_nil)) (pg_tup rfl (pgs_cons (pg_name (i := 5) sc_sheets_of.nd rfl (Or.inl rfl)) (pgs_cons (pg_name (i := 6) sc_sheets_of.nd rfl (Or.inl rfl)) pgs_nil)))
      (pss_one (ps_dput hu (pe_dget hu (pv 2) (pv 3) (fun _ _ => rfl)) (pe_tup (pa_cons (pv 4) (pa_cons (pv 5) pa_nil))) (pe_callTy call_dictD rfl T.b_dict (by decide +kernel) (pa_cons (pv 6) pa_nil)) rfl)))))))))
      (pss_one (ps_ret (pv 2))))), ?_⟩
  obtain ⟨f, a, F, T, rfl, hF, ⟨kvs, ha, hkv⟩, hnd, hlen, hQ⟩ := h
  obtain ⟨_, _, _, _, _, _, _, h8, hns, _⟩ := id hF
  have hkd : (kvs.map (·.1)).Nodup := by
    have e : kvs.map (·.1) = (T.map (·.1)).map Sum.inl := by rw [List.map_map]; exact Paired.mapEq hkv fun _ _ z => z.1
    rw [e]
    exact List.Pairwise.map _ (fun a b z e => z (Sum.inl.inj e)) hnd
  walk_at "go"
  refine fun q hq => ?_
  walk_at "go"
  refine ⟨f, F, rfl, hF.mono (Same.new hq), fun tp htp => ?_⟩
  walk_at "go"
  refine ⟨⟨_, SqL.of upd_same⟩, for_list (K := K) (a := tp) (xs := F.tabs.map fun t => V.str t.name) (fun i σ H' => ∃ b1 b2 b3 b4 L, σ = [some f, some (.ref a), some (.ref q), b1, b2, b3, b4] ∧ Same H H' ∧ H' tp = some (.lst (F.tabs.map fun t => V.str t.name)) ∧ ShsAt H' q L (sheetOf T) ∧ L.map (·.1) = (F.tabs.take i).map (·.name) ∧ (∀ x ∈ L, H x.2 = none) ∧ Off (fun b => H b = none ∧ b ≠ q) H' L)
    ⟨none, none, none, none, [], rfl, (Same.new hq).trans (Same.new htp), upd_same, ⟨by rw [upd_ne (fun z => by rw [← z, upd_same] at htp; cases htp)]; exact upd_same, .nil, .nil, fun x hx => by cases hx⟩, rfl, (fun x hx => by cases hx), fun x hx => by cases hx⟩ (fun i σ H' _ h => by obtain ⟨_, _, _, _, _, _, _, h, _⟩ := h; exact SqL.of h) ?_ ?_⟩
  · rintro i x σ H1 hi ⟨b1, b2, b3, b4, L, rfl, sm, htp1, hC, hL, hfr, hO⟩
    obtain ⟨t, ht, rfl⟩ := tab_at hi
    have htm := List.mem_of_getElem? ht
    have hq1 := hC.top
    walk_at "go"
    refine fun sa hsa => ?_
    walk_at "go"
    have hnew : ∀ x ∈ L, x.1 ≠ t.name := fun x hx e => by
      have hx : x.1 ∈ (F.tabs.take i).map (·.name) := by rw [← hL]; exact List.mem_map.mpr ⟨x, hx, rfl⟩
      obtain ⟨u, hu, eu⟩ := List.mem_map.mp hx
      obtain ⟨j, hj⟩ := List.getElem?_of_mem hu
      obtain ⟨hlt, _⟩ := List.getElem?_eq_some_iff.mp hj
      rw [List.length_take] at hlt
      rw [List.getElem?_take_of_lt (by omega)] at hj
      have e1 : (F.tabs.map (·.name))[j]? = some t.name := by rw [List.getElem?_map, hj, ← e, ← eu]; rfl
      have e2 : (F.tabs.map (·.name))[i]? = some t.name := by rw [List.getElem?_map, ht]; rfl
      have := (List.getElem?_inj (by rw [List.length_map]; have := (List.getElem?_eq_some_iff.mp ht).1; omega) hns).mp (e1.trans e2.symm)
      omega
    refine ⟨_, _, rfl, DPut.s (by walk_at "hp") ?_, ?_⟩
    · have : L.length ≤ 8 := by
        have := congrArg List.length hL
        rw [List.length_map, List.length_map, List.length_take] at this
        omega
      rw [List.length_map]
      exact small1000 (by omega)
    rw [putK_new _ (sh_none hnew)]
    have hPq : ¬ (fun b => H b = none ∧ b ≠ q) q := fun z => z.2 rfl
    have hPa : ¬ (fun b => H b = none ∧ b ≠ q) a := fun z => by have := z.1; rw [ha] at this; cases this
    have hC2 := hC.snoc hO hPq hsa hnew
    have hO2 := hO.snoc hC hsa (n := t.name) (o := L.map (fun x => ((Sum.inr x.1 : Key), V.ref x.2)) ++ [(Sum.inr t.name, .ref sa)])
    have sm2 : Same H (upd (upd H1 sa (.dT [])) q (.dK (L.map (fun x => ((Sum.inr x.1 : Key), V.ref x.2)) ++ [(Sum.inr t.name, .ref sa)]))) := (sm.trans (Same.new hsa)).mut hq
    have htp2 : (upd (upd H1 sa (.dT [])) q (.dK (L.map (fun x => ((Sum.inr x.1 : Key), V.ref x.2)) ++ [(Sum.inr t.name, .ref sa)]))) tp = some (.lst (F.tabs.map fun t => V.str t.name)) := by
      rw [upd_ne (fun z => by rw [z, hq1] at htp1; cases htp1), upd_ne (ne_of_none htp1 hsa)]; exact htp1
    have hL2 : (L ++ [(t.name, sa)]).map (·.1) = (F.tabs.take (i + 1)).map (·.name) := by
      rw [List.map_append, hL, List.take_succ, ht, List.map_append]; rfl
    have hfr2 : ∀ x ∈ L ++ [(t.name, sa)], H x.2 = none := fun x hx => by
      rcases List.mem_append.mp hx with hx | hx
      · exact hfr x hx
      · cases List.mem_singleton.mp hx; exact sm.free hsa
    have hm2 : (t.name, sa) ∈ L ++ [(t.name, sa)] := List.mem_append_right _ List.mem_cons_self
    generalize (upd (upd H1 sa (.dT [])) q (.dK (L.map (fun x => ((Sum.inr x.1 : Key), V.ref x.2)) ++ [(Sum.inr t.name, .ref sa)]))) = H2 at hC2 hO2 sm2 htp2 ⊢
    generalize L ++ [(t.name, sa)] = L2 at hC2 hO2 hL2 hfr2 hm2
    have ha2 := sm2 _ _ ha
    have haq : a ≠ q := ne_of_none ha hq
    refine ⟨a, .dK kvs, ha2, trivial, fun od => ?_⟩
    walk_at "go"
    refine ⟨_, _, rfl, .inl ⟨_, upd_same, for_it walk_keys (fun i' σ H' => ∃ b1 b2 b3, σ = [some f, some (.ref a), some (.ref q), some (.str t.name), b1, b2, b3] ∧ H' a = some (.frz od (.dK kvs)) ∧ (∀ b o, H b = some o → b ≠ a → H' b = some o) ∧ H' tp = some (.lst (F.tabs.map fun t => V.str t.name)) ∧ ShsAt H' q L2 (putC (sheetOf T) t.name (sheetOf (T.take i') t.name)) ∧ Off (fun b => H b = none ∧ b ≠ q) H' L2) ?_ ?_ ?_ ?_⟩⟩
    · have hno : ∀ x ∈ L2, x.2 ≠ a := fun x hx z => by have := hfr2 x hx; rw [z, ha] at this; cases this
      have he : ∀ b o, H2 b = some o → b ≠ a → upd H2 a (.frz od (.dK kvs)) b = some o := fun b o h ne => by rw [upd_ne ne]; exact h
      obtain ⟨h1, h2⟩ := hC2.other hO2 hPa haq hno he
      exact ⟨_, _, _, rfl, upd_same, fun b o h ne => he _ _ (sm2 _ _ h) ne, he _ _ htp2 (fun z => by rw [z, ha2] at htp2; cases htp2), h1, h2⟩
    · rintro i' σ H' _ ⟨_, _, _, _, h, _⟩
      exact h
    · rintro i' x σ H3 H3' hi' ⟨b1, b2, b3, rfl, hfz, hsm, htp3, hC3, hO3⟩ ⟨rfl, kk, v, hkk, rfl⟩
      obtain ⟨x, hx, hk1, b, ks, rfl, hba, hb, hpc⟩ := Paired.at hkv hkk
      have hk1 : kk = Sum.inl x.1 := hk1
      subst hk1
      obtain ⟨l, rs, hl1, hl2, hrs⟩ := hpc t.name (List.mem_map.mpr ⟨t, htm, rfl⟩)
      have hvk : valV kvs (Sum.inl x.1) = some (.ref b) := val_nodup hkd _ (List.mem_of_getElem? hkk)
      have hb3 := hsm _ _ hb hba
      have hl3 := hsm _ _ hl2 (fun z => by rw [z, ha] at hl2; cases hl2)
      show gName 4 (V.int x.1) _ _ _
      walk_at "go"
      refine ⟨l, rs.map V.ref, rfl, SqL.of hl3, for_it (walk_enum (K := K) (a := l) (xs := rs.map V.ref)) (fun j σ H' => ∃ b2 b3, σ = [some f, some (.ref a), some (.ref q), some (.str t.name), some (.int x.1), b2, b3] ∧ H' a = some (.frz od (.dK kvs)) ∧ (∀ b o, H b = some o → b ≠ a → H' b = some o) ∧ H' tp = some (.lst (F.tabs.map fun t => V.str t.name)) ∧ ShsAt H' q L2 (putC (sheetOf T) t.name (sheetOf (T.take i') t.name ++ rowsFrom x.1 ((x.2 t.name).take j))) ∧ Off (fun b => H b = none ∧ b ≠ q) H' L2) ?_ ?_ ?_ ?_⟩
      · exact ⟨_, _, rfl, hfz, hsm, htp3, by rw [show rowsFrom x.1 ((x.2 t.name).take 0) = [] from rfl, List.append_nil]; exact hC3, hO3⟩
      · rintro j σ H' _ ⟨_, _, _, h, hs, _⟩
        exact SqL.of (hs _ _ hl2 (fun z => by rw [z, ha] at hl2; cases hl2))
      · rintro j y σ H4 H5 hj ⟨b2, b3, rfl, hfz4, hsm4, htp4, hC4, hO4⟩ ⟨c, y1, y2, rfl, hc, rfl, e1, e2⟩
        cases e1
        obtain ⟨r, hr1, rfl⟩ := refs_get e2
        obtain ⟨row, hrow, hra, hr2⟩ := Paired.at hrs hr1
        have hr4 := hsm4 _ _ hr2 hra
        have hq4 := hC4.top
        have hg4 := sh_get hC4.ns hm2
        obtain ⟨ks4, hk4, hkv4⟩ := hC4.sh _ hm2
        walk_at "go"
        refine ⟨r, row, rfl, .inl (by walk_at "hp"), fun c2 hc2 => ?_⟩
        walk_at "go"
        have hputn : putC (sheetOf T) t.name (sheetOf (T.take i') t.name ++ rowsFrom x.1 ((x.2 t.name).take j)) t.name = sheetOf (T.take i') t.name ++ rowsFrom x.1 ((x.2 t.name).take j) := if_pos rfl
        have hjl := (List.getElem?_eq_some_iff.mp hrow).1
        refine ⟨by walk_at "sz", fun d hd => ⟨_, _, rfl, DPut.p (by walk_at "hp") (by walk_at "hp") ?_, ?_⟩⟩
        · rw [hkv4.length, hputn, List.length_append, rowsFrom_len, List.length_take]
          have h1 := take_len (T := T) (n := t.name) (i' + 1)
          rw [sheetOf_take hx, List.length_append, rowsFrom_len] at h1
          have h2 := hlen t htm
          omega
        · have smA := ((Same.new (o := .tup [.int (j : Nat), .ref r]) hc).trans (Same.new (o := .dK row) hc2)).trans (Same.new (o := .tup [.int x.1, .int (j : Nat)]) hd)
          have D := put_done (k := x.1) (p := (j : Nat)) (row := row) (c := c2) hC4 hm2 smA hk4 hkv4 (upd_free hd upd_same)
          have hc2n : H4 c2 = none := (Same.new hc).free hc2
          have hno : ∀ x ∈ L2, x.2 ≠ a := fun x hx z => by have := hfr2 x hx; rw [z, ha] at this; cases this
          have hP2 : (fun b => H b = none ∧ b ≠ q) c2 := by
            refine ⟨?_, fun z => by rw [z, hq4] at hc2n; cases hc2n⟩
            cases e : H c2 with
            | none => rfl
            | some o =>
              by_cases ea : c2 = a
              · rw [ea, hfz4] at hc2n; cases hc2n
              · rw [hsm4 _ _ e ea] at hc2n; cases hc2n
          refine ⟨_, _, rfl, D.1 _ _ hfz4 hno, fun b o h ne => D.1 _ _ (hsm4 _ _ h ne) (fun x hx z => by have := hfr2 x hx; rw [z, h] at this; cases this), D.1 _ _ htp4 (fun x hx z => ?_), D.2.congr fun y hy => ?_, hO4.put hC4 smA hk4 hm2 hP2⟩
          · obtain ⟨k, h1, _⟩ := hC4.sh x hx
            rw [z, htp4] at h1
            cases h1
          · have hnew : ∀ s ∈ sheetOf (T.take i') t.name ++ rowsFrom x.1 ((x.2 t.name).take j), s.1 ≠ (x.1, ((j : Nat) : Int)) := fun s hs e => by
              rcases List.mem_append.mp hs with hs | hs
              · obtain ⟨y, hy, e1, _⟩ := sheetOf_mem hs
                exact nd_take hnd hx y hy (by rw [← e1, e])
              · obtain ⟨_, _, h3, _⟩ := rowsFrom_mem hs
                rw [e, List.length_take] at h3
                have h3 : ((j : Nat) : Int) < (min j (x.2 t.name).length : Nat) := h3
                omega
            show putC (putC (sheetOf T) t.name _) t.name (putB _ _ _) y.1 = putC (sheetOf T) t.name _ y.1
            unfold putC
            by_cases e : y.1 = t.name
            · rw [if_pos e, if_pos e, if_pos rfl, putB_new _ hnew, rowsFrom_take hrow, List.append_assoc]
            · rw [if_neg e, if_neg e, if_neg e]
      · rintro σ H4 ⟨b2, b3, rfl, hfz4, hsm4, htp4, hC4, hO4⟩
        have hlr : (rs.map V.ref).length = (x.2 t.name).length := by rw [List.length_map]; exact hrs.length
        rw [hlr, List.take_length] at hC4
        exact ⟨_, _, _, rfl, hfz4, hsm4, htp4, by rw [sheetOf_take hx]; exact hC4, hO4⟩
    · rintro σ H3 ⟨b1, b2, b3, rfl, hfz, hsm, htp3, hC3, hO3⟩
      refine ⟨hfz, ?_⟩
      have hno : ∀ x ∈ L2, x.2 ≠ a := fun x hx z => by have := hfr2 x hx; rw [z, ha] at this; cases this
      have he : ∀ b o, H3 b = some o → b ≠ a → upd H3 a (.dK kvs) b = some o := fun b o h ne => by rw [upd_ne ne]; exact h
      obtain ⟨h1, h2⟩ := hC3.other hO3 hPa haq hno he
      refine ⟨_, _, _, _, L2, rfl, fun b o h => ?_, he _ _ htp3 (fun z => by rw [z, hfz] at htp3; cases htp3), h1.congr fun y hy => ?_, hL2, hfr2, h2⟩
      · by_cases e : b = a
        · rw [e, upd_same, ← ha, ← e]; exact h
        · exact he _ _ (hsm _ _ h e) e
      · have : kvs.length = T.length := hkv.length
        unfold putC
        by_cases e : y.1 = t.name
        · rw [if_pos e, this, List.take_length, e]
        · rw [if_neg e]
  · rintro σ H1 ⟨b1, b2, b3, b4, L, rfl, sm, htp1, hC, hL, hfr, hO⟩
    rw [List.length_map, List.take_length] at hL
    walk_at "go"
    exact hQ q L H1 sm hq hC hL hfr


/-! ### Plain -/
def plF (f : V) (q : Addr) : List (Str × V) := [("shape", f), ("sheets", .ref q)]
/-- what a Plain is made of: none, or pieces -/
def StartAt (H : Hp) (th : V) (names : List Str) (T : Things) : Prop := (th = .non ∧ T = []) ∨ ∃ a, th = .ref a ∧ ThAt H a names T
def spPlainInit (K : PySem.W.Frag) : Sp := fun vs H Q E => ∃ (x dx : Addr) (f th : V) (F : Fm) (T : Things) (G : Hp), vs = [.ref x, f, th] ∧ H x = some (.ins (He.ga K "Plain") dx []) ∧ Same G H ∧ G x = none ∧ FmAt K G f F ∧ StartAt G th (F.tabs.map (·.name)) T ∧ (T.map (·.1)).Nodup ∧ (∀ t ∈ F.tabs, (sheetOf T t.name).length < sizeLine) ∧
  ShsRows K G F (sheetOf T) ∧ onceWhole F ∧ F.tabs ≠ [] ∧
  (∀ q L H', twiceOf F (sheetOf T) = none → nowhereOf F (sheetOf T) = none → Same G H' → H' x = some (.ins (He.ga K "Plain") dx (plF f q)) → G q = none → ShsAt H' q L (sheetOf T) → L.map (·.1) = F.tabs.map (·.name) → (∀ y ∈ L, G y.2 = none) → Q .non H') ∧
  (∀ n p, twiceOf F (sheetOf T) = some (n, p) → ∀ d H', Same G H' → H' d = none → E (.ref (He.ga K "Twice")) (some d) (upd H' d (.xd (seF (.str n) (.int p.1) (.int p.2))))) ∧
  (∀ n p, twiceOf F (sheetOf T) = none → nowhereOf F (sheetOf T) = some (n, p) → ∀ d H', Same G H' → H' d = none → E (.ref (He.ga K "Nowhere")) (some d) (upd H' d (.xd (seF (.str n) (.int p.1) (.int p.2)))))
theorem run_Plain_init (T : Tx K mg) : ∀ (cdv : Value) (A : Around) (outer : List Env) (s : Shared) (H : Hp) (vs : List V) (Q : VK) (E : XK), Room 6 (A.deeper (envOfC "Plain.__init__" (defScope s_Plain_init) s.heap.objs.size (He.fAd K ("Plain", some "__init__")) cdv)) → (spPlainInit K) vs H Q E →
    ∃ t, PSs (cxOf (L2.CX P w) P w K mg base N_Plain_init "Plain.__init__" (defScope s_Plain_init) (He.fAd K ("Plain", some "__init__")) cdv A outer s H E) (defBody s_Plain_init) t ∧ t { nx := fun _ H' => Q .non H', rt := Q } (L2.start N_Plain_init vs) H := by
  intro cdv A outer s H vs Q E hr h
  have hu := hu_of hr
  refine ⟨_, (pss_cons (sfldK (K := K) (pv 0) (pv 1))
      (pss_cons (ps_if (pt_cmpR op_isN (pv 2) pe_non (nomark _))
      (pss_one (sfldK (K := K) (pv 0) (callK (ok_sheets_of T) hr (by decide) (takes_of rfl rfl rfl rfl) T.g_sheets_of (pa_cons (pv 1) (pa_cons pe_dnewK pa_nil)))))
      (pss_one (sfldK (K := K) (pv 0) (callK (ok_sheets_of T) hr (by decide) (takes_of rfl rfl rfl rfl) T.g_sheets_of (pa_cons (pv 1) (pa_cons (pv 2) pa_nil))))))
      (pss_cons (ps_expr (callK (ok_look_for_twice T) hr (by decide) (takes_of rfl rfl rfl rfl) T.g_look_for_twice (pa_cons (pv 1) (pa_cons (fldK (K := K) (pv 0)) pa_nil))))
      (pss_one (ps_expr (callK (ok_look_for_nowhere T) hr (by decide) (takes_of rfl rfl rfl rfl) T.g_look_for_nowhere (pa_cons (pv 1) (pa_cons (fldK (K := K) (pv 0)) pa_nil)))))))), ?_⟩
  obtain ⟨x, dx, f, th, F, T', G, rfl, hx, sm, hGx, hF, hT, hnd, hlen, hro, how, hne, hok, htw, hnw⟩ := h
  walk_at "go"
  refine ⟨x, _, dx, [], rfl, hx, T.cl_Plain, T.na_Plain_shape, by decide, ?_⟩
  have tail : ∀ (q : Addr) (L : List (Str × Addr)) (H2 : Hp), Same G H2 → G q = none → H2 x = some (.ins (He.ga K "Plain") dx (plF f q)) → ShsAt H2 q L (sheetOf T') → L.map (·.1) = F.tabs.map (·.name) → (∀ y ∈ L, G y.2 = none) →
      tSeq (tDrop (tCallSD (spTwice K) [] (WE fun cls d x H => E cls d H) (tCons (tVar 1) (tCons (tFld K (tVar 0) "sheets") tNil))))
        (tDrop (tCallSD (spNowhere K) [] (WE fun cls d x H => E cls d H) (tCons (tVar 1) (tCons (tFld K (tVar 0) "sheets") tNil)))) { nx := fun x H' => Q V.non H', rt := Q } (L2.start N_Plain_init [V.ref x, f, th]) H2 := by
    intro q L H2 sm2 hGq hx2 hC hL hfr
    walk_at "go"
    refine ⟨x, _, dx, plF f q, .ref q, rfl, hx2, T.cl_Plain, T.na_Plain_sheets, rfl, ?_⟩
    walk_at "go"
    have hlen2 : ∀ y ∈ L, (sheetOf T' y.1).length < sizeLine := fun y hy => by
      have : y.1 ∈ F.tabs.map (·.name) := by rw [← hL]; exact List.mem_map.mpr ⟨y, hy, rfl⟩
      obtain ⟨t, ht, e⟩ := List.mem_map.mp this
      rw [← e]; exact hlen t ht
    refine ⟨f, q, F, L, sheetOf T', rfl, hF.mono sm2, hC, hL, hlen2, hro.mono sm2, how, fun e3 H3 sm3 => ?_, fun n p e3 d H3 sm3 hd => htw n p e3 d H3 (sm2.trans sm3) hd⟩
    have hx3 := sm3 _ _ hx2
    walk_at "go"
    refine ⟨x, _, dx, plF f q, .ref q, rfl, hx3, T.cl_Plain, T.na_Plain_sheets, rfl, ?_⟩
    walk_at "go"
    refine ⟨f, q, F, L, sheetOf T', rfl, hF.mono (sm2.trans sm3), hC.mono sm3, hL, hlen2, hro.mono (sm2.trans sm3), hne, fun e4 H4 sm4 => ?_, fun n p e4 d H4 sm4 hd => hnw n p e3 e4 d H4 ((sm2.trans sm3).trans sm4) hd⟩
    exact hok q L H4 e3 e4 ((sm2.trans sm3).trans sm4) (sm4 _ _ hx3) hGq (hC.mono (sm3.trans sm4)) hL hfr
  have sm1 : Same G (upd H x (.ins (He.ga K "Plain") dx [("shape", f)])) := sm.mut hGx
  have fin : ∀ (q : Addr) (L : List (Str × Addr)) (H2 : Hp), Same (upd H x (.ins (He.ga K "Plain") dx [("shape", f)])) H2 → G q = none → ShsAt H2 q L (sheetOf T') → ShsAt (upd H2 x (.ins (He.ga K "Plain") dx (plF f q))) q L (sheetOf T') := by
    intro q L H2 sm2 hq hC
    have hx2 := sm2 _ _ upd_same
    refine hC.keep fun b o h ho => ?_
    rw [upd_ne (fun z => by rw [z, hx2] at h; rcases ho with ⟨_, rfl⟩ | ⟨_, rfl⟩ <;> cases h)]
    exact h
  rcases hT with ⟨rfl, rfl⟩ | ⟨a, rfl, hT⟩
  · walk_at "go"
    refine fun d hd => ?_
    have smd := Same.new (o := .dK []) hd
    walk_at "go"
    refine ⟨f, d, F, [], rfl, hF.mono (sm1.trans smd), ⟨[], upd_same, .nil⟩, .nil, fun t ht => by show (0 : Nat) < _; decide, fun q L H2 sm2 hq hC hL hfr => ?_⟩
    have hx2 := (smd.trans sm2) _ _ upd_same
    walk_at "go"
    refine ⟨x, _, dx, [("shape", f)], rfl, hx2, T.cl_Plain, T.na_Plain_sheets, (by show 1 < 1000; decide), ?_⟩
    have hGq := (sm1.trans smd).free hq
    exact tail q L _ (((sm1.trans smd).trans sm2).mut hGx) hGq upd_same (fin q L H2 (smd.trans sm2) hGq hC) hL fun y hy => (sm1.trans smd).free (hfr y hy)
  · walk_at "go"
    obtain ⟨kvs, hk, hkv⟩ := hT
    refine ⟨f, a, F, T', rfl, hF.mono sm1, ⟨kvs, sm1 _ _ hk, L2.Paired.mapP hkv fun kv y z => ?_⟩, hnd, hlen, fun q L H2 sm2 hq hC hL hfr => ?_⟩
    · obtain ⟨z1, b, ks, z2, z3, z4, z5⟩ := z
      refine ⟨z1, b, ks, z2, z3, sm1 _ _ z4, fun n hn => ?_⟩
      obtain ⟨l, rs, y1, y2, y3⟩ := z5 n hn
      exact ⟨l, rs, y1, sm1 _ _ y2, L2.Paired.mapP y3 fun _ _ u => ⟨u.1, sm1 _ _ u.2⟩⟩
    have hx2 := sm2 _ _ upd_same
    walk_at "go"
    refine ⟨x, _, dx, [("shape", f)], rfl, hx2, T.cl_Plain, T.na_Plain_sheets, (by show 1 < 1000; decide), ?_⟩
    have hGq := sm1.free hq
    exact tail q L _ ((sm1.trans sm2).mut hGx) hGq upd_same (fin q L H2 sm2 hGq hC) hL fun y hy => sm1.free (hfr y hy)
theorem len_Plain_init {K : PySem.W.Frag} : ∀ vs H Q E, spPlainInit K vs H Q E → vs.length = 3 := by
  rintro vs H Q E ⟨_, _, _, _, _, _, _, rfl, _⟩
  rfl
theorem ok_Plain_init (T : Tx K mg) : DefOk P w K mg base ("Plain", some "__init__") ["self", "form", "things"] [] 7 (spPlainInit K) :=
  def_okD T.f_Plain_init sc_Plain_init len_Plain_init 3 1 (fun z => by cases z) rfl (fun T kV doc pm an cdv ct us its hu hi => match us, hu, its, hi with | [_, _, _], _, [_], _ => ⟨_, rfl, rfl⟩) (run_Plain_init T)
theorem ok_Plain_init_1 (T : Tx K mg) : DefOk P w K mg base ("Plain", some "__init__") ["self", "form", "things"] [V.non] 7 (spPlainInit K) :=
  def_okD T.f_Plain_init sc_Plain_init len_Plain_init 2 0 (fun z => by cases z) rfl (fun T kV doc pm an cdv ct us its hu hi => match us, hu, its, hi with | [_, _], _, [_], _ => ⟨_, rfl, rfl⟩) (run_Plain_init T)


structure Stp where
  op : Str
  n : Str
  k : Int
  p : Int
  row : Row
def stC (C : Str → Sheet) (s : Stp) : Str → Sheet := putC C s.n (doStep (C s.n) s.op (s.k, s.p) s.row)
def runC (C : Str → Sheet) (ss : List Stp) : Str → Sheet := ss.foldl stC C
def freshAt (C : Str → Sheet) (s : Stp) : Prop := s.op = "add" → lookB (C s.n) (s.k, s.p) = none
def PreSt (K : PySem.W.Frag) (H : Hp) (F : Fm) (C : Str → Sheet) (s : Stp) : Prop := ∃ t, tabAt F s.n = some t ∧ 0 ≤ s.k ∧ s.k < F.size ∧ 0 ≤ s.p ∧ (s.p = 0 ∨ t.sort = "many" ∨ t.sort = "some") ∧ (s.op ≠ "cut" → RowOk K H F.size s.row t.cols) ∧ (s.op = "cut" ∨ s.op = "add" ∨ s.op = "set") ∧ (s.op ≠ "add" → (lookB (C s.n) (s.k, s.p)).isSome = true)
def thingOk (F : Fm) (C : Str → Sheet) (k : Int) : Prop := (∀ t ∈ F.tabs, plc (C t.name) k = []) ∨ ∀ t ∈ F.tabs, okPlaces t.sort (plc (C t.name) k)
def noLone (F : Fm) (C : Str → Sheet) (k : Int) : Prop := (∀ t ∈ F.tabs, plc (C t.name) k = []) ∨ ∀ t ∈ F.tabs, (t.sort = "head" ∨ t.sort = "twin") → plc (C t.name) k ≠ []
/-- the keys, each once -/
def ddStep (acc : List Int) (k : Int) : List Int := if k ∈ acc then acc else acc ++ [k]
def dd (ks : List Int) : List Int := ks.foldl ddStep []
theorem runC_take {C : Str → Sheet} {ss : List Stp} {i : Nat} {s : Stp} (h : ss[i]? = some s) : runC C (ss.take (i + 1)) = stC (runC C (ss.take i)) s := by
  unfold runC
  rw [List.take_succ, h, List.foldl_append]
  rfl
theorem dd_take {ks : List Int} {i : Nat} {k : Int} (h : ks[i]? = some k) : dd (ks.take (i + 1)) = ddStep (dd (ks.take i)) k := by
  unfold dd
  rw [List.take_succ, h, List.foldl_append]
  rfl
theorem dd_len_aux : ∀ (ks acc : List Int), (ks.foldl ddStep acc).length ≤ acc.length + ks.length
  | [], acc => by simp
  | k :: ks, acc => by
    rw [List.foldl_cons]
    have := dd_len_aux ks (ddStep acc k)
    have h2 : (ddStep acc k).length ≤ acc.length + 1 := by unfold ddStep; split <;> simp
    rw [List.length_cons]
    omega
theorem dd_len (ks : List Int) : (dd ks).length ≤ ks.length := by have := dd_len_aux ks []; rw [List.length_nil, Nat.zero_add] at this; exact this
def bools (ks : List Int) : List (Key × V) := ks.map fun k => ((Sum.inl k : Key), V.bl true)
theorem bools_put (acc : List Int) (k : Int) : putK (bools acc) (Sum.inl k) (.bl true) = bools (ddStep acc k) := by
  have hv := seen_val acc k
  unfold ddStep
  by_cases h : k ∈ acc
  · rw [if_pos h]
    unfold putK
    have : ((bools acc).any fun kv => decide (kv.1 = Sum.inl k)) = true := List.any_eq_true.mpr ⟨(Sum.inl k, .bl true), List.mem_map.mpr ⟨k, h, rfl⟩, by simp⟩
    rw [if_pos this]
    unfold bools
    rw [List.map_map]
    refine List.map_congr_left fun x hx => ?_
    show (if (Sum.inl x : Key) = Sum.inl k then _ else _) = _
    split <;> rfl
  · rw [if_neg h] at hv ⊢
    rw [show bools acc = acc.map fun v => ((Sum.inl v : Key), V.bl true) from rfl, putK_new _ hv]
    unfold bools
    rw [List.map_append]
    rfl
theorem stC_len {C : Str → Sheet} {s : Stp} (n : Str) : (stC C s n).length ≤ (C n).length + 1 := by
  unfold stC putC doStep
  by_cases h : n = s.n
  · rw [if_pos h, h]
    split
    · exact Nat.le_succ_of_le (cutB_len _ _)
    · exact putB_len _ _ _
  · rw [if_neg h]; exact Nat.le_succ _
theorem runC_len (C : Str → Sheet) (ss : List Stp) (n : Str) : (runC C ss n).length ≤ (C n).length + ss.length := by
  induction ss generalizing C with
  | nil => exact Nat.le_refl _
  | cons s ss ih =>
    have := ih (stC C s)
    have := stC_len (C := C) (s := s) n
    show (runC (stC C s) ss n).length ≤ _
    rw [List.length_cons]
    omega
theorem mem_putB {κ β : Type} [DecidableEq κ] {l : List (κ × β)} {k : κ} {v : β} {p : κ × β} (h : p ∈ putB l k v) : p ∈ l ∨ p.2 = v := by
  unfold putB at h
  split at h
  · obtain ⟨x, hx, rfl⟩ := List.mem_map.mp h
    by_cases e : x.1 = k
    · rw [if_pos e]; exact .inr rfl
    · rw [if_neg e]; exact .inl hx
  · rcases List.mem_append.mp h with h | h
    · exact .inl h
    · cases List.mem_singleton.mp h; exact .inr rfl
theorem tab_uniq {F : Fm} {t u : Tb} (nd : (F.tabs.map (·.name)).Nodup) (ht : t ∈ F.tabs) (hu : u ∈ F.tabs) (e : t.name = u.name) : t = u := by
  generalize F.tabs = l at *
  induction l with
  | nil => cases ht
  | cons a l ih =>
    rw [List.map_cons] at nd
    obtain ⟨n1, n2⟩ := List.nodup_cons.mp nd
    rcases List.mem_cons.mp ht with e1 | ht1 <;> rcases List.mem_cons.mp hu with e2 | hu1
    · rw [e1, e2]
    · exact absurd (by rw [← e1, e]; exact List.mem_map.mpr ⟨u, hu1, rfl⟩) n1
    · exact absurd (by rw [← e2, ← e]; exact List.mem_map.mpr ⟨t, ht1, rfl⟩) n1
    · exact ih n2 ht1 hu1
theorem ShsRows.step {K : PySem.W.Frag} {H : Hp} {F : Fm} {C : Str → Sheet} {s : Stp} (nd : (F.tabs.map (·.name)).Nodup) (h : ShsRows K H F C) (hp : PreSt K H F C s) : ShsRows K H F (stC C s) := by
  intro t ht r hr
  obtain ⟨u, hu, _, _, _, _, hrow, _⟩ := hp
  unfold stC putC doStep at hr
  by_cases e : t.name = s.n
  · rw [if_pos e] at hr
    by_cases c : s.op = "cut"
    · rw [if_pos c] at hr
      exact h t ht r (e ▸ (List.mem_filter.mp hr).1)
    · rw [if_neg c] at hr
      rcases mem_putB hr with hr | hr
      · exact h t ht r (e ▸ hr)
      · have hu1 := List.mem_of_find?_eq_some hu
        have hu2 : u.name = s.n := by have := List.find?_some hu; simpa using this
        have := tab_uniq nd ht hu1 (e.trans hu2.symm)
        rw [hr, this]
        exact hrow c
  · rw [if_neg e] at hr
    exact h t ht r hr
theorem nd_takeG {α β : Type} {l : List α} {f : α → β} (nd : (l.map f).Nodup) {i : Nat} {x : α} (h : l[i]? = some x) : ∀ y ∈ l.take i, f y ≠ f x := by
  intro y hy e
  obtain ⟨j, hj⟩ := List.getElem?_of_mem hy
  obtain ⟨hlt, hj'⟩ := List.getElem?_eq_some_iff.mp hj
  rw [List.length_take] at hlt
  rw [List.getElem?_take_of_lt (by omega)] at hj
  have hi := (List.getElem?_eq_some_iff.mp h).1
  have e1 : (l.map f)[j]? = some (f x) := by rw [List.getElem?_map, hj, ← e]; rfl
  have e2 : (l.map f)[i]? = some (f x) := by rw [List.getElem?_map, h]; rfl
  have := (List.getElem?_inj (by rw [List.length_map]; omega) nd).mp (e1.trans e2.symm)
  omega
theorem StepAt.mono {K : PySem.W.Frag} {H H' : Hp} (e : Same H H') {v : V} {op n : Str} {k p : Int} {row : Row} (h : StepAt K H v op n k p row) : StepAt K H' v op n k p row := by
  obtain ⟨a, h1, h2⟩ := h
  refine ⟨a, h1, ?_⟩
  rcases h2 with ⟨h2, h3⟩ | ⟨h2, r, h3, h4⟩
  · exact .inl ⟨h2, e.sqT h3⟩
  · exact .inr ⟨h2, r, e.sqT h3, e _ _ h4⟩
theorem StepAt.ix {K : PySem.W.Frag} {H : Hp} {v : V} {op n : Str} {k p : Int} {row : Row} (h : StepAt K H v op n k p row) : ∃ a xs, v = .ref a ∧ SqT K H a (.str op :: .str n :: .int k :: .int p :: xs) := by
  obtain ⟨a, h1, h2⟩ := h
  rcases h2 with ⟨h2, h3⟩ | ⟨h2, r, h3, h4⟩
  · exact ⟨a, _, h1, h3⟩
  · exact ⟨a, _, h1, h3⟩
theorem PreSt.mono {K : PySem.W.Frag} {H H' : Hp} (e : Same H H') {F : Fm} {C : Str → Sheet} {s : Stp} (h : PreSt K H F C s) : PreSt K H' F C s :=
  let ⟨t, a, b, c, d, f, g, k⟩ := h; ⟨t, a, b, c, d, f, fun z => (g z).mono e, k⟩
def ApartS (P : Program) (w : World) (S : Sheet) : Prop := (S.map fun s => (tupleKind (mixKind P w)).hash (spotKey s.1)).Nodup
theorem ApartS.kvs {P : Program} {w : World} {H : Hp} {kvs : List (List Key × V)} {S : Sheet} (h : ApartS P w S) (hk : Paired (SpotAt H) kvs S) : L2.Apart P w kvs := by
  unfold L2.Apart
  have : (kvs.map fun kv => (tupleKind (mixKind P w)).hash kv.1) = S.map fun s => (tupleKind (mixKind P w)).hash (spotKey s.1) := Paired.mapEq hk fun _ _ z => by rw [z.1]
  rw [this]
  exact h
def frCl (C : Str → Sheet) (ss : List Stp) (i : Nat) : Prop := ∀ (j : Nat) (s : Stp), j < i → ss[j]? = some s → freshAt (runC C (ss.take j)) s
def keysOf (ss : List Stp) : List Int := PySem.W.sortI (dd (ss.map (·.k)))
def spWrite (P : Program) (w : World) (K : PySem.W.Frag) : Sp := fun vs H Q E => ∃ (x dx q s : Addr) (f : V) (us : List V) (F : Fm) (L : List (Str × Addr)) (C : Str → Sheet) (ss : List Stp), vs = [.ref x, .ref s] ∧ H x = some (.ins (He.ga K "Plain") dx (plF f q)) ∧ FmAt K H f F ∧ ShsAt H q L C ∧ L.map (·.1) = F.tabs.map (·.name) ∧
  SqL K H s us ∧ Paired (fun v (st : Stp) => StepAt K H v st.op st.n st.k st.p st.row) us ss ∧ ShsRows K H F C ∧ onceWhole F ∧ F.tabs ≠ [] ∧ (∀ t ∈ F.tabs, sorts4 t.sort) ∧ (∀ t ∈ F.tabs, ApartS P w (C t.name)) ∧ (∀ t ∈ F.tabs, (C t.name).length + ss.length < sizeLine) ∧ (dd (ss.map (·.k))).length < 64 ∧ F.tabs.length ≤ 8 ∧
  (∀ (i : Nat) (st : Stp), ss[i]? = some st → frCl C ss i → PreSt K H F (runC C (ss.take i)) st) ∧
  (frCl C ss ss.length → ∀ k ∈ keysOf ss, noLone F (runC C ss) k) ∧
  (frCl C ss ss.length → (∀ k ∈ keysOf ss, thingOk F (runC C ss) k) → twiceOf F (runC C ss) = none → nowhereOf F (runC C ss) = none → ∀ kp q' L' H', (∀ b o, H b = some o → b ≠ x → H' b = some o) → H' x = some (.ins (He.ga K "Plain") dx (plF f q')) → ShsAt H' q' L' (runC C ss) → L'.map (·.1) = F.tabs.map (·.name) → H q' = none → (∀ y ∈ L', H y.2 = none) → H kp = none → H' kp = some (.lst ((keysOf ss).map V.int)) → Q (.ref kp) H') ∧
  (frCl C ss ss.length → (∀ k ∈ keysOf ss, thingOk F (runC C ss) k) → ∀ n p, twiceOf F (runC C ss) = some (n, p) → ∀ d H', Same H H' → H' d = none → E (.ref (He.ga K "Twice")) (some d) (upd H' d (.xd (seF (.str n) (.int p.1) (.int p.2))))) ∧
  (frCl C ss ss.length → (∀ k ∈ keysOf ss, thingOk F (runC C ss) k) → twiceOf F (runC C ss) = none → ∀ n p, nowhereOf F (runC C ss) = some (n, p) → ∀ d H', Same H H' → H' d = none → E (.ref (He.ga K "Nowhere")) (some d) (upd H' d (.xd (seF (.str n) (.int p.1) (.int p.2))))) ∧
  (∀ (i : Nat) (st : Stp), ss[i]? = some st → frCl C ss i → st.op = "add" → (lookB (runC C (ss.take i) st.n) (st.k, st.p)).isSome = true → ∀ d H', Same H H' → H' d = none → E (.ref (He.ga K "Taken")) (some d) (upd H' d (.xd (seF (.str st.n) (.int st.k) (.int st.p))))) ∧
  (frCl C ss ss.length → ∀ (m : Nat) (k : Int), (keysOf ss)[m]? = some k → (∀ (m' : Nat) (k' : Int), m' < m → (keysOf ss)[m']? = some k' → thingOk F (runC C ss) k') → ∀ (j i : Nat) (t : Tb), F.tabs[j]? = some t → (∀ (m : Nat) (u : Tb), m < j → F.tabs[m]? = some u → okPlaces u.sort (plc (runC C ss u.name) k)) → (∃ u ∈ F.tabs, plc (runC C ss u.name) k ≠ []) → badPlaces t.sort (plc (runC C ss t.name) k) i →
    ∀ d H', Same H H' → H' d = none → E (.ref (He.ga K "Gap")) (some d) (upd H' d (.xd (seF (.str t.name) (.int k) (.int (i : Nat))))))
theorem ok_Plain_write (T : Tx K mg) : DefOk P w K mg base ("Plain", some "write") ["self", "steps"] [] 9 (spWrite P w K) := by
  refine def_ok T.f_Plain_write sc_Plain_write (fun vs H Q E h => by first | (obtain ⟨ rfl, _⟩ := h; rfl) | (obtain ⟨_,  rfl, _⟩ := h; rfl) | (obtain ⟨_, _,  rfl, _⟩ := h; rfl) | (obtain ⟨_, _, _,  rfl, _⟩ := h; rfl) | (obtain ⟨_, _, _, _,  rfl, _⟩ := h; rfl) | (obtain ⟨_, _, _, _, _,  rfl, _⟩ := h; rfl) | (obtain ⟨_, _, _, _, _, _,  rfl, _⟩ := h; rfl) | (obtain ⟨_, _, _, _, _, _, _,  rfl, _⟩ := h; rfl) | (obtain ⟨_, _, _, _, _, _, _, _,  rfl, _⟩ := h; rfl) | (obtain ⟨_, _, _, _, _, _, _, _, _,  rfl, _⟩ := h; rfl) | (obtain ⟨_, _, _, _, _, _, _, _, _, _,  rfl, _⟩ := h; rfl) | (obtain ⟨_, _, _, _, _, _, _, _, _, _, _,  rfl, _⟩ := h; rfl) | (obtain ⟨_, _, _, _, _, _, _, _, _, _, _, _,  rfl, _⟩ := h; rfl) | (obtain ⟨_, _, _, _, _, _, _, _, _, _, _, _, _,  rfl, _⟩ := h; rfl)) (fun _ _ _ _ _ _ us hl => match us, hl with | [_, _], _ => rfl) (fun cdv A outer s H vs Q E hr h => ?_)
  have hu := hu_of hr
  refine ⟨_, (pss_cons (ps_set (i := 2) sc_Plain_write.nd rfl (Or.inl rfl) pe_dnewK)
      (pss_cons (ps_lock (ps_for (passes_of rfl) rfl (pi_keys (fldK (K := K) (pv 0))) (pg_name (i := 3) sc_Plain_write.nd rfl (Or.inl rfl))
      (pss_one (ps_dput hu (pv 2) (pv 3) (pe_callTy (dictTK (P := P) (w := w) (Room.units2 hr)) rfl T.b_dict (by decide +kernel) (pa_cons (pe_dget hu (fldK (K := K) (pv 0)) (pv 3) (fun _ _ => rfl)) pa_nil)) rfl))))
      (pss_cons (ps_set (i := 4) sc_Plain_write.nd rfl (Or.inl rfl) pe_dnewK)
      (pss_cons (ps_for (passes_of rfl) rfl (listI (K := K) (pv 1)) (pg_name (i := 5) sc_Plain_write.nd rfl (Or.inl rfl))
      (pss_cons (ps_expr (callK (ok_do_step T) hr (by decide) (takes_of rfl rfl rfl rfl) T.g_do_step (pa_cons (fldK (K := K) (pv 0)) (pa_cons (pv 2) (pa_cons (pv 5) pa_nil)))))
      (pss_one (ps_dput hu (pv 4) (pe_ix (ixT (K := K)) (pv 5) pe_int (fun _ _ => rfl)) pe_bl rfl))))
      (pss_cons (ps_set (i := 6) sc_Plain_write.nd rfl (Or.inl rfl) (pe_callB (call_sortedDI rfl) rfl T.b_sorted (by decide +kernel) (pa_cons (pv 4) pa_nil)))
      (pss_cons (ps_for (passes_of rfl) rfl (listI (K := K) (pv 6)) (pg_name (i := 7) sc_Plain_write.nd rfl (Or.inl rfl))
      (pss_one (ps_expr (callK (ok_look_at_thing T) hr (by decide) (takes_of rfl rfl rfl rfl) T.g_look_at_thing (pa_cons (fldK (K := K) (pv 0)) (pa_cons (pv 2) (pa_cons (pv 7) pa_nil)))))))
      (pss_cons (ps_expr (callK (ok_look_for_twice T) hr (by decide) (takes_of rfl rfl rfl rfl) T.g_look_for_twice (pa_cons (fldK (K := K) (pv 0)) (pa_cons (pv 2) pa_nil))))
      (pss_cons (ps_expr (callK (ok_look_for_nowhere T) hr (by decide) (takes_of rfl rfl rfl rfl) T.g_look_for_nowhere (pa_cons (fldK (K := K) (pv 0)) (pa_cons (pv 2) pa_nil))))
      (pss_cons (sfldK (K := K) (pv 0) (pv 2))
      (pss_one (ps_ret (pv 6)))))))))))), ?_⟩
  obtain ⟨x, dx, q, sa, f, us, F, L, C, ss, rfl, hx, hF, hC, hL, hs, hss, hro, how, hne, hso, hap, hlen, h64, h8, hpre, hlone, hok, htw, hnw, htk, hgap⟩ := h
  have hq := hC.top
  obtain ⟨_, _, _, _, _, _, _, _, hns, _⟩ := id hF
  walk_at "go"
  refine fun d hd => ?_
  walk_at "go"
  have hxq : x ≠ q := fun z => by rw [z, hq] at hx; cases hx
  have hdq : d ≠ q := Ne.symm (ne_of_none hq hd)
  have hdx : x ≠ d := ne_of_none hx hd
  refine ⟨q, .dK (L.map fun x => (Sum.inr x.1, V.ref x.2)), upd_free hd hq, trivial, fun od => ?_⟩
  walk_at "go"
  refine ⟨x, _, dx, plF f q, .ref q, rfl, by rw [upd_ne hxq]; exact upd_free hd hx, T.cl_Plain, T.na_Plain_sheets, rfl, ?_⟩
  walk_at "go"
  refine ⟨_, _, rfl, .inl ⟨_, upd_same, for_it walk_keys (fun i σ H' => ∃ (b3 : Option V) (Lm : List (Str × Addr)), σ = [some (.ref x), some (.ref sa), some (.ref d), b3, none, none, none, none] ∧ H' q = some (.frz od (.dK (L.map fun x => (Sum.inr x.1, V.ref x.2)))) ∧ (∀ b o, H b = some o → b ≠ q → H' b = some o) ∧ H' d = some (.dK (Lm.map fun x => (Sum.inr x.1, V.ref x.2))) ∧ Lm.map (·.1) = (L.take i).map (·.1) ∧ (Lm.map (·.2)).Nodup ∧
    ∀ y ∈ Lm, H y.2 = none ∧ ∃ a kvs, (y.1, a) ∈ L ∧ H a = some (.dT kvs) ∧ H' y.2 = some (.dT kvs)) ?_ ?_ ?_ ?_⟩⟩
  · refine ⟨none, [], rfl, upd_same, fun b o h ne => by rw [upd_ne ne]; exact upd_free hd h, by rw [upd_ne hdq]; exact upd_same, rfl, .nil, fun y hy => by cases hy⟩
  · rintro i σ H' _ ⟨_, _, _, h, _⟩
    exact h
  · rintro i x' σ H1' H1 hi ⟨b3, Lm, rfl, hfz, hsm, hd1, hL2, hnd2, hy2⟩ ⟨rfl, kk, v, hkk, rfl⟩
    rw [List.getElem?_map] at hkk
    obtain ⟨⟨n, a⟩, hna, e⟩ := Option.map_eq_some_iff.mp hkk
    cases e
    have hm := List.mem_of_getElem? hna
    obtain ⟨kvs, hk, hkv⟩ := hC.sh _ hm
    obtain ⟨t, htm, htn⟩ : ∃ t ∈ F.tabs, t.name = n := by
      have : n ∈ F.tabs.map (·.name) := by rw [← hL]; exact List.mem_map.mpr ⟨_, hm, rfl⟩
      obtain ⟨t, h1, h2⟩ := List.mem_map.mp this
      exact ⟨t, h1, h2⟩
    have hg := sh_get hC.ns hm
    have hx1 := hsm _ _ hx hxq
    have haq : a ≠ q := fun z => by rw [z, hq] at hk; cases hk
    have hk1 := hsm _ _ hk haq
    show gName 3 (V.str n) _ _ _
    walk_at "go"
    refine ⟨x, _, dx, plF f q, .ref q, rfl, hx1, T.cl_Plain, T.na_Plain_sheets, rfl, ?_⟩
    walk_at "go"
    refine ⟨a, kvs, rfl, .inl hk1, ApartS.kvs (by have := hap t htm; rw [htn] at this; exact this) hkv, fun p hp => ?_⟩
    walk_at "go"
    have hnew : ∀ y ∈ Lm, y.1 ≠ n := fun y hy e => by
      have : y.1 ∈ (L.take i).map (·.1) := by rw [← hL2]; exact List.mem_map.mpr ⟨y, hy, rfl⟩
      obtain ⟨z, hz, ez⟩ := List.mem_map.mp this
      exact nd_takeG (f := fun x : Str × Addr => x.1) hC.ns hna z hz (by rw [ez, e])
    have hl8 : Lm.length ≤ 8 := by
      have h1 := congrArg List.length hL2
      have h2 := congrArg List.length hL
      rw [List.length_map, List.length_map, List.length_take] at h1
      rw [List.length_map, List.length_map] at h2
      omega
    have hpd : p ≠ d := Ne.symm (ne_of_none hd1 hp)
    have hpq : p ≠ q := Ne.symm (ne_of_none hfz hp)
    have hpH : H p = none := by
      cases e : H p with
      | none => rfl
      | some o => rw [hsm _ _ e hpq] at hp; cases hp
    refine ⟨_, _, rfl, DPut.s (upd_free hp hd1) (by rw [List.length_map]; exact small1000 (by omega)), ?_⟩
    rw [putK_new _ (sh_none hnew)]
    have hkeep : ∀ b o, H1 b = some o → b ≠ d → upd (upd H1 p (.dT kvs)) d (.dK (Lm.map (fun x => ((Sum.inr x.1 : Key), V.ref x.2)) ++ [(Sum.inr n, .ref p)])) b = some o := fun b o h ne => by rw [upd_ne ne]; exact upd_free hp h
    refine ⟨_, Lm ++ [(n, p)], rfl, hkeep _ _ hfz (Ne.symm hdq), fun b o h ne => hkeep _ _ (hsm b o h ne) (ne_of_none h hd), by rw [upd_same, List.map_append]; rfl, ?_, ?_, ?_⟩
    · rw [List.map_append, hL2, List.take_succ, hna, List.map_append]; rfl
    · rw [List.map_append]
      refine List.nodup_append.mpr ⟨hnd2, List.nodup_cons.mpr ⟨fun z => (by cases z), .nil⟩, fun y hy z hz => ?_⟩
      obtain ⟨u, hu, rfl⟩ := List.mem_map.mp hy
      cases List.mem_singleton.mp hz
      obtain ⟨_, _, ku, _, _, h3⟩ := hy2 u hu
      exact fun e => by rw [e, hp] at h3; cases h3
    · intro y hy
      rcases List.mem_append.mp hy with hy | hy
      · obtain ⟨h1, au, ku, h2, h3, h4⟩ := hy2 y hy
        exact ⟨h1, au, ku, h2, h3, hkeep _ _ h4 (fun z => by have h4 : H1 y.2 = _ := h4; rw [z, hd1] at h4; cases h4)⟩
      · cases List.mem_singleton.mp hy
        exact ⟨hpH, a, kvs, hm, hk, by rw [upd_ne hpd]; exact upd_same⟩
  · rintro σ H1 ⟨b3, Lm, rfl, hfz, hsm, hd1, hL2, hnd2, hy2⟩
    refine ⟨hfz, ?_⟩
    rw [List.length_map, List.take_length] at hL2
    have smq : Same H (upd H1 q (.dK (L.map fun x => (Sum.inr x.1, V.ref x.2)))) := fun b o h => by
      by_cases e : b = q
      · rw [e, upd_same, ← hq, ← e]; exact h
      · rw [upd_ne e]; exact hsm b o h e
    have hC2 : ShsAt (upd H1 q (.dK (L.map fun x => (Sum.inr x.1, V.ref x.2)))) d Lm C := by
      refine ⟨by rw [upd_ne hdq]; exact hd1, by rw [hL2]; exact hC.ns, hnd2, fun y hy => ?_⟩
      obtain ⟨h1, a, kvs, h2, h3, h4⟩ := hy2 y hy
      obtain ⟨kvs', h5, h6⟩ := hC.sh _ h2
      have h5 : H a = some (.dT kvs') := h5
      rw [h3] at h5
      cases h5
      exact ⟨kvs, by rw [upd_ne (Ne.symm (ne_of_none hq h1))]; exact h4, L2.Paired.mapP h6 fun _ _ z => z.mono smq⟩
    have hfr2 : ∀ y ∈ Lm, H y.2 = none := fun y hy => (hy2 y hy).1
    have hLn : Lm.map (·.1) = F.tabs.map (·.name) := by rw [hL2]; exact hL
    clear hy2 hnd2 hL2 hd1 hsm hfz
    generalize (upd H1 q (.dK (L.map fun x => (Sum.inr x.1, V.ref x.2)))) = H2 at smq hC2
    walk_at "go"
    refine fun nd hnd => ?_
    walk_at "go"
    have hndd : nd ≠ d := Ne.symm (ne_of_none hC2.top hnd)
    have hO3 : Off (fun b => b ≠ nd) (upd H2 nd (.dK [])) Lm := by
      intro y hy kvs e kv hkv b hb
      obtain ⟨k, h1, h2⟩ := hC2.sh y hy
      rw [upd_free hnd h1] at e
      cases e
      obtain ⟨_, _, _, b', h3, h4⟩ := Paired.inL h2 kv hkv
      rw [hb] at h3
      cases h3
      exact ne_of_none h4 hnd
    have sm3 := smq.trans (Same.new (o := .dK []) hnd)
    refine ⟨⟨_, sm3.seq hs⟩, for_list (K := K) (a := sa) (xs := us) (fun i σ H' => ∃ b5, σ = [some (.ref x), some (.ref sa), some (.ref d), b3, some (.ref nd), b5, none, none] ∧ Same H H' ∧ frCl C ss i ∧ ShsAt H' d Lm (runC C (ss.take i)) ∧ H' nd = some (.dK (bools (dd ((ss.take i).map (·.k))))) ∧ Off (fun b => b ≠ nd) H' Lm ∧ ShsRows K H F (runC C (ss.take i)))
      ⟨none, rfl, sm3, fun j s h => by omega, hC2.mono (Same.new hnd), upd_same, hO3, hro⟩ (fun i σ H' _ h => by obtain ⟨_, _, h, _⟩ := h; exact h.seq hs) ?_ ?_⟩
    · rintro i v σ H4 hi ⟨b5, rfl, sm4, hfrc, hC4, hn4, hO4, hro4⟩
      obtain ⟨st, hst, hv⟩ := Paired.at hss hi
      have hP := hpre i st hst hfrc
      obtain ⟨t, p1, p2, p3, p4, p5, p6, p7, p8⟩ := id hP
      have htm := List.mem_of_find?_eq_some p1
      have htn : t.name = st.n := by have := List.find?_some p1; simpa using this
      obtain ⟨a, ha⟩ := sh_of hLn htm
      rw [htn] at ha
      have hx4 := sm4 _ _ hx
      obtain ⟨va, xs, rfl, hix0⟩ := hv.ix
      have hv4 := hv.mono sm4
      have hix := sm4.sqT hix0
      have hil := (List.getElem?_eq_some_iff.mp hst).1
      walk_at "go"
      refine ⟨x, _, dx, plF f q, f, rfl, hx4, T.cl_Plain, T.na_Plain_shape, rfl, ?_⟩
      walk_at "go"
      have hlt : (runC C (ss.take i) st.n).length < sizeLine := by
        have h1 := runC_len C (ss.take i) st.n
        have h2 := hlen t htm
        rw [htn] at h2
        rw [List.length_take] at h1
        omega
      refine ⟨f, .ref va, d, a, F, t, Lm, runC C (ss.take i), st.op, st.n, st.k, st.p, st.row, rfl, hF.mono sm4, hv4, hC4, p1, ha, p2, p3, p4, p5, fun z => (p6 z).mono sm4, hlt, p7, p8, fun hf H5 hbut hC5 hoff => ?_, fun he hi' d' H5 sm5 hd' => htk i st hst hfrc he hi' d' H5 (sm4.trans sm5) hd'⟩
      have sm45 : Same H H5 := fun b o h => hbut b o (sm4 b o h) (fun y hy z => by have := hfr2 y hy; rw [z, h] at this; cases this)
      have hnl : ∀ y ∈ Lm, y.2 ≠ nd := fun y hy z => by
        obtain ⟨k, h1, _⟩ := hC4.sh y hy
        rw [z, hn4] at h1
        cases h1
      have hn5 := hbut _ _ hn4 hnl
      have hix5 := sm45.sqT hix0
      walk_at "go"
      have hO5 := hoff (fun b => b ≠ nd) hO4 fun c hc => Ne.symm (ne_of_none hn4 hc)
      have hdl : (bools (dd ((ss.take i).map (·.k)))).length < sizeLine := by
        unfold bools
        rw [List.length_map]
        have h1 := dd_len ((ss.take i).map (·.k))
        rw [List.length_map, List.length_take] at h1
        have h2 := hlen t htm
        omega
      refine ⟨_, _, rfl, DPut.i hn5 hdl, ?_⟩
      have he6 : ∀ b o, H5 b = some o → b ≠ nd → upd H5 nd (.dK (putK (bools (dd ((ss.take i).map (·.k)))) (Sum.inl st.k) (.bl true))) b = some o := fun b o h ne => by rw [upd_ne ne]; exact h
      obtain ⟨o1, o2⟩ := hC5.other hO5 (fun z => z rfl) hndd hnl he6
      have hrun : runC C (ss.take (i + 1)) = putC (runC C (ss.take i)) st.n (doStep (runC C (ss.take i) st.n) st.op (st.k, st.p) st.row) := runC_take hst
      refine ⟨_, rfl, fun b o h => he6 b o (sm45 b o h) (ne_of_none h (smq.free hnd)), fun j s hj hs => ?_, by rw [hrun]; exact o1, ?_, o2, ?_⟩
      · rcases Nat.lt_succ_iff_lt_or_eq.mp hj with h | rfl
        · exact hfrc j s h hs
        · rw [hst] at hs
          cases hs
          exact hf
      · rw [upd_same, bools_put]
        have e1 : ((ss.take (i + 1)).map (·.k)) = ((ss.map (·.k)).take (i + 1)) := List.map_take
        have e2 : ((ss.take i).map (·.k)) = ((ss.map (·.k)).take i) := List.map_take
        rw [e1, e2, dd_take (by rw [List.getElem?_map, hst]; rfl)]
      · rw [runC_take hst]
        exact hro4.step hns hP
    · rintro σ H4 ⟨b5, rfl, sm4, hfrc, hC4, hn4, hO4, hro4⟩
      have hul : us.length = ss.length := hss.length
      rw [hul, List.take_length] at hC4 hn4 hro4
      rw [hul] at hfrc
      walk_at "go"
      refine ⟨nd, bools (dd (ss.map (·.k))), dd (ss.map (·.k)), rfl, .inl hn4, by unfold bools; rw [List.map_map]; rfl, h64, fun ys kp hperm hsort hkp => ?_⟩
      have ey : ys = keysOf ss := PySem.W.eq_sortI hperm hsort
      subst ey
      have sm5 := sm4.trans (Same.new (o := .lst ((keysOf ss).map V.int)) hkp)
      have hkH : H kp = none := sm4.free hkp
      have hC5 := hC4.mono (Same.new (o := .lst ((keysOf ss).map V.int)) hkp)
      have hlen2 : ∀ y ∈ Lm, (runC C ss y.1).length < sizeLine := fun y hy => by
        have : y.1 ∈ F.tabs.map (·.name) := by rw [← hLn]; exact List.mem_map.mpr ⟨y, hy, rfl⟩
        obtain ⟨t, ht, e⟩ := List.mem_map.mp this
        have h1 := runC_len C ss y.1
        have h2 := hlen t ht
        rw [e] at h2
        omega
      have hk5 : (upd H4 kp (.lst ((keysOf ss).map V.int))) kp = some (.lst ((keysOf ss).map V.int)) := upd_same
      generalize (upd H4 kp (.lst ((keysOf ss).map V.int))) = H5 at sm5 hC5 hk5
      walk_at "go"
      refine ⟨⟨_, SqL.of hk5⟩, for_list (K := K) (a := kp) (xs := (keysOf ss).map V.int) (fun i σ H' => ∃ b7, σ = [some (.ref x), some (.ref sa), some (.ref d), b3, some (.ref nd), b5, some (.ref kp), b7] ∧ Same H5 H' ∧ ∀ (m' : Nat) (k' : Int), m' < i → (keysOf ss)[m']? = some k' → thingOk F (runC C ss) k')
        ⟨none, rfl, Same.refl _, fun m' k' h => by omega⟩ (fun i σ H' _ h => by obtain ⟨_, _, h, _⟩ := h; exact SqL.of (h _ _ hk5)) ?_ ?_⟩
      · rintro i v σ H6 hi ⟨b7, rfl, sm6, hth⟩
        rw [List.getElem?_map] at hi
        obtain ⟨k, hk, rfl⟩ := Option.map_eq_some_iff.mp hi
        have hkm := List.mem_of_getElem? hk
        have hx6 := sm6 _ _ (sm5 _ _ hx)
        walk_at "go"
        refine ⟨x, _, dx, plF f q, f, rfl, hx6, T.cl_Plain, T.na_Plain_shape, rfl, ?_⟩
        walk_at "go"
        refine ⟨f, d, k, F, Lm, runC C ss, rfl, hF.mono (sm5.trans sm6), hC5.mono sm6, hLn, hlen2, hso, hlone hfrc k hkm, fun hok6 H7 sm7 => ?_, fun j i' t ht hpre' hex hbad d' H7 sm7 hd' => hgap hfrc i k hk hth j i' t ht hpre' hex hbad d' H7 ((sm5.trans sm6).trans sm7) hd'⟩
        refine ⟨_, rfl, sm6.trans sm7, fun m' k' h1 h2 => ?_⟩
        rcases Nat.lt_succ_iff_lt_or_eq.mp h1 with h | rfl
        · exact hth m' k' h h2
        · rw [hk] at h2
          cases h2
          exact hok6
      · rintro σ H6 ⟨b7, rfl, sm6, hth⟩
        rw [List.length_map] at hth
        have hall : ∀ k ∈ keysOf ss, thingOk F (runC C ss) k := fun k hk => by
          obtain ⟨m, hm⟩ := List.getElem?_of_mem hk
          exact hth m k (List.getElem?_eq_some_iff.mp hm).1 hm
        have sm56 := sm5.trans sm6
        have hx6 := sm56 _ _ hx
        walk_at "go"
        refine ⟨x, _, dx, plF f q, f, rfl, hx6, T.cl_Plain, T.na_Plain_shape, rfl, ?_⟩
        walk_at "go"
        refine ⟨f, d, F, Lm, runC C ss, rfl, hF.mono sm56, hC5.mono sm6, hLn, hlen2, hro4.mono sm56, how, fun e7 H7 sm7 => ?_, fun n p e7 d' H7 sm7 hd' => htw hfrc hall n p e7 d' H7 (sm56.trans sm7) hd'⟩
        have hx7 := sm7 _ _ hx6
        walk_at "go"
        refine ⟨x, _, dx, plF f q, f, rfl, hx7, T.cl_Plain, T.na_Plain_shape, rfl, ?_⟩
        walk_at "go"
        refine ⟨f, d, F, Lm, runC C ss, rfl, hF.mono (sm56.trans sm7), hC5.mono (sm6.trans sm7), hLn, hlen2, hro4.mono (sm56.trans sm7), hne, fun e8 H8 sm8 => ?_, fun n p e8 d' H8 sm8 hd' => hnw hfrc hall e7 n p e8 d' H8 ((sm56.trans sm7).trans sm8) hd'⟩
        have hx8 := sm8 _ _ hx7
        walk_at "go"
        refine ⟨x, _, dx, plF f q, rfl, hx8, T.cl_Plain, T.na_Plain_sheets, (by show 2 < 1000; decide), ?_⟩
        walk_at "go"
        have hC8 := hC5.mono ((sm6.trans sm7).trans sm8)
        have hk8 := ((sm6.trans sm7).trans sm8) _ _ hk5
        refine hok hfrc hall e7 e8 kp d Lm _ (fun b o h ne => ?_) upd_same ?_ hLn hd hfr2 hkH ?_
        · show upd H8 x _ b = _
          rw [upd_ne ne]
          exact ((sm56.trans sm7).trans sm8) b o h
        · refine hC8.keep fun b o h ho => ?_
          show upd H8 x _ b = _
          rw [upd_ne (fun z => by rw [z, hx8] at h; rcases ho with ⟨_, rfl⟩ | ⟨_, rfl⟩ <;> cases h)]
          exact h
        · show upd H8 x _ kp = _
          rw [upd_ne (fun z => by rw [z, hx8] at hk8; cases hk8)]
          exact hk8


theorem paired_app {α β : Type} {F : α → β → Prop} {l l' : List α} {m m' : List β} (h : Paired F l m) (h' : Paired F l' m') : Paired F (l ++ l') (m ++ m') := by
  induction h with
  | nil => exact h'
  | cons r _ ih => exact .cons r ih
/-- what holds of tuples alone -/
def SameF (H H' : Hp) : Prop := ∀ b o, H b = some o → ((∃ xs, o = .tup xs) ∨ ∃ f u, o = .frz f u) → H' b = some o
theorem SameF.sqT {K : PySem.W.Frag} {H H' : Hp} (e : SameF H H') {a : Addr} {xs : List V} (h : SqT K H a xs) : SqT K H' a xs := by
  rcases h with (h | ⟨o, h⟩) | h
  · exact .inl (.inl (e _ _ h (.inl ⟨_, rfl⟩)))
  · exact .inl (.inr ⟨o, e _ _ h (.inr ⟨_, _, rfl⟩)⟩)
  · exact .inr h
theorem SameF.sqU {H H' : Hp} (e : SameF H H') {p : Addr} {xs : List V} (h : SqU H p xs) : SqU H' p xs := let ⟨o, a, b⟩ := h; ⟨o, e _ _ a (.inr ⟨_, _, rfl⟩), b⟩
theorem PKAt.monoF {K : PySem.W.Frag} {H H' : Hp} (e : SameF H H') {v : V} {k : PK} (h : PKAt K H v k) : PKAt K H' v k := by
  cases k <;> (obtain ⟨p, rfl, hp⟩ := h; exact ⟨p, rfl, e.sqT hp⟩)
theorem KdAt.monoF {K : PySem.W.Frag} {H H' : Hp} (e : SameF H H') {v : V} {k : Kd} (h : KdAt K H v k) : KdAt K H' v k := by
  cases k with
  | pl k => exact PKAt.monoF e h
  | key => obtain ⟨p, rfl, hp⟩ := h; exact ⟨p, rfl, e.sqT hp⟩
  | list k => obtain ⟨p, u, rfl, hp, hk⟩ := h; exact ⟨p, u, rfl, e.sqT hp, hk.monoF e⟩
  | some k => obtain ⟨p, u, rfl, hp, hk⟩ := h; exact ⟨p, u, rfl, e.sqT hp, hk.monoF e⟩
  | once k => obtain ⟨p, u, rfl, hp, hk⟩ := h; exact ⟨p, u, rfl, e.sqT hp, hk.monoF e⟩
theorem ColAt.monoF {K : PySem.W.Frag} {H H' : Hp} (e : SameF H H') {p : Addr} {c : Str × Kd} (h : ColAt K H p c) : ColAt K H' p c := let ⟨kv, a, b⟩ := h; ⟨kv, e.sqT a, b.monoF e⟩
theorem TbAt.monoF {K : PySem.W.Frag} {H H' : Hp} (e : SameF H H') {v : V} {t : Tb} (h : TbAt K H v t) : TbAt K H' v t :=
  let ⟨p, c, ps, a, b, d, f⟩ := h; ⟨p, c, ps, a, e.sqT b, e.sqU d, L2.Paired.mapP f fun _ _ z => z.monoF e⟩
theorem FmAt.monoF {K : PySem.W.Frag} {H H' : Hp} (e : SameF H H') {v : V} {F : Fm} (h : FmAt K H v F) : FmAt K H' v F :=
  let ⟨p, q, ts, a, b, c, d, f⟩ := h; ⟨p, q, ts, a, e.sqT b, e.sqT c, L2.Paired.mapP d fun _ _ z => z.monoF e, f⟩
def RowTup (H : Hp) (u : V) (s : (Int × Int) × Row) : Prop := ∃ t r, u = .ref t ∧ H t = some (.tup [.int s.1.1, .int s.1.2, .ref r]) ∧ H r = some (.dK s.2)
theorem RowTup.mono {H H' : Hp} (e : Same H H') {u : V} {s : (Int × Int) × Row} (h : RowTup H u s) : RowTup H' u s := let ⟨t, r, a, b, c⟩ := h; ⟨t, r, a, e _ _ b, e _ _ c⟩
def rowsOf (S : Sheet) : Sheet := (spots S).map fun p => (p, (lookB S p).getD [])
def spRows (K : PySem.W.Frag) : Sp := fun vs H Q _ => ∃ (x dx q a : Addr) (f : V) (L : List (Str × Addr)) (C : Str → Sheet) (n : Str), vs = [.ref x, .str n] ∧ H x = some (.ins (He.ga K "Plain") dx (plF f q)) ∧ ShsAt H q L C ∧ (n, a) ∈ L ∧ (C n).length < sizeLine ∧
  ∀ p H' us, Same H H' → H p = none → H' p = some (.lst us) → Paired (RowTup H') us (rowsOf (C n)) → Q (.ref p) H'
theorem ok_Plain_rows (T : Tx K mg) : DefOk P w K mg base ("Plain", some "rows") ["self", "table"] [] 3 (spRows K) := by
  refine def_ok T.f_Plain_rows sc_Plain_rows (fun vs H Q E h => by first | (obtain ⟨ rfl, _⟩ := h; rfl) | (obtain ⟨_,  rfl, _⟩ := h; rfl) | (obtain ⟨_, _,  rfl, _⟩ := h; rfl) | (obtain ⟨_, _, _,  rfl, _⟩ := h; rfl) | (obtain ⟨_, _, _, _,  rfl, _⟩ := h; rfl) | (obtain ⟨_, _, _, _, _,  rfl, _⟩ := h; rfl) | (obtain ⟨_, _, _, _, _, _,  rfl, _⟩ := h; rfl) | (obtain ⟨_, _, _, _, _, _, _,  rfl, _⟩ := h; rfl) | (obtain ⟨_, _, _, _, _, _, _, _,  rfl, _⟩ := h; rfl) | (obtain ⟨_, _, _, _, _, _, _, _, _,  rfl, _⟩ := h; rfl) | (obtain ⟨_, _, _, _, _, _, _, _, _, _,  rfl, _⟩ := h; rfl) | (obtain ⟨_, _, _, _, _, _, _, _, _, _, _,  rfl, _⟩ := h; rfl) | (obtain ⟨_, _, _, _, _, _, _, _, _, _, _, _,  rfl, _⟩ := h; rfl) | (obtain ⟨_, _, _, _, _, _, _, _, _, _, _, _, _,  rfl, _⟩ := h; rfl)) (fun _ _ _ _ _ _ us hl => match us, hl with | [_, _], _ => rfl) (fun cdv A outer s H vs Q E hr h => ?_)
  have hu := hu_of hr
  refine ⟨_, (pss_cons (ps_if (pt_cmp (pc_dnotin hu (pv 1) (fldK (K := K) (pv 0))) (by with_unfolding_all rfl))
      (pss_one (raiseK (ok_StepError_init T) hr (by decide) rfl (takes_of rfl rfl rfl rfl) T.ox_NoTable T.oi_NoTable T.ot_NoTable T.g_NoTable (pa_cons (pv 1) (pa_cons pe_non (pa_cons pe_non pa_nil)))))
      pss_nil)
      (pss_cons (ps_set (i := 2) sc_Plain_rows.nd rfl (Or.inr rfl) (pe_dget hu (fldK (K := K) (pv 0)) (pv 1) (fun _ _ => rfl)))
      (pss_one (ps_ret (pe_lc (own := [("spot", 3)]) rfl sc_Plain_rows.nd (listI (K := K) (pe_callB (sortDTK (K := K) rfl) rfl T.b_sorted (by decide +kernel) (pa_cons (pv 2) pa_nil))) (blkOk_by (own := [("spot", 3)]) (N := N_Plain_rows) (sc := defScope s_Plain_rows) (by decide +kernel)) (fun _ _ _ _ _ => (pg_name (i := 3) sc_Plain_rows.nd rfl (Or.inl rfl))) (fun _ _ _ _ _ => pts_nil) (fun _ _ _ _ _ => (pe_tup (pa_cons (pe_ix (ixT (K := K)) (pv 3) pe_int (fun _ _ => rfl)) (pa_cons (pe_ix (ixT (K := K)) (pv 3) pe_int (fun _ _ => rfl)) (pa_cons (pe_callTy call_dictD rfl T.b_dict (by decide +kernel) (pa_cons (pe_dget hu (pv 2) (pv 3) (fun _ _ => rfl)) pa_nil)) pa_nil)))))))))), ?_⟩
  obtain ⟨x, dx, q, a, f, L, C, n, rfl, hx, hC, ha, hlen, hQ⟩ := h
  have hq := hC.top
  have hg := sh_get hC.ns ha
  obtain ⟨kvs, hk, hkv⟩ := hC.sh _ ha
  walk_at "go"
  refine ⟨x, _, dx, plF f q, .ref q, rfl, hx, T.cl_Plain, T.na_Plain_sheets, rfl, ?_⟩
  walk_at "go"
  refine ⟨x, _, dx, plF f q, .ref q, rfl, hx, T.cl_Plain, T.na_Plain_sheets, rfl, ?_⟩
  walk_at "go"
  refine ⟨a, kvs, (C n).map (·.1), rfl, .inl hk, by rw [shAt_keys hkv, List.map_map]; rfl, fun ts js p hperm hsrt hpair hpn => ?_⟩
  have ejs : js = spots (C n) := eq_sortP hperm hsrt
  subst ejs
  have hts : ts.length = (spots (C n)).length := hpair.length
  have hsl : (spots (C n)).length = (C n).length := by unfold spots; rw [(sortP_perm _).length_eq, List.length_map]
  have hlr : (rowsOf (C n)).length = (C n).length := by unfold rowsOf; rw [List.length_map, hsl]
  walk_at "go"
  refine ⟨⟨_, SqL.of upd_same⟩, fun D hD => lc_list (K := K) (a := p) (xs := ts.map V.ref) (fun i H' => Same (upd H p (.lst (ts.map V.ref))) H' ∧ ∃ us, H' D = some (.lst us) ∧ Paired (RowTup H') us ((rowsOf (C n)).take i)) ⟨Same.new hD, [], upd_same, .nil⟩ (fun i H' _ h => SqL.of (h.1 _ _ upd_same)) ?_ ?_⟩
  · rintro m v H4 hm ⟨sm4, us, hus, hpus⟩
    obtain ⟨sp, hsp, rfl⟩ := refs_get hm
    obtain ⟨pp, hpp, htu⟩ := Paired.at hpair hsp
    obtain ⟨p1, p2⟩ := pp
    obtain ⟨row, hrow, hmem⟩ := spot_row (List.mem_of_getElem? hpp)
    have sm34 := (Same.new (o := .lst (ts.map V.ref)) hpn).trans sm4
    have hkv4 := L2.Paired.mapP hkv fun _ _ z => SpotAt.mono sm34 z
    obtain ⟨_, g2⟩ := sheet_get hkv4 p1 p2
    obtain ⟨b, hb1, hb2⟩ := g2 row hrow
    have hk4 := sm34 _ _ hk
    have htu4 := sm34 _ _ htu
    have hro : (rowsOf (C n))[m]? = some ((p1, p2), row) := by
      unfold rowsOf
      rw [List.getElem?_map, hpp]
      show some ((p1, p2), (lookB (C n) (p1, p2)).getD []) = _
      rw [hrow]
      rfl
    walk_at "go"
    refine ⟨b, row, rfl, .inl hb2, fun r hr => ?_⟩
    walk_at "go"
    refine ⟨by walk_at "sz", fun t ht => ?_⟩
    refine ⟨us, upd_free ht (upd_free hr hus), ?_, ?_⟩
    · have := hpus.length
      rw [this, List.length_take, hlr]
      omega
    · have smN : Same H4 (upd (upd H4 r (.dK row)) t (.tup [.int p1, .int p2, .ref r])) := (Same.new hr).trans (Same.new ht)
      have hDt : D ≠ t := ne_of_none (upd_free hr hus) ht
      refine ⟨(sm4.trans smN).mut hD, us ++ [.ref t], upd_same, ?_⟩
      rw [List.take_succ, hro]
      have smM : ∀ b o, upd (upd H4 r (.dK row)) t (.tup [.int p1, .int p2, .ref r]) b = some o → b ≠ D → upd (upd (upd H4 r (.dK row)) t (.tup [.int p1, .int p2, .ref r])) D (.lst (us ++ [.ref t])) b = some o := fun b o h ne => by rw [upd_ne ne]; exact h
      have hDn : ∀ b o, H4 b = some o → (∀ ys, o ≠ .lst ys) → b ≠ D := fun b o h ho z => ho us (by rw [z, hus] at h; cases h; rfl)
      refine paired_app (L2.Paired.mapP hpus fun u s z => ?_) (.cons ⟨t, r, rfl, smM _ _ upd_same (Ne.symm hDt), smM _ _ (upd_free ht upd_same) (Ne.symm (ne_of_none hus hr))⟩ .nil)
      obtain ⟨t', r', z1, z2, z3⟩ := z
      exact ⟨t', r', z1, smM _ _ (smN _ _ z2) (hDn _ _ z2 fun _ z => by cases z), smM _ _ (smN _ _ z3) (hDn _ _ z3 fun _ z => by cases z)⟩
  · rintro H4 ⟨sm4, us, hus, hpus⟩
    have : (ts.map V.ref).length = (rowsOf (C n)).length := by rw [List.length_map, hts, hsl, hlr]
    rw [this, List.take_length] at hpus
    have hpD := (Same.new (o := .lst (ts.map V.ref)) hpn).free hD
    exact hQ D H4 us ((Same.new hpn).trans sm4) hpD hus hpus
def spHeld (K : PySem.W.Frag) : Sp := fun vs H Q _ => ∃ (x dx q : Addr) (f : V) (F : Fm) (L : List (Str × Addr)) (C : Str → Sheet), vs = [.ref x] ∧ H x = some (.ins (He.ga K "Plain") dx (plF f q)) ∧ FmAt K H f F ∧ ShsAt H q L C ∧ L.map (·.1) = F.tabs.map (·.name) ∧ F.tabs ≠ [] ∧ (C (hdName F)).length < sizeLine ∧
  ∀ p H', Same H H' → H p = none → H' p = some (.lst ((PySem.W.sortI ((C (hdName F)).map (·.1.1))).map V.int)) → Q (.ref p) H'
theorem ok_Plain_held (T : Tx K mg) : DefOk P w K mg base ("Plain", some "held") ["self"] [] 2 (spHeld K) := by
  refine def_ok T.f_Plain_held sc_Plain_held (fun vs H Q E h => by first | (obtain ⟨ rfl, _⟩ := h; rfl) | (obtain ⟨_,  rfl, _⟩ := h; rfl) | (obtain ⟨_, _,  rfl, _⟩ := h; rfl) | (obtain ⟨_, _, _,  rfl, _⟩ := h; rfl) | (obtain ⟨_, _, _, _,  rfl, _⟩ := h; rfl) | (obtain ⟨_, _, _, _, _,  rfl, _⟩ := h; rfl) | (obtain ⟨_, _, _, _, _, _,  rfl, _⟩ := h; rfl) | (obtain ⟨_, _, _, _, _, _, _,  rfl, _⟩ := h; rfl) | (obtain ⟨_, _, _, _, _, _, _, _,  rfl, _⟩ := h; rfl) | (obtain ⟨_, _, _, _, _, _, _, _, _,  rfl, _⟩ := h; rfl) | (obtain ⟨_, _, _, _, _, _, _, _, _, _,  rfl, _⟩ := h; rfl) | (obtain ⟨_, _, _, _, _, _, _, _, _, _, _,  rfl, _⟩ := h; rfl) | (obtain ⟨_, _, _, _, _, _, _, _, _, _, _, _,  rfl, _⟩ := h; rfl) | (obtain ⟨_, _, _, _, _, _, _, _, _, _, _, _, _,  rfl, _⟩ := h; rfl)) (fun _ _ _ _ _ _ us hl => match us, hl with | [_], _ => rfl) (fun cdv A outer s H vs Q E hr h => ?_)
  have hu := hu_of hr
  refine ⟨_, (pss_one (ps_ret (pe_callB (sortIK (K := K)) rfl T.b_sorted (by decide +kernel) (pa_cons (pe_lock (pe_lc (own := [("spot", 1)]) rfl sc_Plain_held.nd (pi_keys (pe_dget hu (fldK (K := K) (pv 0)) (callK (ok_head_of T) hr (by decide) (takes_of rfl rfl rfl rfl) T.g_head_of (pa_cons (fldK (K := K) (pv 0)) pa_nil)) (fun _ _ => rfl))) (blkOk_by (own := [("spot", 1)]) (N := N_Plain_held) (sc := defScope s_Plain_held) (by decide +kernel)) (fun _ _ _ _ _ => (pg_name (i := 1) sc_Plain_held.nd rfl (Or.inl rfl))) (fun _ _ _ _ _ => pts_nil) (fun _ _ _ _ _ => (pe_ix (ixT (K := K)) (pv 1) pe_int (fun _ _ => rfl))))) pa_nil)))), ?_⟩
  obtain ⟨x, dx, q, f, F, L, C, rfl, hx, hF, hC, hL, hne, hlen, hQ⟩ := h
  obtain ⟨t0, tl, e0⟩ : ∃ t0 tl, F.tabs = t0 :: tl := by
    cases e : F.tabs with
    | nil => exact absurd e hne
    | cons a b => exact ⟨a, b, rfl⟩
  have hhd : hdName F = t0.name := by unfold hdName; rw [e0]
  rw [hhd] at hlen hQ
  obtain ⟨a, ha⟩ := sh_of hL (t := t0) (by rw [e0]; exact List.mem_cons_self)
  have hq := hC.top
  have hg := sh_get hC.ns ha
  obtain ⟨kvs, hk, hkv⟩ := hC.sh _ ha
  have hln : kvs.length = (C t0.name).length := hkv.length
  have hxa : x ≠ a := fun z => by rw [z, hk] at hx; cases hx
  have hqa : q ≠ a := fun z => by rw [z, hk] at hq; cases hq
  show tLockE _ _ _ _
  refine ⟨a, .dT kvs, hk, trivial, fun od => ?_⟩
  have hxf : (upd H a (.frz od (.dT kvs))) x = some (.ins (He.ga K "Plain") dx (plF f q)) := by rw [upd_ne hxa]; exact hx
  have hqf : (upd H a (.frz od (.dT kvs))) q = some (.dK (L.map fun x => (Sum.inr x.1, V.ref x.2))) := by rw [upd_ne hqa]; exact hq
  have hFf : FmAt K (upd H a (.frz od (.dT kvs))) f F := hF.monoF fun b o h ho => by
    rw [upd_ne (fun z => by rw [z, hk] at h; rcases ho with ⟨_, rfl⟩ | ⟨_, _, rfl⟩ <;> cases h)]; exact h
  have haf : (upd H a (.frz od (.dT kvs))) a = some (.frz od (.dT kvs)) := upd_same
  walk_at "go"
  refine ⟨x, _, dx, plF f q, .ref q, rfl, hxf, T.cl_Plain, T.na_Plain_sheets, rfl, ?_⟩
  walk_at "go"
  refine ⟨x, _, dx, plF f q, f, rfl, hxf, T.cl_Plain, T.na_Plain_shape, rfl, ?_⟩
  walk_at "go"
  refine ⟨f, F, t0, tl, rfl, hFf, e0, ?_⟩
  walk_at "go"
  refine ⟨_, _, rfl, .inr ⟨_, upd_same, fun D hD => ?_⟩⟩
  have hDa : a ≠ D := fun z => by rw [← z, haf] at hD; cases hD
  refine lc_it walk_keysT (fun i H' => H' = upd (upd H a (.frz od (.dT kvs))) D (.lst ((((C t0.name).take i).map (·.1.1)).map V.int))) rfl (fun i H' _ h => by rw [h, upd_ne hDa]; exact upd_same) ?_ ?_
  · rintro i v H1 H2 hi rfl ⟨rfl, kk, v, q', h1, rfl, h2⟩
    obtain ⟨s, hs, h3⟩ := turn_spot (shAt_keys hkv) h1 h2
    walk_at "go"
    refine ⟨_, upd_same, ?_, ?_⟩
    · rw [List.length_map, List.length_map, List.length_take]
      omega
    · rw [upd_upd, List.take_succ, hs, List.map_append, List.map_append]
      rfl
  · rintro H1 rfl
    refine ⟨by rw [upd_ne hDa]; exact upd_same, ?_⟩
    walk_at "go"
    refine ⟨D, (C t0.name).map (·.1.1), rfl, SqL.of ?_, fun ns p hp hso hn => ?_⟩
    · rw [upd_ne hDa.symm, upd_same, hln, List.take_length]
    · rw [PySem.W.eq_sortI hp hso]
      refine hQ p _ ?_ ?_ upd_same
      · grind [Same]
      · grind


/-! ### the law's own: cells, the box of draws -/
def BoxO (o : HO) : Prop := ∃ i j k : Int, o = .lst [.int i, .int j, .int k] ∧ 0 ≤ i ∧ 0 ≤ j ∧ j < 2147483587
def BoxAt (H : Hp) (b : Addr) : Prop := ∃ o, H b = some o ∧ BoxO o
/-- all but the box stands -/
def SameB (b : Addr) (H H' : Hp) : Prop := (∀ c o, H c = some o → c ≠ b → H' c = some o) ∧ BoxAt H' b
theorem SameB.refl {b : Addr} {H : Hp} (h : BoxAt H b) : SameB b H H := ⟨fun _ _ h _ => h, h⟩
theorem BoxAt.mono {b : Addr} {H H' : Hp} (e : Same H H') (h : BoxAt H b) : BoxAt H' b := let ⟨o, a, c⟩ := h; ⟨o, e _ _ a, c⟩
theorem SameB.trans {b : Addr} {H H1 H2 : Hp} (h : SameB b H H1) (h' : SameB b H1 H2) : SameB b H H2 := ⟨fun c o e ne => h'.1 c o (h.1 c o e ne) ne, h'.2⟩
theorem SameB.same {b : Addr} {H H1 H2 : Hp} (h : SameB b H H1) (h' : Same H1 H2) : SameB b H H2 := ⟨fun c o e ne => h' c o (h.1 c o e ne), h.2.mono h'⟩
theorem SameB.of {b : Addr} {H H' : Hp} (h : Same H H') (hb : BoxAt H b) : SameB b H H' := ⟨fun c o e _ => h c o e, hb.mono h⟩
theorem SameB.box {b : Addr} {H : Hp} {o : HO} (h : BoxO o) : SameB b H (upd H b o) := ⟨fun c u e ne => by rw [upd_ne ne]; exact e, ⟨o, upd_same, h⟩⟩
theorem SameB.free {b : Addr} {H H' : Hp} (h : SameB b H H') {c : Addr} (e : H' c = none) : H c = none := by
  cases q : H c with
  | none => rfl
  | some o =>
    by_cases ne : c = b
    · obtain ⟨o', h1, _⟩ := h.2; rw [ne, h1] at e; cases e
    · rw [h.1 c o q ne] at e; cases e
theorem BoxAt.ne {b c : Addr} {H : Hp} (h : BoxAt H b) (e : H c = none) : c ≠ b := fun z => by obtain ⟨o, h1, _⟩ := h; rw [z, h1] at e; cases e
theorem SameB.mut {b p : Addr} {H H' : Hp} {o : HO} (h : SameB b H H') (hp : H p = none) (ne : p ≠ b) : SameB b H (upd H' p o) :=
  ⟨fun c u e nc => by rw [upd_ne (ne_of_none e hp)]; exact h.1 c u e nc, by obtain ⟨u, h1, h2⟩ := h.2; exact ⟨u, by rw [upd_ne (Ne.symm ne)]; exact h1, h2⟩⟩
def spCellAt (K : PySem.W.Frag) : Sp := fun vs H Q _ => ∃ (s : Addr) (ns : List Int) (k : Int), vs = [.ref s, .int k] ∧ SqL K H s (ns.map V.int) ∧ 0 ≤ k ∧ ∀ c : Int, Q (.int c) H
theorem ok_law_cell_at (T : Tx K mg) : DefOk P w K mg base ("_law_cell_at", none) ["script", "k"] [] 1 (spCellAt K) := by
  refine def_ok T.f_law_cell_at sc_law_cell_at (fun vs H Q E h => by first | (obtain ⟨ rfl, _⟩ := h; rfl) | (obtain ⟨_,  rfl, _⟩ := h; rfl) | (obtain ⟨_, _,  rfl, _⟩ := h; rfl) | (obtain ⟨_, _, _,  rfl, _⟩ := h; rfl) | (obtain ⟨_, _, _, _,  rfl, _⟩ := h; rfl) | (obtain ⟨_, _, _, _, _,  rfl, _⟩ := h; rfl) | (obtain ⟨_, _, _, _, _, _,  rfl, _⟩ := h; rfl) | (obtain ⟨_, _, _, _, _, _, _,  rfl, _⟩ := h; rfl) | (obtain ⟨_, _, _, _, _, _, _, _,  rfl, _⟩ := h; rfl) | (obtain ⟨_, _, _, _, _, _, _, _, _,  rfl, _⟩ := h; rfl) | (obtain ⟨_, _, _, _, _, _, _, _, _, _,  rfl, _⟩ := h; rfl) | (obtain ⟨_, _, _, _, _, _, _, _, _, _, _,  rfl, _⟩ := h; rfl) | (obtain ⟨_, _, _, _, _, _, _, _, _, _, _, _,  rfl, _⟩ := h; rfl) | (obtain ⟨_, _, _, _, _, _, _, _, _, _, _, _, _,  rfl, _⟩ := h; rfl)) (fun _ _ _ _ _ _ us hl => match us, hl with | [_, _], _ => rfl) (fun cdv A outer s H vs Q E hr h => ?_)
  have hu := hu_of hr
  refine ⟨_, (pss_cons (ps_if (pt_cmpR op_lt (pv 1) (pe_callB (lenK (K := K)) rfl T.b_len (by decide +kernel) (pa_cons (pv 0) pa_nil)) (nomark _))
      (pss_one (ps_ret (pe_ix (ixL (K := K)) (pv 0) (pv 1) (fun _ _ => rfl))))
      pss_nil)
      (pss_one (ps_ret (pe_op op_add (pe_op op_mulA pe_int (pv 1)) pe_int)))), ?_⟩
  obtain ⟨s0, ns, k, rfl, hs, hk, q⟩ := h
  walk_at "go"
  refine ⟨_, _, rfl, .inl ⟨_, hs, rfl⟩, ?_⟩
  walk_at "go"
  refine iteD (fun e => ?_) (fun e => ?_)
  · rw [List.length_map] at e
    obtain ⟨j, rfl⟩ := Int.eq_ofNat_of_zero_le hk
    have hj : j < ns.length := by omega
    walk_at "go"
    refine ⟨_, _, _, _, rfl, rfl, hs, atI_nat (j := j) (v := V.int ns[j]) (by rw [List.getElem?_map, List.getElem?_eq_getElem hj]; rfl), ?_⟩
    exact q _
  · walk_at "go"
    exact q _
def spBox : Sp := fun vs H Q _ => ∃ (c : Int), vs = [.int c] ∧ ∀ b o, H b = none → BoxO o → Q (.ref b) (upd H b o)
theorem ok_law_box (T : Tx K mg) : DefOk P w K mg base ("_law_box", none) ["cell"] [] 1 spBox := by
  refine def_ok T.f_law_box sc_law_box (fun vs H Q E h => by first | (obtain ⟨ rfl, _⟩ := h; rfl) | (obtain ⟨_,  rfl, _⟩ := h; rfl) | (obtain ⟨_, _,  rfl, _⟩ := h; rfl) | (obtain ⟨_, _, _,  rfl, _⟩ := h; rfl) | (obtain ⟨_, _, _, _,  rfl, _⟩ := h; rfl) | (obtain ⟨_, _, _, _, _,  rfl, _⟩ := h; rfl) | (obtain ⟨_, _, _, _, _, _,  rfl, _⟩ := h; rfl) | (obtain ⟨_, _, _, _, _, _, _,  rfl, _⟩ := h; rfl) | (obtain ⟨_, _, _, _, _, _, _, _,  rfl, _⟩ := h; rfl) | (obtain ⟨_, _, _, _, _, _, _, _, _,  rfl, _⟩ := h; rfl) | (obtain ⟨_, _, _, _, _, _, _, _, _, _,  rfl, _⟩ := h; rfl) | (obtain ⟨_, _, _, _, _, _, _, _, _, _, _,  rfl, _⟩ := h; rfl) | (obtain ⟨_, _, _, _, _, _, _, _, _, _, _, _,  rfl, _⟩ := h; rfl) | (obtain ⟨_, _, _, _, _, _, _, _, _, _, _, _, _,  rfl, _⟩ := h; rfl)) (fun _ _ _ _ _ _ us hl => match us, hl with | [_], _ => rfl) (fun cdv A outer s H vs Q E hr h => ?_)
  have hu := hu_of hr
  refine ⟨_, (pss_cons (ps_if (pt_cmpR op_ge (pv 0) (pe_op op_pow pe_int pe_int) (nomark _))
      (pss_one (ps_ret (pe_lst (pa_cons (pv 0) (pa_cons (pe_op op_modP (pv 0) pe_int) (pa_cons pe_int pa_nil))))))
      pss_nil)
      (pss_one (ps_ret (pe_lst (pa_cons pe_int (pa_cons (pe_op op_modP (pv 0) pe_int) (pa_cons pe_int pa_nil))))))), ?_⟩
  obtain ⟨c, rfl, q⟩ := h
  walk_at "go"
  refine iteD (fun e => ?_) (fun e => ?_)
  · walk_at "go"
    refine ⟨by walk_at "sz", fun b hb => ?_⟩
    exact q b _ hb ⟨_, _, _, rfl, by have : (10 : Int) ^ (18 : Int).toNat ≤ c := e; have h2 : (10 : Int) ^ (18 : Int).toNat = 1000000000000000000 := by decide
                                     omega, by omega, by omega⟩
  · walk_at "go"
    refine ⟨by walk_at "sz", fun b hb => ?_⟩
    exact q b _ hb ⟨_, _, _, rfl, by omega, by omega, by omega⟩
def spTake : Sp := fun vs H Q _ => ∃ (b : Addr) (n : Int), vs = [.ref b, .int n] ∧ BoxAt H b ∧ 0 < n ∧ n < 2 ^ 300 ∧ ∀ d o, 0 ≤ d → d < n → BoxO o → Q (.int d) (upd H b o)
theorem ok_law_take (T : Tx K mg) : DefOk P w K mg base ("_law_take", none) ["box", "many"] [] 1 spTake := by
  refine def_ok T.f_law_take sc_law_take (fun vs H Q E h => by first | (obtain ⟨ rfl, _⟩ := h; rfl) | (obtain ⟨_,  rfl, _⟩ := h; rfl) | (obtain ⟨_, _,  rfl, _⟩ := h; rfl) | (obtain ⟨_, _, _,  rfl, _⟩ := h; rfl) | (obtain ⟨_, _, _, _,  rfl, _⟩ := h; rfl) | (obtain ⟨_, _, _, _, _,  rfl, _⟩ := h; rfl) | (obtain ⟨_, _, _, _, _, _,  rfl, _⟩ := h; rfl) | (obtain ⟨_, _, _, _, _, _, _,  rfl, _⟩ := h; rfl) | (obtain ⟨_, _, _, _, _, _, _, _,  rfl, _⟩ := h; rfl) | (obtain ⟨_, _, _, _, _, _, _, _, _,  rfl, _⟩ := h; rfl) | (obtain ⟨_, _, _, _, _, _, _, _, _, _,  rfl, _⟩ := h; rfl) | (obtain ⟨_, _, _, _, _, _, _, _, _, _, _,  rfl, _⟩ := h; rfl) | (obtain ⟨_, _, _, _, _, _, _, _, _, _, _, _,  rfl, _⟩ := h; rfl) | (obtain ⟨_, _, _, _, _, _, _, _, _, _, _, _, _,  rfl, _⟩ := h; rfl)) (fun _ _ _ _ _ _ us hl => match us, hl with | [_, _], _ => rfl) (fun cdv A outer s H vs Q E hr h => ?_)
  have hu := hu_of hr
  refine ⟨_, (pss_cons (ps_if (pt_cmpR op_gt (pe_ix (ixL (K := K)) (pv 0) pe_int (fun _ _ => rfl)) pe_int (nomark _))
      (pss_cons (ps_set (i := 2) sc_law_take.nd rfl (Or.inl rfl) (pe_op op_modP (pe_ix (ixL (K := K)) (pv 0) pe_int (fun _ _ => rfl)) (pv 1)))
      (pss_cons (ps_asg (pe_op op_fdivA (pe_ix (ixL (K := K)) (pv 0) pe_int (fun _ _ => rfl)) (pv 1)) (pg_sub (pv 0) pe_int set_list))
      (pss_one (ps_ret (pv 2)))))
      pss_nil)
      (pss_cons (ps_asg (pe_op op_add (pe_ix (ixL (K := K)) (pv 0) pe_int (fun _ _ => rfl)) pe_int) (pg_sub (pv 0) pe_int set_list))
      (pss_cons (ps_set (i := 3) sc_law_take.nd rfl (Or.inl rfl) (pe_op op_modP (pe_op op_add (pe_op op_add (pe_op op_mulA (pe_ix (ixL (K := K)) (pv 0) pe_int (fun _ _ => rfl)) (pe_op op_add pe_int (pe_op op_mulA pe_int (pe_ix (ixL (K := K)) (pv 0) pe_int (fun _ _ => rfl))))) (pe_op op_mulA pe_int (pe_ix (ixL (K := K)) (pv 0) pe_int (fun _ _ => rfl)))) pe_int) pe_int))
      (pss_one (ps_ret (pe_op op_modP (pe_op op_fdivA (pe_op op_modP (pe_op op_pow (pv 3) pe_int) pe_int) pe_int) (pv 1))))))), ?_⟩
  obtain ⟨b, n, rfl, ⟨o, hb, i, j, k, rfl, h1, h2, h3⟩, h4, h5, q⟩ := h
  walk_at "go"
  refine iteD (fun e => ?_) (fun e => ?_)
  · walk_at "go"
    exact q _ _ (Int.emod_nonneg _ (by omega)) (Int.emod_lt_of_pos _ h4) ⟨i / n, j, k, rfl, Int.ediv_nonneg h1 (by omega), h2, h3⟩
  · walk_at "go"
    exact q _ _ (Int.emod_nonneg _ (by omega)) (Int.emod_lt_of_pos _ h4) ⟨i, j, k + 1, rfl, h1, h2, h3⟩
def spPick : Sp := fun vs H Q _ => ∃ (b s : Addr) (xs : List V), vs = [.ref b, .ref s] ∧ BoxAt H b ∧ H s = some (.lst xs) ∧ s ≠ b ∧ xs ≠ [] ∧ xs.length ≤ 1000 ∧ ∀ x ∈ xs, ∀ o, BoxO o → Q x (upd H b o)
theorem ok_law_pick (T : Tx K mg) : DefOk P w K mg base ("_law_pick", none) ["box", "some"] [] 2 spPick := by
  refine def_ok T.f_law_pick sc_law_pick (fun vs H Q E h => by first | (obtain ⟨ rfl, _⟩ := h; rfl) | (obtain ⟨_,  rfl, _⟩ := h; rfl) | (obtain ⟨_, _,  rfl, _⟩ := h; rfl) | (obtain ⟨_, _, _,  rfl, _⟩ := h; rfl) | (obtain ⟨_, _, _, _,  rfl, _⟩ := h; rfl) | (obtain ⟨_, _, _, _, _,  rfl, _⟩ := h; rfl) | (obtain ⟨_, _, _, _, _, _,  rfl, _⟩ := h; rfl) | (obtain ⟨_, _, _, _, _, _, _,  rfl, _⟩ := h; rfl) | (obtain ⟨_, _, _, _, _, _, _, _,  rfl, _⟩ := h; rfl) | (obtain ⟨_, _, _, _, _, _, _, _, _,  rfl, _⟩ := h; rfl) | (obtain ⟨_, _, _, _, _, _, _, _, _, _,  rfl, _⟩ := h; rfl) | (obtain ⟨_, _, _, _, _, _, _, _, _, _, _,  rfl, _⟩ := h; rfl) | (obtain ⟨_, _, _, _, _, _, _, _, _, _, _, _,  rfl, _⟩ := h; rfl) | (obtain ⟨_, _, _, _, _, _, _, _, _, _, _, _, _,  rfl, _⟩ := h; rfl)) (fun _ _ _ _ _ _ us hl => match us, hl with | [_, _], _ => rfl) (fun cdv A outer s H vs Q E hr h => ?_)
  have hu := hu_of hr
  refine ⟨_, (pss_one (ps_ret (pe_ix (ixL (K := K)) (pv 1) (callK (ok_law_take T) hr (by decide) (takes_of rfl rfl rfl rfl) T.g_law_take (pa_cons (pv 0) (pa_cons (pe_callB (lenK (K := K)) rfl T.b_len (by decide +kernel) (pa_cons (pv 1) pa_nil)) pa_nil))) (fun _ _ => rfl)))), ?_⟩
  obtain ⟨b, sa, xs, rfl, hb, hs, hne, h0, h1, q⟩ := h
  have hl : 0 < xs.length := List.length_pos_iff.mpr h0
  walk_at "go"
  refine ⟨_, _, rfl, .inl ⟨_, SqL.of hs, rfl⟩, ?_⟩
  walk_at "go"
  refine ⟨b, xs.length, rfl, hb, by omega, by have : ((xs.length : Nat) : Int) ≤ 1000 := by omega
                                              exact Int.lt_of_le_of_lt this (by decide), fun d o hd0 hd1 ho => ?_⟩
  obtain ⟨j, rfl⟩ := Int.eq_ofNat_of_zero_le hd0
  have hj : j < xs.length := by omega
  have hs2 : (upd H b o) sa = some (.lst xs) := by rw [upd_ne hne]; exact hs
  refine ⟨_, _, _, _, rfl, rfl, SqL.of hs2, atI_nat (List.getElem?_eq_getElem hj), ?_⟩
  exact q _ (List.getElem_mem hj) o ho
/-- an order: each of the numbers below many once -/
def spOrder : Sp := fun vs H Q _ => ∃ (b : Addr) (n : Nat), vs = [.ref b, .int n] ∧ BoxAt H b ∧ n ≤ 1000 ∧ ∀ (l : List Nat) (p : Addr) (H' : Hp), l.Perm (List.range n) → SameB b H H' → H p = none → H' p = some (.lst (l.map fun k : Nat => V.int (k : Int))) → Q (.ref p) H'
theorem ok_law_order (T : Tx K mg) : DefOk P w K mg base ("_law_order", none) ["box", "many"] [] 2 spOrder := by
  refine def_ok T.f_law_order sc_law_order (fun vs H Q E h => by first | (obtain ⟨ rfl, _⟩ := h; rfl) | (obtain ⟨_,  rfl, _⟩ := h; rfl) | (obtain ⟨_, _,  rfl, _⟩ := h; rfl) | (obtain ⟨_, _, _,  rfl, _⟩ := h; rfl) | (obtain ⟨_, _, _, _,  rfl, _⟩ := h; rfl) | (obtain ⟨_, _, _, _, _,  rfl, _⟩ := h; rfl) | (obtain ⟨_, _, _, _, _, _,  rfl, _⟩ := h; rfl) | (obtain ⟨_, _, _, _, _, _, _,  rfl, _⟩ := h; rfl) | (obtain ⟨_, _, _, _, _, _, _, _,  rfl, _⟩ := h; rfl) | (obtain ⟨_, _, _, _, _, _, _, _, _,  rfl, _⟩ := h; rfl) | (obtain ⟨_, _, _, _, _, _, _, _, _, _,  rfl, _⟩ := h; rfl) | (obtain ⟨_, _, _, _, _, _, _, _, _, _, _,  rfl, _⟩ := h; rfl) | (obtain ⟨_, _, _, _, _, _, _, _, _, _, _, _,  rfl, _⟩ := h; rfl) | (obtain ⟨_, _, _, _, _, _, _, _, _, _, _, _, _,  rfl, _⟩ := h; rfl)) (fun _ _ _ _ _ _ us hl => match us, hl with | [_, _], _ => rfl) (fun cdv A outer s H vs Q E hr h => ?_)
  have hu := hu_of hr
  refine ⟨_, (pss_cons (ps_set (i := 2) sc_law_order.nd rfl (Or.inl rfl) (pe_lst pa_nil))
      (pss_cons (ps_for (passes_of rfl) rfl (pi_range1 rfl T.b_range (pa_cons (pv 1) pa_nil)) (pg_name (i := 3) sc_law_order.nd rfl (Or.inl rfl))
      (pss_one (ps_expr (pe_bm PySem.F.plainAttrs_list PySem.F.slot_list_insert PySem.F.type_list_insert mt_insert (pv 2) (pa_cons (callK (ok_law_take T) hr (by decide) (takes_of rfl rfl rfl rfl) T.g_law_take (pa_cons (pv 0) (pa_cons (pe_op op_add (pv 3) pe_int) pa_nil))) (pa_cons (pv 3) pa_nil))))))
      (pss_one (ps_ret (pv 2))))), ?_⟩
  obtain ⟨b, n, rfl, hb, hn, q⟩ := h
  walk_at "go"
  refine ⟨by walk_at "sz", fun p hp => ?_⟩
  have hpb := hb.ne hp
  walk_at "go"
  refine ⟨by omega, by omega, for_range (lo := 0) (n := n) (fun i σ H' => ∃ (v : Option V) (l : List Nat), σ = [some (.ref b), some (.int n), some (.ref p), v] ∧ l.Perm (List.range i) ∧ SameB b H H' ∧ H' p = some (.lst (l.map fun k : Nat => V.int (k : Int)))) ⟨none, [], rfl, .refl _, (SameB.refl hb).same (Same.new hp), upd_same⟩ ?_ ?_⟩
  · rintro i σ H1 hi ⟨v, l, rfl, hl, sb, hp1⟩
    have hll : l.length = i := by have := hl.length_eq; rw [List.length_range] at this; exact this
    walk_at "go"
    refine ⟨.inl ⟨rfl, _, SqL.of hp1⟩, ?_⟩
    walk_at "go"
    refine ⟨b, _, rfl, sb.2, by omega, ?_, fun d o h1 h2 ho => ?_⟩
    · have : (0 : Int) + (i : Nat) + 1 ≤ 1000 := by omega
      exact Int.lt_of_le_of_lt this (by decide)
    have hp2 : (upd H1 b o) p = some (.lst (l.map fun k : Nat => V.int (k : Int))) := by rw [upd_ne hpb]; exact hp1
    obtain ⟨j, rfl⟩ := Int.eq_ofNat_of_zero_le h1
    walk_at "go"
    refine ⟨p, _, (j : Int), _, rfl, rfl, hp2, ?_, by omega, by omega, ?_⟩
    · rw [List.length_map]
      exact small1000 (by omega)
    · refine ⟨_, l.take j ++ [i] ++ l.drop j, rfl, ?_, (sb.trans (SameB.box ho)).mut hp hpb, ?_⟩
      · rw [List.range_succ]
        have h1 : (l.take j ++ [i] ++ l.drop j).Perm (l.take j ++ l.drop j ++ [i]) := by
          rw [List.append_assoc, List.append_assoc]
          exact List.Perm.append_left _ List.perm_append_comm
        rw [List.take_append_drop] at h1
        exact h1.trans (hl.append_right [i])
      · rw [upd_same]
        simp
  · rintro σ H1 ⟨v, l, rfl, hl, sb, hp1⟩
    walk_at "go"
    exact q l p H1 hl sb hp hp1


def LET : Str := "abcdefghijklmnopqrstuvwxyz"
theorem let_at (j : Nat) (h : j < 26) : atI LET.cps.toList (j : Int) = some (97 + j) := by
  refine atI_nat ?_
  have e : LET.cps.toList = (List.range 26).map fun k => 97 + k := by decide +kernel
  rw [e, List.getElem?_map, List.getElem?_range h]
  rfl
theorem let_len : LET.length ≤ sizeLine := by decide +kernel
def sg (first : Int) (k : Nat) : Str := ⟨#[97 + ((first + 7 * (k : Int)) % 26).toNat]⟩
def nm (stem : Str) (a : Int) (first : Int) (k : Nat) : Str := cutS stem none (some a) ++ sg first k ++ cutS stem (some a) none ++ Txt.mul "z" ((k : Int) % 2)
theorem cutV_from {xs : List V} {t : Nat} (h : t ≤ xs.length) : cutV xs (some (t : Int)) none = xs.drop t := by
  unfold cutV
  rw [HT.sIx_nat, HT.sIx_none, Nat.min_eq_left h]
  exact List.take_of_length_le (by rw [List.length_drop]; omega)
theorem cutV_to {xs : List V} {t : Nat} (h : t ≤ xs.length) : cutV xs none (some (t : Int)) = xs.take t := by
  unfold cutV
  rw [HT.sIx_nat, HT.sIx_none, Nat.min_eq_left h]
  rfl
theorem cutS_len (z : Str) (lo hi : Option Int) : (cutS z lo hi).length ≤ z.length := by
  unfold cutS
  show ((List.take _ (List.drop _ z.cps.toList)).toArray).size ≤ z.cps.size
  rw [List.size_toArray, List.length_take, List.length_drop, Array.length_toList]
  omega
theorem mulz0 : Txt.mul "z" 0 = Str.empty := by decide +kernel
theorem mulz1 : Txt.mul "z" 1 = "z" := by decide +kernel
theorem mulz_len (k : Nat) : (Txt.mul "z" ((k : Int) % 2)).length = k % 2 := by
  rcases Nat.mod_two_eq_zero_or_one k with h | h
  · have : (k : Int) % 2 = 0 := by omega
    rw [this, mulz0, h]; rfl
  · have : (k : Int) % 2 = 1 := by omega
    rw [this, mulz1, h]; rfl
theorem nm_inj {stem : Str} {a first : Int} {i j : Nat} (hi : i < 26) (hj : j < 26) (e : nm stem a first i = nm stem a first j) : i = j := by
  have hl := congrArg Str.length e
  unfold nm at hl
  simp only [PySem.Str.length_append, mulz_len] at hl
  have h1 : (sg first i).length = 1 := rfl
  have h2 : (sg first j).length = 1 := rfl
  rw [h1, h2] at hl
  have hm : i % 2 = j % 2 := by omega
  have hm2 : (i : Int) % 2 = (j : Int) % 2 := by omega
  unfold nm at e
  rw [hm2] at e
  have e := congrArg (fun z : Str => z.cps.toList) e
  simp only [PySem.Str.cps_append, Array.toList_append, List.append_assoc] at e
  have e := List.append_cancel_left e
  have e := (List.append_inj e rfl).1
  have e : [97 + ((first + 7 * (i : Int)) % 26).toNat] = [97 + ((first + 7 * (j : Int)) % 26).toNat] := e
  have e := (List.cons.inj e).1
  omega
def spNames : Sp := fun vs H Q _ => ∃ (b : Addr) (n : Nat), vs = [.ref b, .int n] ∧ BoxAt H b ∧ 0 < n ∧ n ≤ 26 ∧ ∀ (ns : List Str) (p : Addr) (H' : Hp), ns.length = n → ns.Nodup → SameB b H H' → H p = none → H' p = some (.lst (ns.map V.str)) → Q (.ref p) H'
theorem ok_law_names (T : Tx K mg) : DefOk P w K mg base ("_law_names", none) ["box", "many"] [] 2 spNames := by
  refine def_ok T.f_law_names sc_law_names (fun vs H Q E h => by first | (obtain ⟨ rfl, _⟩ := h; rfl) | (obtain ⟨_,  rfl, _⟩ := h; rfl) | (obtain ⟨_, _,  rfl, _⟩ := h; rfl) | (obtain ⟨_, _, _,  rfl, _⟩ := h; rfl) | (obtain ⟨_, _, _, _,  rfl, _⟩ := h; rfl) | (obtain ⟨_, _, _, _, _,  rfl, _⟩ := h; rfl) | (obtain ⟨_, _, _, _, _, _,  rfl, _⟩ := h; rfl) | (obtain ⟨_, _, _, _, _, _, _,  rfl, _⟩ := h; rfl) | (obtain ⟨_, _, _, _, _, _, _, _,  rfl, _⟩ := h; rfl) | (obtain ⟨_, _, _, _, _, _, _, _, _,  rfl, _⟩ := h; rfl) | (obtain ⟨_, _, _, _, _, _, _, _, _, _,  rfl, _⟩ := h; rfl) | (obtain ⟨_, _, _, _, _, _, _, _, _, _, _,  rfl, _⟩ := h; rfl) | (obtain ⟨_, _, _, _, _, _, _, _, _, _, _, _,  rfl, _⟩ := h; rfl) | (obtain ⟨_, _, _, _, _, _, _, _, _, _, _, _, _,  rfl, _⟩ := h; rfl)) (fun _ _ _ _ _ _ us hl => match us, hl with | [_, _], _ => rfl) (fun cdv A outer s H vs Q E hr h => ?_)
  have hu := hu_of hr
  refine ⟨_, (pss_cons (ps_set (i := 2) sc_law_names.nd rfl (Or.inr rfl) pe_str)
      (pss_cons (ps_set (i := 3) sc_law_names.nd rfl (Or.inr rfl) (pe_join pe_str (pe_lc (own := [("k", 9)]) rfl sc_law_names.nd (pi_range1 rfl T.b_range (pa_cons (callK (ok_law_take T) hr (by decide) (takes_of rfl rfl rfl rfl) T.g_law_take (pa_cons (pv 0) (pa_cons pe_int pa_nil))) pa_nil)) (blkOk_by (own := [("k", 9)]) (N := N_law_names) (sc := defScope s_law_names) (by decide +kernel)) (fun _ _ _ _ _ => (pg_name (i := 9) sc_law_names.nd rfl (Or.inl rfl))) (fun _ _ _ _ _ => pts_nil) (fun _ _ _ _ _ => (pe_ix ix_str (pv 2) (callK0 (ok_law_take T) hr (by decide) T.g_law_take (pa_cons (pv 0) (pa_cons pe_int pa_nil))) (fun _ _ => rfl))))))
      (pss_cons (ps_set (i := 4) sc_law_names.nd rfl (Or.inr rfl) (callK (ok_law_take T) hr (by decide) (takes_of rfl rfl rfl rfl) T.g_law_take (pa_cons (pv 0) (pa_cons (pe_op op_add (pe_callB (lenK (K := K)) rfl T.b_len (by decide +kernel) (pa_cons (pv 3) pa_nil)) pe_int) pa_nil))))
      (pss_cons (ps_set (i := 5) sc_law_names.nd rfl (Or.inr rfl) (callK (ok_law_take T) hr (by decide) (takes_of rfl rfl rfl rfl) T.g_law_take (pa_cons (pv 0) (pa_cons pe_int pa_nil))))
      (pss_cons (ps_setLc (i := 6) (own := [("k", 9)]) rfl sc_law_names.nd rfl rfl (sw_true rfl rfl rfl (by decide +kernel)) (pi_range1 rfl T.b_range (pa_cons (pv 1) pa_nil)) (blkOk_by (own := [("k", 9)]) (N := N_law_names) (sc := defScope s_law_names) (by decide +kernel)) (fun _ _ _ _ _ => (pg_name (i := 9) sc_law_names.nd rfl (Or.inl rfl))) (fun _ _ _ _ _ => pts_nil) (fun _ _ _ _ _ => (pe_ix ix_str (pv 2) (pe_op op_modP (pe_op op_add (pv 5) (pe_op op_mulA pe_int (pv 9))) pe_int) (fun _ _ => rfl))))
      (pss_cons (ps_setLc (i := 7) (own := [("k", 9), ("sign", 10)]) rfl sc_law_names.nd rfl rfl (sw_true rfl rfl rfl (by decide +kernel)) (pi_enum rfl T.b_enumerate (pa_cons (pv 6) pa_nil)) (blkOk_by (own := [("k", 9), ("sign", 10)]) (N := N_law_names) (sc := defScope s_law_names) (by decide +kernel)) (fun _ _ _ _ _ => (pgTupK (K := K) (n := 2) rfl (pgs_cons (pg_name (i := 9) sc_law_names.nd rfl (Or.inl rfl)) (pgs_cons (pg_name (i := 10) sc_law_names.nd rfl (Or.inl rfl)) pgs_nil)))) (fun _ _ _ _ _ => pts_nil) (fun _ _ _ _ _ => (pe_op op_add_str (pe_op op_add_str (pe_op op_add_str (pe_slice sl_str (pv 3) po_none (po_some (pv 4))) (pv 10)) (pe_slice sl_str (pv 3) (po_some (pv 4)) po_none)) (pe_op op_mulS pe_str (pe_op op_modP (pv 9) pe_int)))))
      (pss_cons (ps_set (i := 8) sc_law_names.nd rfl (Or.inl rfl) (callK (ok_law_take T) hr (by decide) (takes_of rfl rfl rfl rfl) T.g_law_take (pa_cons (pv 0) (pa_cons (pv 1) pa_nil))))
      (pss_one (ps_ret (pe_op op_cat (pe_slice (slL (K := K)) (pv 7) (po_some (pv 8)) po_none) (pe_slice (slL (K := K)) (pv 7) po_none (po_some (pv 8))))))))))))), ?_⟩
  obtain ⟨b, n, rfl, hb, hn0, hn, q⟩ := h
  walk_at "go"
  refine ⟨⟨_, rfl⟩, ?_⟩
  walk_at "go"
  refine ⟨b, 7, rfl, hb, by omega, by decide +kernel, fun d o hd0 hd1 ho => ?_⟩
  walk_at "go"
  refine ⟨by omega, by omega, fun D hD => lc_range (lo := 0) (n := d.toNat) (fun i H' => ∃ ys : List Str, SameB b H H' ∧ H' D = some (.lst (ys.map V.str)) ∧ ys.length = i ∧ ∀ y ∈ ys, y.length = 1) ⟨[], ((SameB.box ho).same (Same.new hD)), upd_same, rfl, fun y hy => by cases hy⟩ ?_ ?_⟩
  · rintro i H1 hi ⟨ys, sb, hy1, hy2, hy3⟩
    have hDb : D ≠ b := (SameB.box (H := H) ho).2.ne hD
    walk_at "go"
    refine ⟨b, 26, rfl, sb.2, by omega, by decide +kernel, fun e u he0 he1 hu => ?_⟩
    obtain ⟨j, rfl⟩ := Int.eq_ofNat_of_zero_le he0
    walk_at "go"
    refine ⟨LET, _, _, rfl, rfl, let_len, let_at j (by omega), ?_⟩
    refine ⟨ys.map V.str, by rw [upd_ne hDb]; exact hy1, by rw [List.length_map]; exact small1000 (by omega), ys ++ [⟨#[97 + j]⟩], (sb.trans (SameB.box hu)).mut ((SameB.box ho).free hD) hDb, by rw [upd_same, List.map_append]; rfl, by rw [List.length_append, hy2]; rfl, fun y hy => ?_⟩
    rcases List.mem_append.mp hy with hy | hy
    · exact hy3 y hy
    · cases List.mem_singleton.mp hy; rfl
  · rintro H1 ⟨ys, sb, hy1, hy2, hy3⟩
    have hsum : ∀ l : List Str, (∀ y ∈ l, y.length = 1) → (l.map (·.length)).sum = l.length := by
      intro l hl
      induction l with
      | nil => rfl
      | cons a l ih => rw [List.map_cons, List.sum_cons, ih fun y hy => hl y (List.mem_cons_of_mem _ hy), hl a List.mem_cons_self, List.length_cons]; omega
    refine ⟨"", D, ys, rfl, rfl, .inl (SqL.of hy1), ?_, ?_⟩
    · rw [hsum ys hy3]
      have : ("" : Str).length = 0 := by decide
      rw [this]
      omega
    have hst : (Txt.join "" ys).length ≤ 6 := by
      have h1 : (Txt.join (Str.ofString "") ys).length = ys.length := PySem.W.KT.join_ones ys hy3
      have h1 : (Txt.join "" ys).length = ys.length := h1
      omega
    generalize Txt.join "" ys = stem at hst
    walk_at "go"
    refine ⟨_, stem.length, rfl, ⟨Nat.le_trans hst (by decide), rfl⟩, ?_⟩
    walk_at "go"
    refine ⟨b, _, rfl, sb.2, by omega, ?_, fun at_ o2 hat0 hat1 ho2 => ?_⟩
    · have : ((stem.length : Nat) : Int) + 1 ≤ 7 := by omega
      exact Int.lt_of_le_of_lt this (by decide +kernel)
    have sb2 := sb.trans (SameB.box ho2)
    walk_at "go"
    refine ⟨b, 26, rfl, sb2.2, by omega, by decide +kernel, fun first o3 hf0 hf1 ho3 => ?_⟩
    have sb3 := sb2.trans (SameB.box ho3)
    generalize upd (upd H1 b o2) b o3 = H3 at sb3
    walk_at "go"
    refine ⟨by omega, by omega, fun D2 hD2 => lc_range (lo := 0) (n := n) (fun i H' => Same H3 H' ∧ H' D2 = some (.lst ((List.range i).map fun k => V.str (sg first k)))) ⟨Same.new hD2, upd_same⟩ ?_ ?_⟩
    · rintro i H4 hi ⟨sm4, hd4⟩
      walk_at "go"
      have hp : (0 : Int) ≤ (first + 7 * (0 + (i : Nat))) % 26 := Int.emod_nonneg _ (by decide)
      have hp2 : (first + 7 * (0 + (i : Nat))) % 26 < 26 := Int.emod_lt_of_pos _ (by decide)
      refine ⟨LET, _, 97 + ((first + 7 * (i : Int)) % 26).toNat, rfl, rfl, let_len, ?_, ?_⟩
      · have e := let_at ((first + 7 * (i : Int)) % 26).toNat (by rw [Int.zero_add] at hp hp2; omega)
        rw [Int.zero_add] at hp hp2
        rw [Int.toNat_of_nonneg hp] at e
        show atI LET.cps.toList ((first + 7 * (0 + (i : Nat))) % 26) = _
        rw [Int.zero_add]
        exact e
      · refine ⟨_, hd4, by rw [List.length_map, List.length_range]; exact small1000 (by omega), sm4.mut hD2, ?_⟩
        rw [upd_same, List.range_succ, List.map_append]
        rfl
    · rintro H4 ⟨sm4, hd4⟩
      walk_at "go"
      refine ⟨D2, _, rfl, SqL.of hd4, fun D3 hD3 => lc_it (walk_enum (K := K) (a := D2) (xs := (List.range n).map fun k => V.str (sg first k))) (fun i H' => Same H4 H' ∧ H' D3 = some (.lst ((List.range i).map fun k => V.str (nm stem at_ first k)))) ⟨Same.new hD3, upd_same⟩ (fun i H' _ h => SqL.of (h.1 _ _ hd4)) ?_ ?_⟩
      · rintro i x H5 H6 hi ⟨sm5, hd5⟩ ⟨c, y, z, rfl, hc, rfl, e1, e2⟩
        cases e1
        rw [List.length_map, List.length_range] at hi
        have e2 : ((List.range n).map fun k => V.str (sg first k))[i]? = some z := e2
        rw [List.getElem?_map, List.getElem?_range hi] at e2
        cases e2
        have l1 := cutS_len stem none (some at_)
        have l2 := cutS_len stem (some at_) none
        have l3 : (sg first i).length = 1 := rfl
        have l4 := mulz_len i
        have l5 : (("z" : Str)).length = 1 := by decide
        walk_at "go"
        refine ⟨Nat.le_trans hst (by decide), ?_⟩
        walk_at "go"
        refine ⟨Nat.le_of_lt (small1000 (by show (cutS stem none (some at_)).length + (sg first i).length ≤ 1000; omega)), ?_⟩
        walk_at "go"
        refine ⟨Nat.le_trans hst (by decide), ?_⟩
        walk_at "go"
        refine ⟨Nat.le_of_lt (small1000 (by show (cutS stem none (some at_) ++ sg first i).length + (cutS stem (some at_) none).length ≤ 1000; rw [PySem.Str.length_append]; omega)), ?_⟩
        walk_at "go"
        refine ⟨by omega, by omega, by rw [l5]; decide, ?_⟩
        walk_at "go"
        refine ⟨Nat.le_of_lt (small1000 (by show (cutS stem none (some at_) ++ sg first i ++ cutS stem (some at_) none).length + (Txt.mul "z" ((i : Int) % 2)).length ≤ 1000; rw [PySem.Str.length_append, PySem.Str.length_append]; omega)), ?_⟩
        refine ⟨_, upd_free hc hd5, by rw [List.length_map, List.length_range]; exact small1000 (by omega), (sm5.trans (Same.new hc)).mut hD3, ?_⟩
        rw [upd_same, List.range_succ, List.map_append]
        rfl
      · rintro H5 ⟨sm5, hd5⟩
        have sb5 : SameB b H H5 := (sb3.same sm4).same sm5
        walk_at "go"
        refine ⟨b, n, rfl, sb5.2, by omega, ?_, fun tn o6 ht0 ht1 ho6 => ?_⟩
        · have : ((n : Nat) : Int) ≤ 26 := by omega
          exact Int.lt_of_le_of_lt this (by decide +kernel)
        obtain ⟨t, rfl⟩ := Int.eq_ofNat_of_zero_le ht0
        have htn : t < n := by omega
        have hDb : D3 ≠ b := ((sb3.same sm4).2).ne hD3
        have hd6 : (upd H5 b o6) D3 = some (.lst ((List.range n).map fun k => V.str (nm stem at_ first k))) := by
          rw [upd_ne hDb]
          rw [List.length_map, List.length_range] at hd5
          exact hd5
        have sb6 := sb5.trans (SameB.box ho6)
        generalize upd H5 b o6 = H6 at hd6 sb6
        have hll : ((List.range n).map fun k => V.str (nm stem at_ first k)).length = n := by simp
        walk_at "go"
        refine ⟨D3, _, rfl, SqL.of hd6, fun p1 hp1 => ?_⟩
        rw [cutV_from (by omega)]
        walk_at "go"
        refine ⟨D3, _, rfl, SqL.of (upd_free hp1 hd6), fun p2 hp2 => ?_⟩
        rw [cutV_to (by omega)]
        refine ⟨p1, p2, _, _, rfl, rfl, upd_free hp2 upd_same, upd_same, by rw [List.length_drop, List.length_take, hll]; exact Nat.le_of_lt (small1000 (by omega)), fun p3 hp3 => ?_⟩
        have sb7 := ((sb6.same (Same.new (o := .lst (((List.range n).map fun k => V.str (nm stem at_ first k)).drop t)) hp1)).same (Same.new (o := .lst (((List.range n).map fun k => V.str (nm stem at_ first k)).take t)) hp2))
        have hperm : ((List.range n).drop t ++ (List.range n).take t).Perm (List.range n) := by
          refine List.perm_append_comm.trans ?_
          rw [List.take_append_drop]
        refine q (((List.range n).drop t ++ (List.range n).take t).map (nm stem at_ first)) p3 _ ?_ ?_ (sb7.same (Same.new hp3)) (sb7.free hp3) ?_
        · rw [List.length_map, hperm.length_eq, List.length_range]
        · have h1 : ((List.range n).map (nm stem at_ first)).Nodup := by
            refine List.Pairwise.map (R := fun a b => a ≠ b ∧ a < 26 ∧ b < 26) _ (fun a b hab e => hab.1 (nm_inj hab.2.1 hab.2.2 e)) ?_
            refine List.Pairwise.imp_of_mem (fun {a b} ha hb hab => ⟨Nat.ne_of_lt hab, ?_, ?_⟩) List.pairwise_lt_range
            · have := List.mem_range.mp ha; omega
            · have := List.mem_range.mp hb; omega
          exact (hperm.map (nm stem at_ first)).nodup_iff.mpr h1
        · rw [upd_same]
          simp only [List.map_append, List.map_drop, List.map_take, List.map_map, Function.comp_def]


def mkRow (cs : List Str) (us : List V) : Row := (cs.zip us).map fun x => (Sum.inr x.1, x.2)
def spRowOf : Sp := fun vs H Q _ => ∃ (c r : Addr) (cs : List Str) (us : List V), vs = [.ref c, .ref r] ∧ H c = some (.lst (cs.map V.str)) ∧ H r = some (.lst us) ∧ cs.length = us.length ∧ cs.Nodup ∧ cs.length ≤ 100 ∧ ∀ p H', Same H H' → H p = none → H' p = some (.dK (mkRow cs us)) → Q (.ref p) H'
theorem ok_law_row (T : Tx K mg) : DefOk P w K mg base ("_law_row", none) ["columns", "row"] [] 1 spRowOf := by
  refine def_ok T.f_law_row sc_law_row (fun vs H Q E h => by first | (obtain ⟨ rfl, _⟩ := h; rfl) | (obtain ⟨_,  rfl, _⟩ := h; rfl) | (obtain ⟨_, _,  rfl, _⟩ := h; rfl) | (obtain ⟨_, _, _,  rfl, _⟩ := h; rfl) | (obtain ⟨_, _, _, _,  rfl, _⟩ := h; rfl) | (obtain ⟨_, _, _, _, _,  rfl, _⟩ := h; rfl) | (obtain ⟨_, _, _, _, _, _,  rfl, _⟩ := h; rfl) | (obtain ⟨_, _, _, _, _, _, _,  rfl, _⟩ := h; rfl) | (obtain ⟨_, _, _, _, _, _, _, _,  rfl, _⟩ := h; rfl) | (obtain ⟨_, _, _, _, _, _, _, _, _,  rfl, _⟩ := h; rfl) | (obtain ⟨_, _, _, _, _, _, _, _, _, _,  rfl, _⟩ := h; rfl) | (obtain ⟨_, _, _, _, _, _, _, _, _, _, _,  rfl, _⟩ := h; rfl) | (obtain ⟨_, _, _, _, _, _, _, _, _, _, _, _,  rfl, _⟩ := h; rfl) | (obtain ⟨_, _, _, _, _, _, _, _, _, _, _, _, _,  rfl, _⟩ := h; rfl)) (fun _ _ _ _ _ _ us hl => match us, hl with | [_, _], _ => rfl) (fun cdv A outer s H vs Q E hr h => ?_)
  have hu := hu_of hr
  refine ⟨_, (pss_one (ps_ret (pe_callTy (dictPK (K := K) rfl) rfl T.b_dict (by decide +kernel) (pa_cons (pe_lc (own := [("column", 2), ("value", 3)]) rfl sc_law_row.nd (pi_zip rfl T.b_zip (pa_cons (pv 0) (pa_cons (pv 1) pa_nil))) (blkOk_by (own := [("column", 2), ("value", 3)]) (N := N_law_row) (sc := defScope s_law_row) (by decide +kernel)) (fun _ _ _ _ _ => (pgTupK (K := K) (n := 2) rfl (pgs_cons (pg_name (i := 2) sc_law_row.nd rfl (Or.inl rfl)) (pgs_cons (pg_name (i := 3) sc_law_row.nd rfl (Or.inl rfl)) pgs_nil)))) (fun _ _ _ _ _ => pts_nil) (fun _ _ _ _ _ => (pe_tup (pa_cons (pv 2) (pa_cons (pv 3) pa_nil))))) pa_nil)))), ?_⟩
  obtain ⟨c, r, cs, us, rfl, hc, hr0, hl, hnd, hl2, q⟩ := h
  have hzl : (cs.zip us).length = cs.length := by rw [List.length_zip]; omega
  walk_at "go"
  refine ⟨c, r, cs.map V.str, us, rfl, SqL.of hc, SqL.of hr0, fun D hD => lc_it (walk_zip (K := K) (a := c) (b := r) (xs := cs.map V.str) (ys := us) (n := cs.length) (by rw [List.length_map]; omega)) (fun i H' => Same H H' ∧ ∃ ts : List Addr, H' D = some (.lst (ts.map V.ref)) ∧ Paired (fun t (x : Str × V) => H' t = some (.tup [.str x.1, x.2])) ts ((cs.zip us).take i)) ⟨Same.new hD, [], upd_same, .nil⟩ (fun i H' _ h => ⟨SqL.of (h.1 _ _ hc), SqL.of (h.1 _ _ hr0)⟩) ?_ ?_⟩
  · rintro i x H1 H2 hi ⟨sm, ts, hd1, hts⟩ ⟨z, y1, y2, rfl, hz, rfl, e1, e2⟩
    obtain ⟨cn, hcn, rfl⟩ := strs_get e1
    have e2 : us[i]? = some y2 := e2
    have hzi : (cs.zip us)[i]? = some (cn, y2) := List.getElem?_zip_eq_some.mpr ⟨hcn, e2⟩
    have hll := hts.length
    rw [List.length_take] at hll
    walk_at "go"
    refine ⟨by walk_at "sz", fun t ht => ⟨_, upd_free ht (upd_free hz hd1), by rw [List.length_map]; exact small1000 (by omega), ?_⟩⟩
    have hDt : t ≠ D := Ne.symm (ne_of_none (upd_free hz hd1) ht)
    refine ⟨(sm.trans ((Same.new hz).trans (Same.new ht))).mut hD, ts ++ [t], by rw [upd_same, List.map_append]; rfl, ?_⟩
    rw [List.take_succ, hzi]
    refine paired_app (L2.Paired.mapP hts fun u x h => ?_) (.cons ?_ .nil)
    · rw [upd_ne (fun e => by rw [e, hd1] at h; cases h)]
      exact upd_free ht (upd_free hz h)
    · rw [upd_ne hDt]
      exact upd_same
  · rintro H1 ⟨sm, ts, hd1, hts⟩
    rw [← hzl, List.take_length] at hts
    walk_at "go"
    refine ⟨D, ts, mkRow cs us, rfl, SqL.of hd1, ?_, fun p hp => ?_⟩
    · have : ∀ {l : List Addr} {m : List (Str × V)}, Paired (fun t (x : Str × V) => H1 t = some (.tup [.str x.1, x.2])) l m → Paired (fun p (kv : Key × V) => SqT K H1 p [kV kv.1, kv.2]) l (m.map fun x => (Sum.inr x.1, x.2)) := by
        intro l m h
        induction h with
        | nil => exact .nil
        | cons r _ ih => exact .cons (SqT.of r) ih
      exact this hts
    · have hkn : ((mkRow cs us).map (·.1)).Nodup := by
        have e : (mkRow cs us).map (·.1) = cs.map fun c => Sum.inr c := by
          unfold mkRow
          rw [List.map_map]
          have h1 : (cs.zip us).map Prod.fst = cs := List.map_fst_zip (by omega)
          conv => rhs; rw [← h1]
          rw [List.map_map]
          rfl
        rw [e]
        exact inr_nd hnd
      have e : mergeK [] (mkRow cs us) = mkRow cs us := by
        have := mergeK_nd (mkRow cs us) [] (by rw [List.map_nil, List.nil_append]; exact hkn)
        simpa using this
      rw [e]
      exact q p _ (sm.trans (Same.new hp)) (sm.free hp) upd_same


structure LR where
  a : Int
  b : Int
  c : Option Int
  w : Int
def ptrV : Option Int → V
  | none => .non
  | some i => .int i
def lrV (r : LR) : List V := [.int r.a, .int r.b, ptrV r.c, .int r.w]
def LRAt (H : Hp) (r : Addr) (lr : LR) : Prop := H r = some (.lst (lrV lr))
abbrev LT := List (Int × List LR)
def LTKv (H : Hp) (kv : Key × V) (x : Int × List LR) : Prop := kv.1 = Sum.inl x.1 ∧ ∃ l rs, kv.2 = .ref l ∧ H l = some (.lst (rs.map V.ref)) ∧ Paired (LRAt H) rs x.2
def LTAt (H : Hp) (a : Addr) (T : LT) : Prop := ∃ kvs, H a = some (.dK kvs) ∧ Paired (LTKv H) kvs T
theorem LTKv.mono {H H' : Hp} (e : Same H H') {kv : Key × V} {x : Int × List LR} (h : LTKv H kv x) : LTKv H' kv x := let ⟨a, l, rs, b, c, d⟩ := h; ⟨a, l, rs, b, e _ _ c, L2.Paired.mapP d fun _ _ z => e _ _ z⟩
theorem LTAt.mono {H H' : Hp} (e : Same H H') {a : Addr} {T : LT} (h : LTAt H a T) : LTAt H' a T := let ⟨k, b, c⟩ := h; ⟨k, e _ _ b, L2.Paired.mapP c fun _ _ z => z.mono e⟩
theorem LTAt.get {H : Hp} {kvs : List (Key × V)} {T : LT} (h : Paired (LTKv H) kvs T) (k : Int) : (valV kvs (Sum.inl k) = none ∧ lookB T k = none) ∨ ∃ l rs rows, valV kvs (Sum.inl k) = some (.ref l) ∧ lookB T k = some rows ∧ H l = some (.lst (rs.map V.ref)) ∧ Paired (LRAt H) rs rows := by
  rcases look_rel (F := LTKv H) (e := fun k => (Sum.inl k : Key)) (fun _ _ z => Sum.inl.inj z) (fun _ _ z => z.1) h k with h1 | ⟨v, r, h1, h2, _, l, rs, h3, h4, h5⟩
  · exact .inl h1
  · have h3 : v = .ref l := h3
    subst h3
    exact .inr ⟨l, rs, r, h1, h2, h4, h5⟩
def rowsAt (T : LT) (k : Int) : List LR := (lookB T k).getD []
def placed (k : Int) (rows : List LR) : List (Int × Int × LR) := rows.zipIdx.map fun r => (k, (r.2 : Int), r.1)
def listed (T : LT) : List (Int × Int × LR) := (PySem.W.sortI (T.map (·.1))).flatMap fun k => placed k (rowsAt T k)
def ListTup (H : Hp) (t : Addr) (x : Int × Int × LR) : Prop := ∃ r, H t = some (.tup [.int x.1, .int x.2.1, .ref r]) ∧ LRAt H r x.2.2
theorem ListTup.mono {H H' : Hp} (e : Same H H') {t : Addr} {x : Int × Int × LR} (h : ListTup H t x) : ListTup H' t x := let ⟨r, a, b⟩ := h; ⟨r, e _ _ a, e _ _ b⟩
theorem placed_take {k : Int} {rows : List LR} {j : Nat} {lr : LR} (h : rows[j]? = some lr) : placed k (rows.take (j + 1)) = placed k (rows.take j) ++ [(k, (j : Int), lr)] := by
  have hj := (List.getElem?_eq_some_iff.mp h).1
  unfold placed
  rw [List.take_succ, h, List.zipIdx_append, List.map_append]
  congr 1
  simp
  omega
theorem fm_take {α β : Type} {l : List α} {f : α → List β} {i : Nat} {a : α} (h : l[i]? = some a) : (l.take (i + 1)).flatMap f = (l.take i).flatMap f ++ f a := by
  rw [List.take_succ, h, List.flatMap_append]
  simp
theorem fm_len {α β : Type} (l : List α) (f : α → List β) (i : Nat) : ((l.take i).flatMap f).length ≤ (l.flatMap f).length := by
  conv => rhs; rw [← List.take_append_drop i l]
  rw [List.flatMap_append, List.length_append]
  omega
def spListed : Sp := fun vs H Q _ => ∃ (a : Addr) (T : LT), vs = [.ref a] ∧ LTAt H a T ∧ T.length < 64 ∧ (listed T).length < sizeLine ∧
  ∀ p H' ts, Same H H' → H p = none → H' p = some (.lst (ts.map V.ref)) → Paired (ListTup H') ts (listed T) → Q (.ref p) H'
/-- the row stands in the heap of old -/
def LtUp (H H' : Hp) (t : Addr) (x : Int × Int × LR) : Prop := ∃ r, H' t = some (.tup [.int x.1, .int x.2.1, .ref r]) ∧ LRAt H r x.2.2
theorem LtUp.mut {H H' : Hp} {t p : Addr} {x : Int × Int × LR} {xs ys : List V} (h : LtUp H H' t x) (hp : H' p = some (.lst xs)) : LtUp H (upd H' p (.lst ys)) t x :=
  let ⟨r, a, b⟩ := h; ⟨r, by rw [upd_ne (fun z => by rw [z, hp] at a; cases a)]; exact a, b⟩
theorem LtUp.mono {H H1 H2 : Hp} (e : Same H1 H2) {t : Addr} {x : Int × Int × LR} (h : LtUp H H1 t x) : LtUp H H2 t x := let ⟨r, a, b⟩ := h; ⟨r, e _ _ a, b⟩
theorem ok_law_listed (T : Tx K mg) : DefOk P w K mg base ("_law_listed", none) ["things"] [] 1 spListed := by
  refine def_ok T.f_law_listed sc_law_listed (fun vs H Q E h => by first | (obtain ⟨ rfl, _⟩ := h; rfl) | (obtain ⟨_,  rfl, _⟩ := h; rfl) | (obtain ⟨_, _,  rfl, _⟩ := h; rfl) | (obtain ⟨_, _, _,  rfl, _⟩ := h; rfl) | (obtain ⟨_, _, _, _,  rfl, _⟩ := h; rfl) | (obtain ⟨_, _, _, _, _,  rfl, _⟩ := h; rfl) | (obtain ⟨_, _, _, _, _, _,  rfl, _⟩ := h; rfl) | (obtain ⟨_, _, _, _, _, _, _,  rfl, _⟩ := h; rfl) | (obtain ⟨_, _, _, _, _, _, _, _,  rfl, _⟩ := h; rfl) | (obtain ⟨_, _, _, _, _, _, _, _, _,  rfl, _⟩ := h; rfl) | (obtain ⟨_, _, _, _, _, _, _, _, _, _,  rfl, _⟩ := h; rfl) | (obtain ⟨_, _, _, _, _, _, _, _, _, _, _,  rfl, _⟩ := h; rfl) | (obtain ⟨_, _, _, _, _, _, _, _, _, _, _, _,  rfl, _⟩ := h; rfl) | (obtain ⟨_, _, _, _, _, _, _, _, _, _, _, _, _,  rfl, _⟩ := h; rfl)) (fun _ _ _ _ _ _ us hl => match us, hl with | [_], _ => rfl) (fun cdv A outer s H vs Q E hr h => ?_)
  have hu := hu_of hr
  refine ⟨_, (pss_cons (ps_set (i := 1) sc_law_listed.nd rfl (Or.inl rfl) (pe_lst pa_nil))
      (pss_cons (ps_for (passes_of rfl) rfl (listI (K := K) (pe_callB (call_sortedDI rfl) rfl T.b_sorted (by decide +kernel) (pa_cons (pv 0) pa_nil))) (pg_name (i := 2) sc_law_listed.nd rfl (Or.inl rfl))
      (pss_one (ps_for (passes_of rfl) rfl (pi_enum rfl T.b_enumerate (pa_cons (pe_dget hu (pv 0) (pv 2) (fun _ _ => rfl)) pa_nil)) (pg_tup rfl (pgs_cons (pg_name (i := 3) sc_law_listed.nd rfl (Or.inl rfl)) (pgs_cons (pg_name (i := 4) sc_law_listed.nd rfl (Or.inl rfl)) pgs_nil)))
      (pss_one (ps_expr (pe_bm PySem.F.plainAttrs_list PySem.F.slot_list_append PySem.F.type_list_append mt_append (pv 1) (pa_cons (pe_tup (pa_cons (pv 2) (pa_cons (pv 3) (pa_cons (pv 4) pa_nil)))) pa_nil)))))))
      (pss_one (ps_ret (pv 1))))), ?_⟩
  obtain ⟨a, T', rfl, ⟨kvs, ha, hkv⟩, h64, hlen, q⟩ := h
  have hkl : kvs.length = T'.length := hkv.length
  walk_at "go"
  refine ⟨by walk_at "sz", fun p hp => ?_⟩
  walk_at "go"
  refine ⟨a, kvs, T'.map (·.1), rfl, .inl (upd_free hp ha), by rw [List.map_map]; exact Paired.mapEq hkv fun _ _ z => z.1, by rw [List.length_map]; exact h64, fun ys kp hperm hso hkp => ?_⟩
  have hkpp : kp ≠ p := Ne.symm (ne_of_none upd_same hkp)
  have ey : ys = PySem.W.sortI (T'.map (·.1)) := PySem.W.eq_sortI hperm hso
  subst ey
  walk_at "go"
  refine ⟨⟨_, SqL.of upd_same⟩, for_list (K := K) (a := kp) (xs := (PySem.W.sortI (T'.map (·.1))).map V.int) (fun i σ H' => ∃ b1 b2 b3, σ = [some (.ref a), some (.ref p), b1, b2, b3] ∧ Same H H' ∧ H' kp = some (.lst ((PySem.W.sortI (T'.map (·.1))).map V.int)) ∧ ∃ ts : List Addr, H' p = some (.lst (ts.map V.ref)) ∧ Paired (LtUp H H') ts (((PySem.W.sortI (T'.map (·.1))).take i).flatMap fun k => placed k (rowsAt T' k)))
    ⟨none, none, none, rfl, (Same.new hp).trans (Same.new hkp), upd_same, [], upd_free hkp upd_same, .nil⟩ (fun i σ H' _ h => by obtain ⟨_, _, _, _, _, h, _⟩ := h; exact SqL.of h) ?_ ?_⟩
  · rintro i x σ H1 hi ⟨b1, b2, b3, rfl, sm, hk1, ts, hp1, hts⟩
    rw [List.getElem?_map] at hi
    obtain ⟨k, hk, rfl⟩ := Option.map_eq_some_iff.mp hi
    have hkm : k ∈ T'.map (·.1) := (PySem.W.sortI_perm _).mem_iff.mp (List.mem_of_getElem? hk)
    rcases LTAt.get hkv k with ⟨_, h2⟩ | ⟨l, rs, rows, hv, hlk, hl, hrs⟩
    · exfalso
      obtain ⟨x, hx, rfl⟩ := List.mem_map.mp hkm
      have := anyB T' x.1
      rw [h2] at this
      have h3 : (T'.any fun y => decide (y.1 = x.1)) = true := List.any_eq_true.mpr ⟨x, hx, by simp⟩
      rw [h3] at this
      cases this
    have ha1 := sm _ _ ha
    have hl1 := sm _ _ hl
    have hrw : rowsAt T' k = rows := by unfold rowsAt; rw [hlk]; rfl
    walk_at "go"
    refine ⟨l, rs.map V.ref, rfl, SqL.of hl1, for_it (walk_enum (K := K) (a := l) (xs := rs.map V.ref)) (fun j σ H' => ∃ b2 b3, σ = [some (.ref a), some (.ref p), some (.int k), b2, b3] ∧ Same H H' ∧ H' kp = some (.lst ((PySem.W.sortI (T'.map (·.1))).map V.int)) ∧ ∃ ts : List Addr, H' p = some (.lst (ts.map V.ref)) ∧ Paired (LtUp H H') ts (((PySem.W.sortI (T'.map (·.1))).take i).flatMap (fun k => placed k (rowsAt T' k)) ++ placed k (rows.take j)))
      ⟨b2, b3, rfl, sm, hk1, ts, hp1, by rw [show placed k (rows.take 0) = [] from rfl, List.append_nil]; exact hts⟩ (fun j σ H' _ h => by obtain ⟨_, _, _, h, _⟩ := h; exact SqL.of (h _ _ hl)) ?_ ?_⟩
    · rintro j y σ H2 H3 hj ⟨c2, c3, rfl, sm2, hk2, ts2, hp2, hts2⟩ ⟨c, y1, y2, rfl, hc, rfl, e1, e2⟩
      cases e1
      obtain ⟨r, hr1, rfl⟩ := refs_get e2
      obtain ⟨lr, hlr, hr2⟩ := Paired.at hrs hr1
      have hll := (List.getElem?_eq_some_iff.mp hlr).1
      have htl : ts2.length < sizeLine := by
        rw [hts2.length, List.length_append]
        have h1 := fm_len (PySem.W.sortI (T'.map (·.1))) (fun k => placed k (rowsAt T' k)) (i + 1)
        rw [fm_take hk, hrw, List.length_append] at h1
        have h2 : (placed k (rows.take j)).length = j := by unfold placed; simp; omega
        have h3 : (placed k rows).length = rows.length := by unfold placed; simp
        have h4 : ((PySem.W.sortI (T'.map (·.1))).flatMap fun k => placed k (rowsAt T' k)).length < sizeLine := hlen
        omega
      walk_at "go"
      refine ⟨.inl ⟨rfl, _, SqL.of (upd_free hc hp2)⟩, ?_⟩
      walk_at "go"
      refine ⟨by walk_at "sz", fun t ht => ?_⟩
      have hp3 := upd_free (o := .tup [.int k, .int (j : Nat), .ref r]) ht (upd_free (o := .tup [.int (j : Nat), .ref r]) hc hp2)
      refine ⟨p, _, _, rfl, rfl, hp3, by rw [List.length_map]; exact htl, ?_⟩
      have smN := (Same.new (o := .tup [.int (j : Nat), .ref r]) hc).trans (Same.new (o := .tup [.int k, .int (j : Nat), .ref r]) ht)
      refine ⟨_, _, rfl, (sm2.trans smN).mut hp, by rw [upd_ne hkpp]; exact smN _ _ hk2, ts2 ++ [t], by rw [upd_same, List.map_append]; rfl, ?_⟩
      rw [placed_take hlr, ← List.append_assoc]
      refine paired_app (L2.Paired.mapP hts2 fun u x h => (h.mono smN).mut hp3) (.cons ⟨r, ?_, hr2⟩ .nil)
      rw [upd_ne (Ne.symm (ne_of_none (upd_free hc hp2) ht))]
      exact upd_same
    · rintro σ H2 ⟨c2, c3, rfl, sm2, hk2, ts2, hp2, hts2⟩
      have : (rs.map V.ref).length = rows.length := by rw [List.length_map]; exact hrs.length
      rw [this, List.take_length] at hts2
      refine ⟨_, _, _, rfl, sm2, hk2, ts2, hp2, ?_⟩
      rw [fm_take hk, hrw]
      exact hts2
  · rintro σ H1 ⟨b1, b2, b3, rfl, sm, hk1, ts, hp1, hts⟩
    rw [List.length_map, List.take_length] at hts
    walk_at "go"
    exact q p H1 ts sm hp hp1 (L2.Paired.mapP hts fun t x h => let ⟨r, z1, z2⟩ := h; ⟨r, z1, sm _ _ z2⟩)


theorem inV_ints (l : List Int) (x : Int) : inV (.int x) (l.map V.int) = decide (x ∈ l) := by
  induction l with
  | nil => rfl
  | cons a l ih =>
    show (eqV (V.int a) (V.int x) || inV (V.int x) (l.map V.int)) = _
    rw [ih]
    have e : eqV (V.int a) (V.int x) = decide (a = x) := by
      show (a == x) = _
      by_cases h : a = x <;> simp [h]
    rw [e]
    by_cases h1 : a = x
    · subst h1; simp
    · have h1' : ¬ x = a := fun z => h1 z.symm
      by_cases h2 : x ∈ l <;> simp [h1, h1', h2]
theorem flat_ints (l : List Int) : (l.map V.int).all flatV = true := by
  induction l with
  | nil => rfl
  | cons a l ih => rw [List.map_cons, List.all_cons, ih]; rfl
def colOf (at_ : Nat) (x : LR) : Int := if at_ = 0 then x.a else x.b
def dueCol (T : LT) (at_ : Nat) : List Int := (listed T).map fun x => colOf at_ x.2.2
def dueTw (T : LT) (at_ : Nat) : Option (Int × Int) := (dupAt (dueCol T at_)).bind fun i => (listed T)[i]?.map fun x => (x.1, x.2.1)
def dueNw (T : LT) : Option (Int × Int) := (listed T).findSome? fun x => match x.2.2.c with
  | some g => if (lookB T g).isSome then none else some (x.1, x.2.1)
  | none => none
def atOf (c0 c : Str) : Nat := if c = c0 then 0 else 1
def dueOf (T : LT) (c0 c1 : Str) : Option (Str × Int × Int) := match (sortS [c0, c1]).findSome? fun c => dueTw T (atOf c0 c) with
  | some p => some ("Twice", p.1, p.2)
  | none => (dueNw T).map fun p => ("Nowhere", p.1, p.2)
def DueAt (H : Hp) (side : Str) (v : V) (d : Option (Str × Int × Int)) : Prop := match d with
  | some x => ∃ t, v = .ref t ∧ H t = some (.tup [.str x.1, .str side, .int x.2.1, .int x.2.2])
  | none => v = .non
theorem lr_at (lr : LR) (c0 c : Str) : (lrV lr)[atOf c0 c]? = some (.int (colOf (atOf c0 c) lr)) := by
  unfold atOf colOf lrV
  by_cases h : c = c0 <;> simp [h]
def spDue : Sp := fun vs H Q _ => ∃ (side c0 c1 : Str) (c a : Addr) (cr : List Str) (T : LT), vs = [.str side, .ref c, .ref a] ∧ H c = some (.lst ((c0 :: c1 :: cr).map V.str)) ∧ c0 ≠ c1 ∧ LTAt H a T ∧ T.length < 64 ∧ (listed T).length < 1000 ∧
  ∀ v H', Same H H' → DueAt H' side v (dueOf T c0 c1) → Q v H'
theorem ok_law_due (T : Tx K mg) : DefOk P w K mg base ("_law_due", none) ["side", "columns", "things"] [] 2 spDue := by
  refine def_ok T.f_law_due sc_law_due (fun vs H Q E h => by first | (obtain ⟨ rfl, _⟩ := h; rfl) | (obtain ⟨_,  rfl, _⟩ := h; rfl) | (obtain ⟨_, _,  rfl, _⟩ := h; rfl) | (obtain ⟨_, _, _,  rfl, _⟩ := h; rfl) | (obtain ⟨_, _, _, _,  rfl, _⟩ := h; rfl) | (obtain ⟨_, _, _, _, _,  rfl, _⟩ := h; rfl) | (obtain ⟨_, _, _, _, _, _,  rfl, _⟩ := h; rfl) | (obtain ⟨_, _, _, _, _, _, _,  rfl, _⟩ := h; rfl) | (obtain ⟨_, _, _, _, _, _, _, _,  rfl, _⟩ := h; rfl) | (obtain ⟨_, _, _, _, _, _, _, _, _,  rfl, _⟩ := h; rfl) | (obtain ⟨_, _, _, _, _, _, _, _, _, _,  rfl, _⟩ := h; rfl) | (obtain ⟨_, _, _, _, _, _, _, _, _, _, _,  rfl, _⟩ := h; rfl) | (obtain ⟨_, _, _, _, _, _, _, _, _, _, _, _,  rfl, _⟩ := h; rfl) | (obtain ⟨_, _, _, _, _, _, _, _, _, _, _, _, _,  rfl, _⟩ := h; rfl)) (fun _ _ _ _ _ _ us hl => match us, hl with | [_, _, _], _ => rfl) (fun cdv A outer s H vs Q E hr h => ?_)
  have hu := hu_of hr
  refine ⟨_, (pss_cons (ps_set (i := 3) sc_law_due.nd rfl (Or.inl rfl) (callK (ok_law_listed T) hr (by decide) (takes_of rfl rfl rfl rfl) T.g_law_listed (pa_cons (pv 2) pa_nil)))
      (pss_cons (ps_for (passes_of rfl) rfl (listI (K := K) (pe_callB (sortSXK (K := K)) rfl T.b_sorted (by decide +kernel) (pa_cons (pe_lst (pa_cons (pe_tup (pa_cons (pe_ix (ixL (K := K)) (pv 1) pe_int (fun _ _ => rfl)) (pa_cons pe_int pa_nil))) (pa_cons (pe_tup (pa_cons (pe_ix (ixL (K := K)) (pv 1) pe_int (fun _ _ => rfl)) (pa_cons pe_int pa_nil))) pa_nil))) pa_nil))) (pg_tup rfl (pgs_cons (pg_name (i := 4) sc_law_due.nd rfl (Or.inl rfl)) (pgs_cons (pg_name (i := 5) sc_law_due.nd rfl (Or.inl rfl)) pgs_nil)))
      (pss_cons (ps_set (i := 6) sc_law_due.nd rfl (Or.inl rfl) (pe_lst pa_nil))
      (pss_one (ps_for (passes_of rfl) rfl (listI (K := K) (pv 3)) (pg_tup rfl (pgs_cons (pg_name (i := 7) sc_law_due.nd rfl (Or.inl rfl)) (pgs_cons (pg_name (i := 8) sc_law_due.nd rfl (Or.inl rfl)) (pgs_cons (pg_name (i := 9) sc_law_due.nd rfl (Or.inl rfl)) pgs_nil))))
      (pss_cons (ps_if (pt_cmpR (inQ (K := K)) (pe_ix (ixL (K := K)) (pv 9) (pv 5) (fun _ _ => rfl)) (pv 6) (by with_unfolding_all rfl))
      (pss_one (ps_ret (pe_tup (pa_cons pe_str (pa_cons (pv 0) (pa_cons (pv 7) (pa_cons (pv 8) pa_nil)))))))
      pss_nil)
      (pss_one (ps_expr (pe_bm PySem.F.plainAttrs_list PySem.F.slot_list_append PySem.F.type_list_append mt_append (pv 6) (pa_cons (pe_ix (ixL (K := K)) (pv 9) (pv 5) (fun _ _ => rfl)) pa_nil)))))))))
      (pss_cons (ps_for (passes_of rfl) rfl (listI (K := K) (pv 3)) (pg_tup rfl (pgs_cons (pg_name (i := 7) sc_law_due.nd rfl (Or.inl rfl)) (pgs_cons (pg_name (i := 8) sc_law_due.nd rfl (Or.inl rfl)) (pgs_cons (pg_name (i := 9) sc_law_due.nd rfl (Or.inl rfl)) pgs_nil))))
      (pss_one (ps_if (PW.pt (pw_and (pt_cmpR op_notN (pe_ix (ixL (K := K)) (pv 9) pe_int (fun _ _ => rfl)) pe_non (nomark _)) (pw_and1 (pt_cmp (pc_dnotin hu (pe_ix (ixL (K := K)) (pv 9) pe_int (fun _ _ => rfl)) (pv 2)) (by with_unfolding_all rfl)))))
      (pss_one (ps_ret (pe_tup (pa_cons pe_str (pa_cons (pv 0) (pa_cons (pv 7) (pa_cons (pv 8) pa_nil)))))))
      pss_nil)))
      (pss_one (ps_ret pe_non))))), ?_⟩
  obtain ⟨side, c0, c1, c, a, cr, T', rfl, hc, hne, hT, h64, hlen, q⟩ := h
  have hc : H c = some (.lst (.str c0 :: .str c1 :: cr.map V.str)) := hc
  walk_at "go"
  refine ⟨a, T', rfl, hT, h64, small1000 (by omega), fun rp H1 ts sm1 hrp hr1 hts => ?_⟩
  have hc1 := sm1 _ _ hc
  walk_at "go"
  refine ⟨by walk_at "sz", fun t0 ht0 => ?_⟩
  walk_at "go"
  refine ⟨by walk_at "sz", fun t1 ht1 => ?_⟩
  walk_at "go"
  refine ⟨by walk_at "sz", fun lp hlp => ?_⟩
  walk_at "go"
  have h01 : t1 ≠ t0 := Ne.symm (ne_of_none upd_same ht1)
  let kz : Addr → Str := fun t => if t = t0 then c0 else c1
  have k0 : kz t0 = c0 := if_pos rfl
  have k1 : kz t1 = c1 := if_neg h01
  have e0 : (upd (upd (upd H1 t0 (.tup [.str c0, .int 0])) t1 (.tup [.str c1, .int 1])) lp (.lst [.ref t0, .ref t1])) t0 = some (.tup [.str c0, .int 0]) := upd_free hlp (upd_free ht1 upd_same)
  have e1 : (upd (upd (upd H1 t0 (.tup [.str c0, .int 0])) t1 (.tup [.str c1, .int 1])) lp (.lst [.ref t0, .ref t1])) t1 = some (.tup [.str c1, .int 1]) := upd_free hlp upd_same
  have sm2 : Same H1 (upd (upd (upd H1 t0 (.tup [.str c0, .int 0])) t1 (.tup [.str c1, .int 1])) lp (.lst [.ref t0, .ref t1])) := ((Same.new ht0).trans (Same.new ht1)).trans (Same.new hlp)
  have el : SqL K (upd (upd (upd H1 t0 (.tup [.str c0, .int 0])) t1 (.tup [.str c1, .int 1])) lp (.lst [.ref t0, .ref t1])) lp ([t0, t1].map V.ref) := SqL.of upd_same
  generalize (upd (upd (upd H1 t0 (.tup [.str c0, .int 0])) t1 (.tup [.str c1, .int 1])) lp (.lst [.ref t0, .ref t1])) = H2 at e0 e1 sm2 el
  have hat : ∀ t ∈ [t0, t1], H2 t = some (.tup [.str (kz t), .int (atOf c0 (kz t) : Nat)]) := fun t ht => by
    rcases List.mem_cons.mp ht with rfl | ht
    · rw [k0, show atOf c0 c0 = 0 from if_pos rfl]; exact e0
    · cases List.mem_singleton.mp ht
      rw [k1, show atOf c0 c1 = 1 from if_neg (Ne.symm hne)]; exact e1
  refine ⟨lp, [t0, t1], kz, rfl, el, fun t ht => ⟨_, hat t ht⟩, fun t ht u hu e => ?_, fun ts' p hperm hsrt hp => ?_⟩
  · rcases List.mem_cons.mp ht with q1 | q1 <;> rcases List.mem_cons.mp hu with q2 | q2
    · rw [q1, q2]
    · have q2 := List.mem_singleton.mp q2; rw [q1, q2, k0, k1] at e; exact absurd e hne
    · have q1 := List.mem_singleton.mp q1; rw [q1, q2, k0, k1] at e; exact absurd e.symm hne
    · rw [List.mem_singleton.mp q1, List.mem_singleton.mp q2]
  have hkz : ts'.map kz = sortS [c0, c1] := by
    refine eq_sortS' ?_ (List.pairwise_map.mpr hsrt)
    have := hperm.map kz
    rw [List.map_cons, List.map_cons, k0, k1] at this
    exact this
  have sm3 := sm2.trans (Same.new (o := .lst (ts'.map V.ref)) hp)
  have hp3 : (upd H2 p (.lst (ts'.map V.ref))) p = _ := upd_same
  have hat3 : ∀ t ∈ ts', (upd H2 p (.lst (ts'.map V.ref))) t = some (.tup [.str (kz t), .int (atOf c0 (kz t) : Nat)]) := fun t ht => upd_free hp (hat t (hperm.mem_iff.mp ht))
  generalize (upd H2 p (.lst (ts'.map V.ref))) = H3 at sm3 hp3 hat3
  walk_at "go"
  have hr3 := sm3 _ _ hr1
  have hts3 : Paired (ListTup H3) ts (listed T') := L2.Paired.mapP hts fun _ _ z => z.mono sm3
  have hlen3 : ts.length = (listed T').length := hts.length
  refine ⟨⟨_, SqL.of hp3⟩, for_list (K := K) (a := p) (xs := ts'.map V.ref) (fun i σ H' => ∃ b1 b2 b3 b4 b5 b6, σ = [some (.str side), some (.ref c), some (.ref a), some (.ref rp), b1, b2, b3, b4, b5, b6] ∧ Same H3 H' ∧ ((ts'.map kz).take i).findSome? (fun c => dueTw T' (atOf c0 c)) = none) ⟨none, none, none, none, none, none, rfl, Same.refl _, rfl⟩ (fun i σ H' _ h => by obtain ⟨_, _, _, _, _, _, _, h, _⟩ := h; exact SqL.of (h _ _ hp3)) ?_ ?_⟩
  · rintro i x σ H4 hi ⟨b1, b2, b3, b4, b5, b6, rfl, sm4, hn4⟩
    obtain ⟨t, ht, rfl⟩ := refs_get hi
    have htc := sm4 _ _ (hat3 t (List.mem_of_getElem? ht))
    have hck : (ts'.map kz)[i]? = some (kz t) := by rw [List.getElem?_map, ht]; rfl
    walk_at "go"
    refine ⟨by walk_at "sz", fun sa hsa => ?_⟩
    walk_at "go"
    refine ⟨⟨_, SqL.of (upd_free hsa (sm4 _ _ hr3))⟩, for_list (K := K) (a := rp) (xs := ts.map V.ref) (fun j σ H' => ∃ b4 b5 b6, σ = [some (.str side), some (.ref c), some (.ref a), some (.ref rp), some (.str (kz t)), some (.int (atOf c0 (kz t) : Nat)), some (.ref sa), b4, b5, b6] ∧ Same H4 H' ∧ H' sa = some (.lst (((dueCol T' (atOf c0 (kz t))).take j).map V.int)) ∧ ((List.range (dueCol T' (atOf c0 (kz t))).length).take j).findSome? (fun i => match (dueCol T' (atOf c0 (kz t)))[i]? with
      | some x => if x ∈ (dueCol T' (atOf c0 (kz t))).take i then some i else none
      | none => none) = none) ⟨b4, b5, b6, rfl, Same.new hsa, upd_same, rfl⟩ (fun i σ H' _ h => by obtain ⟨_, _, _, _, h, _⟩ := h; exact SqL.of (h _ _ (sm4 _ _ hr3))) ?_ ?_⟩
    · rintro j x σ H5 hj ⟨d4, d5, d6, rfl, sm5, hs5, hn5⟩
      obtain ⟨u, hu, rfl⟩ := refs_get hj
      obtain ⟨x, hx, r, hxr, hlr⟩ := Paired.at hts3 hu
      have hxr5 := sm5 _ _ (sm4 _ _ hxr)
      have hlr5 : H5 r = some (.lst (lrV x.2.2)) := sm5 _ _ (sm4 _ _ hlr)
      walk_at "go"
      have hci : (dueCol T' (atOf c0 (kz t)))[j]? = some (colOf (atOf c0 (kz t)) x.2.2) := by unfold dueCol; rw [List.getElem?_map, hx]; rfl
      have hrg : (List.range (dueCol T' (atOf c0 (kz t))).length)[j]? = some j := by rw [List.getElem?_range (List.getElem?_eq_some_iff.mp hci).1]
      have hjl := (List.getElem?_eq_some_iff.mp hx).1
      refine ⟨r, _, _, _, rfl, rfl, SqL.of hlr5, atI_nat (lr_at x.2.2 c0 (kz t)), ?_⟩
      walk_at "go"
      refine ⟨sa, _, rfl, .inl (SqL.of hs5), rfl, flat_ints _, ?_⟩
      refine ⟨_, rfl, ?_⟩
      show if inV _ _ = true then _ else _
      rw [inV_ints]
      refine iteD (fun hdup => ?_) (fun hdup => ?_)
      · walk_at "go"
        refine ⟨by walk_at "sz", fun rt hrt => q _ _ (((sm1.trans sm3).trans (sm4.trans sm5)).trans (Same.new hrt)) ?_⟩
        have h1 : dupAt (dueCol T' (atOf c0 (kz t))) = some j := fs_at hrg hn5 (by rw [hci]; exact if_pos hdup)
        have h2 : (sortS [c0, c1]).findSome? (fun c => dueTw T' (atOf c0 c)) = some (x.1, x.2.1) := by
          rw [← hkz]
          refine fs_at hck hn4 ?_
          unfold dueTw
          rw [h1]
          show ((listed T')[j]?).map _ = _
          rw [hx]
          rfl
        unfold dueOf
        rw [h2]
        exact ⟨rt, rfl, upd_same⟩
      · walk_at "go"
        refine ⟨.inl ⟨rfl, _, SqL.of hs5⟩, ?_⟩
        walk_at "go"
        refine ⟨r, _, _, _, rfl, rfl, SqL.of hlr5, atI_nat (lr_at x.2.2 c0 (kz t)), ?_⟩
        refine ⟨sa, _, _, rfl, rfl, hs5, by rw [List.length_map, List.length_take]; exact small1000 (by omega), ?_⟩
        refine ⟨_, _, _, rfl, sm5.mut hsa, ?_, fs_next hrg hn5 (by rw [hci]; exact if_neg hdup)⟩
        rw [upd_same, List.take_succ, hci, List.map_append]
        rfl
    · rintro σ H5 ⟨d4, d5, d6, rfl, sm5, hs5, hn5⟩
      refine ⟨_, _, _, _, _, _, rfl, sm4.trans sm5, fs_next hck hn4 ?_⟩
      have hdl : (dueCol T' (atOf c0 (kz t))).length = ts.length := by unfold dueCol; rw [List.length_map, hlen3]
      rw [List.length_map, ← hdl, List.take_of_length_le (by rw [List.length_range]; exact Nat.le_refl _)] at hn5
      have : dupAt (dueCol T' (atOf c0 (kz t))) = none := hn5
      unfold dueTw
      rw [this]
      rfl
  · rintro σ H4 ⟨b1, b2, b3, b4, b5, b6, rfl, sm4, hn4⟩
    have hn5 : (sortS [c0, c1]).findSome? (fun c => dueTw T' (atOf c0 c)) = none := by
      rw [← hkz]
      have : (ts'.map V.ref).length = (ts'.map kz).length := by rw [List.length_map, List.length_map]
      rw [this, List.take_length] at hn4
      exact hn4
    obtain ⟨kvs, hk, hkv⟩ := hT
    walk_at "go"
    refine ⟨⟨_, SqL.of (sm4 _ _ hr3)⟩, for_list (K := K) (a := rp) (xs := ts.map V.ref) (fun j σ H' => ∃ b1 b2 b3 b4 b5 b6, σ = [some (.str side), some (.ref c), some (.ref a), some (.ref rp), b1, b2, b3, b4, b5, b6] ∧ H' = H4 ∧ ((listed T').take j).findSome? (fun x => match x.2.2.c with
      | some g => if (lookB T' g).isSome then none else some (x.1, x.2.1)
      | none => none) = none) ⟨b1, b2, b3, b4, b5, b6, rfl, rfl, rfl⟩ (fun i σ H' _ h => by obtain ⟨_, _, _, _, _, _, _, h, _⟩ := h; rw [h]; exact SqL.of (sm4 _ _ hr3)) ?_ ?_⟩
    · rintro j x σ H5 hj ⟨d1, d2, d3, d4, d5, d6, rfl, rfl, hn6⟩
      obtain ⟨u, hu, rfl⟩ := refs_get hj
      obtain ⟨x, hx, r, hxr, hlr⟩ := Paired.at hts3 hu
      have hxr5 := sm4 _ _ hxr
      have hlr5 : H5 r = some (.lst [.int x.2.2.a, .int x.2.2.b, ptrV x.2.2.c, .int x.2.2.w]) := sm4 _ _ hlr
      have hk5 := sm4 _ _ (sm3 _ _ (sm1 _ _ hk))
      cases hcc : x.2.2.c with
      | none =>
        rw [hcc] at hlr5
        have hlr5 : H5 r = some (.lst [.int x.2.2.a, .int x.2.2.b, .non, .int x.2.2.w]) := hlr5
        walk_at "go"
        refine ⟨_, _, _, _, _, _, rfl, rfl, fs_next hx hn6 ?_⟩
        rw [hcc]
      | some g =>
        rw [hcc] at hlr5
        have hlr5 : H5 r = some (.lst [.int x.2.2.a, .int x.2.2.b, .int g, .int x.2.2.w]) := hlr5
        rcases LTAt.get hkv g with ⟨h1, h2⟩ | ⟨_, _, rows, h1, h2, _⟩
        · walk_at "go"
          refine ⟨by walk_at "sz", fun rt hrt => q _ _ (((sm1.trans sm3).trans sm4).trans (Same.new hrt)) ?_⟩
          have h3 : dueNw T' = some (x.1, x.2.1) := by
            refine fs_at hx hn6 ?_
            rw [hcc]
            show (if (lookB T' g).isSome then none else some (x.1, x.2.1)) = _
            rw [h2]
            rfl
          unfold dueOf
          rw [hn5, h3]
          exact ⟨rt, rfl, upd_same⟩
        · walk_at "go"
          refine ⟨_, _, _, _, _, _, rfl, rfl, fs_next hx hn6 ?_⟩
          rw [hcc]
          show (if (lookB T' g).isSome then none else some (x.1, x.2.1)) = _
          rw [h2]
          rfl
    · rintro σ H5 ⟨d1, d2, d3, d4, d5, d6, rfl, rfl, hn6⟩
      have : (ts.map V.ref).length = (listed T').length := by rw [List.length_map, hlen3]
      rw [this, List.take_length] at hn6
      walk_at "go"
      refine q _ _ ((sm1.trans sm3).trans sm4) ?_
      have h2 : dueNw T' = none := hn6
      unfold dueOf
      rw [hn5, h2]
      rfl


def okPtr (held keys : List Int) (lr : LR) : Prop := ∀ g, lr.c = some g → g ∈ held ∨ g ∈ keys
/-- the rows while they are made -/
def RowsSt (H : Hp) (b p : Addr) (held keys : List Int) (n : Nat) (H' : Hp) : Prop := ∃ rs lrs, lrs.length = n ∧ SameB b H H' ∧ H' p = some (.lst (rs.map V.ref)) ∧ Paired (LRAt H') rs lrs ∧ (∀ lr ∈ lrs, okPtr held keys lr) ∧ rs.Nodup ∧ ∀ r ∈ rs, H r = none ∧ r ≠ b ∧ r ≠ p
theorem RowsSt.same {H H' H2 : Hp} {b p : Addr} {held keys : List Int} {n : Nat} (h : RowsSt H b p held keys n H') (e : Same H' H2) : RowsSt H b p held keys n H2 := by
  obtain ⟨rs, lrs, a1, a2, a3, a4, a5, a6, a7⟩ := h
  exact ⟨rs, lrs, a1, a2.same e, e _ _ a3, L2.Paired.mapP a4 fun _ _ z => e _ _ z, a5, a6, a7⟩
theorem RowsSt.box {H H' : Hp} {b p : Addr} {held keys : List Int} {n : Nat} {o : HO} (h : RowsSt H b p held keys n H') (ho : BoxO o) (hpb : p ≠ b) : RowsSt H b p held keys n (upd H' b o) := by
  obtain ⟨rs, lrs, a1, a2, a3, a4, a5, a6, a7⟩ := h
  refine ⟨rs, lrs, a1, a2.trans (SameB.box ho), by rw [upd_ne hpb]; exact a3, paired_mem a4 fun r lr hr z => ?_, a5, a6, a7⟩
  show upd H' b o r = _
  rw [upd_ne (a7 r hr).2.1]
  exact z
theorem RowsSt.sb {H H' : Hp} {b p : Addr} {held keys : List Int} {n : Nat} (h : RowsSt H b p held keys n H') : SameB b H H' := let ⟨_, _, _, a, _⟩ := h; a
theorem ixN_nt {n j : Nat} (hj : j < n) : ixN n (j : Int) = some j := by
  unfold ixN
  rw [if_pos (by omega), if_pos (by omega), Int.toNat_natCast]
theorem paired_set {α β : Type} {F G : α → β → Prop} {l : List α} {m : List β} (h : Paired F l m) (nd : l.Nodup) {i : Nat} {a : α} {b' : β} (hi : l[i]? = some a) (e : ∀ x y, x ∈ l → x ≠ a → F x y → G x y) (g : G a b') : Paired G l (m.set i b') := by
  induction h generalizing i with
  | nil => cases hi
  | @cons x y l m r rs ih =>
    obtain ⟨n1, n2⟩ := List.nodup_cons.mp nd
    cases i with
    | zero =>
      cases hi
      refine .cons g (paired_mem rs fun u v hu f => e u v (List.mem_cons_of_mem _ hu) (fun z => n1 (z ▸ hu)) f)
    | succ i =>
      have hi : l[i]? = some a := hi
      refine .cons (e x y List.mem_cons_self (fun z => n1 (z ▸ List.mem_of_getElem? hi)) r) (ih n2 hi fun u v hu => e u v (List.mem_cons_of_mem _ hu))
theorem RowsSt.row {H H' : Hp} {b p : Addr} {held keys : List Int} {n : Nat} (h : RowsSt H b p held keys n H') {i : Nat} (hi : i < n) : ∃ (rs : List Addr) (r : Addr) (lr : LR), H' p = some (.lst (rs.map V.ref)) ∧ rs[i]? = some r ∧ H' r = some (.lst (lrV lr)) ∧ okPtr held keys lr ∧
    ∀ lr', okPtr held keys lr' → RowsSt H b p held keys n (upd H' r (.lst (lrV lr'))) := by
  obtain ⟨rs, lrs, a1, a2, a3, a4, a5, a6, a7⟩ := h
  have hl := a4.length
  have hi2 : i < rs.length := by omega
  have hr : rs[i]? = some rs[i] := List.getElem?_eq_getElem hi2
  obtain ⟨lr, h1, h2⟩ := Paired.at a4 hr
  have h2 : H' rs[i] = some (.lst (lrV lr)) := h2
  obtain ⟨f1, f2, f3⟩ := a7 _ (List.mem_of_getElem? hr)
  refine ⟨rs, rs[i], lr, a3, hr, h2, a5 _ (List.mem_of_getElem? h1), fun lr' ok => ⟨rs, lrs.set i lr', by rw [List.length_set]; exact a1, a2.mut f1 f2, by rw [upd_ne (Ne.symm f3)]; exact a3, paired_set a4 a6 hr (fun x y hx ne z => ?_) upd_same, fun x hx => ?_, a6, a7⟩⟩
  · show upd H' _ _ x = _
    rw [upd_ne ne]; exact z
  · rcases List.mem_or_eq_of_mem_set hx with h | h
    · exact a5 x h
    · rw [h]; exact ok
theorem lr_set {held keys : List Int} {lr : LR} (ok : okPtr held keys lr) {wh : Nat} (hw : wh < 3) {z : Int} (hz : wh = 2 → z ∈ keys) : ∃ lr', (lrV lr).set wh (.int z) = lrV lr' ∧ okPtr held keys lr' := by
  match wh, hw with
  | 0, _ => exact ⟨{ lr with a := z }, rfl, ok⟩
  | 1, _ => exact ⟨{ lr with b := z }, rfl, ok⟩
  | 2, _ => exact ⟨{ lr with c := some z }, rfl, fun g e => by cases e; exact .inr (hz rfl)⟩
def spRowsOf : Sp := fun vs H Q _ => ∃ (b ks hd : Addr) (base at_ : Int) (many : Nat) (keys held : List Int), vs = [.ref b, .int base, .ref ks, .int at_, .int many, .ref hd] ∧ BoxAt H b ∧ H ks = some (.lst (keys.map V.int)) ∧ ks ≠ b ∧ keys ≠ [] ∧ keys.length ≤ 100 ∧ H hd = some (.lst (held.map V.int)) ∧ hd ≠ b ∧ held.length ≤ 100 ∧ many ≤ 100 ∧
  ∀ p H' rs lrs, lrs.length = many → SameB b H H' → H p = none → H' p = some (.lst (rs.map V.ref)) → Paired (LRAt H') rs lrs → (∀ lr ∈ lrs, okPtr held keys lr) → Q (.ref p) H'
theorem ok_law_rows (T : Tx K mg) : DefOk P w K mg base ("_law_rows", none) ["box", "base", "keys", "at", "many", "held"] [] 3 spRowsOf := by
  refine def_ok T.f_law_rows sc_law_rows (fun vs H Q E h => by first | (obtain ⟨ rfl, _⟩ := h; rfl) | (obtain ⟨_,  rfl, _⟩ := h; rfl) | (obtain ⟨_, _,  rfl, _⟩ := h; rfl) | (obtain ⟨_, _, _,  rfl, _⟩ := h; rfl) | (obtain ⟨_, _, _, _,  rfl, _⟩ := h; rfl) | (obtain ⟨_, _, _, _, _,  rfl, _⟩ := h; rfl) | (obtain ⟨_, _, _, _, _, _,  rfl, _⟩ := h; rfl) | (obtain ⟨_, _, _, _, _, _, _,  rfl, _⟩ := h; rfl) | (obtain ⟨_, _, _, _, _, _, _, _,  rfl, _⟩ := h; rfl) | (obtain ⟨_, _, _, _, _, _, _, _, _,  rfl, _⟩ := h; rfl) | (obtain ⟨_, _, _, _, _, _, _, _, _, _,  rfl, _⟩ := h; rfl) | (obtain ⟨_, _, _, _, _, _, _, _, _, _, _,  rfl, _⟩ := h; rfl) | (obtain ⟨_, _, _, _, _, _, _, _, _, _, _, _,  rfl, _⟩ := h; rfl) | (obtain ⟨_, _, _, _, _, _, _, _, _, _, _, _, _,  rfl, _⟩ := h; rfl)) (fun _ _ _ _ _ _ us hl => match us, hl with | [_, _, _, _, _, _], _ => rfl) (fun cdv A outer s H vs Q E hr h => ?_)
  have hu := hu_of hr
  refine ⟨_, (pss_cons (ps_set (i := 6) sc_law_rows.nd rfl (Or.inl rfl) (pe_lst pa_nil))
      (pss_cons (ps_for (passes_of rfl) rfl (pi_range1 rfl T.b_range (pa_cons (pv 4) pa_nil)) (pg_name (i := 7) sc_law_rows.nd rfl (Or.inl rfl))
      (pss_one (ps_expr (pe_bm PySem.F.plainAttrs_list PySem.F.slot_list_append PySem.F.type_list_append mt_append (pv 6) (pa_cons (pe_lst (pa_cons (pe_op op_add (pe_op op_add (pv 1) (pe_op op_mulA pe_int (pv 3))) (pv 7)) (pa_cons (pe_op op_sub (pe_op op_sub (pv 1) (pe_op op_mulA pe_int (pv 3))) (pv 7)) (pa_cons (callK (ok_law_pick T) hr (by decide) (takes_of rfl rfl rfl rfl) T.g_law_pick (pa_cons (pv 0) (pa_cons (pe_op op_cat (pe_lst (pa_cons pe_non pa_nil)) (pv 5)) pa_nil))) (pa_cons (callK (ok_law_take T) hr (by decide) (takes_of rfl rfl rfl rfl) T.g_law_take (pa_cons (pv 0) (pa_cons pe_int pa_nil))) pa_nil))))) pa_nil)))))
      (pss_cons (ps_set (i := 8) sc_law_rows.nd rfl (Or.inl rfl) (callK (ok_law_take T) hr (by decide) (takes_of rfl rfl rfl rfl) T.g_law_take (pa_cons (pv 0) (pa_cons pe_int pa_nil))))
      (pss_cons (ps_for (passes_of rfl) rfl (pi_range1 rfl T.b_range (pa_cons (callK (ok_law_take T) hr (by decide) (takes_of rfl rfl rfl rfl) T.g_law_take (pa_cons (pv 0) (pa_cons pe_int pa_nil))) pa_nil)) (pg_name (i := 9) sc_law_rows.nd rfl (Or.inl rfl))
      (pss_cons (ps_set (i := 7) sc_law_rows.nd rfl (Or.inl rfl) (callK (ok_law_take T) hr (by decide) (takes_of rfl rfl rfl rfl) T.g_law_take (pa_cons (pv 0) (pa_cons (pe_callB (call_max2 rfl) rfl T.b_max (by decide +kernel) (pa_cons pe_int (pa_cons (pv 4) pa_nil))) pa_nil))))
      (pss_cons (ps_set (i := 10) sc_law_rows.nd rfl (Or.inl rfl) (pe_op op_add (pe_op op_mulA (callK (ok_law_pick T) hr (by decide) (takes_of rfl rfl rfl rfl) T.g_law_pick (pa_cons (pv 0) (pa_cons (pe_lst (pa_cons (pv 3) (pa_cons (callK (ok_law_take T) hr (by decide) (takes_of rfl rfl rfl rfl) T.g_law_take (pa_cons (pv 0) (pa_cons pe_int pa_nil))) pa_nil))) pa_nil))) pe_int) (callK (ok_law_take T) hr (by decide) (takes_of rfl rfl rfl rfl) T.g_law_take (pa_cons (pv 0) (pa_cons pe_int pa_nil)))))
      (pss_cons (ps_set (i := 11) sc_law_rows.nd rfl (Or.inl rfl) (pe_ix (ixL (K := K)) (pe_lst (pa_cons (pe_op op_add (pv 1) (pv 10)) (pa_cons (pe_op op_sub (pv 1) (pv 10)) (pa_cons (callK (ok_law_pick T) hr (by decide) (takes_of rfl rfl rfl rfl) T.g_law_pick (pa_cons (pv 0) (pa_cons (pv 2) pa_nil))) pa_nil)))) (pv 8) (fun _ _ => rfl)))
      (pss_one (ps_if (pt_cmpR op_gt (pv 4) pe_int (nomark _))
      (pss_one (ps_asg (pv 11) (pg_sub (pe_ix (ixL (K := K)) (pv 6) (pv 7) (fun _ _ => rfl)) (pv 8) set_list)))
      pss_nil))))))
      (pss_one (ps_ret (pv 6))))))), ?_⟩
  obtain ⟨b, ks, hd, base, at_, many, keys, held, rfl, hb, hks, hkb, hk0, hkl, hhd, hhb, hhl, hm, q⟩ := h
  walk_at "go"
  refine ⟨by walk_at "sz", fun p hp => ?_⟩
  have hpb := hb.ne hp
  walk_at "go"
  refine ⟨by omega, by omega, for_range (lo := 0) (n := many) (fun i σ H' => ∃ v7 : Option V, σ = [some (.ref b), some (.int base), some (.ref ks), some (.int at_), some (.int many), some (.ref hd), some (.ref p), v7, none, none, none, none] ∧ RowsSt H b p held keys i H')
    ⟨none, rfl, [], [], rfl, (SameB.refl hb).same (Same.new hp), upd_same, .nil, (fun lr h => by cases h), .nil, fun r h => by cases h⟩ ?_ ?_⟩
  · rintro i σ H1 hi ⟨v7, rfl, hst⟩
    have hks1 := hst.sb.1 _ _ hks hkb
    have hhd1 := hst.sb.1 _ _ hhd hhb
    obtain ⟨rs0, lrs0, n1, n2, n3, n4, n5, n6, n7⟩ := id hst
    walk_at "go"
    refine ⟨.inl ⟨rfl, _, SqL.of n3⟩, ?_⟩
    walk_at "go"
    refine ⟨by walk_at "sz", fun x1 hx1 => ?_⟩
    walk_at "go"
    refine ⟨x1, hd, [.non], held.map V.int, rfl, rfl, upd_same, upd_free hx1 hhd1, by rw [List.length_map]; exact Nat.le_of_lt (small1000 (by show 1 + held.length ≤ 1000; omega)), fun x2 hx2 => ?_⟩
    have st2 := (hst.same (Same.new (o := .lst [.non]) hx1)).same (Same.new (o := .lst ([.non] ++ held.map V.int)) hx2)
    have hx2b : x2 ≠ b := (hst.same (Same.new (o := .lst [.non]) hx1)).sb.2.ne hx2
    have hx2l : (upd (upd H1 x1 (.lst [.non])) x2 (.lst ([.non] ++ held.map V.int))) x2 = some (.lst ([.non] ++ held.map V.int)) := upd_same
    generalize (upd (upd H1 x1 (.lst [.non])) x2 (.lst ([.non] ++ held.map V.int))) = H2 at st2 hx2l
    walk_at "go"
    refine ⟨b, x2, _, rfl, st2.sb.2, hx2l, hx2b, (fun z => by cases z), by rw [List.length_append, List.length_map]; show 1 + held.length ≤ 1000; omega, fun cv hcv o ho => ?_⟩
    have st3 := st2.box ho hpb
    generalize upd H2 b o = H3 at st3
    walk_at "go"
    refine ⟨b, 5, rfl, st3.sb.2, by omega, by decide +kernel, fun d o2 hd0 hd1 ho2 => ?_⟩
    have st4 := st3.box ho2 hpb
    generalize upd H3 b o2 = H4 at st4
    walk_at "go"
    refine ⟨by walk_at "sz", fun r hr => ?_⟩
    obtain ⟨c, hc, hcm⟩ : ∃ c, cv = ptrV c ∧ ∀ g, c = some g → g ∈ held := by
      rcases List.mem_append.mp hcv with h | h
      · exact ⟨none, List.mem_singleton.mp h, fun g z => by cases z⟩
      · obtain ⟨g, hg, rfl⟩ := List.mem_map.mp h
        exact ⟨some g, rfl, fun g' z => by cases z; exact hg⟩
    subst hc
    obtain ⟨rs, lrs, a1, a2, a3, a4, a5, a6, a7⟩ := st4
    have hrb := a2.2.ne hr
    have hrp : r ≠ p := Ne.symm (ne_of_none a3 hr)
    refine ⟨p, _, _, rfl, rfl, upd_free hr a3, by rw [List.length_map, a4.length]; exact small1000 (by omega), ?_⟩
    refine ⟨_, rfl, rs ++ [r], lrs ++ [⟨base + 10 * at_ + (0 + (i : Nat)), base - 10 * at_ - (0 + (i : Nat)), c, d⟩], by rw [List.length_append, a1]; rfl, (a2.same (Same.new hr)).mut hp hpb, by rw [upd_same, List.map_append]; rfl, ?_, ?_, ?_, ?_⟩
    · refine paired_app (paired_mem a4 fun u x hu z => ?_) (.cons ?_ .nil)
      · show upd _ p _ u = _
        rw [upd_ne (a7 u hu).2.2]
        exact upd_free hr z
      · show upd _ p _ r = _
        rw [upd_ne hrp]
        exact upd_same
    · intro lr hlr
      rcases List.mem_append.mp hlr with h | h
      · exact a5 lr h
      · cases List.mem_singleton.mp h
        exact fun g hg => .inl (hcm g hg)
    · refine List.nodup_append.mpr ⟨a6, List.nodup_cons.mpr ⟨(fun z => by cases z), .nil⟩, fun u hu v hv => ?_⟩
      cases List.mem_singleton.mp hv
      obtain ⟨x, _, hx⟩ := Paired.inL a4 u hu
      exact fun z => by rw [z] at hx; have hx : H4 r = _ := hx; rw [hr] at hx; cases hx
    · intro u hu
      rcases List.mem_append.mp hu with h | h
      · exact a7 u h
      · cases List.mem_singleton.mp h
        exact ⟨a2.free hr, hrb, hrp⟩
  · rintro σ H1 ⟨v7, rfl, hst⟩
    walk_at "go"
    refine ⟨b, 3, rfl, hst.sb.2, by omega, by decide +kernel, fun wh o hw0 hw1 ho => ?_⟩
    have st2 := hst.box ho hpb
    generalize upd H1 b o = H2 at st2
    walk_at "go"
    refine ⟨b, 4, rfl, st2.sb.2, by omega, by decide +kernel, fun ti o2 ht0 ht1 ho2 => ?_⟩
    have st3 := st2.box ho2 hpb
    generalize upd H2 b o2 = H3 at st3
    walk_at "go"
    obtain ⟨tn, rfl⟩ := Int.eq_ofNat_of_zero_le ht0
    refine ⟨by omega, by omega, for_range (lo := 0) (n := tn) (fun j σ H' => ∃ v7 v9 v10 v11 : Option V, σ = [some (.ref b), some (.int base), some (.ref ks), some (.int at_), some (.int many), some (.ref hd), some (.ref p), v7, some (.int wh), v9, v10, v11] ∧ RowsSt H b p held keys many H') ⟨v7, none, none, none, rfl, st3⟩ ?_ ?_⟩
    · rintro j σ H4 hj ⟨v7, v9, v10, v11, rfl, st4⟩
      have hmx : (0 : Int) < (if ((many : Nat) : Int) > 1 then ((many : Nat) : Int) else 1) := by split <;> omega
      have hmy : (if ((many : Nat) : Int) > 1 then ((many : Nat) : Int) else 1) ≤ 100 := by split <;> omega
      walk_at "go"
      refine ⟨_, _, rfl, ?_⟩
      walk_at "go"
      refine ⟨b, _, rfl, st4.sb.2, hmx, Int.lt_of_le_of_lt hmy (by decide +kernel), fun pl o3 hp0 hp1 ho3 => ?_⟩
      have st5 := st4.box ho3 hpb
      generalize upd H4 b o3 = H5 at st5
      walk_at "go"
      refine ⟨b, 5, rfl, st5.sb.2, by omega, by decide +kernel, fun e1 o4 he0 he1 ho4 => ?_⟩
      have st6 := st5.box ho4 hpb
      generalize upd H5 b o4 = H6 at st6
      walk_at "go"
      refine ⟨by walk_at "sz", fun x1 hx1 => ?_⟩
      have st7 := st6.same (Same.new (o := .lst [.int at_, .int e1]) hx1)
      have hx1b := st6.sb.2.ne hx1
      have hx1l : (upd H6 x1 (.lst [.int at_, .int e1])) x1 = some (.lst [.int at_, .int e1]) := upd_same
      generalize upd H6 x1 (.lst [.int at_, .int e1]) = H7 at st7 hx1l
      walk_at "go"
      refine ⟨b, x1, _, rfl, st7.sb.2, hx1l, hx1b, (fun z => by cases z), by show 2 ≤ 1000; omega, fun cv hcv o5 ho5 => ?_⟩
      obtain ⟨ce, rfl⟩ : ∃ ce : Int, cv = .int ce := by
        rcases List.mem_cons.mp hcv with h | h
        · exact ⟨_, h⟩
        · exact ⟨_, List.mem_singleton.mp h⟩
      have st8 := st7.box ho5 hpb
      generalize upd H7 b o5 = H8 at st8
      walk_at "go"
      refine ⟨b, 6, rfl, st8.sb.2, by omega, by decide +kernel, fun e2 o6 he20 he21 ho6 => ?_⟩
      have st9 := st8.box ho6 hpb
      generalize upd H8 b o6 = H9 at st9
      have hks9 := st9.sb.1 _ _ hks hkb
      walk_at "go"
      refine ⟨b, ks, _, rfl, st9.sb.2, hks9, hkb, (fun z => hk0 (List.map_eq_nil_iff.mp z)), by rw [List.length_map]; omega, fun kv hkv o7 ho7 => ?_⟩
      obtain ⟨kk, hkk, rfl⟩ := List.mem_map.mp hkv
      have st10 := st9.box ho7 hpb
      generalize upd H9 b o7 = H10 at st10
      walk_at "go"
      refine ⟨by walk_at "sz", fun x2 hx2 => ?_⟩
      walk_at "go"
      obtain ⟨wn, rfl⟩ := Int.eq_ofNat_of_zero_le hw0
      have hw : wn < 3 := by omega
      obtain ⟨z, hz, hz2⟩ : ∃ z : Int, [V.int (base + (ce * 10 + e2)), V.int (base - (ce * 10 + e2)), V.int kk][wn]? = some (V.int z) ∧ (wn = 2 → z ∈ keys) := by
        match wn, hw with
        | 0, _ => exact ⟨_, rfl, fun h => by cases h⟩
        | 1, _ => exact ⟨_, rfl, fun h => by cases h⟩
        | 2, _ => exact ⟨_, rfl, fun _ => hkk⟩
      refine ⟨x2, _, _, _, rfl, rfl, SqL.of upd_same, atI_nat hz, ?_⟩
      have st11 := st10.same (Same.new (o := .lst [V.int (base + (ce * 10 + e2)), V.int (base - (ce * 10 + e2)), V.int kk]) hx2)
      walk_at "go"
      refine iteD (fun hm0 => ?_) (fun hm0 => ?_)
      · have hp2 : pl < many := by split at hp1 <;> omega
        obtain ⟨pn, rfl⟩ := Int.eq_ofNat_of_zero_le hp0
        obtain ⟨rs, r, lr, c1, c2, c3, c4, c5⟩ := st11.row (i := pn) (by omega)
        obtain ⟨lr', d1, d2⟩ := lr_set c4 hw hz2
        walk_at "go"
        refine ⟨p, _, _, _, rfl, rfl, SqL.of c1, atI_nat (by rw [List.getElem?_map, c2]; rfl), _, rfl, r, _, _, wn, rfl, rfl, c3, ixN_nt (by show wn < 4; omega), ?_⟩
        rw [d1]
        exact ⟨_, _, _, _, rfl, c5 lr' d2⟩
      · exact ⟨_, _, _, _, rfl, st11⟩
    · rintro σ H4 ⟨v7, v9, v10, v11, rfl, rs, lrs, a1, a2, a3, a4, a5, a6, a7⟩
      walk_at "go"
      exact q p H4 rs lrs a1 a2 hp a3 a4 a5


theorem BoxAt.lst {H : Hp} {b r : Addr} {xs : List V} (h : BoxAt H b) (e : H r = some (.lst xs)) (ne : xs.length ≠ 3) : r ≠ b := fun z => by
  obtain ⟨o, h1, i, j, k, rfl, _⟩ := h
  rw [z, h1] at e
  cases e
  exact ne rfl
def cut1 (side : Str) (key : Int) (p : Nat) : Stp := ⟨"cut", side, key, p, []⟩
def lrAt (lrs : List LR) (p : Nat) : LR := (lrs[p]?).getD ⟨0, 0, none, 0⟩
def oth (lr : LR) : LR := ⟨lr.b, lr.a, none, 7⟩
def put1 (cs : List Str) (side : Str) (key : Int) (lrs : List LR) (x : Nat × Bool) : List Stp :=
  if x.2 = true then [⟨"add", side, key, x.1, mkRow cs (lrV (oth (lrAt lrs x.1)))⟩, ⟨"set", side, key, x.1, mkRow cs (lrV (lrAt lrs x.1))⟩] else [⟨"add", side, key, x.1, mkRow cs (lrV (lrAt lrs x.1))⟩]
def stepsOf (cs : List Str) (side : Str) (key : Int) (lrs : List LR) (l1 : List Nat) (l3 : List (Nat × Bool)) : List Stp := l1.map (cut1 side key) ++ l3.flatMap (put1 cs side key lrs)
/-- all but lists stands -/
def KeepNL (H H' : Hp) : Prop := ∀ c o, H c = some o → (∀ xs, o ≠ .lst xs) → H' c = some o
theorem KeepNL.of {H H' : Hp} (e : Same H H') : KeepNL H H' := fun c o h _ => e c o h
theorem KeepNL.trans {H H1 H2 : Hp} (e : KeepNL H H1) (e' : KeepNL H1 H2) : KeepNL H H2 := fun c o h ho => e' c o (e c o h ho) ho
theorem KeepNL.upd {H H' : Hp} (e : KeepNL H H') {p : Addr} {xs : List V} {o : HO} (hp : H' p = some (.lst xs)) : KeepNL H (upd H' p o) := fun c u h hu => by
  have h1 := e c u h hu
  rw [upd_ne (fun z => by rw [z, hp] at h1; cases h1; exact hu _ rfl)]
  exact h1
theorem KeepNL.box {H H' : Hp} {b : Addr} (hb : BoxAt H b) (e : SameB b H H') : KeepNL H H' := fun c o h ho => e.1 c o h fun z => by
  obtain ⟨o', h1, i, j, k, rfl, _⟩ := hb
  rw [z, h1] at h
  cases h
  exact ho _ rfl
theorem StepAt.keep {K : PySem.W.Frag} {H H' : Hp} (e : KeepNL H H') {v : V} {op n : Str} {k p : Int} {row : Row} (h : StepAt K H v op n k p row) : StepAt K H' v op n k p row := by
  have eF : SameF H H' := fun b o hb ho => e b o hb fun xs z => by rcases ho with ⟨_, rfl⟩ | ⟨_, _, rfl⟩ <;> cases z
  obtain ⟨a, h1, h2⟩ := h
  refine ⟨a, h1, ?_⟩
  rcases h2 with ⟨h2, h3⟩ | ⟨h2, r, h3, h4⟩
  · exact .inl ⟨h2, eF.sqT h3⟩
  · exact .inr ⟨h2, r, eF.sqT h3, e _ _ h4 fun xs z => by cases z⟩
theorem LRAt.ne {H : Hp} {b r : Addr} {lr : LR} (hb : BoxAt H b) (h : LRAt H r lr) : r ≠ b := hb.lst h (by show 4 ≠ 3; omega)
abbrev StsAt (K : PySem.W.Frag) (H : Hp) (us : List V) (ss : List Stp) : Prop := Paired (fun v (st : Stp) => StepAt K H v st.op st.n st.k st.p st.row) us ss
theorem StsAt.keep {K : PySem.W.Frag} {H H' : Hp} (e : KeepNL H H') {us : List V} {ss : List Stp} (h : StsAt K H us ss) : StsAt K H' us ss := L2.Paired.mapP h fun _ _ z => z.keep e
theorem steps_snoc (cs : List Str) (side : Str) (key : Int) (lrs : List LR) (l1 : List Nat) (l3 : List (Nat × Bool)) (x : Nat × Bool) : stepsOf cs side key lrs l1 (l3 ++ [x]) = stepsOf cs side key lrs l1 l3 ++ put1 cs side key lrs x := by
  unfold stepsOf
  rw [List.flatMap_append, List.append_assoc]
  simp
def spSteps (K : PySem.W.Frag) : Sp := fun vs H Q _ => ∃ (b c o n : Addr) (side : Str) (key : Int) (cs : List Str) (xs : List V) (rs : List Addr) (lrs : List LR), vs = [.ref b, .str side, .ref c, .int key, .ref o, .ref n] ∧ BoxAt H b ∧ H c = some (.lst (cs.map V.str)) ∧ cs.length = 4 ∧ cs.Nodup ∧
  H o = some (.lst xs) ∧ o ≠ b ∧ xs.length ≤ 100 ∧ H n = some (.lst (rs.map V.ref)) ∧ n ≠ b ∧ Paired (LRAt H) rs lrs ∧ lrs.length ≤ 100 ∧
  ∀ p H' us l1 l3, SameB b H H' → H p = none → H' p = some (.lst us) → Paired (fun v (st : Stp) => StepAt K H' v st.op st.n st.k st.p st.row) us (stepsOf cs side key lrs l1 l3) → l1.Perm (List.range xs.length) → (l3.map (·.1)).Perm (List.range lrs.length) → Q (.ref p) H'
theorem ok_law_steps (T : Tx K mg) : DefOk P w K mg base ("_law_steps", none) ["box", "side", "columns", "key", "old", "new"] [] 3 (spSteps K) := by
  refine def_ok T.f_law_steps sc_law_steps (fun vs H Q E h => by first | (obtain ⟨ rfl, _⟩ := h; rfl) | (obtain ⟨_,  rfl, _⟩ := h; rfl) | (obtain ⟨_, _,  rfl, _⟩ := h; rfl) | (obtain ⟨_, _, _,  rfl, _⟩ := h; rfl) | (obtain ⟨_, _, _, _,  rfl, _⟩ := h; rfl) | (obtain ⟨_, _, _, _, _,  rfl, _⟩ := h; rfl) | (obtain ⟨_, _, _, _, _, _,  rfl, _⟩ := h; rfl) | (obtain ⟨_, _, _, _, _, _, _,  rfl, _⟩ := h; rfl) | (obtain ⟨_, _, _, _, _, _, _, _,  rfl, _⟩ := h; rfl) | (obtain ⟨_, _, _, _, _, _, _, _, _,  rfl, _⟩ := h; rfl) | (obtain ⟨_, _, _, _, _, _, _, _, _, _,  rfl, _⟩ := h; rfl) | (obtain ⟨_, _, _, _, _, _, _, _, _, _, _,  rfl, _⟩ := h; rfl) | (obtain ⟨_, _, _, _, _, _, _, _, _, _, _, _,  rfl, _⟩ := h; rfl) | (obtain ⟨_, _, _, _, _, _, _, _, _, _, _, _, _,  rfl, _⟩ := h; rfl)) (fun _ _ _ _ _ _ us hl => match us, hl with | [_, _, _, _, _, _], _ => rfl) (fun cdv A outer s H vs Q E hr h => ?_)
  have hu := hu_of hr
  refine ⟨_, (pss_cons (ps_setLc (i := 6) (own := [("place", 7)]) rfl sc_law_steps.nd rfl rfl (sw_true rfl rfl rfl (by decide +kernel)) (listI (K := K) (callK (ok_law_order T) hr (by decide) (takes_of rfl rfl rfl rfl) T.g_law_order (pa_cons (pv 0) (pa_cons (pe_callB (lenK (K := K)) rfl T.b_len (by decide +kernel) (pa_cons (pv 4) pa_nil)) pa_nil)))) (blkOk_by (own := [("place", 7)]) (N := N_law_steps) (sc := defScope s_law_steps) (by decide +kernel)) (fun _ _ _ _ _ => (pg_name (i := 7) sc_law_steps.nd rfl (Or.inl rfl))) (fun _ _ _ _ _ => pts_nil) (fun _ _ _ _ _ => (pe_tup (pa_cons pe_str (pa_cons (pv 1) (pa_cons (pv 3) (pa_cons (pv 7) pa_nil)))))))
      (pss_cons (ps_for (passes_of rfl) rfl (listI (K := K) (callK (ok_law_order T) hr (by decide) (takes_of rfl rfl rfl rfl) T.g_law_order (pa_cons (pv 0) (pa_cons (pe_callB (lenK (K := K)) rfl T.b_len (by decide +kernel) (pa_cons (pv 5) pa_nil)) pa_nil)))) (pg_name (i := 7) sc_law_steps.nd rfl (Or.inl rfl))
      (pss_cons (ps_set (i := 8) sc_law_steps.nd rfl (Or.inl rfl) (callK (ok_law_row T) hr (by decide) (takes_of rfl rfl rfl rfl) T.g_law_row (pa_cons (pv 2) (pa_cons (pe_ix (ixL (K := K)) (pv 5) (pv 7) (fun _ _ => rfl)) pa_nil))))
      (pss_one (ps_if (pt_cmpR op_eq (callK (ok_law_take T) hr (by decide) (takes_of rfl rfl rfl rfl) T.g_law_take (pa_cons (pv 0) (pa_cons pe_int pa_nil))) pe_int (nomark _))
      (pss_cons (ps_set (i := 9) sc_law_steps.nd rfl (Or.inl rfl) (callK (ok_law_row T) hr (by decide) (takes_of rfl rfl rfl rfl) T.g_law_row (pa_cons (pv 2) (pa_cons (pe_lst (pa_cons (pe_ix (ixL (K := K)) (pe_ix (ixL (K := K)) (pv 5) (pv 7) (fun _ _ => rfl)) pe_int (fun _ _ => rfl)) (pa_cons (pe_ix (ixL (K := K)) (pe_ix (ixL (K := K)) (pv 5) (pv 7) (fun _ _ => rfl)) pe_int (fun _ _ => rfl)) (pa_cons pe_non (pa_cons pe_int pa_nil))))) pa_nil))))
      (pss_cons (ps_expr (pe_bm PySem.F.plainAttrs_list PySem.F.slot_list_append PySem.F.type_list_append mt_append (pv 6) (pa_cons (pe_tup (pa_cons pe_str (pa_cons (pv 1) (pa_cons (pv 3) (pa_cons (pv 7) (pa_cons (pv 9) pa_nil)))))) pa_nil)))
      (pss_one (ps_expr (pe_bm PySem.F.plainAttrs_list PySem.F.slot_list_append PySem.F.type_list_append mt_append (pv 6) (pa_cons (pe_tup (pa_cons pe_str (pa_cons (pv 1) (pa_cons (pv 3) (pa_cons (pv 7) (pa_cons (pv 8) pa_nil)))))) pa_nil))))))
      (pss_one (ps_expr (pe_bm PySem.F.plainAttrs_list PySem.F.slot_list_append PySem.F.type_list_append mt_append (pv 6) (pa_cons (pe_tup (pa_cons pe_str (pa_cons (pv 1) (pa_cons (pv 3) (pa_cons (pv 7) (pa_cons (pv 8) pa_nil)))))) pa_nil))))))))
      (pss_one (ps_ret (pv 6))))), ?_⟩
  obtain ⟨b, c, o, n, side, key, cs, xs, rs, lrs, rfl, hb, hc, hcl, hcn, ho, hob, hxl, hn, hnb, hrs, hll, q⟩ := h
  walk_at "go"
  refine ⟨_, _, rfl, .inl ⟨_, SqL.of ho, rfl⟩, ?_⟩
  walk_at "go"
  refine ⟨b, xs.length, rfl, hb, by omega, fun l1 p1 H1 hl1 sb1 hp1 hp1l => ⟨p1, rfl, ⟨_, SqL.of hp1l⟩, fun D hD => lc_list (xs := l1.map fun k : Nat => V.int (k : Int)) (fun i H' => Same H1 H' ∧ ∃ us, H' D = some (.lst us) ∧ StsAt K H' us ((l1.take i).map (cut1 side key))) ⟨Same.new hD, [], upd_same, .nil⟩ (fun i H' _ h => SqL.of (h.1 _ _ hp1l)) ?_ ?_⟩⟩
  · rintro i x H2 hi ⟨sm2, us, hd2, hus⟩
    rw [List.getElem?_map] at hi
    obtain ⟨k, hk, rfl⟩ := Option.map_eq_some_iff.mp hi
    walk_at "go"
    refine ⟨by walk_at "sz", fun t ht => ⟨_, upd_free ht hd2, ?_, ?_⟩⟩
    · have h1 := hus.length
      have h2 := hl1.length_eq
      rw [List.length_map, List.length_take] at h1
      rw [List.length_range] at h2
      exact small1000 (by omega)
    · have sm3 := Same.new (o := .tup [.str "cut", .str side, .int key, .int (k : Nat)]) ht
      refine ⟨(sm2.trans sm3).mut hD, us ++ [.ref t], upd_same, ?_⟩
      rw [List.take_succ, hk, List.map_append]
      have kp := (KeepNL.of sm3).upd (o := .lst (us ++ [.ref t])) (upd_free ht hd2)
      refine paired_app (StsAt.keep kp hus) (.cons ⟨t, rfl, .inl ⟨rfl, ?_⟩⟩ .nil)
      refine SqT.of ?_
      rw [upd_ne (Ne.symm (ne_of_none hd2 ht))]
      exact upd_same
  · rintro H2 ⟨sm2, us, hd2, hus⟩
    rw [List.length_map, List.take_length] at hus
    have sb2 := sb1.same sm2
    have hpD : H D = none := sb1.free hD
    have hDb := hb.ne hpD
    walk_at "go"
    refine ⟨_, _, rfl, .inl ⟨_, SqL.of (sb2.1 _ _ hn hnb), rfl⟩, ?_⟩
    rw [List.length_map]
    walk_at "go"
    have hln : rs.length = lrs.length := hrs.length
    refine ⟨b, rs.length, rfl, sb2.2, by omega, fun l2 p2 H3 hl2 sb3 hp2 hp2l => ⟨p2, rfl, ⟨_, SqL.of hp2l⟩, ?_⟩⟩
    have hd3 := sb3.1 _ _ hd2 hDb
    have hus3 := StsAt.keep (KeepNL.box sb2.2 sb3) hus
    have sb4 := sb2.trans sb3
    refine for_list (K := K) (xs := l2.map fun k : Nat => V.int (k : Int)) (fun i σ H' => ∃ v7 v8 v9, σ = [some (.ref b), some (.str side), some (.ref c), some (.int key), some (.ref o), some (.ref n), some (.ref D), v7, v8, v9] ∧ SameB b H H' ∧ H' p2 = some (.lst (l2.map fun k : Nat => V.int (k : Int))) ∧ ∃ l3 us, l3.map (·.1) = l2.take i ∧ H' D = some (.lst us) ∧ StsAt K H' us (stepsOf cs side key lrs l1 l3))
      ⟨_, _, _, rfl, sb4, hp2l, [], us, rfl, hd3, by unfold stepsOf; rw [List.flatMap_nil, List.append_nil]; exact hus3⟩ (fun i σ H' _ h => by obtain ⟨_, _, _, _, _, h, _⟩ := h; exact SqL.of h) ?_ ?_
    · rintro i x σ H5 hi ⟨v7, v8, v9, rfl, sb5, hp25, l3, us5, hl3, hd5, hus5⟩
      rw [List.getElem?_map] at hi
      obtain ⟨k, hk, rfl⟩ := Option.map_eq_some_iff.mp hi
      have hkl : k < rs.length := List.mem_range.mp (hl2.mem_iff.mp (List.mem_of_getElem? hk))
      have hrk : rs[k]? = some rs[k] := List.getElem?_eq_getElem hkl
      obtain ⟨lr, hlr, hr⟩ := Paired.at hrs hrk
      have hrb : rs[k] ≠ b := hr.ne hb
      generalize rs[k] = r at hrk hr hrb
      have hlk : lrAt lrs k = lr := by unfold lrAt; rw [hlr]; rfl
      have hn5 := sb5.1 _ _ hn hnb
      have hcb : c ≠ b := hb.lst hc (by rw [List.length_map]; omega)
      have hc5 := sb5.1 _ _ hc hcb
      have hr5 : H5 r = some (.lst (lrV lr)) := sb5.1 _ _ hr hrb
      have hDb2 : D ≠ b := hDb
      have hDp : D ≠ p2 := ne_of_none hd2 hp2
      have hlen5 : us5.length ≤ 300 := by
        have e1 := hus5.length
        have e2 := hl1.length_eq
        have e3 := congrArg List.length hl3
        have e4 := hl2.length_eq
        rw [List.length_map, List.length_take] at e3
        rw [List.length_range] at e2 e4
        have e5 : ∀ l : List (Nat × Bool), (l.flatMap (put1 cs side key lrs)).length ≤ 2 * l.length := fun l => by
          induction l with
          | nil => exact Nat.le_refl _
          | cons a l ih =>
            rw [List.flatMap_cons, List.length_append, List.length_cons]
            have : (put1 cs side key lrs a).length ≤ 2 := by unfold put1; split <;> simp
            omega
        have e6 := e5 l3
        unfold stepsOf at e1
        rw [List.length_append, List.length_map] at e1
        omega
      walk_at "go"
      refine ⟨n, _, _, _, rfl, rfl, SqL.of hn5, atI_nat (v := .ref r) (by rw [List.getElem?_map, hrk]; rfl), ?_⟩
      walk_at "go"
      refine ⟨c, r, cs, lrV lr, rfl, hc5, hr5, hcl, hcn, by omega, fun row H6 sm6 hrow hrow6 => ?_⟩
      have hn6 := sm6 _ _ hn5
      have hc6 := sm6 _ _ hc5
      have hr6 : H6 r = some (.lst [.int lr.a, .int lr.b, ptrV lr.c, .int lr.w]) := sm6 _ _ hr5
      have hd6 := sm6 _ _ hd5
      have hp26 := sm6 _ _ hp25
      have sb6 := sb5.same sm6
      have hus6 := StsAt.keep (KeepNL.of sm6) hus5
      walk_at "go"
      refine ⟨b, 4, rfl, sb6.2, by omega, by decide +kernel, fun dr o7 hdr0 hdr1 ho7 => ?_⟩
      have hn7 : (upd H6 b o7) n = some (.lst (rs.map V.ref)) := by rw [upd_ne hnb]; exact hn6
      have hc7 : (upd H6 b o7) c = some (.lst (cs.map V.str)) := by rw [upd_ne hcb]; exact hc6
      have hr7 : (upd H6 b o7) r = some (.lst [.int lr.a, .int lr.b, ptrV lr.c, .int lr.w]) := by rw [upd_ne hrb]; exact hr6
      have hd7 : (upd H6 b o7) D = some (.lst us5) := by rw [upd_ne hDb2]; exact hd6
      have hp27 : (upd H6 b o7) p2 = some (.lst (l2.map fun k : Nat => V.int (k : Int))) := by rw [upd_ne (sb2.2.ne hp2)]; exact hp26
      have hrow7 : (upd H6 b o7) row = some (.dK (mkRow cs (lrV lr))) := by rw [upd_ne (sb5.2.ne hrow)]; exact hrow6
      have sb7 := sb6.trans (SameB.box ho7)
      have hus7 := StsAt.keep (KeepNL.box sb6.2 (SameB.box ho7)) hus6
      generalize upd H6 b o7 = H7 at hn7 hc7 hr7 hd7 hp27 sb7 hus7 hrow7
      walk_at "go"
      have hixr : atI (rs.map V.ref) (k : Int) = some (V.ref r) := atI_nat (v := V.ref r) (by rw [List.getElem?_map, hrk]; rfl)
      refine iteD (fun hz => ?_) (fun hz => ?_)
      · walk_at "go"
        refine ⟨n, _, _, _, rfl, rfl, SqL.of hn7, hixr, ?_⟩
        walk_at "go"
        refine ⟨n, _, _, _, rfl, rfl, SqL.of hn7, hixr, ?_⟩
        walk_at "go"
        refine ⟨by walk_at "sz", fun z hz0 => ?_⟩
        have sm8 := Same.new (o := .lst [.int lr.b, .int lr.a, .non, .int 7]) hz0
        have hz8 : (upd H7 z (.lst [.int lr.b, .int lr.a, .non, .int 7])) z = some (.lst (lrV (oth lr))) := upd_same
        generalize upd H7 z (.lst [.int lr.b, .int lr.a, .non, .int 7]) = H8 at sm8 hz8
        walk_at "go"
        refine ⟨c, z, cs, lrV (oth lr), rfl, sm8 _ _ hc7, hz8, hcl, hcn, by omega, fun row2 H9 sm9 hrow2 hrow29 => ?_⟩
        have hd9 := sm9 _ _ (sm8 _ _ hd7)
        have hrow9 := sm9 _ _ (sm8 _ _ hrow7)
        have hus9 := StsAt.keep (KeepNL.of (sm8.trans sm9)) hus7
        have sb9 := sb7.same (sm8.trans sm9)
        have hp29 := sm9 _ _ (sm8 _ _ hp27)
        walk_at "go"
        refine ⟨.inl ⟨rfl, _, SqL.of hd9⟩, ?_⟩
        walk_at "go"
        refine ⟨by walk_at "sz", fun t ht => ?_⟩
        refine ⟨D, _, _, rfl, rfl, upd_free ht hd9, small1000 (by omega), ?_⟩
        have kp1 : KeepNL H9 _ := (KeepNL.of (Same.new (o := .tup [.str "add", .str side, .int key, .int (k : Nat), .ref row2]) ht)).upd (o := .lst (us5 ++ [V.ref t])) (upd_free ht hd9)
        have ht9 : upd (upd H9 t (.tup [.str "add", .str side, .int key, .int (k : Nat), .ref row2])) D (.lst (us5 ++ [V.ref t])) t = some (.tup [.str "add", .str side, .int key, .int (k : Nat), .ref row2]) := by
          rw [upd_ne (Ne.symm (ne_of_none hd9 ht))]; exact upd_same
        have hd10 : upd (upd H9 t (.tup [.str "add", .str side, .int key, .int (k : Nat), .ref row2])) D (.lst (us5 ++ [V.ref t])) D = some (.lst (us5 ++ [V.ref t])) := upd_same
        have sb10 := (sb9.same (Same.new (o := .tup [.str "add", .str side, .int key, .int (k : Nat), .ref row2]) ht)).mut (o := .lst (us5 ++ [V.ref t])) hpD hDb
        have hp210 : upd (upd H9 t (.tup [.str "add", .str side, .int key, .int (k : Nat), .ref row2])) D (.lst (us5 ++ [V.ref t])) p2 = some (.lst (l2.map fun k : Nat => V.int (k : Int))) := by
          rw [upd_ne (Ne.symm hDp)]; exact upd_free ht hp29
        generalize upd (upd H9 t (.tup [.str "add", .str side, .int key, .int (k : Nat), .ref row2])) D (.lst (us5 ++ [V.ref t])) = H10 at kp1 ht9 hd10 sb10 hp210
        have hrow10 : H10 row = some (.dK (mkRow cs (lrV lr))) := kp1 _ _ hrow9 (fun _ z => by cases z)
        have hrow210 : H10 row2 = some (.dK (mkRow cs (lrV (oth lr)))) := kp1 _ _ hrow29 (fun _ z => by cases z)
        walk_at "go"
        refine ⟨.inl ⟨rfl, _, SqL.of hd10⟩, ?_⟩
        walk_at "go"
        refine ⟨by walk_at "sz", fun t2 ht2 => ?_⟩
        refine ⟨D, _, _, rfl, rfl, upd_free ht2 hd10, by rw [List.length_append]; exact small1000 (by show us5.length + 1 ≤ 1000; omega), ?_⟩
        have kp2 : KeepNL H10 _ := (KeepNL.of (Same.new (o := .tup [.str "set", .str side, .int key, .int (k : Nat), .ref row]) ht2)).upd (o := .lst ((us5 ++ [V.ref t]) ++ [V.ref t2])) (upd_free ht2 hd10)
        refine ⟨_, _, _, rfl, (sb10.same (Same.new ht2)).mut hpD hDb, by rw [upd_ne (Ne.symm hDp)]; exact upd_free ht2 hp210, l3 ++ [(k, true)], _, by rw [List.map_append, hl3, List.take_succ, hk]; rfl, upd_same, ?_⟩
        rw [List.append_assoc] at kp2 ⊢
        rw [steps_snoc]
        refine paired_app (StsAt.keep (kp1.trans kp2) hus9) ?_
        unfold put1
        rw [if_pos rfl, hlk]
        refine .cons ⟨t, rfl, .inr ⟨(fun z => by cases z), row2, SqT.of (kp2 _ _ ht9 (fun _ z => by cases z)), kp2 _ _ hrow210 (fun _ z => by cases z)⟩⟩ (.cons ⟨t2, rfl, .inr ⟨(fun z => by cases z), row, SqT.of ?_, kp2 _ _ hrow10 (fun _ z => by cases z)⟩⟩ .nil)
        rw [upd_ne (Ne.symm (ne_of_none hd10 ht2))]
        exact upd_same
      · walk_at "go"
        refine ⟨.inl ⟨rfl, _, SqL.of hd7⟩, ?_⟩
        walk_at "go"
        refine ⟨by walk_at "sz", fun t ht => ?_⟩
        refine ⟨D, _, _, rfl, rfl, upd_free ht hd7, small1000 (by omega), ?_⟩
        have kp1 : KeepNL H7 _ := (KeepNL.of (Same.new (o := .tup [.str "add", .str side, .int key, .int (k : Nat), .ref row]) ht)).upd (o := .lst (us5 ++ [V.ref t])) (upd_free ht hd7)
        refine ⟨_, _, _, rfl, (sb7.same (Same.new ht)).mut hpD hDb, by rw [upd_ne (Ne.symm hDp)]; exact upd_free ht hp27, l3 ++ [(k, false)], _, by rw [List.map_append, hl3, List.take_succ, hk]; rfl, upd_same, ?_⟩
        rw [steps_snoc]
        refine paired_app (StsAt.keep kp1 hus7) ?_
        unfold put1
        rw [if_neg (fun z => by cases z), hlk]
        refine .cons ⟨t, rfl, .inr ⟨(fun z => by cases z), row, SqT.of ?_, kp1 _ _ hrow7 (fun _ z => by cases z)⟩⟩ .nil
        rw [upd_ne (Ne.symm (ne_of_none hd7 ht))]
        exact upd_same
    · rintro σ H5 ⟨v7, v8, v9, rfl, sb5, hp25, l3, us5, hl3, hd5, hus5⟩
      walk_at "go"
      rw [List.length_map, List.take_length] at hl3
      refine q D H5 us5 l1 l3 sb5 hpD hd5 hus5 hl1 ?_
      rw [hl3, ← hln]
      exact hl2


theorem thing_noLone {F : Fm} {C : Str → Sheet} {k : Int} (h : thingOk F C k) : noLone F C k := by
  rcases h with h | h
  · exact .inl h
  · refine .inr fun t ht hs => ?_
    rcases h t ht with ⟨_, h2⟩ | ⟨h1, _⟩
    · exact h2
    · exfalso
      rcases hs with e | e <;> rw [e] at h1 <;> rcases h1 with h1 | ⟨h1, _⟩ <;> revert h1 <;> decide
theorem bad_thing {F : Fm} {C : Str → Sheet} {k : Int} {t : Tb} {i : Nat} (ht : t ∈ F.tabs) (hu : ∃ u ∈ F.tabs, plc (C u.name) k ≠ []) (hb : badPlaces t.sort (plc (C t.name) k) i) : ¬ thingOk F C k := by
  rintro (h | h)
  · obtain ⟨u, h1, h2⟩ := hu
    exact h2 (h u h1)
  · obtain ⟨b1, b2, b3⟩ := hb
    have hms : ("many" : Str) ≠ "some" := by decide
    rcases h t ht with ⟨h1, _⟩ | ⟨h1, h2⟩
    · have n1 : ("head" : Str) ≠ "many" := by decide
      have n2 : ("head" : Str) ≠ "some" := by decide
      have n3 : ("twin" : Str) ≠ "many" := by decide
      have n4 : ("twin" : Str) ≠ "some" := by decide
      rcases h1 with e | e <;> rw [e] at b1 <;> rcases b1 with z | z
      · exact n1 z
      · exact n2 z
      · exact n3 z
      · exact n4 z
    · rcases b3 with ⟨x, b3, b4⟩ | ⟨b3, b4, _⟩
      · exact b4 (h2 i x b3)
      · rcases h1 with h1 | ⟨_, h1⟩
        · exact hms (h1.symm.trans b3)
        · exact h1 b4
def ErrAt (H : Hp) (t : Addr) (op n : Str) (p : Int × Int) : Prop := H t = some (.tup [.str op, .str n, .int p.1, .int p.2])
def spWritten (P : Program) (w : World) (K : PySem.W.Frag) : Sp := fun vs H Q _ => ∃ (x dx q s : Addr) (f : V) (us : List V) (F : Fm) (L : List (Str × Addr)) (C : Str → Sheet) (ss : List Stp), vs = [.ref x, .ref s] ∧ H x = some (.ins (He.ga K "Plain") dx (plF f q)) ∧ FmAt K H f F ∧ ShsAt H q L C ∧ L.map (·.1) = F.tabs.map (·.name) ∧
  SqL K H s us ∧ StsAt K H us ss ∧ ShsRows K H F C ∧ onceWhole F ∧ F.tabs ≠ [] ∧ (∀ t ∈ F.tabs, sorts4 t.sort) ∧ (∀ t ∈ F.tabs, ApartS P w (C t.name)) ∧ (∀ t ∈ F.tabs, (C t.name).length + ss.length < sizeLine) ∧ (dd (ss.map (·.k))).length < 64 ∧ F.tabs.length ≤ 8 ∧
  (∀ (i : Nat) (st : Stp), ss[i]? = some st → PreSt K H F (runC C (ss.take i)) st ∧ freshAt (runC C (ss.take i)) st) ∧
  (∀ k ∈ keysOf ss, thingOk F (runC C ss) k) ∧
  (twiceOf F (runC C ss) = none → nowhereOf F (runC C ss) = none → ∀ kp q' L' H', (∀ b o, H b = some o → b ≠ x → H' b = some o) → H' x = some (.ins (He.ga K "Plain") dx (plF f q')) → ShsAt H' q' L' (runC C ss) → L'.map (·.1) = F.tabs.map (·.name) → H kp = none → H' kp = some (.lst ((keysOf ss).map V.int)) → Q (.ref kp) H') ∧
  (∀ n p, twiceOf F (runC C ss) = some (n, p) → ∀ t H', Same H H' → ErrAt H' t "Twice" n p → Q (.ref t) H') ∧
  (twiceOf F (runC C ss) = none → ∀ n p, nowhereOf F (runC C ss) = some (n, p) → ∀ t H', Same H H' → ErrAt H' t "Nowhere" n p → Q (.ref t) H')
theorem ok_law_written (T : Tx K mg) : DefOk P w K mg base ("_law_written", none) ["plain", "steps"] [] 10 (spWritten P w K) := by
  refine def_ok T.f_law_written sc_law_written (fun vs H Q E h => by first | (obtain ⟨ rfl, _⟩ := h; rfl) | (obtain ⟨_,  rfl, _⟩ := h; rfl) | (obtain ⟨_, _,  rfl, _⟩ := h; rfl) | (obtain ⟨_, _, _,  rfl, _⟩ := h; rfl) | (obtain ⟨_, _, _, _,  rfl, _⟩ := h; rfl) | (obtain ⟨_, _, _, _, _,  rfl, _⟩ := h; rfl) | (obtain ⟨_, _, _, _, _, _,  rfl, _⟩ := h; rfl) | (obtain ⟨_, _, _, _, _, _, _,  rfl, _⟩ := h; rfl) | (obtain ⟨_, _, _, _, _, _, _, _,  rfl, _⟩ := h; rfl) | (obtain ⟨_, _, _, _, _, _, _, _, _,  rfl, _⟩ := h; rfl) | (obtain ⟨_, _, _, _, _, _, _, _, _, _,  rfl, _⟩ := h; rfl) | (obtain ⟨_, _, _, _, _, _, _, _, _, _, _,  rfl, _⟩ := h; rfl) | (obtain ⟨_, _, _, _, _, _, _, _, _, _, _, _,  rfl, _⟩ := h; rfl) | (obtain ⟨_, _, _, _, _, _, _, _, _, _, _, _, _,  rfl, _⟩ := h; rfl)) (fun _ _ _ _ _ _ us hl => match us, hl with | [_, _], _ => rfl) (fun cdv A outer s H vs Q E hr h => ?_)
  have hu := hu_of hr
  refine ⟨_, (pss_cons (ps_set (i := 2) sc_law_written.nd rfl (Or.inl rfl) pe_non)
      (pss_cons (ps_try_cls (tb := fun W => _) rfl rfl sc_law_written.nd (takes_of rfl rfl rfl rfl) (fun W pn xe tk _ => (pss_one (ps_set (i := 2) sc_law_written.nd rfl (Or.inl rfl) (methK (ok_Plain_write T) hr (by decide) tk T.cl_Plain T.me_Plain_write (pv 0) (pa_cons (pv 1) pa_nil))))) (ClsOk.cons (q := ⟨_, 3, _⟩) ⟨rfl, by decide, Or.inl T.g_Twice⟩ rfl rfl (fun a oe cls d pn hz hf => (pss_one (ps_set (i := 2) sc_law_written.nd rfl (Or.inl rfl) (pe_tup (pa_cons pe_str (pa_cons (pe_xf T.xf_Twice T.xn_Twice_table hz hf (pv 3)) (pa_cons (pe_xf T.xf_Twice T.xn_Twice_key hz hf (pv 3)) (pa_cons (pe_xf T.xf_Twice T.xn_Twice_place hz hf (pv 3)) pa_nil)))))))) (ClsOk.cons (q := ⟨_, 3, _⟩) ⟨rfl, by decide, Or.inl T.g_Nowhere⟩ rfl rfl (fun a oe cls d pn hz hf => (pss_one (ps_set (i := 2) sc_law_written.nd rfl (Or.inl rfl) (pe_tup (pa_cons pe_str (pa_cons (pe_xf T.xf_Nowhere T.xn_Nowhere_table hz hf (pv 3)) (pa_cons (pe_xf T.xf_Nowhere T.xn_Nowhere_key hz hf (pv 3)) (pa_cons (pe_xf T.xf_Nowhere T.xn_Nowhere_place hz hf (pv 3)) pa_nil)))))))) ClsOk.nil)))
      (pss_one (ps_ret (pv 2))))), ?_⟩
  obtain ⟨x, dx, q, sa, f, us, F, L, C, ss, rfl, hx, hF, hC, hL, hs, hss, hro, how, hne, hso, hap, hlen, h64, h8, hst, hth, hok, htw, hnw⟩ := h
  walk_at "go"
  have hfr : ∀ i, frCl C ss i := fun i j s _ h => (hst j s h).2
  refine ⟨x, dx, plF f q, rfl, hx, rfl, ?_⟩
  walk_at "go"
  refine ⟨x, dx, q, sa, f, us, F, L, C, ss, rfl, hx, hF, hC, hL, hs, hss, hro, how, hne, hso, hap, hlen, h64, h8, fun i st h _ => (hst i st h).1, fun _ k hk => thing_noLone (hth k hk), fun _ _ e1 e2 kp q' L' H' hsm hx' hC' hL' _ _ hkp hkl => ?_, fun _ _ n p e d H' sm hd => ?_, fun _ _ e0 n p e d H' sm hd => ?_, fun i st h _ ha hl => ?_, fun _ m k hm _ j i t ht hj hu hb => ?_⟩
  · walk_at "go"
    exact hok e1 e2 kp q' L' H' hsm hx' hC' hL' hkp hkl
  · refine ⟨true, T.em_Twice_Twice, fun _ a ha => ?_, (fun z => (by cases z))⟩
    walk_at "go"
    refine ⟨d, _, _, rfl, upd_same, rfl, _, rfl, rfl, rfl, d, _, _, rfl, upd_same, rfl, _, rfl, rfl, rfl, d, _, _, rfl, upd_same, rfl, by walk_at "sz", fun t ht => ?_⟩
    exact ⟨_, rfl, htw n p e t _ ((sm.trans (Same.new hd)).trans (Same.new ht)) upd_same⟩
  · refine ⟨false, T.em_Nowhere_Twice, (fun z => (by cases z)), fun _ => ⟨true, T.em_Nowhere_Nowhere, fun _ a ha => ?_, (fun z => (by cases z))⟩⟩
    walk_at "go"
    refine ⟨d, _, _, rfl, upd_same, rfl, _, rfl, rfl, rfl, d, _, _, rfl, upd_same, rfl, _, rfl, rfl, rfl, d, _, _, rfl, upd_same, rfl, by walk_at "sz", fun t ht => ?_⟩
    exact ⟨_, rfl, hnw e0 n p e t _ ((sm.trans (Same.new hd)).trans (Same.new ht)) upd_same⟩
  · have := (hst i st h).2 ha
    rw [this] at hl
    cases hl
  · exact absurd (hth k (List.mem_of_getElem? hm)) (bad_thing (List.mem_of_getElem? ht) hu hb)


def thOf (cs : List Str) (n0 : Str) (T : LT) : Things := T.map fun x => (x.1, fun n => if n = n0 then [[]] else x.2.map fun lr => mkRow cs (lrV lr))
theorem valV_no {κ : Type} [DecidableEq κ] {l : List (κ × V)} {k : κ} (h : ∀ kv ∈ l, kv.1 ≠ k) : valV l k = none := by
  induction l with
  | nil => rfl
  | cons a l ih =>
    rw [valV_neg (h a List.mem_cons_self)]
    exact ih fun kv hkv => h kv (List.mem_cons_of_mem _ hkv)
theorem PieceAt.keep {H H' : Hp} {p : Addr} {names : List Str} {kv : Key × V} {x : Int × (Str → List Row)} {ps : List (Key × V)} (hp : H p = some (.dK ps)) (e : ∀ b o, H b = some o → b ≠ p → (∀ f u, o ≠ .frz f u) → H' b = some o) (h : PieceAt H p names kv x) : PieceAt H' p names kv x := by
  obtain ⟨z1, b, ks, z2, z3, z4, z5⟩ := h
  refine ⟨z1, b, ks, z2, z3, e _ _ z4 z3 (fun _ _ y => by cases y), fun n hn => ?_⟩
  obtain ⟨l, rs, y1, y2, y3⟩ := z5 n hn
  exact ⟨l, rs, y1, e _ _ y2 (fun z => by rw [z, hp] at y2; cases y2) (fun _ _ y => by cases y), L2.Paired.mapP y3 fun _ _ u => ⟨u.1, e _ _ u.2 u.1 (fun _ _ y => by cases y)⟩⟩
theorem thOf_len (cs : List Str) (n0 : Str) (T : LT) : (thOf cs n0 T).length = T.length := List.length_map _
theorem thOf_keys (cs : List Str) (n0 : Str) (T : LT) : (thOf cs n0 T).map (·.1) = T.map (·.1) := by unfold thOf; rw [List.map_map]; rfl
def spMade (K : PySem.W.Frag) : Sp := fun vs H Q _ => ∃ (f : V) (na c a : Addr) (n0 n1 : Str) (cs : List Str) (F : Fm) (T : LT), vs = [f, .ref na, .ref c, .ref a] ∧ FmAt K H f F ∧ F.tabs.map (·.name) = [n0, n1] ∧ n0 ≠ n1 ∧ H na = some (.lst [.str n0, .str n1]) ∧
  H c = some (.lst (cs.map V.str)) ∧ cs.length = 4 ∧ cs.Nodup ∧ LTAt H a T ∧ (T.map (·.1)).Nodup ∧ T.length ≤ 100 ∧ (∀ x ∈ T, x.2.length ≤ 100) ∧ (∀ t ∈ F.tabs, (sheetOf (thOf cs n0 T) t.name).length ≤ 1000) ∧ ShsRows K H F (sheetOf (thOf cs n0 T)) ∧ onceWhole F ∧
  (twiceOf F (sheetOf (thOf cs n0 T)) = none → nowhereOf F (sheetOf (thOf cs n0 T)) = none → ∀ p H', Same H H' → H' p = some (.lst ((PySem.W.sortI ((sheetOf (thOf cs n0 T) (hdName F)).map (·.1.1))).map V.int)) → Q (.ref p) H') ∧
  (∀ n p, twiceOf F (sheetOf (thOf cs n0 T)) = some (n, p) → ∀ t H', Same H H' → ErrAt H' t "Twice" n p → Q (.ref t) H') ∧
  (twiceOf F (sheetOf (thOf cs n0 T)) = none → ∀ n p, nowhereOf F (sheetOf (thOf cs n0 T)) = some (n, p) → ∀ t H', Same H H' → ErrAt H' t "Nowhere" n p → Q (.ref t) H')
theorem ok_law_made (T : Tx K mg) : DefOk P w K mg base ("_law_made", none) ["form", "names", "columns", "things"] [] 9 (spMade K) := by
  refine def_ok T.f_law_made sc_law_made (fun vs H Q E h => by first | (obtain ⟨ rfl, _⟩ := h; rfl) | (obtain ⟨_,  rfl, _⟩ := h; rfl) | (obtain ⟨_, _,  rfl, _⟩ := h; rfl) | (obtain ⟨_, _, _,  rfl, _⟩ := h; rfl) | (obtain ⟨_, _, _, _,  rfl, _⟩ := h; rfl) | (obtain ⟨_, _, _, _, _,  rfl, _⟩ := h; rfl) | (obtain ⟨_, _, _, _, _, _,  rfl, _⟩ := h; rfl) | (obtain ⟨_, _, _, _, _, _, _,  rfl, _⟩ := h; rfl) | (obtain ⟨_, _, _, _, _, _, _, _,  rfl, _⟩ := h; rfl) | (obtain ⟨_, _, _, _, _, _, _, _, _,  rfl, _⟩ := h; rfl) | (obtain ⟨_, _, _, _, _, _, _, _, _, _,  rfl, _⟩ := h; rfl) | (obtain ⟨_, _, _, _, _, _, _, _, _, _, _,  rfl, _⟩ := h; rfl) | (obtain ⟨_, _, _, _, _, _, _, _, _, _, _, _,  rfl, _⟩ := h; rfl) | (obtain ⟨_, _, _, _, _, _, _, _, _, _, _, _, _,  rfl, _⟩ := h; rfl)) (fun _ _ _ _ _ _ us hl => match us, hl with | [_, _, _, _], _ => rfl) (fun cdv A outer s H vs Q E hr h => ?_)
  have hu := hu_of hr
  refine ⟨_, (pss_cons (ps_set (i := 4) sc_law_made.nd rfl (Or.inl rfl) pe_dnewK)
      (pss_cons (ps_lock (ps_for (passes_of rfl) rfl (pi_keys (pv 3)) (pg_name (i := 5) sc_law_made.nd rfl (Or.inl rfl))
      (pss_one (ps_dput hu (pv 4) (pv 5) (pe_disp (pps_cons (pe_ix (ixL (K := K)) (pv 1) pe_int (fun _ _ => rfl)) (pe_lst (pa_cons pe_dnewK pa_nil)) (pps_cons (pe_ix (ixL (K := K)) (pv 1) pe_int (fun _ _ => rfl)) (pe_lc (own := [("row", 8)]) rfl sc_law_made.nd (listI (K := K) (pe_dget hu (pv 3) (pv 5) (fun _ _ => rfl))) (blkOk_by (own := [("row", 8)]) (N := N_law_made) (sc := defScope s_law_made) (by decide +kernel)) (fun _ _ _ _ _ => (pg_name (i := 8) sc_law_made.nd rfl (Or.inl rfl))) (fun _ _ _ _ _ => pts_nil) (fun _ _ _ _ _ => (callK0 (ok_law_row T) hr (by decide) T.g_law_row (pa_cons (pv 2) (pa_cons (pv 8) pa_nil))))) pps_nil)) (by rfl) (by rfl) (fun z => by cases z) (by decide)) rfl))))
      (pss_cons (ps_set (i := 6) sc_law_made.nd rfl (Or.inl rfl) pe_non)
      (pss_cons (ps_try_cls (tb := fun W => _) rfl rfl sc_law_made.nd (takes_of rfl rfl rfl rfl) (fun W pn xe tk _ => (pss_one (ps_set (i := 6) sc_law_made.nd rfl (Or.inl rfl) (methK0 (ok_Plain_held T) hr (by decide) tk T.cl_Plain T.me_Plain_held (makeK (ok_Plain_init T) hr (by decide) tk T.mk_Plain T.g_Plain (pa_cons (pv 0) (pa_cons (pv 4) pa_nil))))))) (ClsOk.cons (q := ⟨_, 7, _⟩) ⟨rfl, by decide, Or.inl T.g_Twice⟩ rfl rfl (fun a oe cls d pn hz hf => (pss_one (ps_set (i := 6) sc_law_made.nd rfl (Or.inl rfl) (pe_tup (pa_cons pe_str (pa_cons (pe_xf T.xf_Twice T.xn_Twice_table hz hf (pv 7)) (pa_cons (pe_xf T.xf_Twice T.xn_Twice_key hz hf (pv 7)) (pa_cons (pe_xf T.xf_Twice T.xn_Twice_place hz hf (pv 7)) pa_nil)))))))) (ClsOk.cons (q := ⟨_, 7, _⟩) ⟨rfl, by decide, Or.inl T.g_Nowhere⟩ rfl rfl (fun a oe cls d pn hz hf => (pss_one (ps_set (i := 6) sc_law_made.nd rfl (Or.inl rfl) (pe_tup (pa_cons pe_str (pa_cons (pe_xf T.xf_Nowhere T.xn_Nowhere_table hz hf (pv 7)) (pa_cons (pe_xf T.xf_Nowhere T.xn_Nowhere_key hz hf (pv 7)) (pa_cons (pe_xf T.xf_Nowhere T.xn_Nowhere_place hz hf (pv 7)) pa_nil)))))))) ClsOk.nil)))
      (pss_one (ps_ret (pv 6))))))), ?_⟩
  obtain ⟨f, na, c, a, n0, n1, cs, F, T', rfl, hF, hN, h01, hna, hc, hcl, hcn, ⟨kvs, ha, hkv⟩, hnd, hT1, hT2, hS, hro, how, hok, htw, hnw⟩ := h
  walk_at "go"
  refine fun p hp => ?_
  have hap : a ≠ p := ne_of_none ha hp
  have hkl : kvs.length = T'.length := hkv.length
  walk_at "go"
  refine ⟨a, .dK kvs, upd_free hp ha, trivial, fun od => ?_⟩
  walk_at "go"
  refine ⟨_, _, rfl, .inl ⟨_, upd_same, for_it walk_keys (fun i σ H' => ∃ b5 b8, σ = [some f, some (.ref na), some (.ref c), some (.ref a), some (.ref p), b5, none, none, b8] ∧ H' a = some (.frz od (.dK kvs)) ∧ (∀ b o, H b = some o → b ≠ a → H' b = some o) ∧ ∃ ps, H' p = some (.dK ps) ∧ Paired (PieceAt H' p [n0, n1]) ps (thOf cs n0 (T'.take i))) ?_ ?_ ?_ ?_⟩⟩
  · refine ⟨none, none, rfl, upd_same, fun b o h ne => by rw [upd_ne ne]; exact upd_free hp h, [], by rw [upd_ne (Ne.symm hap)]; exact upd_same, .nil⟩
  · rintro i σ H' _ ⟨_, _, _, h, _⟩
    exact h
  · rintro i x σ H1' H1 hi ⟨b5, b8, rfl, hfz, hsm, ps, hp1, hps⟩ ⟨rfl, kk, v, hkk, rfl⟩
    obtain ⟨x, hx, hk1, l, rs, rfl, hl, hrs⟩ := Paired.at hkv hkk
    have hk1 : kk = Sum.inl x.1 := hk1
    subst hk1
    have hvk : valV kvs (Sum.inl x.1) = some (.ref l) := by
      have hkd : (kvs.map (·.1)).Nodup := by
        have : kvs.map (·.1) = (T'.map (·.1)).map Sum.inl := by rw [List.map_map]; exact Paired.mapEq hkv fun _ _ z => z.1
        rw [this]
        exact List.Pairwise.map _ (fun a b z e => z (Sum.inl.inj e)) hnd
      exact val_nodup hkd _ (List.mem_of_getElem? hkk)
    have hla : l ≠ a := fun z => by rw [z, ha] at hl; cases hl
    have hl1 := hsm _ _ hl hla
    have hna1 := hsm _ _ hna (fun z => by rw [z, ha] at hna; cases hna)
    have hc1 := hsm _ _ hc (fun z => by rw [z, ha] at hc; cases hc)
    show gName 5 (V.int x.1) _ _ _
    walk_at "go"
    refine fun p1 hp1n => ?_
    walk_at "go"
    refine fun d0 hd0 => ⟨by walk_at "sz", fun l0 hl0 => ?_⟩
    have sm2 : Same H1 (upd (upd (upd H1 p1 (.dK [])) d0 (.dK [])) l0 (.lst [.ref d0])) := ((Same.new hp1n).trans (Same.new hd0)).trans (Same.new hl0)
    have e1 : (upd (upd (upd H1 p1 (.dK [])) d0 (.dK [])) l0 (.lst [.ref d0])) p1 = some (.dK []) := upd_free hl0 (upd_free hd0 upd_same)
    have e2 : (upd (upd (upd H1 p1 (.dK [])) d0 (.dK [])) l0 (.lst [.ref d0])) d0 = some (.dK []) := upd_free hl0 upd_same
    have e3 : (upd (upd (upd H1 p1 (.dK [])) d0 (.dK [])) l0 (.lst [.ref d0])) l0 = some (.lst [.ref d0]) := upd_same
    have n1p : p1 ≠ p := Ne.symm (ne_of_none hp1 hp1n)
    have n1d : d0 ≠ p1 := Ne.symm (ne_of_none upd_same hd0)
    have n0p : d0 ≠ p := Ne.symm (ne_of_none (upd_free hp1n hp1) hd0)
    have n1a : p1 ≠ a := Ne.symm (ne_of_none hfz hp1n)
    generalize upd (upd (upd H1 p1 (.dK [])) d0 (.dK [])) l0 (.lst [.ref d0]) = H2 at sm2 e1 e2 e3
    have hfz2 := sm2 _ _ hfz
    have hl2 := sm2 _ _ hl1
    have hna2 := sm2 _ _ hna1
    have hc2 := sm2 _ _ hc1
    have hp2 := sm2 _ _ hp1
    have hx2 := hT2 x (List.mem_of_getElem? hx)
    walk_at "go"
    refine ⟨⟨_, SqL.of hl2⟩, fun D hD => lc_list (xs := rs.map V.ref) (fun j H' => Same H2 H' ∧ ∃ rws : List Addr, H' D = some (.lst (rws.map V.ref)) ∧ Paired (fun r row => H2 r = none ∧ H' r = some (.dK row)) rws ((x.2.take j).map fun lr => mkRow cs (lrV lr))) ⟨Same.new hD, [], upd_same, .nil⟩ (fun i H' _ h => SqL.of (h.1 _ _ hl2)) ?_ ?_⟩
    · rintro j y H3 hj ⟨sm3, rws, hd3, hrws⟩
      obtain ⟨r, hr1, rfl⟩ := refs_get hj
      obtain ⟨lr, hlr, hr2⟩ := Paired.at hrs hr1
      have hra : r ≠ a := fun z => by have hr2 : H r = _ := hr2; rw [z, ha] at hr2; cases hr2
      have hr3 : H3 r = some (.lst (lrV lr)) := sm3 _ _ (sm2 _ _ (hsm _ _ hr2 hra))
      walk_at "go"
      refine ⟨c, r, cs, lrV lr, rfl, sm3 _ _ hc2, hr3, hcl, hcn, by omega, fun row H4 sm4 hrow hrow4 => ?_⟩
      have hd4 := sm4 _ _ hd3
      refine ⟨_, hd4, ?_, (sm3.trans sm4).mut hD, rws ++ [row], by rw [upd_same, List.map_append]; rfl, ?_⟩
      · have h1 := hrws.length
        rw [List.length_map, List.length_take] at h1
        rw [List.length_map]
        exact small1000 (by omega)
      · rw [List.take_succ, hlr, List.map_append]
        refine paired_app (L2.Paired.mapP hrws fun u w z => ⟨z.1, ?_⟩) (.cons ⟨sm3.free hrow, ?_⟩ .nil)
        · rw [upd_ne (fun q => by have z2 := z.2; rw [q, hd3] at z2; cases z2)]
          exact sm4 _ _ z.2
        · rw [upd_ne (fun q => by rw [q, hd4] at hrow4; cases hrow4)]
          exact hrow4
    · rintro H3 ⟨sm3, rws, hd3, hrws⟩
      have hlr : (rs.map V.ref).length = x.2.length := by rw [List.length_map]; exact hrs.length
      rw [hlr, List.take_length] at hrws
      have e13 := sm3 _ _ e1
      have e33 := sm3 _ _ e3
      have e23 := sm3 _ _ e2
      have hp3 := sm3 _ _ hp2
      refine ⟨e13, [(Sum.inr n0, .ref l0), (Sum.inr n1, .ref D)], rfl, by show 2 ≤ 15; omega, ?_⟩
      have hmg : mergeK [] [((Sum.inr n0 : Key), V.ref l0), (Sum.inr n1, .ref D)] = [(Sum.inr n0, .ref l0), (Sum.inr n1, .ref D)] := by
        have := mergeK_nd [((Sum.inr n0 : Key), V.ref l0), (Sum.inr n1, .ref D)] [] (by
          rw [List.map_nil, List.nil_append]
          exact List.nodup_cons.mpr ⟨fun z => h01 (Sum.inr.inj (List.mem_singleton.mp z)), List.nodup_cons.mpr ⟨fun z => (by cases z), .nil⟩⟩)
        simpa using this
      rw [hmg]
      walk_at "go"
      refine ⟨p, _, rfl, DPut.i (by rw [upd_ne (Ne.symm n1p)]; exact hp3) ?_, ?_⟩
      · have h1 := hps.length
        have h2 := (List.getElem?_eq_some_iff.mp hx).1
        rw [thOf_len, List.length_take] at h1
        exact small1000 (by omega)
      · have hnew : valV ps (Sum.inl x.1) = none := valV_no fun kv hkv e => by
          obtain ⟨y, hy, z⟩ := Paired.inL hps kv hkv
          have z1 : kv.1 = Sum.inl y.1 := z.1
          have z2 : y.1 = x.1 := Sum.inl.inj (z1.symm.trans e)
          obtain ⟨u, hu, rfl⟩ := List.mem_map.mp hy
          exact nd_takeG (f := fun x : Int × List LR => x.1) hnd hx u hu z2
        rw [putK_new _ hnew]
        have hnl : l0 ≠ p1 := fun z => by rw [z, e13] at e33; cases e33
        have hnD : D ≠ p1 := fun z => by rw [z, e13] at hd3; cases hd3
        have hnlp : l0 ≠ p := fun z => by rw [z, hp3] at e33; cases e33
        have hnDp : D ≠ p := fun z => by rw [z, hp3] at hd3; cases hd3
        have kp : ∀ b o, H3 b = some o → b ≠ p → b ≠ p1 → upd (upd H3 p1 (.dK [(Sum.inr n0, .ref l0), (Sum.inr n1, .ref D)])) p (.dK (ps ++ [(Sum.inl x.1, .ref p1)])) b = some o := fun b o h h1 h2 => by
          rw [upd_ne h1, upd_ne h2]; exact h
        refine ⟨_, _, rfl, kp _ _ (sm3 _ _ hfz2) hap (Ne.symm n1a), fun b o h ne => kp _ _ (sm3 _ _ (sm2 _ _ (hsm b o h ne))) (ne_of_none h hp) (fun z => by have := hsm b o h ne; rw [z, hp1n] at this; cases this), _, upd_same, ?_⟩
        rw [List.take_succ, hx]
        unfold thOf
        rw [List.map_append]
        refine paired_app (L2.Paired.mapP hps fun kv y z => z.keep hp1 fun b o h hbp _ => kp _ _ (sm3 _ _ (sm2 _ _ h)) hbp (fun z => by rw [z, hp1n] at h; cases h)) (.cons ⟨rfl, p1, [(Sum.inr n0, .ref l0), (Sum.inr n1, .ref D)], rfl, n1p, by rw [upd_ne n1p]; exact upd_same, fun n hn => ?_⟩ .nil)
        rcases List.mem_cons.mp hn with rfl | hn
        · refine ⟨l0, [d0], valV_pos rfl, kp _ _ e33 hnlp hnl, ?_⟩
          show Paired _ [d0] (if n = n then [[]] else _)
          rw [if_pos rfl]
          exact .cons ⟨n0p, kp _ _ e23 n0p n1d⟩ .nil
        · cases List.mem_singleton.mp hn
          refine ⟨D, rws, (valV_neg (fun z => h01 (Sum.inr.inj z))).trans (valV_pos rfl), kp _ _ hd3 hnDp hnD, ?_⟩
          show Paired _ rws (if n1 = n0 then [[]] else _)
          rw [if_neg (Ne.symm h01)]
          refine L2.Paired.mapP hrws fun r row z => ?_
          have z1 : r ≠ p := fun y => by have z1 := z.1; rw [y, hp2] at z1; cases z1
          have z2 : r ≠ p1 := fun y => by have z1 := z.1; rw [y, e1] at z1; cases z1
          exact ⟨z1, kp _ _ z.2 z1 z2⟩
  · rintro σ H1 ⟨b5, b8, rfl, hfz, hsm, ps, hp1, hps⟩
    refine ⟨hfz, ?_⟩
    rw [hkl, List.take_length] at hps
    have hpa : p ≠ a := Ne.symm hap
    have hps2 : Paired (PieceAt (upd H1 a (.dK kvs)) p [n0, n1]) ps (thOf cs n0 T') := L2.Paired.mapP hps fun _ _ z => z.keep hp1 fun b o h _ ho => by
      rw [upd_ne (fun y => by rw [y, hfz] at h; cases h; exact ho _ _ rfl)]; exact h
    have sm2 : Same H (upd H1 a (.dK kvs)) := fun b o h => by
      by_cases e : b = a
      · rw [e, upd_same, ← ha, ← e]; exact h
      · rw [upd_ne e]; exact hsm _ _ h e
    have hp2 : (upd H1 a (.dK kvs)) p = some (.dK ps) := by rw [upd_ne hpa]; exact hp1
    generalize upd H1 a (.dK kvs) = H2 at hps2 sm2 hp2
    have hFne : F.tabs ≠ [] := fun z => by rw [z] at hN; cases hN
    walk_at "go"
    refine fun x dx hx hdx hxd => ?_
    have smx : Same H2 (upd (upd H2 dx (.own x)) x (.ins (He.ga K "Plain") dx [])) := (Same.new hdx).trans (Same.new (by rw [upd_ne (Ne.symm hxd)]; exact hx))
    refine ⟨x, dx, f, .ref p, F, thOf cs n0 T', H2, rfl, upd_same, smx, hx, hF.mono sm2, .inr ⟨p, rfl, ps, hp2, by rw [hN]; exact hps2⟩, by rw [thOf_keys]; exact hnd, fun t ht => small1000 (hS t ht), hro.mono sm2, how, hFne, fun q L H' e1 e2 sm' hx' _ hC hL _ => ⟨rfl, ?_⟩, fun n p e d H' sm' hd => ?_, fun n p e0 e d H' sm' hd => ?_⟩
    · walk_at "go"
      refine ⟨x, dx, plF f q, rfl, hx', rfl, ?_⟩
      walk_at "go"
      refine ⟨x, dx, q, f, F, L, _, rfl, hx', hF.mono (sm2.trans sm'), hC, hL, hFne, ?_, fun r H3 sm3 _ hr3 => ?_⟩
      · obtain ⟨t0, tl, e0⟩ : ∃ t0 tl, F.tabs = t0 :: tl := by
          cases e : F.tabs with
          | nil => exact absurd e hFne
          | cons a b => exact ⟨a, b, rfl⟩
        have hhd : hdName F = t0.name := by unfold hdName; rw [e0]
        rw [hhd]
        exact small1000 (hS t0 (by rw [e0]; exact List.mem_cons_self))
      · walk_at "go"
        exact hok e1 e2 r H3 ((sm2.trans sm').trans sm3) hr3
    · refine ⟨true, T.em_Twice_Twice, fun _ a ha => ?_, (fun z => (by cases z))⟩
      walk_at "go"
      refine ⟨d, _, _, rfl, upd_same, rfl, _, rfl, rfl, rfl, d, _, _, rfl, upd_same, rfl, _, rfl, rfl, rfl, d, _, _, rfl, upd_same, rfl, by walk_at "sz", fun t ht => ?_⟩
      exact ⟨_, rfl, htw n p e t _ (((sm2.trans sm').trans (Same.new hd)).trans (Same.new ht)) upd_same⟩
    · refine ⟨false, T.em_Nowhere_Twice, (fun z => (by cases z)), fun _ => ⟨true, T.em_Nowhere_Nowhere, fun _ a ha => ?_, (fun z => (by cases z))⟩⟩
      walk_at "go"
      refine ⟨d, _, _, rfl, upd_same, rfl, _, rfl, rfl, rfl, d, _, _, rfl, upd_same, rfl, _, rfl, rfl, rfl, d, _, _, rfl, upd_same, rfl, by walk_at "sz", fun t ht => ?_⟩
      exact ⟨_, rfl, hnw e0 n p e t _ (((sm2.trans sm').trans (Same.new hd)).trans (Same.new ht)) upd_same⟩


def RowFlat (row : Row) : Prop := (row.map (·.1)).Nodup ∧ ∀ kv ∈ row, dat kv.2 = true
theorem eqTr_row {K : PySem.W.Frag} {H : Hp} {a b : Addr} {row : Row} {n : Nat} (h : RowFlat row) (ha : H a = some (.dK row)) (hb : H b = some (.dK row)) : EqTr K H (n + 1) (.ref a) (.ref b) := by
  refine .dct (.inl ha) (.inl hb) rfl (fun k x hm => ⟨x, val_nodup h.1 _ hm⟩) fun k x y hm hy => ?_
  have := val_nodup h.1 _ hm
  rw [this] at hy
  cases hy
  exact .flat (h.2 _ hm)
theorem mkRow_flat {cs : List Str} (hn : cs.Nodup) (hl : cs.length = 4) (lr : LR) : RowFlat (mkRow cs (lrV lr)) := by
  constructor
  · have e : (mkRow cs (lrV lr)).map (·.1) = cs.map fun c => Sum.inr c := by
      unfold mkRow
      rw [List.map_map]
      have h1 : (cs.zip (lrV lr)).map Prod.fst = cs := List.map_fst_zip (by show cs.length ≤ 4; omega)
      conv => rhs; rw [← h1]
      rw [List.map_map]
      rfl
    rw [e]
    exact inr_nd hn
  · intro kv hkv
    obtain ⟨x, hx, rfl⟩ := List.mem_map.mp hkv
    have h2 : x.2 ∈ lrV lr := (List.of_mem_zip (a := x.1) (b := x.2) hx).2
    have : ∀ v ∈ lrV lr, dat v = true := by
      intro v hv
      unfold lrV at hv
      rcases List.mem_cons.mp hv with rfl | hv
      · rfl
      rcases List.mem_cons.mp hv with rfl | hv
      · rfl
      rcases List.mem_cons.mp hv with rfl | hv
      · cases lr.c <;> rfl
      cases List.mem_singleton.mp hv
      rfl
    exact this _ h2
/-- rows told as they are due -/
theorem eqTr_tup {K : PySem.W.Frag} {H : Hp} {u v : V} {s : (Int × Int) × Row} {n : Nat} (h : RowFlat s.2) (hu : RowTup H u s) (hv : RowTup H v s) : EqTr K H (n + 2) u v := by
  obtain ⟨t, r, rfl, h1, h2⟩ := hu
  obtain ⟨t', r', rfl, h1', h2'⟩ := hv
  refine .tup (SqT.of h1) (SqT.of h1') rfl fun i x y hx hy => ?_
  match i, hx, hy with
  | 0, hx, hy => cases hx; cases hy; exact .flat rfl
  | 1, hx, hy => cases hx; cases hy; exact .flat rfl
  | 2, hx, hy => cases hx; cases hy; exact eqTr_row h h2 h2'
theorem eqTr_rows {K : PySem.W.Frag} {H : Hp} {us vs : List V} {S : Sheet} (h : ∀ s ∈ S, RowFlat s.2) (hu : Paired (RowTup H) us S) (hv : Paired (RowTup H) vs S) : us.length = vs.length ∧ ∀ (i : Nat) (x y : V), us[i]? = some x → vs[i]? = some y → EqTr K H 2 x y := by
  refine ⟨hu.length.trans hv.length.symm, fun i x y hx hy => ?_⟩
  obtain ⟨s, hs, h1⟩ := Paired.at hu hx
  obtain ⟨s', hs', h2⟩ := Paired.at hv hy
  rw [hs] at hs'
  cases hs'
  exact eqTr_tup (h s (List.mem_of_getElem? hs)) h1 h2
def dueRows (cs : List Str) (T : LT) : Sheet := (listed T).map fun x => ((x.1, x.2.1), mkRow cs (lrV x.2.2))
def dueHeads (T : LT) : Sheet := (PySem.W.sortI (T.map (·.1))).map fun k => ((k, 0), [])
def spTells (K : PySem.W.Frag) : Sp := fun vs H Q _ => ∃ (x dx q na c a : Addr) (f : V) (n0 n1 : Str) (cs : List Str) (F : Fm) (L : List (Str × Addr)) (C : Str → Sheet) (T : LT), vs = [.ref x, .ref na, .ref c, .ref a] ∧ H x = some (.ins (He.ga K "Plain") dx (plF f q)) ∧ FmAt K H f F ∧ ShsAt H q L C ∧ L.map (·.1) = F.tabs.map (·.name) ∧ F.tabs.map (·.name) = [n0, n1] ∧
  H na = some (.lst [.str n0, .str n1]) ∧ H c = some (.lst (cs.map V.str)) ∧ cs.length = 4 ∧ cs.Nodup ∧ LTAt H a T ∧ T.length < 64 ∧ (listed T).length ≤ 1000 ∧ (∀ t ∈ F.tabs, (C t.name).length ≤ 1000) ∧
  rowsOf (C n1) = dueRows cs T ∧ rowsOf (C n0) = dueHeads T ∧ PySem.W.sortI ((C n0).map (·.1.1)) = PySem.W.sortI (T.map (·.1)) ∧ ∀ H', Same H H' → Q (.bl true) H'
theorem ok_law_tells (T : Tx K mg) : DefOk P w K mg base ("_law_tells", none) ["plain", "names", "columns", "things"] [] 4 (spTells K) := by
  refine def_ok T.f_law_tells sc_law_tells (fun vs H Q E h => by first | (obtain ⟨ rfl, _⟩ := h; rfl) | (obtain ⟨_, rfl, _⟩ := h; rfl) | (obtain ⟨_, _, rfl, _⟩ := h; rfl) | (obtain ⟨_, _, _, rfl, _⟩ := h; rfl) | (obtain ⟨_, _, _, _, rfl, _⟩ := h; rfl) | (obtain ⟨_, _, _, _, _, rfl, _⟩ := h; rfl) | (obtain ⟨_, _, _, _, _, _, rfl, _⟩ := h; rfl) | (obtain ⟨_, _, _, _, _, _, _, rfl, _⟩ := h; rfl) | (obtain ⟨_, _, _, _, _, _, _, _, rfl, _⟩ := h; rfl) | (obtain ⟨_, _, _, _, _, _, _, _, _, rfl, _⟩ := h; rfl) | (obtain ⟨_, _, _, _, _, _, _, _, _, _, rfl, _⟩ := h; rfl) | (obtain ⟨_, _, _, _, _, _, _, _, _, _, _, rfl, _⟩ := h; rfl) | (obtain ⟨_, _, _, _, _, _, _, _, _, _, _, _, rfl, _⟩ := h; rfl) | (obtain ⟨_, _, _, _, _, _, _, _, _, _, _, _, _, rfl, _⟩ := h; rfl) | (obtain ⟨_, _, _, _, _, _, _, _, _, _, _, _, _, _, rfl, _⟩ := h; rfl) | (obtain ⟨_, _, _, _, _, _, _, _, _, _, _, _, _, _, _, rfl, _⟩ := h; rfl) | (obtain ⟨_, _, _, _, _, _, _, _, _, _, _, _, _, _, _, _, rfl, _⟩ := h; rfl) | (obtain ⟨_, _, _, _, _, _, _, _, _, _, _, _, _, _, _, _, _, rfl, _⟩ := h; rfl) | (obtain ⟨_, _, _, _, _, _, _, _, _, _, _, _, _, _, _, _, _, _, rfl, _⟩ := h; rfl) | (obtain ⟨_, _, _, _, _, _, _, _, _, _, _, _, _, _, _, _, _, _, _, rfl, _⟩ := h; rfl) | (obtain ⟨_, _, _, _, _, _, _, _, _, _, _, _, _, _, _, _, _, _, _, _, rfl, _⟩ := h; rfl) | (obtain ⟨_, _, _, _, _, _, _, _, _, _, _, _, _, _, _, _, _, _, _, _, _, rfl, _⟩ := h; rfl)) (fun _ _ _ _ _ _ us hl => match us, hl with | [_, _, _, _], _ => rfl) (fun cdv A outer s H vs Q E hr h => ?_)
  have hu := hu_of hr
  refine ⟨_, (pss_cons (ps_setLc (i := 4) (own := [("key", 5), ("place", 6), ("row", 7)]) rfl sc_law_tells.nd rfl rfl (sw_true rfl rfl rfl (by decide +kernel)) (listI (K := K) (callK (ok_law_listed T) hr (by decide) (takes_of rfl rfl rfl rfl) T.g_law_listed (pa_cons (pv 3) pa_nil))) (blkOk_by (own := [("key", 5), ("place", 6), ("row", 7)]) (N := N_law_tells) (sc := defScope s_law_tells) (by decide +kernel)) (fun _ _ _ _ _ => (pgTupK (K := K) (n := 3) rfl (pgs_cons (pg_name (i := 5) sc_law_tells.nd rfl (Or.inl rfl)) (pgs_cons (pg_name (i := 6) sc_law_tells.nd rfl (Or.inl rfl)) (pgs_cons (pg_name (i := 7) sc_law_tells.nd rfl (Or.inl rfl)) pgs_nil))))) (fun _ _ _ _ _ => pts_nil) (fun _ _ _ _ _ => (pe_tup (pa_cons (pv 5) (pa_cons (pv 6) (pa_cons (callK0 (ok_law_row T) hr (by decide) T.g_law_row (pa_cons (pv 2) (pa_cons (pv 7) pa_nil))) pa_nil))))))
      (pss_cons (ps_if (PW.pt (pw_or (pt_cmpR (neTT (K := K) (Room.units hr)) (methK (ok_Plain_rows T) hr (by decide) (takes_of rfl rfl rfl rfl) T.cl_Plain T.me_Plain_rows (pv 0) (pa_cons (pe_ix (ixL (K := K)) (pv 1) pe_int (fun _ _ => rfl)) pa_nil)) (pv 4) (nomark _)) (pw_or1 (pt_cmpR (neDD (K := K) (Room.units hr)) (methK0 (ok_Plain_held T) hr (by decide) (takes_of rfl rfl rfl rfl) T.cl_Plain T.me_Plain_held (pv 0)) (pe_callB (call_sortedDI rfl) rfl T.b_sorted (by decide +kernel) (pa_cons (pv 3) pa_nil)) (nomark _)))))
      (pss_one (ps_ret pe_bl))
      pss_nil)
      (pss_one (ps_ret (pe_cmpR (eqTT (K := K) (Room.units hr)) (methK (ok_Plain_rows T) hr (by decide) (takes_of rfl rfl rfl rfl) T.cl_Plain T.me_Plain_rows (pv 0) (pa_cons (pe_ix (ixL (K := K)) (pv 1) pe_int (fun _ _ => rfl)) pa_nil)) (pe_lc (own := [("key", 5)]) rfl sc_law_tells.nd (listI (K := K) (pe_callB (call_sortedDI rfl) rfl T.b_sorted (by decide +kernel) (pa_cons (pv 3) pa_nil))) (blkOk_by (own := [("key", 5)]) (N := N_law_tells) (sc := defScope s_law_tells) (by decide +kernel)) (fun _ _ _ _ _ => (pg_name (i := 5) sc_law_tells.nd rfl (Or.inl rfl))) (fun _ _ _ _ _ => pts_nil) (fun _ _ _ _ _ => (pe_tup (pa_cons (pv 5) (pa_cons pe_int (pa_cons pe_dnewK pa_nil)))))) (nomark _)))))), ?_⟩
  obtain ⟨x, dx, q, na, c, a, f, n0, n1, cs, F, L, C, T', rfl, hx, hF, hC, hL, hN, hna, hc, hcl, hcn, ⟨kvs, ha, hkv⟩, hT1, hT2, hS, hr1, hr0, hk0, hQ⟩ := h
  obtain ⟨a1, ha1⟩ : ∃ a1, (n1, a1) ∈ L := by
    have : n1 ∈ L.map (·.1) := by rw [hL, hN]; simp
    obtain ⟨y, hy, rfl⟩ := List.mem_map.mp this
    exact ⟨y.2, hy⟩
  obtain ⟨a0, ha0⟩ : ∃ a0, (n0, a0) ∈ L := by
    have : n0 ∈ L.map (·.1) := by rw [hL, hN]; simp
    obtain ⟨y, hy, rfl⟩ := List.mem_map.mp this
    exact ⟨y.2, hy⟩
  have hS1 : (C n1).length ≤ 1000 := by
    have : n1 ∈ F.tabs.map (·.name) := by rw [hN]; simp
    obtain ⟨t, ht, rfl⟩ := List.mem_map.mp this
    exact hS t ht
  have hS0 : (C n0).length ≤ 1000 := by
    have : n0 ∈ F.tabs.map (·.name) := by rw [hN]; simp
    obtain ⟨t, ht, rfl⟩ := List.mem_map.mp this
    exact hS t ht
  have hFne : F.tabs ≠ [] := fun z => by rw [z] at hN; cases hN
  have hhd : hdName F = n0 := by
    cases e : F.tabs with
    | nil => exact absurd e hFne
    | cons t0 tl => rw [e] at hN; unfold hdName; rw [e]; exact (List.cons.inj hN).1
  walk_at "go"
  refine ⟨a, T', rfl, ⟨kvs, ha, hkv⟩, hT1, small1000 hT2, fun rp H1 ts sm1 hrp hr1l hts => ⟨rp, rfl, ⟨_, SqL.of hr1l⟩, fun D hD => lc_list (xs := ts.map V.ref) (fun i H' => Same H1 H' ∧ ∃ us, H' D = some (.lst us) ∧ Paired (RowTup H') us ((dueRows cs T').take i)) ⟨Same.new hD, [], upd_same, .nil⟩ (fun i H' _ h => SqL.of (h.1 _ _ hr1l)) ?_ ?_⟩⟩
  · rintro i y H2 hi ⟨sm2, us, hd2, hus⟩
    obtain ⟨t, ht, rfl⟩ := refs_get hi
    obtain ⟨z, hz, r, hr1', hr2'⟩ := Paired.at hts ht
    have ht2 := sm2 _ _ hr1'
    have hr2 : H2 r = some (.lst (lrV z.2.2)) := sm2 _ _ hr2'
    walk_at "go"
    refine ⟨c, r, cs, lrV z.2.2, rfl, sm2 _ _ (sm1 _ _ hc), hr2, hcl, hcn, by omega, fun row H3 sm3 hrow hrow3 => ?_⟩
    walk_at "go"
    refine ⟨by walk_at "sz", fun u hu => ?_⟩
    have hd3 := sm3 _ _ hd2
    refine ⟨_, upd_free hu hd3, ?_, ((sm2.trans sm3).trans (Same.new hu)).mut hD, _, upd_same, ?_⟩
    · have h1 := hus.length
      rw [List.length_take] at h1
      have h2 : (dueRows cs T').length = (listed T').length := List.length_map _
      exact small1000 (by omega)
    · have hzi : (dueRows cs T')[i]? = some ((z.1, z.2.1), mkRow cs (lrV z.2.2)) := by unfold dueRows; rw [List.getElem?_map, hz]; rfl
      rw [List.take_succ, hzi]
      have kp : KeepNL H2 _ := ((KeepNL.of (sm3.trans (Same.new (o := .tup [.int z.1, .int z.2.1, .ref row]) hu))).upd (o := .lst (us ++ [V.ref u])) (upd_free hu hd3))
      refine paired_app (L2.Paired.mapP hus fun v s y => ?_) (.cons ⟨u, row, rfl, ?_, ?_⟩ .nil)
      · obtain ⟨t, r, y1, y2, y3⟩ := y
        exact ⟨t, r, y1, kp _ _ y2 (fun _ y => by cases y), kp _ _ y3 (fun _ y => by cases y)⟩
      · rw [upd_ne (Ne.symm (ne_of_none hd3 hu))]; exact upd_same
      · rw [upd_ne (fun y => by rw [y, hd3] at hrow3; cases hrow3)]; exact upd_free hu hrow3
  · rintro H2 ⟨sm2, us, hd2, hus⟩
    have hlt : (ts.map V.ref).length = (dueRows cs T').length := by unfold dueRows; rw [List.length_map, List.length_map]; exact hts.length
    rw [hlt, List.take_length] at hus
    have sm12 := sm1.trans sm2
    have hx2 := sm12 _ _ hx
    have hna2 := sm12 _ _ hna
    walk_at "go"
    refine ⟨x, dx, plF f q, rfl, hx2, rfl, ?_⟩
    walk_at "go"
    refine ⟨x, dx, q, a1, f, L, C, n1, rfl, hx2, hC.mono sm12, ha1, small1000 hS1, fun p H3 vs sm3 hp hp3 hvs => ?_⟩
    rw [hr1] at hvs
    have hus3 : Paired (RowTup H3) us (dueRows cs T') := L2.Paired.mapP hus fun _ _ z => z.mono sm3
    have hfl : ∀ s ∈ dueRows cs T', RowFlat s.2 := fun s hs => by
      obtain ⟨z, _, rfl⟩ := List.mem_map.mp hs
      exact mkRow_flat hcn hcl _
    obtain ⟨q1, q2⟩ := eqTr_rows (K := K) hfl hvs hus3
    walk_at "go"
    refine ⟨2, p, D, vs, us, by omega, rfl, rfl, SqL.of hp3, SqL.of (sm3 _ _ hd2), q1, q2, ?_⟩
    have sm13 := sm12.trans sm3
    have hx3 := sm13 _ _ hx
    have hna3 := sm13 _ _ hna
    walk_at "go"
    refine ⟨x, dx, plF f q, rfl, hx3, rfl, ?_⟩
    walk_at "go"
    refine ⟨x, dx, q, f, F, L, C, rfl, hx3, hF.mono sm13, hC.mono sm13, hL, hFne, by rw [hhd]; exact small1000 hS0, fun p4 H4 sm4 _ hp4 => ?_⟩
    rw [hhd, hk0] at hp4
    have sm14 := sm13.trans sm4
    walk_at "go"
    refine ⟨a, kvs, T'.map (·.1), rfl, .inl (sm14 _ _ ha), by rw [List.map_map]; exact Paired.mapEq hkv fun _ _ z => z.1, by rw [List.length_map]; exact hT1, fun ys kp hperm hso hkp => ?_⟩
    obtain rfl : ys = PySem.W.sortI (T'.map (·.1)) := PySem.W.eq_sortI hperm hso
    refine neI (SqL.of (upd_free hkp hp4)) (SqL.of upd_same) ⟨_, rfl, ?_⟩
    rw [decide_eq_true rfl]
    refine ifF rfl ?_
    have sm5 : Same H4 (upd H4 kp (.lst ((PySem.W.sortI (T'.map (·.1))).map V.int))) := Same.new hkp
    generalize upd H4 kp (.lst ((PySem.W.sortI (T'.map (·.1))).map V.int)) = H5 at sm5
    have sm15 := sm14.trans sm5
    have hx5 := sm15 _ _ hx
    have hna5 := sm15 _ _ hna
    walk_at "go"
    refine ⟨x, dx, plF f q, rfl, hx5, rfl, ?_⟩
    walk_at "go"
    refine ⟨x, dx, q, a0, f, L, C, n0, rfl, hx5, hC.mono sm15, ha0, small1000 hS0, fun p6 H6 vs6 sm6 hp6 hp6l hvs6 => ?_⟩
    rw [hr0] at hvs6
    have sm16 := sm15.trans sm6
    walk_at "go"
    refine ⟨a, kvs, T'.map (·.1), rfl, .inl (sm16 _ _ ha), by rw [List.map_map]; exact Paired.mapEq hkv fun _ _ z => z.1, by rw [List.length_map]; exact hT1, fun ys kp2 hperm2 hso2 hkp2 => ?_⟩
    obtain rfl : ys = PySem.W.sortI (T'.map (·.1)) := PySem.W.eq_sortI hperm2 hso2
    have sm7 : Same H6 (upd H6 kp2 (.lst ((PySem.W.sortI (T'.map (·.1))).map V.int))) := Same.new hkp2
    have hkp7 : (upd H6 kp2 (.lst ((PySem.W.sortI (T'.map (·.1))).map V.int))) kp2 = some (.lst ((PySem.W.sortI (T'.map (·.1))).map V.int)) := upd_same
    generalize upd H6 kp2 (.lst ((PySem.W.sortI (T'.map (·.1))).map V.int)) = H7 at sm7 hkp7
    have hp7 := sm7 _ _ hp6l
    have hlk : (PySem.W.sortI (T'.map (·.1))).length = T'.length := by rw [(PySem.W.sortI_perm _).length_eq, List.length_map]
    refine ⟨kp2, rfl, ⟨_, SqL.of hkp7⟩, fun D2 hD2 => lc_list (xs := (PySem.W.sortI (T'.map (·.1))).map V.int) (fun i H' => Same H7 H' ∧ ∃ us, H' D2 = some (.lst us) ∧ Paired (RowTup H') us ((dueHeads T').take i)) ⟨Same.new hD2, [], upd_same, .nil⟩ (fun i H' _ h => SqL.of (h.1 _ _ hkp7)) ?_ ?_⟩
    · rintro i y H8 hi ⟨sm8, us8, hd8, hus8⟩
      rw [List.getElem?_map] at hi
      obtain ⟨k, hk, rfl⟩ := Option.map_eq_some_iff.mp hi
      walk_at "go"
      refine fun e he => ⟨by walk_at "sz", fun u hu => ?_⟩
      refine ⟨_, upd_free hu (upd_free he hd8), ?_, ((sm8.trans (Same.new he)).trans (Same.new hu)).mut hD2, _, upd_same, ?_⟩
      · have h1 := hus8.length
        rw [List.length_take] at h1
        have h2 : (dueHeads T').length = T'.length := by unfold dueHeads; rw [List.length_map, hlk]
        exact small1000 (by omega)
      · have hzi : (dueHeads T')[i]? = some ((k, 0), []) := by unfold dueHeads; rw [List.getElem?_map, hk]; rfl
        rw [List.take_succ, hzi]
        have kp : KeepNL H8 _ := ((KeepNL.of ((Same.new (o := .dK []) he).trans (Same.new (o := .tup [.int k, .int 0, .ref e]) hu))).upd (o := .lst (us8 ++ [V.ref u])) (upd_free hu (upd_free he hd8)))
        refine paired_app (L2.Paired.mapP hus8 fun v s y => ?_) (.cons ⟨u, e, rfl, ?_, ?_⟩ .nil)
        · obtain ⟨t, r, y1, y2, y3⟩ := y
          exact ⟨t, r, y1, kp _ _ y2 (fun _ y => by cases y), kp _ _ y3 (fun _ y => by cases y)⟩
        · rw [upd_ne (Ne.symm (ne_of_none (upd_free he hd8) hu))]; exact upd_same
        · rw [upd_ne (Ne.symm (ne_of_none hd8 he))]; exact upd_free hu upd_same
    · rintro H8 ⟨sm8, us8, hd8, hus8⟩
      have hlt2 : ((PySem.W.sortI (T'.map (·.1))).map V.int).length = (dueHeads T').length := by unfold dueHeads; rw [List.length_map, List.length_map]
      rw [hlt2, List.take_length] at hus8
      have hvs8 : Paired (RowTup H8) vs6 (dueHeads T') := L2.Paired.mapP hvs6 fun _ _ z => (z.mono sm7).mono sm8
      have hfl2 : ∀ s ∈ dueHeads T', RowFlat s.2 := fun s hs => by
        obtain ⟨z, _, rfl⟩ := List.mem_map.mp hs
        exact ⟨.nil, fun kv hkv => by cases hkv⟩
      obtain ⟨q3, q4⟩ := eqTr_rows (K := K) hfl2 hvs8 hus8
      refine ⟨2, p6, D2, vs6, us8, by omega, rfl, rfl, SqL.of (sm8 _ _ hp7), SqL.of hd8, q3, q4, ?_⟩
      exact hQ _ (sm16.trans (sm7.trans sm8))


theorem keys_len5 {keys : List Int} (h : keys.length = 5) {j : Nat} (hj : j < 5) : ∃ k, keys[j]? = some k ∧ k ∈ keys := ⟨_, List.getElem?_eq_getElem (by omega), List.getElem_mem _⟩
theorem mergeK_ints : ∀ (more : List Int) (ks : List Int) (acc : List (Key × V)) (v : V), acc.map (·.1) = ks.map Sum.inl → ∃ ls : List Int, (mergeK acc (more.map fun k => ((Sum.inl k : Key), v))).map (·.1) = ls.map Sum.inl ∧ ls.length ≤ ks.length + more.length ∧ ∀ k ∈ ls, k ∈ ks ∨ k ∈ more
  | [], ks, acc, v, h => ⟨ks, h, Nat.le_refl _, fun k hk => .inl hk⟩
  | m :: more, ks, acc, v, h => by
    by_cases c : (acc.any fun kv => decide (kv.1 = Sum.inl m)) = true
    · have e : (putK acc (Sum.inl m) v).map (·.1) = ks.map Sum.inl := by
        rw [← h]
        unfold putK
        rw [if_pos c, List.map_map]
        refine List.map_congr_left fun x _ => ?_
        show (if x.1 = Sum.inl m then (x.1, v) else x).1 = x.1
        split <;> rfl
      obtain ⟨ls, h1, h2, h3⟩ := mergeK_ints more ks _ v e
      refine ⟨ls, h1, by rw [List.length_cons]; omega, fun k hk => (h3 k hk).imp id (List.mem_cons_of_mem _)⟩
    · have e : (putK acc (Sum.inl m) v).map (·.1) = (ks ++ [m]).map Sum.inl := by
        unfold putK
        rw [if_neg c, List.map_append, List.map_append, h]
        rfl
      obtain ⟨ls, h1, h2, h3⟩ := mergeK_ints more _ _ v e
      refine ⟨ls, h1, by rw [List.length_append] at h2; rw [List.length_cons]; simp at h2; omega, fun k hk => ?_⟩
      rcases h3 k hk with h | h
      · rcases List.mem_append.mp h with h | h
        · exact .inl h
        · cases List.mem_singleton.mp h; exact .inr List.mem_cons_self
      · exact .inr (List.mem_cons_of_mem _ h)
theorem BoxAt.refs {H : Hp} {b r : Addr} {rs : List Addr} (h : BoxAt H b) (e : H r = some (.lst (rs.map V.ref))) : r ≠ b := fun z => by
  obtain ⟨o, h1, i, j, k, rfl, _⟩ := h
  rw [z, h1] at e
  match rs, e with
  | [], e => cases e
  | _ :: _, e => cases e
theorem LTKv.sb {b : Addr} {H H' : Hp} (hb : BoxAt H b) (e : SameB b H H') {kv : Key × V} {x : Int × List LR} (h : LTKv H kv x) : LTKv H' kv x := by
  obtain ⟨h1, l, rs, h2, h3, h4⟩ := h
  exact ⟨h1, l, rs, h2, e.1 _ _ h3 (hb.refs h3), L2.Paired.mapP h4 fun r lr z => e.1 _ _ z (LRAt.ne hb z)⟩
theorem LTKv.sbx {b : Addr} {H H' : Hp} (hb : BoxAt H b) {kv : Key × V} {x : Int × List LR} (h : LTKv H kv x) (e : ∀ c o, H c = some o → c ≠ b → H' c = some o) : LTKv H' kv x := by
  obtain ⟨h1, l, rs, h2, h3, h4⟩ := h
  exact ⟨h1, l, rs, h2, e _ _ h3 (hb.refs h3), L2.Paired.mapP h4 fun r lr z => e _ _ z (LRAt.ne hb z)⟩
theorem SameB.dK {b a : Addr} {H H' : Hp} (hb : BoxAt H b) (e : SameB b H H') {kvs : List (Key × V)} (h : H a = some (.dK kvs)) : H' a = some (.dK kvs) := e.1 _ _ h fun z => by
  obtain ⟨o, h1, i, j, k, rfl, _⟩ := hb
  rw [z, h1] at h
  cases h
theorem gone_ok {W : L2.St → XK} {σ : L2.St} {H : Hp} {Q : VK} {b : Addr} {t : Bool} (h0 : σ[0]? = some (some (.ref b))) (hb : BoxAt H b)
    (q : ∀ (g : Bool) (H' : Hp), (g = true → t = true) → SameB b H H' → Q (.bl g) H') : if t = true then tOp rEq (tCallSD spTake [] W (tCons (tVar 0) (tCons (tC (V.int 6)) tNil))) (tC (V.int 5)) σ H Q else Q (.bl false) H := by
  refine ifB (fun e => ?_) (fun e => ?_)
  · refine ⟨_, h0, b, 6, rfl, hb, by omega, by decide +kernel, fun d o hd0 hd1 ho => ⟨rfl, ?_⟩⟩
    exact q _ _ (fun _ => e) (SameB.box ho)
  · exact q _ _ (fun z => by cases z) (SameB.refl hb)
theorem many_ok (sort : Str) (g : Bool) {d : Int} (hd0 : 0 ≤ d) (hd1 : d < 6) : ∃ m : Nat, (if d > (if decide (V.str sort = V.str "some") = true then (1 : Int) else 0) then d else (if decide (V.str sort = V.str "some") = true then (1 : Int) else 0)) * (if (!g) = true then (1 : Int) else 0) = (m : Int) ∧ m ≤ 5 ∧ (g = true → m = 0) ∧ (g = false → sort = "some" → 1 ≤ m) := by
  cases g with
  | true => exact ⟨0, by simp, by omega, fun _ => rfl, (fun z => (by cases z))⟩
  | false =>
    have e : (if (!false) = true then (1 : Int) else 0) = 1 := rfl
    rw [e, Int.mul_one]
    by_cases hs : sort = "some"
    · rw [decide_eq_true (by rw [hs]), if_pos rfl]
      by_cases h1 : d > 1
      · rw [if_pos h1]
        exact ⟨d.toNat, by omega, by omega, (fun z => (by cases z)), fun _ _ => by omega⟩
      · rw [if_neg h1]
        exact ⟨1, rfl, by omega, (fun z => (by cases z)), fun _ _ => by omega⟩
    · have e2 : (if false = true then (1 : Int) else 0) = 0 := rfl
      rw [decide_eq_false (fun z => hs (V.str.inj z)), e2]
      by_cases h1 : d > 0
      · rw [if_pos h1]
        exact ⟨d.toNat, by omega, by omega, (fun z => (by cases z)), fun _ z => absurd z hs⟩
      · rw [if_neg h1]
        exact ⟨0, rfl, by omega, (fun z => (by cases z)), fun _ z => absurd z hs⟩
theorem rows_len {T : LT} {n : Nat} (h : ∀ x ∈ T, x.2.length ≤ n) (key : Int) : (rowsAt T key).length ≤ n := by
  unfold rowsAt
  cases e : lookB T key with
  | none => exact Nat.zero_le _
  | some r => exact h _ (lookB_mem e)
theorem steps_len (cs : List Str) (side : Str) (key : Int) (lrs : List LR) (l1 : List Nat) (l3 : List (Nat × Bool)) : (stepsOf cs side key lrs l1 l3).length ≤ l1.length + 2 * l3.length := by
  unfold stepsOf
  rw [List.length_append, List.length_map]
  have e5 : (l3.flatMap (put1 cs side key lrs)).length ≤ 2 * l3.length := by
    induction l3 with
    | nil => exact Nat.le_refl _
    | cons a l ih =>
      rw [List.flatMap_cons, List.length_append, List.length_cons]
      have : (put1 cs side key lrs a).length ≤ 2 := by unfold put1; split <;> simp
      omega
  omega
theorem paired_take {α β : Type} {F : α → β → Prop} {l : List α} {m : List β} (h : Paired F l m) (n : Nat) : Paired F (l.take n) (m.take n) := by
  induction h generalizing n with
  | nil => rw [List.take_nil, List.take_nil]; exact .nil
  | cons r _ ih =>
    cases n with
    | zero => exact .nil
    | succ n => exact .cons r (ih n)
theorem paired_drop {α β : Type} {F : α → β → Prop} {l : List α} {m : List β} (h : Paired F l m) (n : Nat) : Paired F (l.drop n) (m.drop n) := by
  induction h generalizing n with
  | nil => rw [List.drop_nil, List.drop_nil]; exact .nil
  | cons r h ih =>
    cases n with
    | zero => exact .cons r h
    | succ n => exact ih n
theorem valV_put_self {κ : Type} [DecidableEq κ] (l : List (κ × V)) (k : κ) (v : V) : valV (putK l k v) k = some v := by
  unfold putK
  by_cases h : (l.any fun x => decide (x.1 = k)) = true
  · rw [if_pos h]
    induction l with
    | nil => cases h
    | cons a l ih =>
      rw [List.map_cons]
      by_cases e : a.1 = k
      · rw [if_pos e]; exact valV_pos e
      · rw [if_neg e, valV_neg e]
        rw [List.any_cons, decide_eq_false e, Bool.false_or] at h
        exact ih h
  · rw [if_neg h]
    induction l with
    | nil => exact valV_pos rfl
    | cons a l ih =>
      rw [List.any_cons, Bool.or_eq_true, not_or] at h
      rw [List.cons_append, valV_neg (fun z => h.1 (decide_eq_true z))]
      exact ih h.2
/-- what a deed is -/
structure Deed (n0 n1 : Str) (cs : List Str) (sort : Str) (keys : List Int) (T : LT) (key : Int) (ss : List Stp) (T2 : LT) : Prop where
  km : key ∈ keys
  ex : ∃ (new : List LR) (l1 : List Nat) (l3 : List (Nat × Bool)) (place : Nat), l1.Perm (List.range (rowsAt T key).length) ∧ (l3.map (·.1)).Perm (List.range new.length) ∧ new.length ≤ 5 ∧ (∀ lr ∈ new, ∀ g, lr.c = some g → g ∈ T.map (·.1) ∨ g ∈ keys) ∧ place ≤ (stepsOf cs n1 key new l1 l3).length ∧
    (((lookB T key).isSome = true ∧ new = [] ∧ T2 = cutB (putB T key new) key ∧ ss = (stepsOf cs n1 key new l1 l3).take place ++ [⟨"cut", n0, key, 0, []⟩] ++ (stepsOf cs n1 key new l1 l3).drop place) ∨
     ((sort = "some" → new ≠ []) ∧ (lookB T key) = none ∧ T2 = putB T key new ∧ ss = (stepsOf cs n1 key new l1 l3).take place ++ [⟨"add", n0, key, 0, []⟩] ++ (stepsOf cs n1 key new l1 l3).drop place) ∨
     ((sort = "some" → new ≠ []) ∧ (lookB T key).isSome = true ∧ T2 = putB T key new ∧ ss = stepsOf cs n1 key new l1 l3))
def DeedAt (K : PySem.W.Frag) (H' : Hp) (t : Addr) (key : Int) (ss : List Stp) (T2 : LT) : Prop := ∃ p a2 us, H' t = some (.tup [.int key, .ref p, .ref a2]) ∧ H' p = some (.lst us) ∧ StsAt K H' us ss ∧ LTAt H' a2 T2
def spDeed (K : PySem.W.Frag) : Sp := fun vs H Q _ => ∃ (b na c ks a : Addr) (sort : Str) (base : Int) (n0 n1 : Str) (cs : List Str) (keys : List Int) (T : LT), vs = [.ref b, .ref na, .ref c, .str sort, .int base, .ref ks, .ref a] ∧ BoxAt H b ∧ H na = some (.lst [.str n0, .str n1]) ∧ H c = some (.lst (cs.map V.str)) ∧ cs.length = 4 ∧ cs.Nodup ∧
  H ks = some (.lst (keys.map V.int)) ∧ keys.length = 5 ∧ LTAt H a T ∧ T.length ≤ 10 ∧ (T.map (·.1)).Nodup ∧ (∀ x ∈ T, x.2.length ≤ 5) ∧
  ∀ t H' key ss T2, SameB b H H' → DeedAt K H' t key ss T2 → Deed n0 n1 cs sort keys T key ss T2 → Q (.ref t) H'
theorem ok_law_deed (T : Tx K mg) : DefOk P w K mg base ("_law_deed", none) ["box", "names", "columns", "sort", "base", "keys", "things"] [] 4 (spDeed K) := by
  refine def_ok T.f_law_deed sc_law_deed (fun vs H Q E h => by first | (obtain ⟨ rfl, _⟩ := h; rfl) | (obtain ⟨_, rfl, _⟩ := h; rfl) | (obtain ⟨_, _, rfl, _⟩ := h; rfl) | (obtain ⟨_, _, _, rfl, _⟩ := h; rfl) | (obtain ⟨_, _, _, _, rfl, _⟩ := h; rfl) | (obtain ⟨_, _, _, _, _, rfl, _⟩ := h; rfl) | (obtain ⟨_, _, _, _, _, _, rfl, _⟩ := h; rfl) | (obtain ⟨_, _, _, _, _, _, _, rfl, _⟩ := h; rfl) | (obtain ⟨_, _, _, _, _, _, _, _, rfl, _⟩ := h; rfl) | (obtain ⟨_, _, _, _, _, _, _, _, _, rfl, _⟩ := h; rfl) | (obtain ⟨_, _, _, _, _, _, _, _, _, _, rfl, _⟩ := h; rfl) | (obtain ⟨_, _, _, _, _, _, _, _, _, _, _, rfl, _⟩ := h; rfl) | (obtain ⟨_, _, _, _, _, _, _, _, _, _, _, _, rfl, _⟩ := h; rfl) | (obtain ⟨_, _, _, _, _, _, _, _, _, _, _, _, _, rfl, _⟩ := h; rfl) | (obtain ⟨_, _, _, _, _, _, _, _, _, _, _, _, _, _, rfl, _⟩ := h; rfl) | (obtain ⟨_, _, _, _, _, _, _, _, _, _, _, _, _, _, _, rfl, _⟩ := h; rfl) | (obtain ⟨_, _, _, _, _, _, _, _, _, _, _, _, _, _, _, _, rfl, _⟩ := h; rfl) | (obtain ⟨_, _, _, _, _, _, _, _, _, _, _, _, _, _, _, _, _, rfl, _⟩ := h; rfl) | (obtain ⟨_, _, _, _, _, _, _, _, _, _, _, _, _, _, _, _, _, _, rfl, _⟩ := h; rfl) | (obtain ⟨_, _, _, _, _, _, _, _, _, _, _, _, _, _, _, _, _, _, _, rfl, _⟩ := h; rfl) | (obtain ⟨_, _, _, _, _, _, _, _, _, _, _, _, _, _, _, _, _, _, _, _, rfl, _⟩ := h; rfl) | (obtain ⟨_, _, _, _, _, _, _, _, _, _, _, _, _, _, _, _, _, _, _, _, _, rfl, _⟩ := h; rfl)) (fun _ _ _ _ _ _ us hl => match us, hl with | [_, _, _, _, _, _, _], _ => rfl) (fun cdv A outer s H vs Q E hr h => ?_)
  have hu := hu_of hr
  refine ⟨_, (pss_cons (ps_set (i := 7) sc_law_deed.nd rfl (Or.inl rfl) (callK (ok_law_take T) hr (by decide) (takes_of rfl rfl rfl rfl) T.g_law_take (pa_cons (pv 0) (pa_cons pe_int pa_nil))))
      (pss_cons (ps_set (i := 8) sc_law_deed.nd rfl (Or.inl rfl) (pe_ix (ixL (K := K)) (pv 5) (pv 7) (fun _ _ => rfl)))
      (pss_cons (ps_set (i := 9) sc_law_deed.nd rfl (Or.inl rfl) (pe_dget2 hu (pv 6) (pv 8) (pe_lst pa_nil) ⟨rfl, rfl, rfl, rfl⟩))
      (pss_cons (ps_set (i := 10) sc_law_deed.nd rfl (Or.inl rfl) (pe_and (pe_cmp (pc_din hu (pv 8) (pv 6)) (by with_unfolding_all rfl)) (pe_one (pe_cmpR op_eq (callK (ok_law_take T) hr (by decide) (takes_of rfl rfl rfl rfl) T.g_law_take (pa_cons (pv 0) (pa_cons pe_int pa_nil))) pe_int (nomark _)))))
      (pss_cons (ps_set (i := 11) sc_law_deed.nd rfl (Or.inl rfl) (pe_op op_mulA (pe_callB (call_max2 rfl) rfl T.b_max (by decide +kernel) (pa_cons (pe_callTy call_int1 rfl T.b_int (by decide +kernel) (pa_cons (pe_cmpR op_eq (pv 3) pe_str (nomark _)) pa_nil)) (pa_cons (callK (ok_law_take T) hr (by decide) (takes_of rfl rfl rfl rfl) T.g_law_take (pa_cons (pv 0) (pa_cons pe_int pa_nil))) pa_nil))) (pe_callTy call_int1 rfl T.b_int (by decide +kernel) (pa_cons (pe_not (pv 10)) pa_nil))))
      (pss_cons (ps_set (i := 12) sc_law_deed.nd rfl (Or.inl rfl) (callK (ok_law_rows T) hr (by decide) (takes_of rfl rfl rfl rfl) T.g_law_rows (pa_cons (pv 0) (pa_cons (pv 4) (pa_cons (pv 5) (pa_cons (pv 7) (pa_cons (pv 11) (pa_cons (pe_callB (call_sortedDI rfl) rfl T.b_sorted (by decide +kernel) (pa_cons (pe_callTy (dictPK (K := K) rfl) rfl T.b_dict (by decide +kernel) (pa_cons (pe_lc (own := [("one", 16)]) rfl sc_law_deed.nd (listI (K := K) (pe_op op_cat (pe_callTy (call_listD rfl) rfl T.b_list (by decide +kernel) (pa_cons (pv 6) pa_nil)) (pe_lst (pa_cons (pv 8) pa_nil)))) (blkOk_by (own := [("one", 16)]) (N := N_law_deed) (sc := defScope s_law_deed) (by decide +kernel)) (fun _ _ _ _ _ => (pg_name (i := 16) sc_law_deed.nd rfl (Or.inl rfl))) (fun _ _ _ _ _ => pts_nil) (fun _ _ _ _ _ => (pe_tup (pa_cons (pv 16) (pa_cons pe_int pa_nil))))) pa_nil)) pa_nil)) pa_nil))))))))
      (pss_cons (ps_set (i := 13) sc_law_deed.nd rfl (Or.inl rfl) (callK (ok_law_steps T) hr (by decide) (takes_of rfl rfl rfl rfl) T.g_law_steps (pa_cons (pv 0) (pa_cons (pe_ix (ixL (K := K)) (pv 1) pe_int (fun _ _ => rfl)) (pa_cons (pv 2) (pa_cons (pv 8) (pa_cons (pv 9) (pa_cons (pv 12) pa_nil))))))))
      (pss_cons (ps_set (i := 14) sc_law_deed.nd rfl (Or.inl rfl) (pe_callTy call_dictD rfl T.b_dict (by decide +kernel) (pa_cons (pv 6) pa_nil)))
      (pss_cons (ps_dput hu (pv 14) (pv 8) (pv 12) rfl)
      (pss_cons (ps_set (i := 15) sc_law_deed.nd rfl (Or.inl rfl) (callK (ok_law_take T) hr (by decide) (takes_of rfl rfl rfl rfl) T.g_law_take (pa_cons (pv 0) (pa_cons (pe_op op_add (pe_callB (lenK (K := K)) rfl T.b_len (by decide +kernel) (pa_cons (pv 13) pa_nil)) pe_int) pa_nil))))
      (pss_cons (ps_if (pt_val (pv 10))
      (pss_cons (ps_expr (pe_dpop1 (pv 14) (pv 8) ⟨rfl, rfl, rfl, rfl⟩))
      (pss_one (ps_expr (pe_bm PySem.F.plainAttrs_list PySem.F.slot_list_insert PySem.F.type_list_insert mt_insert (pv 13) (pa_cons (pv 15) (pa_cons (pe_tup (pa_cons pe_str (pa_cons (pe_ix (ixL (K := K)) (pv 1) pe_int (fun _ _ => rfl)) (pa_cons (pv 8) (pa_cons pe_int pa_nil))))) pa_nil))))))
      (pss_one (ps_if (pt_cmp (pc_dnotin hu (pv 8) (pv 6)) (by with_unfolding_all rfl))
      (pss_one (ps_expr (pe_bm PySem.F.plainAttrs_list PySem.F.slot_list_insert PySem.F.type_list_insert mt_insert (pv 13) (pa_cons (pv 15) (pa_cons (pe_tup (pa_cons pe_str (pa_cons (pe_ix (ixL (K := K)) (pv 1) pe_int (fun _ _ => rfl)) (pa_cons (pv 8) (pa_cons pe_int (pa_cons pe_dnewK pa_nil)))))) pa_nil)))))
      pss_nil)))
      (pss_one (ps_ret (pe_tup (pa_cons (pv 8) (pa_cons (pv 13) (pa_cons (pv 14) pa_nil))))))))))))))))), ?_⟩
  obtain ⟨b, na, c, ks, a, sort, base, n0, n1, cs, keys, T', rfl, hb, hna, hc, hcl, hcn, hks, hkl, ⟨kvs, ha, hkv⟩, hTl, hTn, hTr, hQ⟩ := h
  walk_at "go"
  refine ⟨b, 5, rfl, hb, by omega, by decide +kernel, fun at0 o1 ha0 ha1 ho1 => ?_⟩
  walk_at "go"
  obtain ⟨j, rfl⟩ := Int.eq_ofNat_of_zero_le ha0
  obtain ⟨key, hkj, hkm⟩ := keys_len5 hkl (j := j) (by omega)
  have hksb : ks ≠ b := hb.lst hks (by rw [List.length_map]; omega)
  have hnab : na ≠ b := hb.lst hna (by show 2 ≠ 3; omega)
  have hcb : c ≠ b := hb.lst hc (by rw [List.length_map]; omega)
  have sb1 : SameB b H (upd H b o1) := SameB.box ho1
  generalize upd H b o1 = H1 at sb1
  have hb1 := sb1.2
  have hks1 := sb1.1 _ _ hks hksb
  have ha1' := sb1.dK hb ha
  have hkv1 : Paired (LTKv H1) kvs T' := L2.Paired.mapP hkv fun _ _ z => z.sb hb sb1
  refine ⟨ks, _, _, V.int key, rfl, rfl, SqL.of hks1, atI_nat (by rw [List.getElem?_map, hkj]; rfl), ?_⟩
  walk_at "go"
  refine ⟨.inl ⟨_, .inl ha1'⟩, ?_⟩
  walk_at "go"
  refine ⟨by walk_at "sz", fun p2 hp2 => ⟨_, DGet.i (upd_free hp2 ha1'), ?_⟩⟩
  obtain ⟨lo, xs, hlo, hlox, hlol, hlob⟩ : ∃ (lo : Addr) (xs : List V), ((valV kvs (Sum.inl key)).getD (.ref p2)) = .ref lo ∧ (upd H1 p2 (.lst [])) lo = some (.lst xs) ∧ xs.length = (rowsAt T' key).length ∧ lo ≠ b := by
    rcases LTAt.get hkv1 key with ⟨h1, h2⟩ | ⟨l, rs, rows, h1, h2, h3, h4⟩
    · exact ⟨p2, [], by rw [h1]; rfl, upd_same, by unfold rowsAt; rw [h2]; rfl, hb1.ne hp2⟩
    · exact ⟨l, _, by rw [h1]; rfl, upd_free hp2 h3, by unfold rowsAt; rw [h2, List.length_map]; exact h4.length, hb1.refs h3⟩
  rw [hlo]
  have sm2 : Same H1 (upd H1 p2 (.lst [])) := Same.new hp2
  generalize upd H1 p2 (.lst []) = H2 at sm2 hlox
  have sb2 := sb1.same sm2
  have ha2 := sm2 _ _ ha1'
  walk_at "go"
  refine gone_ok (b := b) (by rfl) sb2.2 fun g H3 hg sb3 => ?_
  have sb03 := sb2.trans sb3
  have hlo3 := sb3.1 _ _ hlox hlob
  have ha3 := sb3.dK sb2.2 ha2
  clear ha2 sb2 hlox sm2 hp2
  walk_at "go"
  refine Or.inr ⟨_, rfl, ?_⟩
  walk_at "go"
  refine ⟨b, 6, rfl, sb3.2, by omega, by decide +kernel, fun d o4 hd0 hd1 ho4 => ?_⟩
  have sb4 := sb03.trans (SameB.box ho4)
  have hlo4 : (upd H3 b o4) lo = some (.lst xs) := by rw [upd_ne hlob]; exact hlo3
  generalize upd H3 b o4 = H4 at sb4 hlo4
  clear sb03 hlo3 ha3
  refine ⟨_, _, rfl, ?_⟩
  walk_at "go"
  refine Or.inr ⟨_, rfl, ?_⟩
  obtain ⟨m, hm, hm5, hmg, hms⟩ := many_ok sort g hd0 hd1
  refine ⟨_, _, rfl, rfl, ?_, ?_⟩
  · right
    cases g <;> exact ⟨by decide, by decide⟩
  show gName 11 (V.int _) _ _ _
  rw [hm]
  walk_at "go"
  have ha4 := sb4.dK hb ha
  have hkvm : kvs.map (fun kv => kV kv.1) = (T'.map (·.1)).map V.int := by
    rw [List.map_map]
    exact Paired.mapEq hkv fun kv x z => by rw [z.1]; rfl
  refine ⟨a, kvs, rfl, .inl ha4, fun p5 hp5 => ?_⟩
  rw [hkvm]
  walk_at "go"
  refine ⟨by walk_at "sz", fun p6 hp6 => ?_⟩
  refine ⟨p5, p6, _, _, rfl, rfl, upd_free hp6 upd_same, upd_same, by rw [List.length_map, List.length_map]; exact Nat.le_of_lt (small1000 (by show T'.length + 1 ≤ 1000; omega)), fun p7 hp7 => ?_⟩
  have sm7 : Same H4 (upd (upd (upd H4 p5 (.lst ((T'.map (·.1)).map V.int))) p6 (.lst [V.int key])) p7 (.lst ((T'.map (·.1)).map V.int ++ [V.int key]))) := ((Same.new hp5).trans (Same.new hp6)).trans (Same.new hp7)
  have hp7l : (upd (upd (upd H4 p5 (.lst ((T'.map (·.1)).map V.int))) p6 (.lst [V.int key])) p7 (.lst ((T'.map (·.1)).map V.int ++ [V.int key]))) p7 = some (.lst ((T'.map (·.1) ++ [key]).map V.int)) := by rw [upd_same, List.map_append]; rfl
  generalize (upd (upd (upd H4 p5 (.lst ((T'.map (·.1)).map V.int))) p6 (.lst [V.int key])) p7 (.lst ((T'.map (·.1)).map V.int ++ [V.int key]))) = H7 at sm7 hp7l
  have sb7 := sb4.same sm7
  have hlo7 := sm7 _ _ hlo4
  refine ⟨p7, rfl, ⟨_, SqL.of hp7l⟩, fun D hD => lc_list (xs := (T'.map (·.1) ++ [key]).map V.int) (fun i H' => Same H7 H' ∧ ∃ ts : List Addr, H' D = some (.lst (ts.map V.ref)) ∧ Paired (fun t (k : Int) => H' t = some (.tup [.int k, .int 0])) ts ((T'.map (·.1) ++ [key]).take i)) ⟨Same.new hD, [], upd_same, .nil⟩ (fun i H' _ h => SqL.of (h.1 _ _ hp7l)) ?_ ?_⟩
  · rintro i x H8 hi ⟨sm8, ts, hd8, hts⟩
    rw [List.getElem?_map] at hi
    obtain ⟨k, hk, rfl⟩ := Option.map_eq_some_iff.mp hi
    walk_at "go"
    refine ⟨by walk_at "sz", fun t ht => ⟨_, upd_free ht hd8, ?_, (sm8.trans (Same.new ht)).mut hD, ts ++ [t], by rw [upd_same, List.map_append]; rfl, ?_⟩⟩
    · have h1 := hts.length
      rw [List.length_take, List.length_append, List.length_map] at h1
      rw [List.length_map]
      exact small1000 (by have : [key].length = 1 := rfl
                          omega)
    · rw [List.take_succ, hk]
      refine paired_app (L2.Paired.mapP hts fun u y z => ?_) (.cons ?_ .nil)
      · rw [upd_ne (fun e => by rw [e, hd8] at z; cases z)]
        exact upd_free ht z
      · rw [upd_ne (Ne.symm (ne_of_none hd8 ht))]
        exact upd_same
  · rintro H8 ⟨sm8, ts, hd8, hts⟩
    rw [List.length_map, List.take_length] at hts
    have hts2 : ∀ {l : List Addr} {m : List Int}, Paired (fun t (k : Int) => H8 t = some (.tup [.int k, .int 0])) l m → Paired (fun p (kv : Key × V) => SqT K H8 p [kV kv.1, kv.2]) l (m.map fun k => ((Sum.inl k : Key), V.int 0)) := by
      intro l m h
      induction h with
      | nil => exact .nil
      | cons r _ ih => exact .cons (SqT.of r) ih
    refine ⟨D, ts, _, rfl, SqL.of hd8, hts2 hts, fun p9 hp9 => ?_⟩
    obtain ⟨ls, hls1, hls2, hls3⟩ := mergeK_ints (T'.map (·.1) ++ [key]) [] [] (V.int 0) rfl
    refine ⟨p9, _, ls, rfl, .inl upd_same, hls1, ?_, fun ys hd hperm hso hhd => ?_⟩
    · rw [List.length_append, List.length_map] at hls2
      simp at hls2
      omega
    have hlsm : ∀ k ∈ ys, k ∈ T'.map (·.1) ∨ k = key := fun k hk => by
      rcases hls3 k (hperm.mem_iff.mp hk) with h | h
      · cases h
      · rcases List.mem_append.mp h with h | h
        · exact .inl h
        · exact .inr (List.mem_singleton.mp h)
    have hysl : ys.length ≤ 100 := by
      rw [hperm.length_eq]
      rw [List.length_append, List.length_map] at hls2
      simp at hls2
      omega
    have sm9 : Same H8 (upd (upd H8 p9 (.dK (mergeK [] ((T'.map (·.1) ++ [key]).map fun k => ((Sum.inl k : Key), V.int 0))))) hd (.lst (ys.map V.int))) := (Same.new hp9).trans (Same.new hhd)
    have hhd9 : (upd (upd H8 p9 (.dK (mergeK [] ((T'.map (·.1) ++ [key]).map fun k => ((Sum.inl k : Key), V.int 0))))) hd (.lst (ys.map V.int))) hd = some (.lst (ys.map V.int)) := upd_same
    have hhdb : hd ≠ b := ((sb7.same sm8).same (Same.new (o := .dK (mergeK [] ((T'.map (·.1) ++ [key]).map fun k => ((Sum.inl k : Key), V.int 0)))) hp9)).2.ne hhd
    generalize (upd (upd H8 p9 (.dK (mergeK [] ((T'.map (·.1) ++ [key]).map fun k => ((Sum.inl k : Key), V.int 0))))) hd (.lst (ys.map V.int))) = H9 at sm9 hhd9
    have sb9 := (sb7.same sm8).same sm9
    have hlo9 := sm9 _ _ (sm8 _ _ hlo7)
    clear hts hts2 hd8 hls1 hls2 hls3 hp9 hperm hso hlo7 hp7l
    walk_at "go"
    refine ⟨b, ks, hd, base, j, m, keys, ys, rfl, sb9.2, sb9.1 _ _ hks hksb, hksb, (fun z => by rw [z] at hkl; cases hkl), by omega, hhd9, hhdb, hysl, by omega, fun pn H10 rs lrs hll sb10 hpn hpnl hrs hptr => ?_⟩
    have hpnb := sb9.2.ne hpn
    have sb010 := sb9.trans sb10
    have hlo10 := sb10.1 _ _ hlo9 hlob
    have hna10 := sb010.1 _ _ hna hnab
    walk_at "go"
    refine ⟨b, c, lo, pn, n1, key, cs, xs, rs, lrs, rfl, sb010.2, sb010.1 _ _ hc hcb, hcl, hcn, hlo10, hlob, ?_, hpnl, hpnb, hrs, by omega, fun ps H11 us l1 l3 sb11 hps hpsl hsts hl1 hl3 => ?_⟩
    · rw [hlol]
      have := rows_len hTr key
      omega
    have sb011 := sb010.trans sb11
    have ha11 := sb011.dK hb ha
    have hkv11 : Paired (LTKv H11) kvs T' := L2.Paired.mapP hkv fun _ _ z => z.sb hb sb011
    have hrs11 : Paired (LRAt H11) rs lrs := L2.Paired.mapP hrs fun r lr z => sb11.1 _ _ z (LRAt.ne sb010.2 z)
    have hpn11 := sb11.1 _ _ hpnl hpnb
    have hpsb : ps ≠ b := sb010.2.ne hps
    walk_at "go"
    refine ⟨a, kvs, rfl, .inl ha11, fun p12 hp12 => ?_⟩
    walk_at "go"
    have hkl2 : kvs.length = T'.length := hkv.length
    refine ⟨p12, _, rfl, DPut.i upd_same (small1000 (by omega)), ?_⟩
    rw [upd_upd]
    have sm12 : Same H11 (upd H11 p12 (.dK (putK kvs (Sum.inl key) (.ref pn)))) := Same.new hp12
    have hp12l : (upd H11 p12 (.dK (putK kvs (Sum.inl key) (.ref pn)))) p12 = some (.dK (putK kvs (Sum.inl key) (.ref pn))) := upd_same
    generalize (upd H11 p12 (.dK (putK kvs (Sum.inl key) (.ref pn)))) = H12 at sm12 hp12l
    have hkv12 : Paired (LTKv H12) (putK kvs (Sum.inl key) (.ref pn)) (putB T' key lrs) :=
      put_rel (F := LTKv H12) (e := fun k => (Sum.inl k : Key)) (fun _ _ z => Sum.inl.inj z) (fun _ _ z => z.1) (L2.Paired.mapP hkv11 fun _ _ z => z.mono sm12) ⟨rfl, pn, rs, rfl, sm12 _ _ hpn11, L2.Paired.mapP hrs11 fun _ _ z => sm12 _ _ z⟩
    have hsts12 : StsAt K H12 us _ := StsAt.keep (KeepNL.of sm12) hsts
    have hps12 := sm12 _ _ hpsl
    have sb12 := sb011.same sm12
    have hna12 := sb12.1 _ _ hna hnab
    have hul : us.length ≤ 15 := by
      rw [hsts.length]
      have := steps_len cs n1 key lrs l1 l3
      have e1 := hl1.length_eq
      have e2 := hl3.length_eq
      rw [List.length_range] at e1 e2
      rw [List.length_map] at e2
      have := rows_len hTr key
      omega
    have hul2 : us.length = (stepsOf cs n1 key lrs l1 l3).length := hsts.length
    rw [hlol] at hl1
    have hptr2 : ∀ lr ∈ lrs, ∀ g, lr.c = some g → g ∈ T'.map (·.1) ∨ g ∈ keys := fun lr h g e => by
      rcases hptr lr h g e with h | h
      · rcases hlsm g h with h | h
        · exact .inl h
        · exact .inr (h ▸ hkm)
      · exact .inr h
    walk_at "go"
    refine ⟨_, us.length, rfl, .inl ⟨us, SqL.of hps12, rfl⟩, ?_⟩
    walk_at "go"
    refine ⟨b, _, rfl, sb12.2, by omega, ?_, fun pl0 o13 hpl0 hpl1 ho13 => ?_⟩
    · have : ((us.length : Nat) : Int) + 1 ≤ 16 := by omega
      exact Int.lt_of_le_of_lt this (by decide +kernel)
    obtain ⟨pl, rfl⟩ := Int.eq_ofNat_of_zero_le hpl0
    have sb13 := sb12.trans (SameB.box ho13)
    have hps13 : (upd H12 b o13) ps = some (.lst us) := by rw [upd_ne hpsb]; exact hps12
    have hna13 : (upd H12 b o13) na = some (.lst [.str n0, .str n1]) := by rw [upd_ne hnab]; exact hna12
    have hp12b : p12 ≠ b := sb011.2.ne hp12
    have hp1213 : (upd H12 b o13) p12 = some (.dK (putK kvs (Sum.inl key) (.ref pn))) := by rw [upd_ne hp12b]; exact hp12l
    have hkv13 : Paired (LTKv (upd H12 b o13)) (putK kvs (Sum.inl key) (.ref pn)) (putB T' key lrs) := L2.Paired.mapP hkv12 fun _ _ z => z.sb sb12.2 (SameB.box ho13)
    have hsts13 : StsAt K (upd H12 b o13) us _ := StsAt.keep (KeepNL.box sb12.2 (SameB.box ho13)) hsts12
    have ha13 := sb13.dK hb ha
    have hpsp : ps ≠ p12 := ne_of_none hpsl hp12
    have k10 : ∀ c o, H10 c = some o → c ≠ b → c ≠ p12 ∧ (upd H12 b o13) c = some o := fun c o h ne => ⟨ne_of_none (sb11.1 _ _ h ne) hp12, by rw [upd_ne ne]; exact sm12 _ _ (sb11.1 _ _ h ne)⟩
    have k11 : ∀ c o, H11 c = some o → (∀ xs, o ≠ .lst xs) → c ≠ p12 ∧ (upd H12 b o13) c = some o := fun c o h ho => ⟨ne_of_none h hp12, KeepNL.box sb12.2 (SameB.box ho13) c o (sm12 _ _ h) ho⟩
    have hkv10 : Paired (LTKv H10) (putK kvs (Sum.inl key) (.ref pn)) (putB T' key lrs) :=
      put_rel (F := LTKv H10) (e := fun k => (Sum.inl k : Key)) (fun _ _ z => Sum.inl.inj z) (fun _ _ z => z.1) (L2.Paired.mapP hkv fun _ _ z => z.sb hb sb010) ⟨rfl, pn, rs, rfl, hpnl, hrs⟩
    have hpsH : H ps = none := sb010.free hps
    generalize upd H12 b o13 = H13 at sb13 k10 k11 hps13 hna13 hp1213 hkv13 hsts13 ha13
    have hlk : (valV kvs (Sum.inl key)).isSome = (lookB T' key).isSome := by
      rcases LTAt.get hkv key with ⟨h1, h2⟩ | ⟨l, rs, rows, h1, h2, _⟩
      · rw [h1, h2]; rfl
      · rw [h1, h2]; rfl
    walk_at "go"
    have hpsn : ps ≠ na := fun z => by rw [z] at hps; have := sb010.1 _ _ hna hnab; rw [this] at hps; cases hps
    refine ifB (fun e => ?_) (fun e => ?_)
    · have hnew : lrs = [] := List.eq_nil_of_length_eq_zero (hll.trans (hmg e))
      walk_at "go"
      refine ⟨.inl ⟨_, .inl hp1213⟩, ?_⟩
      walk_at "go"
      refine ⟨_, Sum.inl key, .ref pn, hp1213, rfl, valV_put_self _ _ _, ?_⟩
      have hcut : Paired (LTKv H10) (dropK (putK kvs (Sum.inl key) (.ref pn)) (Sum.inl key)) (cutB (putB T' key lrs) key) := cut_rel (F := LTKv H10) (e := fun k => (Sum.inl k : Key)) (fun _ _ z => Sum.inl.inj z) (fun _ _ z => z.1) hkv10 key
      have kpp : ∀ b o, H13 b = some o → b ≠ p12 → upd H13 p12 (.dK (dropK (putK kvs (Sum.inl key) (.ref pn)) (Sum.inl key))) b = some o := fun b o h ne => by rw [upd_ne ne]; exact h
      have hps14 := kpp _ _ hps13 hpsp
      have hna14 := kpp _ _ hna13 (ne_of_none (sb011.1 _ _ hna hnab) hp12)
      have h1214 : upd H13 p12 (.dK (dropK (putK kvs (Sum.inl key) (.ref pn)) (Sum.inl key))) p12 = some (.dK (dropK (putK kvs (Sum.inl key) (.ref pn)) (Sum.inl key))) := upd_same
      have sb14 := sb13.mut (o := .dK (dropK (putK kvs (Sum.inl key) (.ref pn)) (Sum.inl key))) (sb011.free hp12) hp12b
      generalize upd H13 p12 (.dK (dropK (putK kvs (Sum.inl key) (.ref pn)) (Sum.inl key))) = H14 at kpp hps14 hna14 h1214 sb14
      walk_at "go"
      refine ⟨.inl ⟨rfl, _, SqL.of hps14⟩, ?_⟩
      walk_at "go"
      refine ⟨by walk_at "sz", fun t ht => ⟨ps, us, _, _, rfl, rfl, upd_free ht hps14, small1000 (by omega), by omega, by omega, ?_⟩⟩
      walk_at "go"
      refine ⟨by walk_at "sz", fun tt htt => ?_⟩
      have htps : t ≠ ps := Ne.symm (ne_of_none hps14 ht)
      have hkk : ∀ c o, H14 c = some o → c ≠ ps → upd (upd (upd H14 t (.tup [.str "cut", .str n0, .int key, .int 0])) ps (.lst (us.take pl ++ [V.ref t] ++ us.drop pl))) tt (.tup [.int key, .ref ps, .ref p12]) c = some o := fun c o h ne => by
        refine upd_free htt ?_
        rw [upd_ne ne]
        exact upd_free ht h
      refine hQ tt _ key ((stepsOf cs n1 key lrs l1 l3).take pl ++ [⟨"cut", n0, key, 0, []⟩] ++ (stepsOf cs n1 key lrs l1 l3).drop pl) (cutB (putB T' key lrs) key) (((sb14.same (Same.new ht)).mut hpsH hpsb).same (Same.new htt)) ⟨ps, p12, us.take pl ++ [V.ref t] ++ us.drop pl, upd_same, upd_free htt upd_same, ?_, ?_⟩ ⟨hkm, lrs, l1, l3, pl, hl1, by rw [← hll] at *; exact hl3, by omega, hptr2, by rw [← hul2]; omega, .inl ⟨by rw [← hlk]; exact hg e, hnew, rfl, rfl⟩⟩
      · have kp : KeepNL H11 _ := fun c o h ho => hkk c o (kpp _ _ (k11 c o h ho).2 (k11 c o h ho).1) (fun z => by rw [z, hpsl] at h; cases h; exact ho _ rfl)
        have hst := StsAt.keep kp hsts
        refine paired_app (paired_app (paired_take hst pl) (.cons ⟨t, rfl, .inl ⟨rfl, SqT.of (upd_free htt ?_)⟩⟩ .nil)) (paired_drop hst pl)
        rw [upd_ne htps]
        exact upd_same
      · refine ⟨_, hkk _ _ h1214 (Ne.symm hpsp), L2.Paired.mapP hcut fun _ _ z => z.sbx sb010.2 fun c o h ne => ?_⟩
        have := k10 c o h ne
        exact hkk c o (kpp _ _ this.2 this.1) (ne_of_none h hps)
    · have hsome : sort = "some" → lrs ≠ [] := fun z hz => by
        have := hms e z
        rw [hz] at hll
        simp at hll
        omega
      walk_at "go"
      refine ifB (fun e2 => ?_) (fun e2 => ?_)
      · walk_at "go"
        refine ⟨.inl ⟨rfl, _, SqL.of hps13⟩, ?_⟩
        walk_at "go"
        refine fun d0 hd0 => ⟨by walk_at "sz", fun t ht => ⟨ps, us, _, _, rfl, rfl, upd_free ht (upd_free hd0 hps13), small1000 (by omega), by omega, by omega, ?_⟩⟩
        walk_at "go"
        refine ⟨by walk_at "sz", fun tt htt => ?_⟩
        have htps : t ≠ ps := Ne.symm (ne_of_none (upd_free hd0 hps13) ht)
        have hdps : d0 ≠ ps := Ne.symm (ne_of_none hps13 hd0)
        have hkk : ∀ c o, (upd H13 d0 (.dK [])) c = some o → c ≠ ps → upd (upd (upd (upd H13 d0 (.dK [])) t (.tup [.str "add", .str n0, .int key, .int 0, .ref d0])) ps (.lst (us.take pl ++ [V.ref t] ++ us.drop pl))) tt (.tup [.int key, .ref ps, .ref p12]) c = some o := fun c o h ne => by
          refine upd_free htt ?_
          rw [upd_ne ne]
          exact upd_free ht h
        refine hQ tt _ key ((stepsOf cs n1 key lrs l1 l3).take pl ++ [⟨"add", n0, key, 0, []⟩] ++ (stepsOf cs n1 key lrs l1 l3).drop pl) (putB T' key lrs) ((((sb13.same (Same.new hd0)).same (Same.new ht)).mut hpsH hpsb).same (Same.new htt)) ⟨ps, p12, us.take pl ++ [V.ref t] ++ us.drop pl, upd_same, upd_free htt upd_same, ?_, ?_⟩ ⟨hkm, lrs, l1, l3, pl, hl1, by rw [← hll] at *; exact hl3, by omega, hptr2, by rw [← hul2]; omega, .inr (.inl ⟨hsome, ?_, rfl, rfl⟩)⟩
        · have kp : KeepNL H11 _ := fun c o h ho => hkk c o (upd_free hd0 (k11 c o h ho).2) (fun z => by rw [z, hpsl] at h; cases h; exact ho _ rfl)
          have hst := StsAt.keep kp hsts
          refine paired_app (paired_app (paired_take hst pl) (.cons ⟨t, rfl, .inr ⟨(fun z => by cases z), d0, SqT.of (upd_free htt ?_), hkk _ _ upd_same hdps⟩⟩ .nil)) (paired_drop hst pl)
          rw [upd_ne htps]
          exact upd_same
        · refine ⟨_, hkk _ _ (upd_free hd0 hp1213) (Ne.symm hpsp), L2.Paired.mapP hkv10 fun _ _ z => z.sbx sb010.2 fun c o h ne => ?_⟩
          have := k10 c o h ne
          exact hkk c o (upd_free hd0 this.2) (ne_of_none h hps)
        · have e2 : (!(valV kvs (Sum.inl key)).isSome) = true := e2
          rw [hlk] at e2
          cases e3 : lookB T' key with
          | none => rfl
          | some r => rw [e3] at e2; cases e2
      · walk_at "go"
        refine ⟨by walk_at "sz", fun tt htt => ?_⟩
        refine hQ tt _ key (stepsOf cs n1 key lrs l1 l3) (putB T' key lrs) (sb13.same (Same.new htt)) ⟨ps, p12, us, upd_same, upd_free htt hps13, ?_, ?_⟩ ⟨hkm, lrs, l1, l3, 0, hl1, by rw [← hll] at *; exact hl3, by omega, hptr2, Nat.zero_le _, .inr (.inr ⟨hsome, ?_, rfl, rfl⟩)⟩
        · exact StsAt.keep (fun c o h ho => upd_free htt (k11 c o h ho).2) hsts
        · refine ⟨_, upd_free htt hp1213, L2.Paired.mapP hkv10 fun _ _ z => z.sbx sb010.2 fun c o h ne => ?_⟩
          exact upd_free htt (k10 c o h ne).2
        · have e2 : (!(valV kvs (Sum.inl key)).isSome) = false := e2
          rw [hlk] at e2
          cases e3 : lookB T' key with
          | none => rw [e3] at e2; cases e2
          | some r => rfl


/-! ### the plain law: what the steps leave -/
def dS (S : Sheet) (s : Stp) : Sheet := doStep S s.op (s.k, s.p) s.row
def okSt (S : Sheet) (s : Stp) : Prop := (s.op = "add" → lookB S (s.k, s.p) = none) ∧ (s.op ≠ "add" → (lookB S (s.k, s.p)).isSome = true)
def Legal : Sheet → List Stp → Prop
  | _, [] => True
  | S, s :: r => okSt S s ∧ Legal (dS S s) r
def runS (S : Sheet) (ss : List Stp) : Sheet := ss.foldl dS S
theorem runS_app (S : Sheet) (a b : List Stp) : runS S (a ++ b) = runS (runS S a) b := List.foldl_append
theorem legal_app : ∀ (a b : List Stp) (S : Sheet), Legal S (a ++ b) ↔ Legal S a ∧ Legal (runS S a) b
  | [], b, S => ⟨fun h => ⟨trivial, h⟩, fun h => h.2⟩
  | s :: a, b, S => by
    show okSt S s ∧ Legal (dS S s) (a ++ b) ↔ (okSt S s ∧ Legal (dS S s) a) ∧ Legal (runS (dS S s) a) b
    rw [legal_app a b]
    exact ⟨fun h => ⟨⟨h.1, h.2.1⟩, h.2.2⟩, fun h => ⟨h.1.1, h.1.2, h.2⟩⟩
theorem look_dS (S : Sheet) (s : Stp) (q : Int × Int) : lookB (dS S s) q = if (s.k, s.p) = q then (if s.op = "cut" then none else some s.row) else lookB S q := by
  unfold dS doStep
  by_cases h : s.op = "cut"
  · rw [if_pos h, lookB_cut]
    by_cases e : (s.k, s.p) = q
    · rw [if_pos e, if_pos e, if_pos h]
    · rw [if_neg e, if_neg e]
  · rw [if_neg h, lookB_put]
    by_cases e : (s.k, s.p) = q
    · rw [if_pos e, if_pos e, if_neg h]
    · rw [if_neg e, if_neg e]
theorem cut_ne_add : ¬ (("cut" : Str) = "add") := by decide
theorem set_ne_add : ¬ (("set" : Str) = "add") := by decide
theorem set_ne_cut : ¬ (("set" : Str) = "cut") := by decide
theorem add_ne_cut : ¬ (("add" : Str) = "cut") := by decide
theorem runS_cons (S : Sheet) (s : Stp) (r : List Stp) : runS S (s :: r) = runS (dS S s) r := rfl
theorem runS_nil (S : Sheet) : runS S [] = S := rfl
theorem look_cut1 (S : Sheet) (side : Str) (key : Int) (p : Nat) (q : Int × Int) : lookB (dS S (cut1 side key p)) q = if (key, (p : Int)) = q then none else lookB S q := by rw [look_dS]; rfl
theorem nd_put {κ β : Type} [DecidableEq κ] {l : List (κ × β)} {k : κ} {v : β} (h : (l.map (·.1)).Nodup) : ((putB l k v).map (·.1)).Nodup := by
  unfold putB
  by_cases c : (l.any fun x => decide (x.1 = k)) = true
  · rw [if_pos c, List.map_map]
    have : l.map ((fun x => x.1) ∘ fun x => if x.1 = k then (x.1, v) else x) = l.map (·.1) := List.map_congr_left fun x _ => by
      show (if x.1 = k then (x.1, v) else x).1 = x.1
      split <;> rfl
    rw [this]
    exact h
  · rw [if_neg c, List.map_append]
    refine List.nodup_append.mpr ⟨h, List.nodup_cons.mpr ⟨fun z => (by cases z), .nil⟩, fun a ha b hb e => ?_⟩
    cases List.mem_singleton.mp hb
    obtain ⟨x, hx, rfl⟩ := List.mem_map.mp ha
    exact c (List.any_eq_true.mpr ⟨x, hx, decide_eq_true e⟩)
theorem nd_cut {κ β : Type} [DecidableEq κ] {l : List (κ × β)} {k : κ} (h : (l.map (·.1)).Nodup) : ((cutB l k).map (·.1)).Nodup := by
  unfold cutB
  exact List.Pairwise.sublist (List.Sublist.map _ List.filter_sublist) h
theorem nd_dS {S : Sheet} {s : Stp} (h : (S.map (·.1)).Nodup) : ((dS S s).map (·.1)).Nodup := by
  unfold dS doStep
  split
  · exact nd_cut h
  · exact nd_put h
theorem nd_runS : ∀ (ss : List Stp) {S : Sheet}, (S.map (·.1)).Nodup → ((runS S ss).map (·.1)).Nodup
  | [], _, h => h
  | _ :: ss, _, h => nd_runS ss (nd_dS h)
theorem runC_tab : ∀ (ss : List Stp) (C : Str → Sheet) (n : Str), runC C ss n = runS (C n) (ss.filter fun s => decide (s.n = n))
  | [], _, _ => rfl
  | s :: ss, C, n => by
    show runC (stC C s) ss n = _
    rw [runC_tab ss]
    by_cases e : s.n = n
    · rw [List.filter_cons_of_pos (by simp [e])]
      have : stC C s n = dS (C n) s := by unfold stC putC; rw [if_pos e.symm, e]; rfl
      rw [this]
      rfl
    · rw [List.filter_cons_of_neg (by simp [e])]
      have : stC C s n = C n := by unfold stC putC; rw [if_neg (Ne.symm e)]
      rw [this]
theorem legal_at : ∀ (ss : List Stp) (C : Str → Sheet), (∀ n, Legal (C n) (ss.filter fun s => decide (s.n = n))) → ∀ (i : Nat) (s : Stp), ss[i]? = some s → okSt (runC C (ss.take i) s.n) s
  | [], _, _, _, _, h => by cases h
  | s0 :: ss, C, hl, i, s, h => by
    cases i with
    | zero =>
      cases h
      have := hl s0.n
      rw [List.filter_cons_of_pos (by simp)] at this
      exact this.1
    | succ i =>
      have h : ss[i]? = some s := h
      refine legal_at ss (stC C s0) (fun n => ?_) i s h
      have := hl n
      by_cases e : s0.n = n
      · rw [List.filter_cons_of_pos (by simp [e])] at this
        have e2 : stC C s0 n = dS (C n) s0 := by unfold stC putC; rw [if_pos e.symm, e]; rfl
        rw [e2]
        exact this.2
      · rw [List.filter_cons_of_neg (by simp [e])] at this
        have e2 : stC C s0 n = C n := by unfold stC putC; rw [if_neg (Ne.symm e)]
        rw [e2]
        exact this
theorem cuts_run (side : Str) (key : Int) : ∀ (l : List Nat) (S : Sheet), l.Nodup → (∀ p ∈ l, (lookB S (key, (p : Int))).isSome = true) → Legal S (l.map (cut1 side key)) ∧ ∀ q, (q.1 ≠ key ∨ ∀ p ∈ l, q.2 ≠ (p : Int)) → lookB (runS S (l.map (cut1 side key))) q = lookB S q
  | [], S, _, _ => ⟨trivial, fun q _ => rfl⟩
  | p :: l, S, nd, h => by
    obtain ⟨n1, n2⟩ := List.nodup_cons.mp nd
    have hS : ∀ q, lookB (dS S (cut1 side key p)) q = if (key, (p : Int)) = q then none else lookB S q := look_cut1 S side key p
    obtain ⟨i1, i2⟩ := cuts_run side key l (dS S (cut1 side key p)) n2 fun r hr => by
      rw [hS, if_neg (fun z => n1 (by have := (Prod.mk.inj z).2; have : p = r := by omega
                                      rw [this]; exact hr))]
      exact h r (List.mem_cons_of_mem _ hr)
    refine ⟨⟨⟨fun z => absurd z cut_ne_add, fun _ => h p List.mem_cons_self⟩, i1⟩, fun q hq => ?_⟩
    show lookB (runS (dS S (cut1 side key p)) (l.map (cut1 side key))) q = _
    rw [i2 q (hq.imp id fun z r hr => z r (List.mem_cons_of_mem _ hr)), hS, if_neg]
    rintro rfl
    rcases hq with hq | hq
    · exact hq rfl
    · exact hq p List.mem_cons_self rfl
theorem cuts_gone (side : Str) (key : Int) : ∀ (l : List Nat) (S : Sheet), l.Nodup → ∀ p ∈ l, lookB (runS S (l.map (cut1 side key))) (key, (p : Int)) = none
  | [], _, _, _, h => by cases h
  | r :: l, S, nd, p, hp => by
    obtain ⟨n1, n2⟩ := List.nodup_cons.mp nd
    show lookB (runS (dS S (cut1 side key r)) (l.map (cut1 side key))) _ = none
    rcases List.mem_cons.mp hp with rfl | hp
    · have : ∀ (l : List Nat) (S : Sheet), p ∉ l → lookB S (key, (p : Int)) = none → lookB (runS S (l.map (cut1 side key))) (key, (p : Int)) = none := by
        intro l
        induction l with
        | nil => exact fun S _ h => h
        | cons a l ih =>
          intro S hn h
          refine ih _ (fun z => hn (List.mem_cons_of_mem _ z)) ?_
          rw [look_cut1]
          split
          · rfl
          · exact h
      refine this l _ n1 ?_
      rw [look_cut1, if_pos rfl]
    · exact cuts_gone side key l _ n2 p hp
theorem put_run (cs : List Str) (side : Str) (key : Int) (lrs : List LR) (x : Nat × Bool) (S : Sheet) (h : lookB S (key, (x.1 : Int)) = none) : Legal S (put1 cs side key lrs x) ∧ ∀ q, lookB (runS S (put1 cs side key lrs x)) q = if (key, (x.1 : Int)) = q then some (mkRow cs (lrV (lrAt lrs x.1))) else lookB S q := by
  unfold put1
  by_cases e : x.2 = true
  · rw [if_pos e]
    refine ⟨⟨⟨fun _ => h, fun z => absurd rfl z⟩, ⟨fun z => absurd z set_ne_add, fun _ => ?_⟩, trivial⟩, fun q => ?_⟩
    · rw [look_dS]; exact congrArg Option.isSome ((if_pos rfl).trans (if_neg add_ne_cut))
    · rw [runS_cons, runS_cons, runS_nil, look_dS, look_dS]
      show (if (key, (x.1 : Int)) = q then (if ("set" : Str) = "cut" then none else some _) else (if (key, (x.1 : Int)) = q then (if ("add" : Str) = "cut" then none else some _) else lookB S q)) = _
      by_cases c : (key, (x.1 : Int)) = q
      · rw [if_pos c, if_pos c, if_neg set_ne_cut]
      · rw [if_neg c, if_neg c, if_neg c]
  · rw [if_neg e]
    refine ⟨⟨⟨fun _ => h, fun z => absurd rfl z⟩, trivial⟩, fun q => ?_⟩
    rw [runS_cons, runS_nil, look_dS]
    show (if (key, (x.1 : Int)) = q then (if ("add" : Str) = "cut" then none else some _) else lookB S q) = _
    by_cases c : (key, (x.1 : Int)) = q
    · rw [if_pos c, if_pos c, if_neg add_ne_cut]
    · rw [if_neg c, if_neg c]
theorem puts_run (cs : List Str) (side : Str) (key : Int) (lrs : List LR) : ∀ (l : List (Nat × Bool)) (S : Sheet), (l.map (·.1)).Nodup → (∀ p : Nat, p ∈ l.map (·.1) → lookB S (key, (p : Int)) = none) → Legal S (l.flatMap (put1 cs side key lrs)) ∧
    (∀ q : Int × Int, (q.1 ≠ key ∨ ∀ p : Nat, p ∈ l.map (·.1) → q.2 ≠ (p : Int)) → lookB (runS S (l.flatMap (put1 cs side key lrs))) q = lookB S q) ∧ ∀ p : Nat, p ∈ l.map (·.1) → lookB (runS S (l.flatMap (put1 cs side key lrs))) (key, (p : Int)) = some (mkRow cs (lrV (lrAt lrs p)))
  | [], S, _, _ => ⟨trivial, fun _ _ => rfl, fun _ h => by cases h⟩
  | x :: l, S, nd, h => by
    rw [List.map_cons] at nd h
    obtain ⟨n1, n2⟩ := List.nodup_cons.mp nd
    obtain ⟨p1, p2⟩ := put_run cs side key lrs x S (h x.1 List.mem_cons_self)
    obtain ⟨i1, i2, i3⟩ := puts_run cs side key lrs l (runS S (put1 cs side key lrs x)) n2 fun p hp => by
      rw [p2, if_neg (fun z => n1 (by have := (Prod.mk.inj z).2; have : x.1 = p := by omega
                                      rw [this]; exact hp))]
      exact h p (List.mem_cons_of_mem _ hp)
    rw [List.flatMap_cons]
    refine ⟨(legal_app _ _ _).mpr ⟨p1, i1⟩, fun q hq => ?_, fun p hp => ?_⟩
    · rw [runS_app, i2 q (hq.imp id fun z r hr => z r (by rw [List.map_cons]; exact List.mem_cons_of_mem _ hr)), p2, if_neg]
      rintro rfl
      rcases hq with hq | hq
      · exact hq rfl
      · exact hq x.1 (by rw [List.map_cons]; exact List.mem_cons_self) rfl
    · rw [runS_app]
      rw [List.map_cons] at hp
      rcases List.mem_cons.mp hp with rfl | hp
      · rw [i2 _ (.inr fun r hr z => n1 (by have : x.1 = r := by omega
                                            rw [this]; exact hr)), p2, if_pos rfl]
      · exact i3 p hp
/-- what the side table holds -/
def cellOf (cs : List Str) (T : LT) (q : Int × Int) : Option Row := if 0 ≤ q.2 then ((rowsAt T q.1)[q.2.toNat]?).map fun lr => mkRow cs (lrV lr) else none
def headOf (T : LT) (q : Int × Int) : Option Row := if q.2 = 0 then (lookB T q.1).map fun _ => [] else none
structure Holds (n0 n1 : Str) (cs : List Str) (C : Str → Sheet) (T : LT) : Prop where
  d1 : ((C n1).map (·.1)).Nodup
  l1 : ∀ q, lookB (C n1) q = cellOf cs T q
  d0 : ((C n0).map (·.1)).Nodup
  l0 : ∀ q, lookB (C n0) q = headOf T q
theorem cell_nat (cs : List Str) (T : LT) (k : Int) (p : Nat) : cellOf cs T (k, (p : Int)) = ((rowsAt T k)[p]?).map fun lr => mkRow cs (lrV lr) := by
  unfold cellOf
  rw [if_pos (Int.natCast_nonneg p)]
  rfl
theorem rows_put (T : LT) (key : Int) (new : List LR) (k : Int) : rowsAt (putB T key new) k = if key = k then new else rowsAt T k := by
  unfold rowsAt
  rw [lookB_put]
  split <;> rfl
theorem rows_cut (T : LT) (key : Int) (k : Int) : rowsAt (cutB T key) k = if key = k then [] else rowsAt T k := by
  unfold rowsAt
  rw [lookB_cut]
  split <;> rfl
/-- the side's steps alone -/
theorem side_run {cs : List Str} {n1 : Str} {key : Int} {T : LT} {S : Sheet} {new : List LR} {l1 : List Nat} {l3 : List (Nat × Bool)} (hS : ∀ q, lookB S q = cellOf cs T q) (h1 : l1.Perm (List.range (rowsAt T key).length)) (h3 : (l3.map (·.1)).Perm (List.range new.length)) :
    Legal S (stepsOf cs n1 key new l1 l3) ∧ ∀ q, lookB (runS S (stepsOf cs n1 key new l1 l3)) q = cellOf cs (putB T key new) q := by
  have nd1 : l1.Nodup := h1.nodup_iff.mpr List.nodup_range
  have nd3 : (l3.map (·.1)).Nodup := h3.nodup_iff.mpr List.nodup_range
  have m1 : ∀ p, p ∈ l1 ↔ p < (rowsAt T key).length := fun p => h1.mem_iff.trans List.mem_range
  have m3 : ∀ p, p ∈ l3.map (·.1) ↔ p < new.length := fun p => h3.mem_iff.trans List.mem_range
  obtain ⟨a1, a2⟩ := cuts_run n1 key l1 S nd1 fun p hp => by
    rw [hS, cell_nat, List.getElem?_eq_getElem ((m1 p).mp hp)]; rfl
  have a3 := cuts_gone n1 key l1 S nd1
  have a4 : ∀ p : Int, lookB (runS S (l1.map (cut1 n1 key))) (key, p) = none := fun p => by
    by_cases hp : ∃ r ∈ l1, p = (r : Nat)
    · obtain ⟨r, hr, rfl⟩ := hp
      exact a3 r hr
    · rw [a2 _ (.inr fun r hr z => hp ⟨r, hr, z⟩), hS]
      unfold cellOf
      split
      · rename_i h0
        have h0 : 0 ≤ p := h0
        obtain ⟨r, rfl⟩ := Int.eq_ofNat_of_zero_le h0
        have : ¬ r < (rowsAt T key).length := fun z => hp ⟨r, (m1 r).mpr z, rfl⟩
        show ((rowsAt T key)[r]?).map _ = none
        rw [List.getElem?_eq_none (by omega)]
        rfl
      · rfl
  obtain ⟨b1, b2, b3⟩ := puts_run cs n1 key new l3 (runS S (l1.map (cut1 n1 key))) nd3 fun p _ => a4 p
  unfold stepsOf
  refine ⟨(legal_app _ _ _).mpr ⟨a1, b1⟩, fun q => ?_⟩
  rw [runS_app]
  obtain ⟨k, p⟩ := q
  by_cases hk : k = key
  · subst hk
    have hr : rowsAt (putB T k new) k = new := by rw [rows_put, if_pos rfl]
    by_cases hp : ∃ r ∈ l3.map (·.1), p = (r : Nat)
    · obtain ⟨r, hr2, rfl⟩ := hp
      rw [b3 r hr2, cell_nat, hr]
      have hlt := (m3 r).mp hr2
      unfold lrAt
      rw [List.getElem?_eq_getElem hlt]
      rfl
    · rw [b2 _ (.inr fun r hr z => hp ⟨r, hr, z⟩), a4]
      unfold cellOf
      split
      · rename_i h0
        have h0 : 0 ≤ p := h0
        obtain ⟨r, rfl⟩ := Int.eq_ofNat_of_zero_le h0
        have : ¬ r < new.length := fun z => hp ⟨r, (m3 r).mpr z, rfl⟩
        show none = ((rowsAt (putB T k new) k)[r]?).map _
        rw [hr, List.getElem?_eq_none (by omega)]
        rfl
      · rfl
  · rw [b2 _ (.inl hk), a2 _ (.inl hk), hS]
    unfold cellOf
    show (if 0 ≤ p then ((rowsAt T k)[p.toNat]?).map _ else none) = if 0 ≤ p then ((rowsAt (putB T key new) k)[p.toNat]?).map _ else none
    rw [rows_put, if_neg (Ne.symm hk)]
theorem steps_n {cs : List Str} {n1 : Str} {key : Int} {new : List LR} {l1 : List Nat} {l3 : List (Nat × Bool)} : ∀ s ∈ stepsOf cs n1 key new l1 l3, s.n = n1 ∧ s.k = key := by
  intro s hs
  rcases List.mem_append.mp hs with hs | hs
  · obtain ⟨p, _, rfl⟩ := List.mem_map.mp hs
    exact ⟨rfl, rfl⟩
  · obtain ⟨x, _, hs⟩ := List.mem_flatMap.mp hs
    unfold put1 at hs
    split at hs
    · rcases List.mem_cons.mp hs with rfl | hs
      · exact ⟨rfl, rfl⟩
      · cases List.mem_singleton.mp hs; exact ⟨rfl, rfl⟩
    · cases List.mem_singleton.mp hs; exact ⟨rfl, rfl⟩
theorem filt_self {l : List Stp} {n : Str} (h : ∀ s ∈ l, s.n = n) : l.filter (fun s => decide (s.n = n)) = l := List.filter_eq_self.mpr fun s hs => decide_eq_true (h s hs)
theorem filt_none {l : List Stp} {n m : Str} (h : ∀ s ∈ l, s.n = n) (ne : n ≠ m) : l.filter (fun s => decide (s.n = m)) = [] := List.filter_eq_nil_iff.mpr fun s hs => by rw [h s hs]; simp [ne]
theorem insert_filt {l : List Stp} {x : Stp} {pl : Nat} {n : Str} : (l.take pl ++ [x] ++ l.drop pl).filter (fun s => decide (s.n = n)) = (l.take pl).filter (fun s => decide (s.n = n)) ++ (if x.n = n then [x] else []) ++ (l.drop pl).filter (fun s => decide (s.n = n)) := by
  rw [List.filter_append, List.filter_append]
  congr 2
  by_cases h : x.n = n
  · rw [if_pos h, List.filter_cons_of_pos (by simp [h])]; rfl
  · rw [if_neg h, List.filter_cons_of_neg (by simp [h])]; rfl
/-- a step of the head put in among the side's -/
theorem ins_tabs {cs : List Str} {n0 n1 : Str} {key : Int} {new : List LR} {l1 : List Nat} {l3 : List (Nat × Bool)} {x : Stp} {pl : Nat} (h01 : n0 ≠ n1) (hx : x.n = n0) (n : Str) :
    ((stepsOf cs n1 key new l1 l3).take pl ++ [x] ++ (stepsOf cs n1 key new l1 l3).drop pl).filter (fun s => decide (s.n = n)) = if n = n1 then stepsOf cs n1 key new l1 l3 else if n = n0 then [x] else [] := by
  rw [insert_filt]
  have ht : ∀ s ∈ (stepsOf cs n1 key new l1 l3).take pl, s.n = n1 := fun s hs => (steps_n s (List.mem_of_mem_take hs)).1
  have hd : ∀ s ∈ (stepsOf cs n1 key new l1 l3).drop pl, s.n = n1 := fun s hs => (steps_n s (List.mem_of_mem_drop hs)).1
  by_cases h : n = n1
  · subst h
    rw [if_pos rfl, filt_self ht, filt_self hd, if_neg (by rw [hx]; exact h01), List.append_nil, List.take_append_drop]
  · rw [if_neg h, filt_none ht (Ne.symm h), filt_none hd (Ne.symm h), hx]
    by_cases h2 : n = n0
    · rw [if_pos h2, if_pos h2.symm]; rfl
    · rw [if_neg h2, if_neg (Ne.symm h2)]; rfl
/-- a deed: every step is legal, and what is left holds the things behind it -/
theorem deed_run {n0 n1 : Str} {cs : List Str} {sort : Str} {keys : List Int} {T T2 : LT} {key : Int} {ss : List Stp} {C : Str → Sheet} (h01 : n0 ≠ n1) (hC : Holds n0 n1 cs C T) (D : Deed n0 n1 cs sort keys T key ss T2) :
    (∀ n, Legal (C n) (ss.filter fun s => decide (s.n = n))) ∧ Holds n0 n1 cs (runC C ss) T2 := by
  obtain ⟨new, l1, l3, pl, h1, h3, _, _, hpl, hd⟩ := D.ex
  obtain ⟨q1, q2⟩ := side_run (n1 := n1) (new := new) hC.l1 h1 h3
  have hk0 : (lookB (C n0) (key, 0)) = (lookB T key).map fun _ => [] := by rw [hC.l0]; exact if_pos rfl
  rcases hd with ⟨e1, e2, e3, e4⟩ | ⟨_, e1, e3, e4⟩ | ⟨_, e1, e3, e4⟩
  · have hf := ins_tabs (cs := cs) (key := key) (new := new) (l1 := l1) (l3 := l3) (x := ⟨"cut", n0, key, 0, []⟩) (pl := pl) h01 rfl
    refine ⟨fun n => ?_, ?_, fun q => ?_, ?_, fun q => ?_⟩
    · rw [e4, hf n]
      by_cases a : n = n1
      · rw [if_pos a, a]; exact q1
      · rw [if_neg a]
        by_cases b : n = n0
        · rw [if_pos b, b]
          refine ⟨⟨fun z => absurd z cut_ne_add, fun _ => ?_⟩, trivial⟩
          show (lookB (C n0) (key, 0)).isSome = true
          rw [hk0, Option.isSome_map]; exact e1
        · rw [if_neg b]; trivial
    · rw [runC_tab]; exact nd_runS _ hC.d1
    · rw [runC_tab, e4, hf n1, if_pos rfl, q2, e3]
      unfold cellOf
      rw [rows_cut, rows_put, e2]
      by_cases a : key = q.1
      · rw [if_pos a, if_pos a]
      · rw [if_neg a, if_neg a]
    · rw [runC_tab]; exact nd_runS _ hC.d0
    · rw [runC_tab, e4, hf n0, if_neg h01, if_pos rfl]
      rw [runS_cons, runS_nil, look_dS, hC.l0, e3]
      unfold headOf
      rw [lookB_cut]
      obtain ⟨k, p⟩ := q
      show (if (key, (0 : Int)) = (k, p) then none else if p = 0 then (lookB T k).map _ else none) = if p = 0 then (if key = k then none else lookB (putB T key new) k).map _ else none
      by_cases a : p = 0
      · subst a
        by_cases b : key = k
        · subst b; rw [if_pos rfl, if_pos rfl, if_pos rfl]; rfl
        · rw [if_neg (fun z => b (Prod.mk.inj z).1), if_pos rfl, if_pos rfl, if_neg b, lookB_put, if_neg b]
      · rw [if_neg (fun z => a (Prod.mk.inj z).2.symm), if_neg a, if_neg a]
  · have hf := ins_tabs (cs := cs) (key := key) (new := new) (l1 := l1) (l3 := l3) (x := ⟨"add", n0, key, 0, []⟩) (pl := pl) h01 rfl
    refine ⟨fun n => ?_, ?_, fun q => ?_, ?_, fun q => ?_⟩
    · rw [e4, hf n]
      by_cases a : n = n1
      · rw [if_pos a, a]; exact q1
      · rw [if_neg a]
        by_cases b : n = n0
        · rw [if_pos b, b]
          refine ⟨⟨fun _ => ?_, fun z => absurd rfl z⟩, trivial⟩
          show lookB (C n0) (key, 0) = none
          rw [hk0, e1]; rfl
        · rw [if_neg b]; trivial
    · rw [runC_tab]; exact nd_runS _ hC.d1
    · rw [runC_tab, e4, hf n1, if_pos rfl, q2, e3]
    · rw [runC_tab]; exact nd_runS _ hC.d0
    · rw [runC_tab, e4, hf n0, if_neg h01, if_pos rfl]
      rw [runS_cons, runS_nil, look_dS, hC.l0, e3]
      unfold headOf
      rw [lookB_put]
      obtain ⟨k, p⟩ := q
      show (if (key, (0 : Int)) = (k, p) then some [] else if p = 0 then (lookB T k).map _ else none) = if p = 0 then (if key = k then some new else lookB T k).map _ else none
      by_cases a : p = 0
      · subst a
        by_cases b : key = k
        · subst b; rw [if_pos rfl, if_pos rfl, if_pos rfl]; rfl
        · rw [if_neg (fun z => b (Prod.mk.inj z).1), if_pos rfl, if_pos rfl, if_neg b]
      · rw [if_neg (fun z => a (Prod.mk.inj z).2.symm), if_neg a, if_neg a]
  · have hf : ∀ n, ss.filter (fun s => decide (s.n = n)) = if n = n1 then stepsOf cs n1 key new l1 l3 else [] := fun n => by
      rw [e4]
      by_cases a : n = n1
      · rw [if_pos a, a]; exact filt_self fun s hs => (steps_n s hs).1
      · rw [if_neg a]; exact filt_none (fun s hs => (steps_n s hs).1) (Ne.symm a)
    refine ⟨fun n => ?_, ?_, fun q => ?_, ?_, fun q => ?_⟩
    · rw [hf n]
      by_cases a : n = n1
      · rw [if_pos a, a]; exact q1
      · rw [if_neg a]; trivial
    · rw [runC_tab]; exact nd_runS _ hC.d1
    · rw [runC_tab, hf n1, if_pos rfl, q2, e3]
    · rw [runC_tab]; exact nd_runS _ hC.d0
    · rw [runC_tab, hf n0, if_neg h01]
      show lookB (C n0) q = _
      rw [hC.l0, e3]
      unfold headOf
      rw [lookB_put]
      by_cases b : key = q.1
      · rw [if_pos b, ← b]
        cases e : lookB T key with
        | none => rw [e] at e1; cases e1
        | some r => rfl
      · rw [if_neg b]


/-! ### the plain law: what is held is told, and refused where it is due -/
theorem mem_keys {κ β : Type} [DecidableEq κ] {S : List (κ × β)} {q : κ} : q ∈ S.map (·.1) ↔ (lookB S q).isSome = true := by
  rw [← anyB, List.any_eq_true]
  constructor
  · intro h
    obtain ⟨x, hx, rfl⟩ := List.mem_map.mp h
    exact ⟨x, hx, by simp⟩
  · rintro ⟨x, hx, e⟩
    exact List.mem_map.mpr ⟨x, hx, by simpa using e⟩
theorem sortI_strict {ks : List Int} (h : ks.Nodup) : (PySem.W.sortI ks).Pairwise (· < ·) := by
  have h1 := PySem.W.sortI_rises ks
  have h2 : (PySem.W.sortI ks).Nodup := (PySem.W.sortI_perm ks).nodup_iff.mpr h
  exact (h1.and h2).imp fun {a b} h => by have := h.1; have := h.2; omega
theorem placed_at (k : Int) (rows : List LR) (i : Nat) : (placed k rows)[i]? = (rows[i]?).map fun lr => (k, (i : Int), lr) := by
  unfold placed
  rw [List.getElem?_map, List.getElem?_zipIdx]
  cases rows[i]? <;> simp
theorem mem_placed {k : Int} {rows : List LR} {x : Int × Int × LR} : x ∈ placed k rows ↔ ∃ (i : Nat) (lr : LR), rows[i]? = some lr ∧ x = (k, (i : Int), lr) := by
  constructor
  · intro h
    obtain ⟨i, hi⟩ := List.getElem?_of_mem h
    rw [placed_at] at hi
    obtain ⟨lr, h1, h2⟩ := Option.map_eq_some_iff.mp hi
    exact ⟨i, lr, h1, h2.symm⟩
  · rintro ⟨i, lr, h1, rfl⟩
    exact List.mem_of_getElem? (i := i) (by rw [placed_at, h1]; rfl)
theorem mem_listed {T : LT} {x : Int × Int × LR} : x ∈ listed T ↔ x.1 ∈ T.map (·.1) ∧ ∃ (i : Nat), (rowsAt T x.1)[i]? = some x.2.2 ∧ x.2.1 = (i : Int) := by
  unfold listed
  rw [List.mem_flatMap]
  constructor
  · rintro ⟨k, hk, h⟩
    obtain ⟨i, lr, h1, rfl⟩ := mem_placed.mp h
    exact ⟨(PySem.W.sortI_perm _).mem_iff.mp hk, i, h1, rfl⟩
  · rintro ⟨h1, i, h2, h3⟩
    refine ⟨x.1, (PySem.W.sortI_perm _).mem_iff.mpr h1, mem_placed.mpr ⟨i, x.2.2, h2, ?_⟩⟩
    obtain ⟨a, b, c⟩ := x
    have h3 : b = (i : Int) := h3
    rw [h3]
def spotsL (T : LT) : List (Int × Int) := (listed T).map fun x => (x.1, x.2.1)
theorem spotsL_lt {T : LT} (h : (T.map (·.1)).Nodup) : (spotsL T).Pairwise fun x y => x.1 < y.1 ∨ (x.1 = y.1 ∧ x.2 < y.2) := by
  unfold spotsL listed
  rw [List.pairwise_map, List.pairwise_flatMap]
  refine ⟨fun k _ => ?_, (sortI_strict h).imp fun {a b} hab x hx y hy => ?_⟩
  · rw [List.pairwise_iff_getElem]
    intro i j hi hj hij
    have e1 := placed_at k (rowsAt T k) i
    have e2 := placed_at k (rowsAt T k) j
    rw [List.getElem?_eq_getElem hi] at e1
    rw [List.getElem?_eq_getElem hj] at e2
    obtain ⟨_, _, z1⟩ := Option.map_eq_some_iff.mp e1.symm
    obtain ⟨_, _, z2⟩ := Option.map_eq_some_iff.mp e2.symm
    rw [← z1, ← z2]
    refine .inr ⟨rfl, ?_⟩
    show (i : Int) < (j : Int)
    omega
  · obtain ⟨_, _, _, rfl⟩ := mem_placed.mp hx
    obtain ⟨_, _, _, rfl⟩ := mem_placed.mp hy
    exact .inl hab
theorem spotsL_nd {T : LT} (h : (T.map (·.1)).Nodup) : (spotsL T).Nodup := (spotsL_lt h).imp fun {a b} hab e => by subst e; omega
section holds
variable {n0 n1 : Str} {cs : List Str} {C : Str → Sheet} {T : LT}
theorem Holds.look (hC : Holds n0 n1 cs C T) {x : Int × Int × LR} (hx : x ∈ listed T) : lookB (C n1) (x.1, x.2.1) = some (mkRow cs (lrV x.2.2)) := by
  obtain ⟨_, i, h1, h2⟩ := mem_listed.mp hx
  rw [hC.l1, h2, cell_nat, h1]
  rfl
theorem Holds.keys (hC : Holds n0 n1 cs C T) (hT : (T.map (·.1)).Nodup) : ((C n1).map (·.1)).Perm (spotsL T) := by
  refine (List.perm_ext_iff_of_nodup hC.d1 (spotsL_nd hT)).mpr fun q => ?_
  rw [mem_keys, hC.l1]
  unfold spotsL
  rw [List.mem_map]
  obtain ⟨k, p⟩ := q
  constructor
  · intro h
    unfold cellOf at h
    by_cases h0 : 0 ≤ p
    · rw [if_pos h0, Option.isSome_map] at h
      obtain ⟨i, rfl⟩ := Int.eq_ofNat_of_zero_le h0
      obtain ⟨lr, hlr⟩ := Option.isSome_iff_exists.mp h
      have hlr : (rowsAt T k)[i]? = some lr := hlr
      refine ⟨(k, (i : Int), lr), mem_listed.mpr ⟨?_, i, hlr, rfl⟩, rfl⟩
      show k ∈ T.map (·.1)
      rw [mem_keys]
      unfold rowsAt at hlr
      cases e : lookB T k with
      | none => rw [e] at hlr; simp at hlr
      | some r => rfl
    · rw [if_neg h0] at h; cases h
  · rintro ⟨x, hx, e⟩
    have := hC.look hx
    rw [hC.l1] at this
    rw [← e, this]
    rfl
theorem Holds.spots (hC : Holds n0 n1 cs C T) (hT : (T.map (·.1)).Nodup) : spots (C n1) = spotsL T :=
  (eq_sortP (hC.keys hT).symm ((spotsL_lt hT).imp fun {a b} h => h.imp id fun z => ⟨z.1, by have := z.2; omega⟩)).symm
theorem Holds.len1 (hC : Holds n0 n1 cs C T) (hT : (T.map (·.1)).Nodup) : (C n1).length = (listed T).length := by
  have := (hC.keys hT).length_eq
  unfold spotsL at this
  rw [List.length_map, List.length_map] at this
  exact this
theorem Holds.rows1 (hC : Holds n0 n1 cs C T) (hT : (T.map (·.1)).Nodup) : rowsOf (C n1) = dueRows cs T := by
  unfold rowsOf dueRows
  rw [hC.spots hT]
  unfold spotsL
  rw [List.map_map]
  refine List.map_congr_left fun x hx => ?_
  show ((x.1, x.2.1), (lookB (C n1) (x.1, x.2.1)).getD []) = _
  rw [hC.look hx]
  rfl
theorem Holds.keys0 (hC : Holds n0 n1 cs C T) (hT : (T.map (·.1)).Nodup) : ((C n0).map (·.1)).Perm ((PySem.W.sortI (T.map (·.1))).map fun k => (k, (0 : Int))) := by
  refine (List.perm_ext_iff_of_nodup hC.d0 ?_).mpr fun q => ?_
  · exact List.Pairwise.map _ (fun a b h e => by have := (Prod.mk.inj e).1; omega) (sortI_strict hT)
  · rw [mem_keys, hC.l0, List.mem_map]
    obtain ⟨k, p⟩ := q
    unfold headOf
    constructor
    · intro h
      by_cases h0 : p = 0
      · rw [if_pos h0, Option.isSome_map] at h
        exact ⟨k, (PySem.W.sortI_perm _).mem_iff.mpr (mem_keys.mpr h), by rw [h0]⟩
      · rw [if_neg h0] at h; cases h
    · rintro ⟨k', hk', e⟩
      cases e
      rw [if_pos rfl, Option.isSome_map]
      exact mem_keys.mp ((PySem.W.sortI_perm _).mem_iff.mp hk')
theorem Holds.spots0 (hC : Holds n0 n1 cs C T) (hT : (T.map (·.1)).Nodup) : Lw.spots (C n0) = (PySem.W.sortI (T.map (·.1))).map fun k => (k, (0 : Int)) :=
  (eq_sortP (hC.keys0 hT).symm (List.Pairwise.map _ (fun a b h => .inl h) (sortI_strict hT))).symm
theorem Holds.len0 (hC : Holds n0 n1 cs C T) (hT : (T.map (·.1)).Nodup) : (C n0).length = T.length := by
  have := (hC.keys0 hT).length_eq
  rw [List.length_map, List.length_map, (PySem.W.sortI_perm _).length_eq, List.length_map] at this
  exact this
theorem Holds.rows0 (hC : Holds n0 n1 cs C T) (hT : (T.map (·.1)).Nodup) : rowsOf (C n0) = dueHeads T := by
  unfold rowsOf dueHeads
  rw [hC.spots0 hT, List.map_map]
  refine List.map_congr_left fun k hk => ?_
  show ((k, (0 : Int)), (lookB (C n0) (k, 0)).getD []) = _
  have hm := mem_keys.mp ((PySem.W.sortI_perm _).mem_iff.mp hk)
  have e : lookB (C n0) (k, 0) = (lookB T k).map fun _ => [] := by rw [hC.l0]; exact if_pos rfl
  rw [e]
  cases h : lookB T k with
  | none => rw [h] at hm; cases hm
  | some r => rfl
theorem Holds.held (hC : Holds n0 n1 cs C T) (hT : (T.map (·.1)).Nodup) : PySem.W.sortI ((C n0).map (·.1.1)) = PySem.W.sortI (T.map (·.1)) := by
  refine (PySem.W.eq_sortI ?_ (PySem.W.sortI_rises _)).symm
  have h := (hC.keys0 hT).map (·.1)
  rw [List.map_map, List.map_map] at h
  have e : (PySem.W.sortI (T.map (·.1))).map ((fun x : Int × Int => x.1) ∘ fun k => (k, (0 : Int))) = PySem.W.sortI (T.map (·.1)) := List.map_id _
  rw [e] at h
  exact h.symm
end holds
theorem fs_congr {α β : Type} {f g : α → Option β} : ∀ {l : List α}, (∀ x ∈ l, f x = g x) → l.findSome? f = l.findSome? g
  | [], _ => rfl
  | a :: l, h => by
    rw [List.findSome?_cons, List.findSome?_cons, h a List.mem_cons_self, fs_congr fun x hx => h x (List.mem_cons_of_mem _ hx)]
theorem fs_map {α β γ : Type} {f : α → Option β} {g : β → γ} : ∀ {l : List α}, l.findSome? (fun x => (f x).map g) = (l.findSome? f).map g
  | [] => rfl
  | a :: l => by
    rw [List.findSome?_cons, List.findSome?_cons]
    cases f a with
    | none => exact fs_map
    | some b => rfl
/-- the law's form -/
def colsL (c0 c1 c2 c3 : Str) : List (Str × Kd) := [(c0, .once .whole), (c1, .once .whole), (c2, .key), (c3, .pl .whole)]
structure FormK (F : Fm) (n0 n1 sort c0 c1 c2 c3 : Str) : Prop where
  ne : n0 ≠ n1
  srt : sort = "many" ∨ sort = "some"
  nd : [c0, c1, c2, c3].Nodup
  tabs : ∃ cols : List (Str × Kd), cols.Perm (colsL c0 c1 c2 c3) ∧ F.tabs = [⟨n0, "head", []⟩, ⟨n1, sort, cols⟩]
section form
variable {n0 n1 sort c0 c1 c2 c3 : Str} {C : Str → Sheet} {T : LT} {F : Fm} {cols : List (Str × Kd)}
theorem cols_nd (nd : [c0, c1, c2, c3].Nodup) (h : cols.Perm (colsL c0 c1 c2 c3)) : (cols.map (·.1)).Nodup := (h.map fun x : Str × Kd => x.1).nodup_iff.mpr nd
theorem colsBy_nil (w : Str) : colsBy [] w = [] := by
  unfold colsBy
  have e : sortS (([] : List (Str × Kd)).map (·.1)) = [] := List.perm_nil.mp (sortS_perm [])
  rw [e]
  rfl
theorem cols_by (nd : [c0, c1, c2, c3].Nodup) (h : cols.Perm (colsL c0 c1 c2 c3)) (word : Str) : colsBy cols word = sortS ([c0, c1, c2, c3].filter fun c => decide ((lookB cols c).map wordOf = some word)) := by
  unfold colsBy
  rw [sortS_filter]
  exact sortS_congr ((h.map (·.1)).filter _)
theorem look_col (nd : [c0, c1, c2, c3].Nodup) (h : cols.Perm (colsL c0 c1 c2 c3)) {x : Str × Kd} (hx : x ∈ colsL c0 c1 c2 c3) : lookB cols x.1 = some x.2 := lookB_self (cols_nd nd h) (h.mem_iff.mpr hx)
theorem cols_once (nd : [c0, c1, c2, c3].Nodup) (h : cols.Perm (colsL c0 c1 c2 c3)) : colsBy cols "once" = sortS [c0, c1] := by
  rw [cols_by nd h]
  have l0 : lookB cols c0 = some (.once .whole) := look_col nd h (x := (c0, .once .whole)) (by simp [colsL])
  have l1 : lookB cols c1 = some (.once .whole) := look_col nd h (x := (c1, .once .whole)) (by simp [colsL])
  have l2 : lookB cols c2 = some .key := look_col nd h (x := (c2, .key)) (by simp [colsL])
  have l3 : lookB cols c3 = some (.pl .whole) := look_col nd h (x := (c3, .pl .whole)) (by simp [colsL])
  rw [List.filter_cons_of_pos (by rw [l0]; rfl), List.filter_cons_of_pos (by rw [l1]; rfl), List.filter_cons_of_neg (by rw [l2]; decide), List.filter_cons_of_neg (by rw [l3]; decide)]
  rfl
theorem cols_key (nd : [c0, c1, c2, c3].Nodup) (h : cols.Perm (colsL c0 c1 c2 c3)) : colsBy cols "key" = [c2] := by
  rw [cols_by nd h]
  have l0 : lookB cols c0 = some (.once .whole) := look_col nd h (x := (c0, .once .whole)) (by simp [colsL])
  have l1 : lookB cols c1 = some (.once .whole) := look_col nd h (x := (c1, .once .whole)) (by simp [colsL])
  have l2 : lookB cols c2 = some .key := look_col nd h (x := (c2, .key)) (by simp [colsL])
  have l3 : lookB cols c3 = some (.pl .whole) := look_col nd h (x := (c3, .pl .whole)) (by simp [colsL])
  rw [List.filter_cons_of_neg (by rw [l0]; decide), List.filter_cons_of_neg (by rw [l1]; decide), List.filter_cons_of_pos (by rw [l2]; rfl), List.filter_cons_of_neg (by rw [l3]; decide)]
  exact List.perm_singleton.mp (sortS_perm [c2])
theorem row_vals (nd : [c0, c1, c2, c3].Nodup) (lr : LR) : valV (mkRow [c0, c1, c2, c3] (lrV lr)) (Sum.inr c0) = some (.int lr.a) ∧ valV (mkRow [c0, c1, c2, c3] (lrV lr)) (Sum.inr c1) = some (.int lr.b) ∧ valV (mkRow [c0, c1, c2, c3] (lrV lr)) (Sum.inr c2) = some (ptrV lr.c) ∧ valV (mkRow [c0, c1, c2, c3] (lrV lr)) (Sum.inr c3) = some (.int lr.w) := by
  have hn := mkRow_flat (cs := [c0, c1, c2, c3]) nd rfl lr
  have e : mkRow [c0, c1, c2, c3] (lrV lr) = [(Sum.inr c0, .int lr.a), (Sum.inr c1, .int lr.b), (Sum.inr c2, ptrV lr.c), (Sum.inr c3, .int lr.w)] := rfl
  rw [e] at hn ⊢
  exact ⟨val_nodup hn.1 (Sum.inr c0, .int lr.a) (by simp), val_nodup hn.1 (Sum.inr c1, .int lr.b) (by simp), val_nodup hn.1 (Sum.inr c2, ptrV lr.c) (by simp), val_nodup hn.1 (Sum.inr c3, .int lr.w) (by simp)⟩
theorem cellV_at {cs : List Str} (hC : Holds n0 n1 cs C T) {x : Int × Int × LR} (hx : x ∈ listed T) (c : Str) : cellV (C n1) (x.1, x.2.1) c = (valV (mkRow cs (lrV x.2.2)) (Sum.inr c)).getD .non := by
  unfold cellV
  rw [hC.look hx]
  rfl
theorem tw_col (nd : [c0, c1, c2, c3].Nodup) (hC : Holds n0 n1 [c0, c1, c2, c3] C T) (hT : (T.map (·.1)).Nodup) {c : Str} (hc : c = c0 ∨ c = c1) : twCol (C n1) c = dueTw T (atOf c0 c) := by
  have e : colInts (C n1) c = dueCol T (atOf c0 c) := by
    unfold colInts dueCol
    rw [hC.spots hT]
    unfold spotsL
    rw [List.map_map]
    refine List.map_congr_left fun x hx => ?_
    show intOf (cellV (C n1) (x.1, x.2.1) c) = _
    rw [cellV_at hC hx]
    obtain ⟨v0, v1, _⟩ := row_vals nd x.2.2
    unfold atOf colOf
    by_cases h : c = c0
    · subst h
      rw [v0, if_pos rfl, if_pos rfl]; rfl
    · have h1 : c = c1 := hc.resolve_left h
      subst h1
      rw [v1, if_neg h]; rfl
  unfold twCol dueTw
  rw [e, hC.spots hT]
  unfold spotsL
  cases dupAt (dueCol T (atOf c0 c)) with
  | none => rfl
  | some i => exact List.getElem?_map
theorem twice_due (hF : FormK F n0 n1 sort c0 c1 c2 c3) (hC : Holds n0 n1 [c0, c1, c2, c3] C T) (hT : (T.map (·.1)).Nodup) : twiceOf F C = ((sortS [c0, c1]).findSome? fun c => dueTw T (atOf c0 c)).map fun p => (n1, p) := by
  obtain ⟨cols, hp, ht⟩ := hF.tabs
  unfold twiceOf
  rw [ht, List.findSome?_cons, List.findSome?_cons, List.findSome?_nil]
  have e0 : twTab C ⟨n0, "head", []⟩ = none := by
    unfold twTab
    rw [show colsBy (Tb.mk n0 "head" []).cols "once" = [] from colsBy_nil _]
    rfl
  rw [e0]
  have e1 : twTab C ⟨n1, sort, cols⟩ = ((sortS [c0, c1]).findSome? fun c => dueTw T (atOf c0 c)).map fun p => (n1, p) := by
    unfold twTab
    rw [show colsBy (Tb.mk n1 sort cols).cols "once" = sortS [c0, c1] from cols_once hF.nd hp, ← fs_map]
    refine fs_congr fun c hc => ?_
    have hc2 : c ∈ [c0, c1] := (sortS_perm _).mem_iff.mp hc
    show (twCol (C n1) c).map _ = _
    rw [tw_col hF.nd hC hT (by simpa using hc2)]
  rw [e1]
  cases ((sortS [c0, c1]).findSome? fun c => dueTw T (atOf c0 c)) <;> rfl
theorem hd_name (hF : FormK F n0 n1 sort c0 c1 c2 c3) : hdName F = n0 := by
  obtain ⟨cols, hp, ht⟩ := hF.tabs
  unfold hdName
  rw [ht]
theorem nowhere_due (hF : FormK F n0 n1 sort c0 c1 c2 c3) (hC : Holds n0 n1 [c0, c1, c2, c3] C T) (hT : (T.map (·.1)).Nodup) : nowhereOf F C = (dueNw T).map fun p => (n1, p) := by
  obtain ⟨cols, hp, ht⟩ := hF.tabs
  unfold nowhereOf
  rw [hd_name hF, ht, List.findSome?_cons, List.findSome?_cons, List.findSome?_nil]
  have e0 : nwTab (C n0) C ⟨n0, "head", []⟩ = none := by
    unfold nwTab
    rw [show colsBy (Tb.mk n0 "head" []).cols "key" = [] from colsBy_nil _]
    rfl
  rw [e0]
  have e1 : nwTab (C n0) C ⟨n1, sort, cols⟩ = (dueNw T).map fun p => (n1, p) := by
    unfold nwTab
    rw [show colsBy (Tb.mk n1 sort cols).cols "key" = [c2] from cols_key hF.nd hp, List.findSome?_cons, List.findSome?_nil]
    have e2 : (Lw.spots (C n1)).findSome? (nwSpot (C n0) (C n1) c2) = dueNw T := by
      rw [hC.spots hT]
      unfold spotsL dueNw
      rw [List.findSome?_map]
      refine fs_congr fun x hx => ?_
      show nwSpot (C n0) (C n1) c2 (x.1, x.2.1) = _
      unfold nwSpot
      rw [cellV_at hC hx, (row_vals hF.nd x.2.2).2.2.1]
      cases hc : x.2.2.c with
      | none => rfl
      | some g =>
        show (if (lookB (C n0) (g, 0)).isSome then none else some (x.1, x.2.1)) = if (lookB T g).isSome then none else some (x.1, x.2.1)
        have : lookB (C n0) (g, 0) = (lookB T g).map fun _ => [] := by rw [hC.l0]; exact if_pos rfl
        rw [this, Option.isSome_map]
    rw [show (List.findSome? (nwSpot (C n0) (C (Tb.mk n1 sort cols).name) c2) (Lw.spots (C (Tb.mk n1 sort cols).name))) = dueNw T from e2]
    cases dueNw T <;> rfl
  rw [e1]
  cases dueNw T <;> rfl
theorem due_none (hF : FormK F n0 n1 sort c0 c1 c2 c3) (hC : Holds n0 n1 [c0, c1, c2, c3] C T) (hT : (T.map (·.1)).Nodup) (h : dueOf T c0 c1 = none) : twiceOf F C = none ∧ nowhereOf F C = none := by
  rw [twice_due hF hC hT, nowhere_due hF hC hT]
  unfold dueOf at h
  cases e : (sortS [c0, c1]).findSome? fun c => dueTw T (atOf c0 c) with
  | some p => rw [e] at h; cases h
  | none =>
    rw [e] at h
    refine ⟨rfl, ?_⟩
    cases e2 : dueNw T with
    | none => rfl
    | some p => rw [e2] at h; cases h
theorem due_some (hF : FormK F n0 n1 sort c0 c1 c2 c3) (hC : Holds n0 n1 [c0, c1, c2, c3] C T) (hT : (T.map (·.1)).Nodup) {d : Str × Int × Int} (h : dueOf T c0 c1 = some d) :
    (d.1 = "Twice" ∧ twiceOf F C = some (n1, d.2)) ∨ (d.1 = "Nowhere" ∧ twiceOf F C = none ∧ nowhereOf F C = some (n1, d.2)) := by
  rw [twice_due hF hC hT, nowhere_due hF hC hT]
  unfold dueOf at h
  cases e : (sortS [c0, c1]).findSome? fun c => dueTw T (atOf c0 c) with
  | some p => rw [e] at h; cases h; exact .inl ⟨rfl, rfl⟩
  | none =>
    rw [e] at h
    cases e2 : dueNw T with
    | none => rw [e2] at h; cases h
    | some p => rw [e2] at h; cases h; exact .inr ⟨rfl, rfl, rfl⟩
end form


theorem nd_len {α : Type} [BEq α] [LawfulBEq α] : ∀ {l m : List α}, l.Nodup → (∀ x ∈ l, x ∈ m) → l.length ≤ m.length
  | [], _, _, _ => Nat.zero_le _
  | a :: l, m, nd, h => by
    obtain ⟨n1, n2⟩ := List.nodup_cons.mp nd
    have hp := (List.perm_cons_erase (h a List.mem_cons_self)).length_eq
    have := nd_len (m := m.erase a) n2 fun x hx => (List.mem_erase_of_ne (fun e => n1 (by rw [← e]; exact hx))).mpr (h x (List.mem_cons_of_mem _ hx))
    rw [List.length_cons] at hp ⊢
    omega
/-- the things of the law -/
structure TOk (keys : List Int) (sort : Str) (T : LT) : Prop where
  nd : (T.map (·.1)).Nodup
  km : ∀ k ∈ T.map (·.1), k ∈ keys
  len : ∀ x ∈ T, x.2.length ≤ 5
  ptr : ∀ x ∈ T, ∀ lr ∈ x.2, ∀ g, lr.c = some g → g ∈ keys
  one : sort = "some" → ∀ x ∈ T, x.2 ≠ []
structure KOk (keys : List Int) (size : Int) : Prop where
  len : keys.length = 5
  rng : ∀ k ∈ keys, 0 ≤ k ∧ k < size
  sz : size ≤ 1000000000000
theorem TOk.nil {keys : List Int} {sort : Str} : TOk keys sort [] := ⟨.nil, fun k h => (by cases h), fun x h => (by cases h), fun x h => (by cases h), fun _ x h => by cases h⟩
theorem TOk.tlen {keys : List Int} {sort : Str} {T : LT} {size : Int} (h : TOk keys sort T) (hk : KOk keys size) : T.length ≤ 5 := by
  have := nd_len h.nd h.km
  rw [List.length_map, hk.len] at this
  exact this
theorem TOk.put {keys : List Int} {sort : Str} {T : LT} (h : TOk keys sort T) {key : Int} {new : List LR} (hm : key ∈ keys) (hl : new.length ≤ 5) (hp : ∀ lr ∈ new, ∀ g, lr.c = some g → g ∈ T.map (·.1) ∨ g ∈ keys) (ho : sort = "some" → new ≠ []) : TOk keys sort (putB T key new) := by
  have hp2 : ∀ lr ∈ new, ∀ g, lr.c = some g → g ∈ keys := fun lr hlr g e => (hp lr hlr g e).elim (h.km g) id
  refine ⟨nd_put h.nd, fun k hk => ?_, fun x hx => ?_, fun x hx => ?_, fun hs x hx => ?_⟩
  · rw [mem_keys, lookB_put] at hk
    by_cases e : key = k
    · rw [← e]; exact hm
    · rw [if_neg e] at hk; exact h.km k (mem_keys.mpr hk)
  · rcases mem_putB hx with hx | hx
    · exact h.len x hx
    · rw [hx]; exact hl
  · rcases mem_putB hx with hx | hx
    · exact h.ptr x hx
    · rw [hx]; exact hp2
  · rcases mem_putB hx with hx | hx
    · exact h.one hs x hx
    · rw [hx]; exact ho hs
theorem TOk.deed {n0 n1 : Str} {cs : List Str} {sort : Str} {keys : List Int} {T T2 : LT} {key : Int} {ss : List Stp} (h : TOk keys sort T) (D : Deed n0 n1 cs sort keys T key ss T2) : TOk keys sort T2 := by
  obtain ⟨new, l1, l3, pl, _, _, hl, hp, _, hd⟩ := D.ex
  rcases hd with ⟨_, e2, e3, _⟩ | ⟨ho, _, e3, _⟩ | ⟨ho, _, e3, _⟩
  · rw [e3]
    have hsub : ∀ x ∈ cutB (putB T key new) key, x ∈ T := fun x hx => by
      have h1 := List.mem_filter.mp hx
      have h2 : x.1 ≠ key := by simpa using h1.2
      have h3 := h1.1
      unfold putB at h3
      split at h3
      · obtain ⟨y, hy, e⟩ := List.mem_map.mp h3
        by_cases c : y.1 = key
        · rw [if_pos c] at e; rw [← e] at h2; exact absurd c h2
        · rw [if_neg c] at e; rw [← e]; exact hy
      · rcases List.mem_append.mp h3 with h3 | h3
        · exact h3
        · cases List.mem_singleton.mp h3; exact absurd rfl h2
    refine ⟨nd_cut (nd_put h.nd), fun k hk => ?_, fun x hx => h.len x (hsub x hx), fun x hx => h.ptr x (hsub x hx), fun hs x hx => h.one hs x (hsub x hx)⟩
    obtain ⟨x, hx, rfl⟩ := List.mem_map.mp hk
    exact h.km _ (List.mem_map.mpr ⟨x, hsub x hx, rfl⟩)
  · rw [e3]; exact h.put D.km hl hp ho
  · rw [e3]; exact h.put D.km hl hp ho
theorem flat_len {α β : Type} {f : α → List β} {n : Nat} : ∀ {l : List α}, (∀ x ∈ l, (f x).length ≤ n) → (l.flatMap f).length ≤ n * l.length
  | [], _ => Nat.zero_le _
  | a :: l, h => by
    rw [List.flatMap_cons, List.length_append, List.length_cons, Nat.mul_succ]
    have := flat_len (l := l) fun x hx => h x (List.mem_cons_of_mem _ hx)
    have := h a List.mem_cons_self
    omega
theorem TOk.llen {keys : List Int} {sort : Str} {T : LT} {size : Int} (h : TOk keys sort T) (hk : KOk keys size) : (listed T).length ≤ 25 := by
  have h1 := h.tlen hk
  have h2 : (listed T).length ≤ 5 * (PySem.W.sortI (T.map (·.1))).length := flat_len fun k _ => by
    unfold placed
    rw [List.length_map, List.length_zipIdx]
    exact rows_len h.len k
  rw [(PySem.W.sortI_perm _).length_eq, List.length_map] at h2
  omega
section facts
variable {n0 n1 sort c0 c1 c2 c3 : Str} {C : Str → Sheet} {T : LT} {F : Fm} {keys : List Int}
theorem holds_row {cs : List Str} (hC : Holds n0 n1 cs C T) {s : (Int × Int) × Row} (hs : s ∈ C n1) : ∃ lr, s.2 = mkRow cs (lrV lr) ∧ ∃ i : Nat, (rowsAt T s.1.1)[i]? = some lr ∧ s.1.2 = (i : Int) := by
  have h := lookB_self hC.d1 hs
  rw [hC.l1] at h
  unfold cellOf at h
  by_cases h0 : 0 ≤ s.1.2
  · rw [if_pos h0] at h
    obtain ⟨lr, h1, h2⟩ := Option.map_eq_some_iff.mp h
    exact ⟨lr, h2.symm, _, h1, by omega⟩
  · rw [if_neg h0] at h; cases h
theorem rows_mem {k : Int} {i : Nat} {lr : LR} (h : (rowsAt T k)[i]? = some lr) : ∃ x ∈ T, x.1 = k ∧ lr ∈ x.2 ∧ i < x.2.length := by
  unfold rowsAt at h
  cases e : lookB T k with
  | none => rw [e] at h; simp at h
  | some r =>
    rw [e] at h
    exact ⟨(k, r), lookB_mem e, rfl, List.mem_of_getElem? h, (List.getElem?_eq_some_iff.mp h).1⟩
theorem row_fits (K : PySem.W.Frag) (H : Hp) {cols : List (Str × Kd)} (nd : [c0, c1, c2, c3].Nodup) (hp : cols.Perm (colsL c0 c1 c2 c3)) {lr : LR} {size : Int} (hc : ∀ g, lr.c = some g → 0 ≤ g ∧ g < size) : RowOk K H size (mkRow [c0, c1, c2, c3] (lrV lr)) cols := by
  refine ⟨by rw [hp.length_eq]; rfl, fun c hc2 => ?_⟩
  obtain ⟨v0, v1, v2, v3⟩ := row_vals nd lr
  have hc2 := hp.mem_iff.mp hc2
  rcases List.mem_cons.mp hc2 with rfl | hc2
  · exact ⟨_, .v (.int lr.a), v0, ⟨rfl, rfl⟩, ⟨fun k h => (by cases h), fun xs h => by cases h⟩, rfl⟩
  rcases List.mem_cons.mp hc2 with rfl | hc2
  · exact ⟨_, .v (.int lr.b), v1, ⟨rfl, rfl⟩, ⟨fun k h => (by cases h), fun xs h => by cases h⟩, rfl⟩
  rcases List.mem_cons.mp hc2 with rfl | hc2
  · refine ⟨_, .v (ptrV lr.c), v2, ⟨rfl, by cases lr.c <;> rfl⟩, ⟨fun k h => (by cases h), fun xs h => by cases h⟩, ?_⟩
    cases e : lr.c with
    | none => rfl
    | some g =>
      obtain ⟨h1, h2⟩ := hc g e
      show (decide (0 ≤ g) && decide (g < size)) = true
      rw [decide_eq_true h1, decide_eq_true h2]
      rfl
  · cases List.mem_singleton.mp hc2
    exact ⟨_, .v (.int lr.w), v3, ⟨rfl, rfl⟩, ⟨fun k h => (by cases h), fun xs h => by cases h⟩, rfl⟩
theorem head_fits (K : PySem.W.Frag) (H : Hp) {size : Int} : RowOk K H size [] [] := ⟨rfl, fun c h => by cases h⟩
theorem holds_head {cs : List Str} (hC : Holds n0 n1 cs C T) {s : (Int × Int) × Row} (hs : s ∈ C n0) : s.2 = [] ∧ s.1.2 = 0 ∧ s.1.1 ∈ T.map (·.1) := by
  have h := lookB_self hC.d0 hs
  rw [hC.l0] at h
  unfold headOf at h
  by_cases h0 : s.1.2 = 0
  · rw [if_pos h0] at h
    obtain ⟨r, h1, h2⟩ := Option.map_eq_some_iff.mp h
    exact ⟨h2.symm, h0, mem_keys.mpr (by rw [h1]; rfl)⟩
  · rw [if_neg h0] at h; cases h
theorem holds_shs (K : PySem.W.Frag) (H : Hp) (hF : FormK F n0 n1 sort c0 c1 c2 c3) (hC : Holds n0 n1 [c0, c1, c2, c3] C T) (hT : TOk keys sort T) (hk : KOk keys F.size) : ShsRows K H F C := by
  obtain ⟨cols, hp, ht⟩ := hF.tabs
  intro t htm s hs
  rw [ht] at htm
  rcases List.mem_cons.mp htm with rfl | htm
  · rw [(holds_head hC hs).1]
    exact head_fits K H
  · cases List.mem_singleton.mp htm
    obtain ⟨lr, e, i, hi, _⟩ := holds_row hC hs
    rw [e]
    obtain ⟨x, hx, _, hlr, _⟩ := rows_mem hi
    exact row_fits K H hF.nd hp fun g hg => hk.rng g (hT.ptr x hx lr hlr g hg)
theorem apart_of {P : Program} {w : World} {S : Sheet} (nd : (S.map (·.1)).Nodup) (h : ∀ s ∈ S, 0 ≤ s.1.1 ∧ s.1.1 < 1000000000000000 ∧ 0 ≤ s.1.2 ∧ s.1.2 < 64) : ApartS P w S := by
  unfold ApartS
  rw [List.Nodup, List.pairwise_map] at nd ⊢
  refine nd.imp_of_mem fun {a b} ha hb hab e => hab ?_
  obtain ⟨a1, a2, a3, a4⟩ := h a ha
  obtain ⟨b1, b2, b3, b4⟩ := h b hb
  obtain ⟨e1, e2⟩ := hash_pair_inj a1 a2 b1 b2 a3 a4 b3 b4 e
  exact Prod.ext e1 e2
theorem holds_apart (P : Program) (w : World) (hF : FormK F n0 n1 sort c0 c1 c2 c3) (hC : Holds n0 n1 [c0, c1, c2, c3] C T) (hT : TOk keys sort T) (hk : KOk keys F.size) : ∀ t ∈ F.tabs, ApartS P w (C t.name) := by
  obtain ⟨cols, hp, ht⟩ := hF.tabs
  have hsz := hk.sz
  intro t htm
  rw [ht] at htm
  rcases List.mem_cons.mp htm with rfl | htm
  · refine apart_of hC.d0 fun s hs => ?_
    obtain ⟨_, h2, h3⟩ := holds_head hC hs
    have := hk.rng _ (hT.km _ h3)
    omega
  · cases List.mem_singleton.mp htm
    refine apart_of hC.d1 fun s hs => ?_
    obtain ⟨lr, _, i, hi, h3⟩ := holds_row hC hs
    obtain ⟨x, hx, e, _, hlt⟩ := rows_mem hi
    have h1 := hk.rng _ (hT.km x.1 (List.mem_map.mpr ⟨x, hx, rfl⟩))
    have h2 := hT.len x hx
    omega
theorem holds_len (hF : FormK F n0 n1 sort c0 c1 c2 c3) (hC : Holds n0 n1 [c0, c1, c2, c3] C T) (hT : TOk keys sort T) (hk : KOk keys F.size) : ∀ t ∈ F.tabs, (C t.name).length ≤ 25 := by
  obtain ⟨cols, hp, ht⟩ := hF.tabs
  intro t htm
  rw [ht] at htm
  rcases List.mem_cons.mp htm with rfl | htm
  · show (C n0).length ≤ 25
    rw [hC.len0 hT.nd]
    have := hT.tlen hk
    omega
  · cases List.mem_singleton.mp htm
    show (C n1).length ≤ 25
    rw [hC.len1 hT.nd]
    exact hT.llen hk
theorem form_once (hF : FormK F n0 n1 sort c0 c1 c2 c3) : onceWhole F := by
  obtain ⟨cols, hp, ht⟩ := hF.tabs
  intro t htm c hc k e
  rw [ht] at htm
  rcases List.mem_cons.mp htm with rfl | htm
  · cases hc
  · cases List.mem_singleton.mp htm
    have hc := hp.mem_iff.mp hc
    unfold colsL at hc
    rcases List.mem_cons.mp hc with rfl | hc
    · cases e; rfl
    rcases List.mem_cons.mp hc with rfl | hc
    · cases e; rfl
    rcases List.mem_cons.mp hc with rfl | hc
    · cases e
    · cases List.mem_singleton.mp hc; cases e
theorem form_sorts (hF : FormK F n0 n1 sort c0 c1 c2 c3) : ∀ t ∈ F.tabs, sorts4 t.sort := by
  obtain ⟨cols, hp, ht⟩ := hF.tabs
  intro t htm
  rw [ht] at htm
  rcases List.mem_cons.mp htm with rfl | htm
  · exact .inl rfl
  · cases List.mem_singleton.mp htm
    exact hF.srt.elim (fun h => .inr (.inr (.inl h))) fun h => .inr (.inr (.inr h))
theorem form_names (hF : FormK F n0 n1 sort c0 c1 c2 c3) : F.tabs.map (·.name) = [n0, n1] := by
  obtain ⟨cols, hp, ht⟩ := hF.tabs
  rw [ht]; rfl
theorem form_ne (hF : FormK F n0 n1 sort c0 c1 c2 c3) : F.tabs ≠ [] := by
  obtain ⟨cols, hp, ht⟩ := hF.tabs
  rw [ht]; exact fun z => by cases z
theorem form_8 (hF : FormK F n0 n1 sort c0 c1 c2 c3) : F.tabs.length ≤ 8 := by
  obtain ⟨cols, hp, ht⟩ := hF.tabs
  rw [ht]; show 2 ≤ 8; omega
/-- the places of a thing -/
theorem plL_nd {S : Sheet} (nd : (S.map (·.1)).Nodup) (k : Int) : (placesL S k).Nodup := by
  unfold placesL
  rw [List.Nodup, List.pairwise_map] at nd ⊢
  refine (List.Pairwise.filter _ nd).imp_of_mem fun {a b} ha hb hab e => hab ?_
  have h1 : a.1.1 = k := by simpa using (List.mem_filter.mp ha).2
  have h2 : b.1.1 = k := by simpa using (List.mem_filter.mp hb).2
  exact Prod.ext (h1.trans h2.symm) e
theorem mem_plL {S : Sheet} {k p : Int} : p ∈ placesL S k ↔ (lookB S (k, p)).isSome = true := by
  rw [← mem_keys]
  unfold placesL
  rw [List.mem_map, List.mem_map]
  constructor
  · rintro ⟨s, hs, rfl⟩
    have h1 : s.1.1 = k := by simpa using (List.mem_filter.mp hs).2
    exact ⟨s, (List.mem_filter.mp hs).1, Prod.ext h1 rfl⟩
  · rintro ⟨s, hs, e⟩
    exact ⟨s, List.mem_filter.mpr ⟨hs, by simp [e]⟩, by rw [e]⟩
theorem mem_plc {S : Sheet} {k p : Int} : p ∈ plc S k ↔ (lookB S (k, p)).isSome = true := by
  unfold plc
  rw [(PySem.W.sortI_perm _).mem_iff, mem_plL]
theorem plc1 {cs : List Str} (hC : Holds n0 n1 cs C T) (k : Int) : plc (C n1) k = (List.range (rowsAt T k).length).map fun i : Nat => (i : Int) := by
  unfold plc
  refine (PySem.W.eq_sortI ?_ ?_).symm
  · refine (List.perm_ext_iff_of_nodup ?_ (plL_nd hC.d1 k)).mpr fun p => ?_
    · exact List.Pairwise.map _ (fun a b h e => by omega) List.pairwise_lt_range
    · rw [mem_plL, hC.l1, List.mem_map]
      constructor
      · rintro ⟨i, hi, rfl⟩
        rw [cell_nat, List.getElem?_eq_getElem (List.mem_range.mp hi)]
        rfl
      · intro h
        unfold cellOf at h
        by_cases h0 : 0 ≤ p
        · rw [if_pos h0, Option.isSome_map] at h
          obtain ⟨lr, h1⟩ := Option.isSome_iff_exists.mp h
          exact ⟨p.toNat, List.mem_range.mpr (List.getElem?_eq_some_iff.mp h1).1, by omega⟩
        · rw [if_neg h0] at h; cases h
  · exact List.Pairwise.map _ (fun a b h => by omega) List.pairwise_lt_range
theorem holds_thing (hF : FormK F n0 n1 sort c0 c1 c2 c3) (hC : Holds n0 n1 [c0, c1, c2, c3] C T) (hT : TOk keys sort T) (k : Int) : thingOk F C k := by
  obtain ⟨cols, hp, ht⟩ := hF.tabs
  unfold thingOk
  rw [ht]
  have hk0 : lookB (C n0) (k, 0) = (lookB T k).map fun _ => [] := by rw [hC.l0]; exact if_pos rfl
  cases e : lookB T k with
  | none =>
    refine .inl fun t htm => ?_
    rcases List.mem_cons.mp htm with rfl | htm
    · refine List.eq_nil_iff_forall_not_mem.mpr fun p hp => ?_
      rw [mem_plc, hC.l0] at hp
      unfold headOf at hp
      rw [e] at hp
      by_cases h0 : p = 0
      · rw [if_pos h0] at hp; cases hp
      · rw [if_neg h0] at hp; cases hp
    · cases List.mem_singleton.mp htm
      show plc (C n1) k = []
      rw [plc1 hC]
      unfold rowsAt
      rw [e]
      rfl
  | some r =>
    refine .inr fun t htm => ?_
    rcases List.mem_cons.mp htm with rfl | htm
    · refine .inl ⟨.inl rfl, fun z => ?_⟩
      have : (0 : Int) ∈ plc (C n0) k := mem_plc.mpr (by rw [hk0, e]; rfl)
      rw [show plc (C (Tb.mk n0 "head" []).name) k = plc (C n0) k from rfl] at z
      rw [z] at this
      cases this
    · cases List.mem_singleton.mp htm
      show okPlaces sort (plc (C n1) k)
      rw [plc1 hC]
      refine .inr ⟨hF.srt.imp id fun h => ⟨h, fun z => ?_⟩, fun i x hx => ?_⟩
      · have h2 := hT.one h _ (lookB_mem e)
        unfold rowsAt at z
        rw [e] at z
        have := congrArg List.length z
        rw [List.length_map, List.length_range] at this
        exact h2 (List.eq_nil_of_length_eq_zero this)
      · rw [List.getElem?_map] at hx
        obtain ⟨j, hj, rfl⟩ := Option.map_eq_some_iff.mp hx
        obtain ⟨h1, h2⟩ := List.getElem?_eq_some_iff.mp hj
        rw [List.getElem_range] at h2
        rw [h2]
end facts


theorem lookB_iff {κ β : Type} [DecidableEq κ] {l : List (κ × β)} (nd : (l.map (·.1)).Nodup) {k : κ} {v : β} : lookB l k = some v ↔ (k, v) ∈ l := ⟨lookB_mem, fun h => lookB_self nd h⟩
theorem rf_at (k : Int) (rows : List Row) (i : Nat) : (rowsFrom k rows)[i]? = (rows[i]?).map fun r => ((k, (i : Int)), r) := by
  unfold rowsFrom
  rw [List.getElem?_map, List.getElem?_zipIdx]
  cases rows[i]? <;> simp
theorem mem_rf {k : Int} {rows : List Row} {x : (Int × Int) × Row} : x ∈ rowsFrom k rows ↔ ∃ (i : Nat) (r : Row), rows[i]? = some r ∧ x = ((k, (i : Int)), r) := by
  constructor
  · intro h
    obtain ⟨i, hi⟩ := List.getElem?_of_mem h
    rw [rf_at] at hi
    obtain ⟨lr, h1, h2⟩ := Option.map_eq_some_iff.mp hi
    exact ⟨i, lr, h1, h2.symm⟩
  · rintro ⟨i, lr, h1, rfl⟩
    exact List.mem_of_getElem? (i := i) (by rw [rf_at, h1]; rfl)
theorem sheet_nd {T' : Things} (nd : (T'.map (·.1)).Nodup) (n : Str) : ((sheetOf T' n).map (·.1)).Nodup := by
  unfold sheetOf
  rw [List.Nodup, List.pairwise_map, List.pairwise_flatMap]
  rw [List.Nodup, List.pairwise_map] at nd
  refine ⟨fun y _ => ?_, nd.imp fun {a b} hab x hx y hy e => ?_⟩
  · rw [List.pairwise_iff_getElem]
    intro i j hi hj hij e
    have e1 := rf_at y.1 (y.2 n) i
    have e2 := rf_at y.1 (y.2 n) j
    rw [List.getElem?_eq_getElem hi] at e1
    rw [List.getElem?_eq_getElem hj] at e2
    obtain ⟨_, _, z1⟩ := Option.map_eq_some_iff.mp e1.symm
    obtain ⟨_, _, z2⟩ := Option.map_eq_some_iff.mp e2.symm
    rw [← z1, ← z2] at e
    have : (i : Int) = (j : Int) := (Prod.mk.inj e).2
    omega
  · obtain ⟨_, _, _, rfl⟩ := mem_rf.mp hx
    obtain ⟨_, _, _, rfl⟩ := mem_rf.mp hy
    exact hab (Prod.mk.inj e).1
theorem mem_sheet {T' : Things} {n : Str} {q : Int × Int} {v : Row} : (q, v) ∈ sheetOf T' n ↔ ∃ y ∈ T', ∃ i : Nat, (y.2 n)[i]? = some v ∧ q = (y.1, (i : Int)) := by
  unfold sheetOf
  rw [List.mem_flatMap]
  constructor
  · rintro ⟨y, hy, h⟩
    obtain ⟨i, r, h1, h2⟩ := mem_rf.mp h
    obtain ⟨h3, h4⟩ := Prod.mk.inj h2
    subst h4
    exact ⟨y, hy, i, h1, h3⟩
  · rintro ⟨y, hy, i, h1, rfl⟩
    exact ⟨y, hy, mem_rf.mpr ⟨i, v, h1, rfl⟩⟩
theorem made_holds {n0 n1 : Str} {cs : List Str} {T : LT} (h01 : n0 ≠ n1) (nd : (T.map (·.1)).Nodup) : Holds n0 n1 cs (sheetOf (thOf cs n0 T)) T := by
  have nd' : ((thOf cs n0 T).map (·.1)).Nodup := by rw [thOf_keys]; exact nd
  have v0 : ∀ x ∈ T, (fun n => if n = n0 then [[]] else x.2.map fun lr => mkRow cs (lrV lr)) n0 = [[]] := fun x _ => if_pos rfl
  refine ⟨sheet_nd nd' n1, fun q => ?_, sheet_nd nd' n0, fun q => ?_⟩
  · refine Option.ext fun v => ?_
    rw [lookB_iff (sheet_nd nd' n1), mem_sheet]
    obtain ⟨k, p⟩ := q
    constructor
    · rintro ⟨y, hy, i, h1, e⟩
      obtain ⟨x, hx, rfl⟩ := List.mem_map.mp hy
      cases e
      have h1 : (if n1 = n0 then [[]] else x.2.map fun lr => mkRow cs (lrV lr))[i]? = some v := h1
      rw [if_neg (Ne.symm h01), List.getElem?_map] at h1
      have hr : rowsAt T x.1 = x.2 := by unfold rowsAt; rw [lookB_self nd hx]; rfl
      show cellOf cs T (x.1, (i : Int)) = some v
      rw [cell_nat, hr]
      exact h1
    · intro h
      unfold cellOf at h
      by_cases h0 : 0 ≤ p
      · rw [if_pos h0] at h
        obtain ⟨i, rfl⟩ := Int.eq_ofNat_of_zero_le h0
        obtain ⟨lr, h1, h2⟩ := Option.map_eq_some_iff.mp h
        have h1 : (rowsAt T k)[i]? = some lr := h1
        obtain ⟨x, hx, rfl, _, _⟩ := rows_mem h1
        have hr : rowsAt T x.1 = x.2 := by unfold rowsAt; rw [lookB_self nd hx]; rfl
        rw [hr] at h1
        refine ⟨_, List.mem_map.mpr ⟨x, hx, rfl⟩, i, ?_, rfl⟩
        show (if n1 = n0 then [[]] else x.2.map fun lr => mkRow cs (lrV lr))[i]? = some v
        rw [if_neg (Ne.symm h01), List.getElem?_map, h1, ← h2]
        rfl
      · rw [if_neg h0] at h; cases h
  · refine Option.ext fun v => ?_
    rw [lookB_iff (sheet_nd nd' n0), mem_sheet]
    obtain ⟨k, p⟩ := q
    unfold headOf
    constructor
    · rintro ⟨y, hy, i, h1, e⟩
      obtain ⟨x, hx, rfl⟩ := List.mem_map.mp hy
      cases e
      have h1 : (if n0 = n0 then [[]] else x.2.map fun lr => mkRow cs (lrV lr))[i]? = some v := h1
      rw [if_pos rfl] at h1
      cases i with
      | zero =>
        cases h1
        show (if (0 : Int) = 0 then (lookB T x.1).map _ else none) = some []
        rw [if_pos rfl, lookB_self nd hx]
        rfl
      | succ i => simp at h1
    · intro h
      by_cases h0 : p = 0
      · rw [if_pos h0] at h
        obtain ⟨r, h1, h2⟩ := Option.map_eq_some_iff.mp h
        refine ⟨_, List.mem_map.mpr ⟨(k, r), lookB_mem h1, rfl⟩, 0, ?_, by rw [h0]; rfl⟩
        show (if n0 = n0 then [[]] else r.map fun lr => mkRow cs (lrV lr))[0]? = some v
        rw [if_pos rfl, ← h2]
        rfl
      · rw [if_neg h0] at h; cases h
/-- the keys that a deed names -/
theorem dd_same {k : Int} : ∀ {l : List Int}, (∀ x ∈ l, x = k) → dd l = if l = [] then [] else [k]
  | [], _ => rfl
  | a :: l, h => by
    have ha := h a List.mem_cons_self
    subst ha
    have : ∀ (l : List Int), (∀ x ∈ l, x = a) → l.foldl ddStep [a] = [a] := by
      intro l
      induction l with
      | nil => exact fun _ => rfl
      | cons b l ih =>
        intro h
        have hb := h b List.mem_cons_self
        subst hb
        rw [List.foldl_cons]
        have : ddStep [b] b = [b] := by unfold ddStep; rw [if_pos List.mem_cons_self]
        rw [this]
        exact ih fun x hx => h x (List.mem_cons_of_mem _ hx)
    rw [if_neg (fun z => by cases z)]
    exact this l fun x hx => h x (List.mem_cons_of_mem _ hx)
theorem deed_keys {n0 n1 : Str} {cs : List Str} {sort : Str} {keys : List Int} {T T2 : LT} {key : Int} {ss : List Stp} (D : Deed n0 n1 cs sort keys T key ss T2) : ∀ s ∈ ss, s.k = key := by
  obtain ⟨new, l1, l3, pl, _, _, _, _, _, hd⟩ := D.ex
  have hins : ∀ (x : Stp), x.k = key → ∀ s ∈ (stepsOf cs n1 key new l1 l3).take pl ++ [x] ++ (stepsOf cs n1 key new l1 l3).drop pl, s.k = key := by
    intro x hx s hs
    rcases List.mem_append.mp hs with hs | hs
    · rcases List.mem_append.mp hs with hs | hs
      · exact (steps_n s (List.mem_of_mem_take hs)).2
      · rw [List.mem_singleton.mp hs]; exact hx
    · exact (steps_n s (List.mem_of_mem_drop hs)).2
  rcases hd with ⟨_, _, _, e⟩ | ⟨_, _, _, e⟩ | ⟨_, _, _, e⟩
  · rw [e]; exact hins _ rfl
  · rw [e]; exact hins _ rfl
  · rw [e]; exact fun s hs => (steps_n s hs).2
theorem deed_keysOf {n0 n1 : Str} {cs : List Str} {sort : Str} {keys : List Int} {T T2 : LT} {key : Int} {ss : List Stp} (D : Deed n0 n1 cs sort keys T key ss T2) : keysOf ss = if ss = [] then [] else [key] := by
  unfold keysOf
  rw [dd_same (k := key) fun x hx => by
    obtain ⟨s, hs, rfl⟩ := List.mem_map.mp hx
    exact deed_keys D s hs]
  cases ss with
  | nil => rfl
  | cons a l => rfl
theorem deed_len {n0 n1 : Str} {cs : List Str} {sort : Str} {keys : List Int} {T T2 : LT} {key : Int} {ss : List Stp} (hT : ∀ x ∈ T, x.2.length ≤ 5) (D : Deed n0 n1 cs sort keys T key ss T2) : ss.length ≤ 16 := by
  obtain ⟨new, l1, l3, pl, h1, h3, hl, _, _, hd⟩ := D.ex
  have := steps_len cs n1 key new l1 l3
  have e1 := h1.length_eq
  have e3 := h3.length_eq
  rw [List.length_range] at e1 e3
  rw [List.length_map] at e3
  have := rows_len hT key
  have hins : ∀ (x : Stp), ((stepsOf cs n1 key new l1 l3).take pl ++ [x] ++ (stepsOf cs n1 key new l1 l3).drop pl).length ≤ (stepsOf cs n1 key new l1 l3).length + 1 := by
    intro x
    rw [List.length_append, List.length_append, List.length_take, List.length_drop]
    show min pl _ + 1 + _ ≤ _
    omega
  rcases hd with ⟨_, _, _, e⟩ | ⟨_, _, _, e⟩ | ⟨_, _, _, e⟩
  · rw [e]; have := hins ⟨"cut", n0, key, 0, []⟩; omega
  · rw [e]; have := hins ⟨"add", n0, key, 0, []⟩; omega
  · rw [e]; omega
/-- what each step of a deed is -/
theorem deed_pre (K : PySem.W.Frag) (H : Hp) {n0 n1 sort c0 c1 c2 c3 : Str} {C : Str → Sheet} {T T2 : LT} {F : Fm} {keys : List Int} {key : Int} {ss : List Stp} (hF : FormK F n0 n1 sort c0 c1 c2 c3) (hC : Holds n0 n1 [c0, c1, c2, c3] C T) (hT : TOk keys sort T) (hk : KOk keys F.size)
    (D : Deed n0 n1 [c0, c1, c2, c3] sort keys T key ss T2) : ∀ (i : Nat) (st : Stp), ss[i]? = some st → PreSt K H F (runC C (ss.take i)) st ∧ freshAt (runC C (ss.take i)) st := by
  obtain ⟨hl, _⟩ := deed_run hF.ne hC D
  intro i st hi
  obtain ⟨o1, o2⟩ := legal_at ss C hl i st hi
  have hm := List.mem_of_getElem? hi
  have hkk := deed_keys D st hm
  obtain ⟨k1, k2⟩ := hk.rng key D.km
  obtain ⟨cols, hp, ht⟩ := hF.tabs
  have t1 : tabAt F n1 = some ⟨n1, sort, cols⟩ := by
    unfold tabAt
    rw [ht, List.find?_cons_of_neg (by simp [hF.ne]), List.find?_cons_of_pos (by simp)]
  have t0 : tabAt F n0 = some ⟨n0, "head", []⟩ := by
    unfold tabAt
    rw [ht, List.find?_cons_of_pos (by simp)]
  obtain ⟨new, l1, l3, pl, h1, h3, hlen, hptr, _, hd⟩ := D.ex
  have hg : ∀ lr ∈ new, ∀ g, lr.c = some g → 0 ≤ g ∧ g < F.size := fun lr hlr g e => hk.rng g ((hptr lr hlr g e).elim (hT.km g) id)
  have hside : st ∈ stepsOf [c0, c1, c2, c3] n1 key new l1 l3 → PreSt K H F (runC C (ss.take i)) st := by
    intro hs
    have hn := (steps_n st hs).1
    refine ⟨⟨n1, sort, cols⟩, by rw [hn]; exact t1, by omega, by omega, ?_⟩
    have hrest : 0 ≤ st.p ∧ (st.op ≠ "cut" → RowOk K H F.size st.row cols) ∧ (st.op = "cut" ∨ st.op = "add" ∨ st.op = "set") := by
      rcases List.mem_append.mp hs with hs | hs
      · obtain ⟨p, _, rfl⟩ := List.mem_map.mp hs
        exact ⟨Int.natCast_nonneg p, fun z => absurd rfl z, .inl rfl⟩
      · obtain ⟨x, hx, hs⟩ := List.mem_flatMap.mp hs
        have hxl : x.1 < new.length := List.mem_range.mp (h3.mem_iff.mp (List.mem_map.mpr ⟨x, hx, rfl⟩))
        have hlr : lrAt new x.1 ∈ new := by unfold lrAt; rw [List.getElem?_eq_getElem hxl]; exact List.getElem_mem _
        have r1 := row_fits K H hF.nd hp (size := F.size) (lr := lrAt new x.1) (hg _ hlr)
        have r2 := row_fits K H hF.nd hp (size := F.size) (lr := oth (lrAt new x.1)) (fun g z => by cases z)
        unfold put1 at hs
        split at hs
        · rcases List.mem_cons.mp hs with rfl | hs
          · exact ⟨Int.natCast_nonneg _, fun _ => r2, .inr (.inl rfl)⟩
          · cases List.mem_singleton.mp hs; exact ⟨Int.natCast_nonneg _, fun _ => r1, .inr (.inr rfl)⟩
        · cases List.mem_singleton.mp hs; exact ⟨Int.natCast_nonneg _, fun _ => r1, .inr (.inl rfl)⟩
    exact ⟨hrest.1, .inr hF.srt, hrest.2.1, hrest.2.2, o2⟩
  have hhead : ∀ op : Str, (op = "cut" ∨ op = "add") → st = ⟨op, n0, key, 0, []⟩ → PreSt K H F (runC C (ss.take i)) st := by
    intro op hop e
    subst e
    exact ⟨⟨n0, "head", []⟩, t0, k1, k2, Int.le_refl _, .inl rfl, fun _ => head_fits K H, hop.imp id .inl, o2⟩
  refine ⟨?_, o1⟩
  have hins : ∀ (x : Stp), ss = (stepsOf [c0, c1, c2, c3] n1 key new l1 l3).take pl ++ [x] ++ (stepsOf [c0, c1, c2, c3] n1 key new l1 l3).drop pl → st ∈ stepsOf [c0, c1, c2, c3] n1 key new l1 l3 ∨ st = x := by
    intro x e
    rw [e] at hm
    rcases List.mem_append.mp hm with hs | hs
    · rcases List.mem_append.mp hs with hs | hs
      · exact .inl (List.mem_of_mem_take hs)
      · exact .inr (List.mem_singleton.mp hs)
    · exact .inl (List.mem_of_mem_drop hs)
  rcases hd with ⟨_, _, _, e⟩ | ⟨_, _, _, e⟩ | ⟨_, _, _, e⟩
  · exact (hins _ e).elim hside (hhead _ (.inl rfl))
  · exact (hins _ e).elim hside (hhead _ (.inr rfl))
  · exact hside (e ▸ hm)


theorem neErr {H : Hp} {t t' : Addr} {op n : Str} {p : Int × Int} {Q : VK} (h : ErrAt H t op n p) (h' : ErrAt H t' op n p) (q : Q (.bl false) H) : rNeU K (.ref t) (.ref t') H Q :=
  ⟨t, t', _, rfl, rfl, SqT.of h, SqT.of h', rfl, q⟩
/-- the law's things in the heap -/
structure LawAt (K : PySem.W.Frag) (H : Hp) (na c ks x a : Addr) (f : V) (n0 n1 : Str) (cs : List Str) (keys : List Int) (F : Fm) (T : LT) : Prop where
  hna : H na = some (.lst [.str n0, .str n1])
  hc : H c = some (.lst (cs.map V.str))
  hks : H ks = some (.lst (keys.map V.int))
  hf : FmAt K H f F
  hx : ∃ dx q L C, H x = some (.ins (He.ga K "Plain") dx (plF f q)) ∧ ShsAt H q L C ∧ L.map (·.1) = F.tabs.map (·.name) ∧ Holds n0 n1 cs C T
  hT : LTAt H a T
theorem LTAt.keepB {b : Addr} {H H' : Hp} (hb : BoxAt H b) (e : ∀ c o, H c = some o → c ≠ b → H' c = some o) {a : Addr} {T : LT} (h : LTAt H a T) : LTAt H' a T := by
  obtain ⟨k, h1, h2⟩ := h
  refine ⟨k, e _ _ h1 (fun z => ?_), L2.Paired.mapP h2 fun _ _ z => z.sbx hb e⟩
  obtain ⟨o, g1, i, j, l, rfl, _⟩ := hb
  rw [z, g1] at h1
  cases h1
section
variable {na c ks x a : Addr} {f : V} {n0 n1 : Str} {cs : List Str} {keys : List Int} {F : Fm} {T : LT} {H H' : Hp}
theorem LawAt.same (h : LawAt K H na c ks x a f n0 n1 cs keys F T) (e : Same H H') : LawAt K H' na c ks x a f n0 n1 cs keys F T := by
  obtain ⟨dx, q, L, C, h1, h2, h3, h4⟩ := h.hx
  exact ⟨e _ _ h.hna, e _ _ h.hc, e _ _ h.hks, h.hf.mono e, ⟨dx, q, L, C, e _ _ h1, h2.mono e, h3, h4⟩, h.hT.mono e⟩
theorem BoxAt.nl {H : Hp} {b c : Addr} {o : HO} (hb : BoxAt H b) (h : H c = some o) (ho : ∀ xs, o ≠ .lst xs) : c ≠ b := fun z => by
  obtain ⟨o', h1, i, j, k, rfl, _⟩ := hb
  rw [z, h1] at h
  cases h
  exact ho _ rfl
theorem LawAt.sb (h : LawAt K H na c ks x a f n0 n1 cs keys F T) (hcs : cs.length = 4) (hk : keys.length = 5) {b : Addr} (hb : BoxAt H b) (e : SameB b H H') : LawAt K H' na c ks x a f n0 n1 cs keys F T := by
  obtain ⟨dx, q, L, C, h1, h2, h3, h4⟩ := h.hx
  have nl := KeepNL.box hb e
  have eF : SameF H H' := fun b o hb ho => nl b o hb fun xs z => by rcases ho with ⟨_, rfl⟩ | ⟨_, _, rfl⟩ <;> cases z
  have eD : KeepD H H' := fun b o hb ho => nl b o hb fun xs z => by rcases ho with ⟨_, rfl⟩ | ⟨_, rfl⟩ <;> cases z
  exact ⟨e.1 _ _ h.hna (hb.lst h.hna (by show 2 ≠ 3; omega)), e.1 _ _ h.hc (hb.lst h.hc (by rw [List.length_map]; omega)), e.1 _ _ h.hks (hb.lst h.hks (by rw [List.length_map]; omega)), h.hf.monoF eF, ⟨dx, q, L, C, nl _ _ h1 (fun _ z => by cases z), h2.keep eD, h3, h4⟩, h.hT.keepB hb e.1⟩
/-- only the plain table is changed -/
theorem LawAt.plain (h : LawAt K H na c ks x a f n0 n1 cs keys F T) {T2 : LT} {a2 dx q' : Addr} {L' : List (Str × Addr)} {C' : Str → Sheet} (e : ∀ b o, H b = some o → b ≠ x → H' b = some o) (hx : H' x = some (.ins (He.ga K "Plain") dx (plF f q'))) (hs : ShsAt H' q' L' C') (hL : L'.map (·.1) = F.tabs.map (·.name)) (hC : Holds n0 n1 cs C' T2) (hT : LTAt H a2 T2) :
    LawAt K H' na c ks x a2 f n0 n1 cs keys F T2 := by
  obtain ⟨dx0, q, L, C, h1, h2, h3, h4⟩ := h.hx
  have ni : ∀ b o, H b = some o → (∀ C d fs, o ≠ .ins C d fs) → H' b = some o := fun b o hb ho => e b o hb fun z => by
    rw [z, h1] at hb
    cases hb
    exact ho _ _ _ rfl
  have eF : SameF H H' := fun b o hb ho => ni b o hb fun C d fs z => by rcases ho with ⟨_, rfl⟩ | ⟨_, _, rfl⟩ <;> cases z
  refine ⟨ni _ _ h.hna (fun _ _ _ z => by cases z), ni _ _ h.hc (fun _ _ _ z => by cases z), ni _ _ h.hks (fun _ _ _ z => by cases z), h.hf.monoF eF, ⟨dx, q', L', C', hx, hs, hL, hC⟩, ?_⟩
  obtain ⟨k, g1, g2⟩ := hT
  refine ⟨k, ni _ _ g1 (fun _ _ _ z => by cases z), L2.Paired.mapP g2 fun kv y z => ?_⟩
  obtain ⟨z1, l, rs, z2, z3, z4⟩ := z
  exact ⟨z1, l, rs, z2, ni _ _ z3 (fun _ _ _ z => by cases z), L2.Paired.mapP z4 fun r lr z => ni _ _ z (fun _ _ _ z => by cases z)⟩
end
theorem due_nil (c0 c1 : Str) : dueOf [] c0 c1 = none := by
  have e : ∀ l : List Str, (l.findSome? fun c => dueTw [] (atOf c0 c)) = none := by
    intro l
    induction l with
    | nil => rfl
    | cons a l ih => rw [List.findSome?_cons, ih]; rfl
  unfold dueOf
  rw [e]
  rfl


theorem paired_perm {α β : Type} {F : α → β → Prop} {l l' : List α} (h : l'.Perm l) : ∀ {m : List β}, Paired F l m → ∃ m', m'.Perm m ∧ Paired F l' m' := by
  induction h with
  | nil => intro m h; exact ⟨m, .refl _, h⟩
  | cons x _ ih =>
    intro m h
    cases h with
    | cons r h =>
      obtain ⟨m', h1, h2⟩ := ih h
      exact ⟨_, h1.cons _, .cons r h2⟩
  | swap x y l =>
    intro m h
    cases h with
    | cons r h =>
      cases h with
      | cons r2 h => exact ⟨_, .swap _ _ _, .cons r2 (.cons r h)⟩
  | trans _ _ ih1 ih2 =>
    intro m h
    obtain ⟨m1, a1, a2⟩ := ih2 h
    obtain ⟨m2, b1, b2⟩ := ih1 a2
    exact ⟨m2, b1.trans a1, b2⟩
theorem form_at {G : Hp} {x0 w0 u0 t0 w1 u1 t1 w2 t2 w3 t3 e0 h0 lf q1 q2 ff : Addr} {eo fo : Obj} {ts : List Addr} {n0 n1 sort c0 c1 c2 c3 : Str} {size : Int} (_ : G x0 = none) (g1 : G w0 = some (.tup [.str "whole"])) (g2 : G u0 = some (.tup [.str "once", .ref w0])) (g3 : G t0 = some (.tup [.str c0, .ref u0]))
    (g4 : G w1 = some (.tup [.str "whole"])) (g5 : G u1 = some (.tup [.str "once", .ref w1])) (g6 : G t1 = some (.tup [.str c1, .ref u1])) (g7 : G w2 = some (.tup [.str "key"])) (g8 : G t2 = some (.tup [.str c2, .ref w2])) (g9 : G w3 = some (.tup [.str "whole"])) (g10 : G t3 = some (.tup [.str c3, .ref w3]))
    (g11 : G e0 = some (.frz eo (.tup []))) (g12 : eo.dict = none) (g13 : G h0 = some (.tup [.str n0, .str "head", .ref e0])) (g14 : G lf = some (.frz fo (.tup (ts.map V.ref)))) (g15 : fo.dict = none) (g16 : G q1 = some (.tup [.str n1, .str sort, .ref lf])) (g17 : G q2 = some (.tup [.ref h0, .ref q1])) (g18 : G ff = some (.tup [.int size, .ref q2]))
    (hp : ts.Perm [t0, t1, t2, t3]) (nd : [c0, c1, c2, c3].Nodup) (h01 : n0 ≠ n1) (hs : sort = "many" ∨ sort = "some") : ∃ F, FmAt K G (.ref ff) F ∧ FormK F n0 n1 sort c0 c1 c2 c3 ∧ F.size = size := by
  have hw : ∀ {w}, G w = some (.tup [.str "whole"]) → PKAt K G (.ref w) .whole := fun h => ⟨_, rfl, SqT.of h⟩
  have base : Paired (ColAt K G) [t0, t1, t2, t3] (colsL c0 c1 c2 c3) :=
    .cons ⟨_, SqT.of g3, _, _, rfl, SqT.of g2, hw g1⟩ (.cons ⟨_, SqT.of g6, _, _, rfl, SqT.of g5, hw g4⟩ (.cons ⟨_, SqT.of g8, _, rfl, SqT.of g7⟩ (.cons ⟨_, SqT.of g10, hw g9⟩ .nil)))
  obtain ⟨cols, hc1, hc2⟩ := paired_perm hp base
  refine ⟨⟨size, [⟨n0, "head", []⟩, ⟨n1, sort, cols⟩]⟩, ⟨ff, q2, [.ref h0, .ref q1], rfl, SqT.of g18, SqT.of g17, .cons ⟨h0, e0, [], rfl, SqT.of g13, ⟨_, g11, g12⟩, .nil⟩ (.cons ⟨q1, lf, ts, rfl, SqT.of g16, ⟨_, g14, g15⟩, hc2⟩ .nil), by show 2 ≤ 8; omega, ?_, fun t ht => ?_⟩, ⟨h01, hs, nd, cols, hc1, rfl⟩, rfl⟩
  · exact List.nodup_cons.mpr ⟨fun z => h01 (List.mem_singleton.mp z), List.nodup_cons.mpr ⟨fun z => (by cases z), .nil⟩⟩
  · rcases List.mem_cons.mp ht with rfl | ht
    · exact ⟨by show 0 ≤ 12; omega, .nil, fun c h => by cases h⟩
    · cases List.mem_singleton.mp ht
      refine ⟨?_, cols_nd nd hc1, fun c h => ?_⟩
      · show cols.length ≤ 12
        rw [hc1.length_eq]
        show 4 ≤ 12
        omega
      · have h := hc1.mem_iff.mp h
        unfold colsL at h
        rcases List.mem_cons.mp h with rfl | h
        · rfl
        rcases List.mem_cons.mp h with rfl | h
        · rfl
        rcases List.mem_cons.mp h with rfl | h
        · rfl
        · cases List.mem_singleton.mp h; rfl


def forBody (s : Stmt) : List Stmt := match s with
  | .For _ _ b _ _ => b
  | _ => []
theorem SqL.but {H H' : Hp} {x s : Addr} {C d : Addr} {fs : List (Str × V)} {xs : List V} (e : ∀ b o, H b = some o → b ≠ x → H' b = some o) (hx : H x = some (.ins C d fs)) (h : SqL K H s xs) : SqL K H' s xs := by
  rcases h with (h | ⟨f, h⟩) | h
  · exact .inl (.inl (e _ _ h (fun z => by rw [z, hx] at h; cases h)))
  · exact .inl (.inr ⟨f, e _ _ h (fun z => by rw [z, hx] at h; cases h)⟩)
  · exact .inr h
/-- what stands ahead of each turn of the law's loop -/
def LawInv (K : PySem.W.Frag) (s0 na c ks x : Addr) (f : V) (ns : List Int) (n0 n1 sort c0 c1 c2 c3 : Str) (size fst base0 : Int) (keys : List Int) (F : Fm) (v13 : Option V → Prop) (σ : L2.St) (H : Hp) : Prop :=
  ∃ (b v9 v v14 v15 v16 v17 v18 : Option V) (a : Addr) (T : LT), v13 v ∧ σ = [some (.ref s0), b, some (.ref na), some (.ref c), some (.str sort), some (.int size), some (.int fst), some (.ref ks), some (.int base0), v9, some f, some (.ref x), some (.ref a), v, v14, v15, v16, v17, v18] ∧
    SqL K H s0 (ns.map V.int) ∧ LawAt K H na c ks x a f n0 n1 [c0, c1, c2, c3] keys F T ∧ TOk keys sort T
theorem law_turn (T : Tx K mg) {cdv : Value} {A : Around} {outer : List Env} {s : Shared} {Hz : Hp} {E : XK} (hr : Room 10 (A.deeper (envOfC "law" (defScope s_law) s.heap.objs.size (He.fAd K ("law", none)) cdv))) :
    ∃ t, PSs (cxOf (L2.CX P w) P w K mg base N_law "law" (defScope s_law) (He.fAd K ("law", none)) cdv A outer s Hz E) (forBody ((defBody s_law).getD 13 (.Pass ⟨0, 0, 0, 0⟩))) t ∧
      ∀ (s0 na c ks x : Addr) (f : V) (ns : List Int) (n0 n1 sort c0 c1 c2 c3 : Str) (size fst base0 : Int) (keys : List Int) (F : Fm), FormK F n0 n1 sort c0 c1 c2 c3 → KOk keys F.size → ∀ (k : Int) (D : Ends) (σ : L2.St) (H : Hp), 0 ≤ k → LawInv K s0 na c ks x f ns n0 n1 sort c0 c1 c2 c3 size fst base0 keys F (fun v => v = some (.int k)) σ H → (∀ σ' H', LawInv K s0 na c ks x f ns n0 n1 sort c0 c1 c2 c3 size fst base0 keys F (fun _ => True) σ' H' → D.nx σ' H') → t D σ H := by
  have hu := hu_of hr
  refine ⟨_, (pss_cons (ps_set (i := 1) sc_law.nd rfl (Or.inl rfl) (callK (ok_law_box T) hr (by decide) (takes_of rfl rfl rfl rfl) T.g_law_box (pa_cons (callK (ok_law_cell_at T) hr (by decide) (takes_of rfl rfl rfl rfl) T.g_law_cell_at (pa_cons (pv 0) (pa_cons (pv 13) pa_nil))) pa_nil)))
      (pss_cons (ps_asg (callK (ok_law_deed T) hr (by decide) (takes_of rfl rfl rfl rfl) T.g_law_deed (pa_cons (pv 1) (pa_cons (pv 2) (pa_cons (pv 3) (pa_cons (pv 4) (pa_cons (pv 8) (pa_cons (pv 7) (pa_cons (pv 12) pa_nil)))))))) (pg_tup rfl (pgs_cons (pg_name (i := 14) sc_law.nd rfl (Or.inl rfl)) (pgs_cons (pg_name (i := 15) sc_law.nd rfl (Or.inl rfl)) (pgs_cons (pg_name (i := 16) sc_law.nd rfl (Or.inl rfl)) pgs_nil)))))
      (pss_cons (ps_set (i := 17) sc_law.nd rfl (Or.inl rfl) (callK (ok_law_due T) hr (by decide) (takes_of rfl rfl rfl rfl) T.g_law_due (pa_cons (pe_ix (ixL (K := K)) (pv 2) pe_int (fun _ _ => rfl)) (pa_cons (pv 3) (pa_cons (pv 16) pa_nil)))))
      (pss_cons (ps_set (i := 18) sc_law.nd rfl (Or.inl rfl) (callK (ok_law_made T) hr (by decide) (takes_of rfl rfl rfl rfl) T.g_law_made (pa_cons (pv 10) (pa_cons (pv 2) (pa_cons (pv 3) (pa_cons (pv 16) pa_nil))))))
      (pss_cons (ps_if (pt_cmpR op_isN (pv 17) pe_non (nomark _))
      (pss_cons (ps_set (i := 12) sc_law.nd rfl (Or.inl rfl) (pv 16))
      (pss_one (ps_if (PW.pt (pw_or (pt_cmpR (neDD (K := K) (Room.units hr)) (callK (ok_law_written T) hr (by decide) (takes_of rfl rfl rfl rfl) T.g_law_written (pa_cons (pv 11) (pa_cons (pv 15) pa_nil))) (pe_op op_rep (pe_lst (pa_cons (pv 14) pa_nil)) (pe_callTy call_int1 rfl T.b_int (by decide +kernel) (pa_cons (pe_cmpR (neEK (K := K) (Room.units hr)) (pv 15) (pe_lst pa_nil) (nomark _)) pa_nil))) (nomark _)) (pw_or1 (pt_cmpR (neDD (K := K) (Room.units hr)) (pv 18) (pe_callB (call_sortedDI rfl) rfl T.b_sorted (by decide +kernel) (pa_cons (pv 16) pa_nil)) (nomark _)))))
      (pss_one (ps_ret pe_bl))
      pss_nil)))
      (pss_one (ps_if (PW.pt (pw_or (pt_cmpR (neUK (K := K) (Room.units hr)) (callK (ok_law_written T) hr (by decide) (takes_of rfl rfl rfl rfl) T.g_law_written (pa_cons (pv 11) (pa_cons (pv 15) pa_nil))) (pv 17) (nomark _)) (pw_or1 (pt_cmpR (neUK (K := K) (Room.units hr)) (pv 18) (pv 17) (nomark _)))))
      (pss_one (ps_ret pe_bl))
      pss_nil)))
      (pss_one (ps_if (pt_not (pt_val (callK (ok_law_tells T) hr (by decide) (takes_of rfl rfl rfl rfl) T.g_law_tells (pa_cons (pv 11) (pa_cons (pv 2) (pa_cons (pv 3) (pa_cons (pv 12) pa_nil)))))))
      (pss_one (ps_ret pe_bl))
      pss_nil))))))), ?_⟩
  rintro s0 na c ks x f ns n0 n1 sort c0 c1 c2 c3 size fst base0 keys F hF hKo k D σ H hk ⟨b0, v9, v13, v14, v15, v16, v17, v18, a, T', rfl, rfl, hs, LA, hTO⟩ hQ
  have hcn := hF.nd
  have hcne : c0 ≠ c1 := fun z => (List.nodup_cons.mp hcn).1 (by rw [z]; exact List.mem_cons_self)
  walk_at "go"
  refine ⟨s0, ns, k, rfl, hs, hk, fun cv => ?_⟩
  walk_at "go"
  refine fun b o hbn ho => ?_
  have sm1 : Same H (upd H b o) := Same.new hbn
  have hb1 : BoxAt (upd H b o) b := ⟨o, upd_same, ho⟩
  generalize upd H b o = H1 at sm1 hb1
  have LA1 := LA.same sm1
  walk_at "go"
  refine ⟨b, na, c, ks, a, sort, base0, n0, n1, [c0, c1, c2, c3], keys, T', rfl, hb1, LA1.hna, LA1.hc, rfl, hcn, LA1.hks, hKo.len, LA1.hT, Nat.le_trans (hTO.tlen hKo) (by omega), hTO.nd, hTO.len, fun t H2 key ss T2 sb2 hDA hD => ?_⟩
  obtain ⟨p, a2, us, hDt, hp, hsts, hT2⟩ := hDA
  have sm2 : Same H H2 := fun c o h => sb2.1 c o (sm1 c o h) (ne_of_none h hbn)
  have hTO2 := hTO.deed hD
  clear sb2 LA1 hb1 sm1 H1
  refine ⟨t, _, rfl, SqT.of hDt, rfl, ?_⟩
  have LA2 := LA.same sm2
  walk_at "go"
  have hlp : ([.str n0, .str n1] : List V)[1]? = some (.str n1) := rfl
  refine ⟨na, _, 1, .str n1, rfl, rfl, SqL.of LA2.hna, atI_1, ?_⟩
  walk_at "go"
  refine ⟨n1, c0, c1, c, a2, [c2, c3], T2, rfl, LA2.hc, hcne, hT2, by have := hTO2.tlen hKo; omega, by have := hTO2.llen hKo; omega, fun v H3 sm3 hv => ?_⟩
  have LA3 := LA2.same sm3
  have hT3 := hT2.mono sm3
  have hsts3 : StsAt K H3 us ss := StsAt.keep (KeepNL.of sm3) hsts
  have hp3 := sm3 _ _ hp
  walk_at "go"
  have hHm : Holds n0 n1 [c0, c1, c2, c3] (sheetOf (thOf [c0, c1, c2, c3] n0 T2)) T2 := made_holds hF.ne hTO2.nd
  have hml := holds_len hF hHm hTO2 hKo
  have tail : ∀ (b' v9' v13' v14' v15' v16' v17' v18' : Option V) (aX : Addr) (TX : LT) (H5 : Hp), SqL K H5 s0 (ns.map V.int) → LawAt K H5 na c ks x aX f n0 n1 [c0, c1, c2, c3] keys F TX → TOk keys sort TX →
      tIfS (tNot (tB (tCallSD (spTells K) [] (WE fun cls d x H => E cls d H) (tCons (tVar 11) (tCons (tVar 2) (tCons (tVar 3) (tCons (tVar 12) tNil))))))) (tRet (tC (V.bl false))) tNext D [some (.ref s0), b', some (.ref na), some (.ref c), some (.str sort), some (.int size), some (.int fst), some (.ref ks), some (.int base0), v9', some f, some (.ref x), some (.ref aX), v13', v14', v15', v16', v17', v18'] H5 := by
    intro b' v9' v13' v14' v15' v16' v17' v18' aX TX H5 hs5 LA5 hTX
    obtain ⟨dx, q, L, C, hx, hC, hL, hHo⟩ := LA5.hx
    have hl := holds_len hF hHo hTX hKo
    walk_at "go"
    refine ⟨x, dx, q, na, c, aX, f, n0, n1, [c0, c1, c2, c3], F, L, C, TX, rfl, hx, LA5.hf, hC, hL, form_names hF, LA5.hna, LA5.hc, rfl, hcn, LA5.hT, by have := hTX.tlen hKo; omega, by have := hTX.llen hKo; omega, fun t ht => by have := hl t ht; omega, hHo.rows1 hTX.nd, hHo.rows0 hTX.nd, hHo.held hTX.nd, fun H6 sm6 => ?_⟩
    walk_at "go"
    exact hQ _ _ ⟨_, _, _, _, _, _, _, _, _, _, trivial, rfl, Same.seq sm6 hs5, LA5.same sm6, hTX⟩
  have hs3 : SqL K H3 s0 (ns.map V.int) := Same.seq (sm2.trans sm3) hs
  refine ⟨f, na, c, a2, n0, n1, [c0, c1, c2, c3], F, T2, rfl, LA3.hf, form_names hF, hF.ne, LA3.hna, LA3.hc, rfl, hcn, hT3, hTO2.nd, by have := hTO2.tlen hKo; omega, fun y hy => by have := hTO2.len y hy; omega, fun t ht => by have := hml t ht; omega, holds_shs K _ hF hHm hTO2 hKo, form_once hF, fun e1 e2 m H4 sm4 hm => ?_, fun n pp e1 m H4 sm4 hm => ?_, fun e0 n pp e1 m H4 sm4 hm => ?_⟩
  · have hdue : dueOf T2 c0 c1 = none := by
      cases e : dueOf T2 c0 c1 with
      | none => rfl
      | some d =>
        rcases due_some hF hHm hTO2.nd e with ⟨_, h⟩ | ⟨_, _, h⟩
        · rw [e1] at h; cases h
        · rw [e2] at h; cases h
    rw [hdue] at hv
    obtain rfl : v = .non := hv
    rw [hd_name hF, hHm.held hTO2.nd] at hm
    have LA4 := LA3.same sm4
    have hs4 := Same.seq sm4 hs3
    have hsts4 : StsAt K H4 us ss := StsAt.keep (KeepNL.of sm4) hsts3
    have hp4 := sm4 _ _ hp3
    have hT4 := hT3.mono sm4
    walk_at "go"
    obtain ⟨dx, q, L, C, hx, hC, hL, hHo⟩ := LA4.hx
    have hH2 : Holds n0 n1 [c0, c1, c2, c3] (runC C ss) T2 := (deed_run hF.ne hHo hD).2
    obtain ⟨f1, f2⟩ := due_none hF hH2 hTO2.nd hdue
    have hcl := holds_len hF hHo hTO hKo
    have hsl := deed_len hTO.len hD
    refine ⟨x, dx, q, p, f, us, F, L, C, ss, rfl, hx, LA4.hf, hC, hL, SqL.of hp4, hsts4, holds_shs K _ hF hHo hTO hKo, form_once hF, form_ne hF, form_sorts hF, holds_apart P w hF hHo hTO hKo, fun t ht => small1000 (by have := hcl t ht; omega), by have := dd_len (ss.map (·.k)); rw [List.length_map] at this; omega, form_8 hF, deed_pre K H4 hF hHo hTO hKo hD, fun k _ => holds_thing hF hH2 hTO2 k, fun _ _ kp q' L' H5 hsm hx' hC' hL' hkp hkl => ?_, fun n pp e tt H' sm he => ?_, fun e0 n pp e tt H' sm he => ?_⟩
    · have LA5 := LA4.plain hsm hx' hC' hL' hH2 hT4
      have hs5 : SqL K H5 s0 (ns.map V.int) := SqL.but hsm hx hs4
      have hm5 : H5 m = _ := hsm _ _ hm (fun z => by rw [z, hx] at hm; cases hm)
      have hp5 : H5 p = _ := hsm _ _ hp4 (fun z => by rw [z, hx] at hp4; cases hp4)
      have hm5 : H5 m = some (.lst ((PySem.W.sortI (T2.map (·.1))).map V.int)) := hm5
      have hp5 : H5 p = some (.lst us) := hp5
      walk_at "go"
      refine ⟨by walk_at "sz", fun l6 hl6 => ?_⟩
      walk_at "go"
      refine ⟨by walk_at "sz", fun l7 hl7 => ?_⟩
      refine ⟨p, l7, us, rfl, rfl, SqL.of (by walk_at "hp"), SqL.of upd_same, ?_⟩
      walk_at "go"
      refine Or.inr ⟨_, rfl, ?_⟩
      have hkey : (List.replicate (if (!us.isEmpty) = true then (1 : Int) else 0).toNat [V.int key]).flatten = (keysOf ss).map V.int := by
        have hul := hsts.length
        rw [deed_keysOf hD]
        cases us with
        | nil =>
          have : ss = [] := List.eq_nil_of_length_eq_zero hul.symm
          rw [if_pos this]; rfl
        | cons u us =>
          have : ss ≠ [] := fun z => by rw [z] at hul; cases hul
          rw [if_neg this]; rfl
      refine ⟨l6, _, _, rfl, rfl, by walk_at "hp", ?_, ?_, ?_, fun l8 hl8 => ?_⟩
      · split <;> omega
      · split <;> omega
      · refine Nat.le_of_lt (small1000 ?_)
        show 1 * _ ≤ 1000
        split <;> decide
      rw [hkey]
      refine neI (ns := keysOf ss) (ms := keysOf ss) (SqL.of (by walk_at "hp")) (SqL.of upd_same) ⟨_, rfl, ?_⟩
      rw [decide_eq_true rfl]
      refine ifF rfl ?_
      obtain ⟨kv2, hk2, hkv2⟩ := LA5.hT
      walk_at "go"
      refine ⟨a2, kv2, T2.map (·.1), rfl, .inl (by walk_at "hp"), by rw [List.map_map]; exact Paired.mapEq hkv2 fun _ _ z => z.1, by rw [List.length_map]; have := hTO2.tlen hKo; omega, fun ys l9 hperm hso hl9 => ?_⟩
      obtain rfl : ys = PySem.W.sortI (T2.map (·.1)) := PySem.W.eq_sortI hperm hso
      refine neI (ns := PySem.W.sortI (T2.map (·.1))) (ms := PySem.W.sortI (T2.map (·.1))) (SqL.of (by walk_at "hp")) (SqL.of upd_same) ⟨_, rfl, ?_⟩
      rw [decide_eq_true rfl]
      refine ifF rfl ?_
      have sm9 := (((Same.new (o := .lst [V.int key]) hl6).trans (Same.new (o := .lst []) hl7)).trans (Same.new (o := .lst ((keysOf ss).map V.int)) hl8)).trans (Same.new (o := .lst ((PySem.W.sortI (T2.map (·.1))).map V.int)) hl9)
      exact tail _ _ _ _ _ _ _ _ a2 T2 _ (Same.seq sm9 hs5) (LA5.same sm9) hTO2
    · rw [f1] at e; cases e
    · rw [f2] at e; cases e
  · obtain ⟨d, hdd, hm2⟩ : ∃ d, dueOf T2 c0 c1 = some d ∧ ErrAt H4 m d.1 n1 d.2 := by
      cases e : dueOf T2 c0 c1 with
      | none => rw [(due_none hF hHm hTO2.nd e).1] at e1; cases e1
      | some d =>
        refine ⟨d, rfl, ?_⟩
        rcases due_some hF hHm hTO2.nd e with ⟨h1, h⟩ | ⟨_, h, _⟩
        · rw [e1] at h; cases h; rw [h1]; exact hm
        · rw [e1] at h; cases h
    rw [hdd] at hv
    obtain ⟨tt, rfl, htt⟩ := hv
    have LA4 := LA3.same sm4
    have hs4 := Same.seq sm4 hs3
    have hsts4 : StsAt K H4 us ss := StsAt.keep (KeepNL.of sm4) hsts3
    have hp4 := sm4 _ _ hp3
    have htt4 : ErrAt H4 tt d.1 n1 d.2 := sm4 _ _ htt
    walk_at "go"
    obtain ⟨dx, q, L, C, hx, hC, hL, hHo⟩ := LA4.hx
    have hH2 : Holds n0 n1 [c0, c1, c2, c3] (runC C ss) T2 := (deed_run hF.ne hHo hD).2
    have hcl := holds_len hF hHo hTO hKo
    have hsl := deed_len hTO.len hD
    have hds := due_some hF hH2 hTO2.nd hdd
    refine ⟨x, dx, q, p, f, us, F, L, C, ss, rfl, hx, LA4.hf, hC, hL, SqL.of hp4, hsts4, holds_shs K _ hF hHo hTO hKo, form_once hF, form_ne hF, form_sorts hF, holds_apart P w hF hHo hTO hKo, fun t ht => small1000 (by have := hcl t ht; omega), by have := dd_len (ss.map (·.k)); rw [List.length_map] at this; omega, form_8 hF, deed_pre K H4 hF hHo hTO hKo hD, fun k _ => holds_thing hF hH2 hTO2 k, fun z1 z2 kp q' L' H5 hsm hx' hC' hL' hkp hkl => ?_, fun n pp e tq H' sm he => ?_, fun e0 n pp e tq H' sm he => ?_⟩
    · rcases hds with ⟨_, h⟩ | ⟨_, _, h⟩
      · rw [z1] at h; cases h
      · rw [z2] at h; cases h
    · have heq : ErrAt H' tq d.1 n1 d.2 := by
        rcases hds with ⟨h1, h⟩ | ⟨_, h, _⟩
        · rw [e] at h; cases h; rw [h1]; exact he
        · rw [e] at h; cases h
      walk_at "go"
      refine neErr heq (sm _ _ htt4) ⟨_, rfl, ?_⟩
      refine ifF rfl ?_
      walk_at "go"
      refine neErr (sm _ _ hm2) (sm _ _ htt4) ⟨_, rfl, ?_⟩
      refine ifF rfl ?_
      exact tail _ _ _ _ _ _ _ _ a T' _ (Same.seq sm hs4) (LA4.same sm) hTO
    · have heq : ErrAt H' tq d.1 n1 d.2 := by
        rcases hds with ⟨_, h⟩ | ⟨h1, _, h⟩
        · rw [e0] at h; cases h
        · rw [e] at h; cases h; rw [h1]; exact he
      walk_at "go"
      refine neErr heq (sm _ _ htt4) ⟨_, rfl, ?_⟩
      refine ifF rfl ?_
      walk_at "go"
      refine neErr (sm _ _ hm2) (sm _ _ htt4) ⟨_, rfl, ?_⟩
      refine ifF rfl ?_
      exact tail _ _ _ _ _ _ _ _ a T' _ (Same.seq sm hs4) (LA4.same sm) hTO
  · obtain ⟨d, hdd, hm2⟩ : ∃ d, dueOf T2 c0 c1 = some d ∧ ErrAt H4 m d.1 n1 d.2 := by
      cases e : dueOf T2 c0 c1 with
      | none => rw [(due_none hF hHm hTO2.nd e).2] at e1; cases e1
      | some d =>
        refine ⟨d, rfl, ?_⟩
        rcases due_some hF hHm hTO2.nd e with ⟨_, h⟩ | ⟨h1, _, h⟩
        · rw [e0] at h; cases h
        · rw [e1] at h; cases h; rw [h1]; exact hm
    rw [hdd] at hv
    obtain ⟨tt, rfl, htt⟩ := hv
    have LA4 := LA3.same sm4
    have hs4 := Same.seq sm4 hs3
    have hsts4 : StsAt K H4 us ss := StsAt.keep (KeepNL.of sm4) hsts3
    have hp4 := sm4 _ _ hp3
    have htt4 : ErrAt H4 tt d.1 n1 d.2 := sm4 _ _ htt
    walk_at "go"
    obtain ⟨dx, q, L, C, hx, hC, hL, hHo⟩ := LA4.hx
    have hH2 : Holds n0 n1 [c0, c1, c2, c3] (runC C ss) T2 := (deed_run hF.ne hHo hD).2
    have hcl := holds_len hF hHo hTO hKo
    have hsl := deed_len hTO.len hD
    have hds := due_some hF hH2 hTO2.nd hdd
    refine ⟨x, dx, q, p, f, us, F, L, C, ss, rfl, hx, LA4.hf, hC, hL, SqL.of hp4, hsts4, holds_shs K _ hF hHo hTO hKo, form_once hF, form_ne hF, form_sorts hF, holds_apart P w hF hHo hTO hKo, fun t ht => small1000 (by have := hcl t ht; omega), by have := dd_len (ss.map (·.k)); rw [List.length_map] at this; omega, form_8 hF, deed_pre K H4 hF hHo hTO hKo hD, fun k _ => holds_thing hF hH2 hTO2 k, fun z1 z2 kp q' L' H5 hsm hx' hC' hL' hkp hkl => ?_, fun n pp e tq H' sm he => ?_, fun e0 n pp e tq H' sm he => ?_⟩
    · rcases hds with ⟨_, h⟩ | ⟨_, _, h⟩
      · rw [z1] at h; cases h
      · rw [z2] at h; cases h
    · have heq : ErrAt H' tq d.1 n1 d.2 := by
        rcases hds with ⟨h1, h⟩ | ⟨_, h, _⟩
        · rw [e] at h; cases h; rw [h1]; exact he
        · rw [e] at h; cases h
      walk_at "go"
      refine neErr heq (sm _ _ htt4) ⟨_, rfl, ?_⟩
      refine ifF rfl ?_
      walk_at "go"
      refine neErr (sm _ _ hm2) (sm _ _ htt4) ⟨_, rfl, ?_⟩
      refine ifF rfl ?_
      exact tail _ _ _ _ _ _ _ _ a T' _ (Same.seq sm hs4) (LA4.same sm) hTO
    · have heq : ErrAt H' tq d.1 n1 d.2 := by
        rcases hds with ⟨_, h⟩ | ⟨h1, _, h⟩
        · rw [e0] at h; cases h
        · rw [e] at h; cases h; rw [h1]; exact he
      walk_at "go"
      refine neErr heq (sm _ _ htt4) ⟨_, rfl, ?_⟩
      refine ifF rfl ?_
      walk_at "go"
      refine neErr (sm _ _ hm2) (sm _ _ htt4) ⟨_, rfl, ?_⟩
      refine ifF rfl ?_
      exact tail _ _ _ _ _ _ _ _ a T' _ (Same.seq sm hs4) (LA4.same sm) hTO


def spLaw (K : PySem.W.Frag) : Sp := fun vs H Q _ => ∃ (s : Addr) (ns : List Int), vs = [.ref s] ∧ SqL K H s (ns.map V.int) ∧ ns.length ≤ 63 ∧ ∀ H', Q (.bl true) H'
theorem SqL.sb {b s : Addr} {H H' : Hp} {ns : List Int} (h : SqL K H s (ns.map V.int)) (hb : H b = none) (e : ∀ c o, H c = some o → H' c = some o) : SqL K H' s (ns.map V.int) := Same.seq e h
theorem two_of {l : List Str} (h : l.length = 2) (nd : l.Nodup) : ∃ a b, l = [a, b] ∧ a ≠ b := by
  match l, h with
  | [a, b], _ => exact ⟨a, b, rfl, fun e => (List.nodup_cons.mp nd).1 (by rw [e]; exact List.mem_cons_self)⟩
theorem four_of {l : List Str} (h : l.length = 4) : ∃ a b c d, l = [a, b, c, d] := by
  match l, h with
  | [a, b, c, d], _ => exact ⟨a, b, c, d, rfl⟩
theorem kz_inj {α β : Type} {kz : α → β} : ∀ {l : List α}, (l.map kz).Nodup → ∀ {t u : α}, t ∈ l → u ∈ l → kz t = kz u → t = u
  | [], _, _, _, h, _, _ => by cases h
  | a :: l, nd, t, u, ht, hu, e => by
    obtain ⟨n1, n2⟩ := List.nodup_cons.mp nd
    rcases List.mem_cons.mp ht with h1 | h1 <;> rcases List.mem_cons.mp hu with h2 | h2
    · rw [h1, h2]
    · exact absurd (List.mem_map.mpr ⟨u, h2, by rw [← e, h1]⟩) n1
    · exact absurd (List.mem_map.mpr ⟨t, h1, by rw [e, h2]⟩) n1
    · exact kz_inj n2 h1 h2 e
theorem run_law (T : Tx K mg) : ∀ (cdv : Value) (A : Around) (outer : List Env) (s : Shared) (H : Hp) (vs : List V) (Q : VK) (E : XK), Room 10 (A.deeper (envOfC "law" (defScope s_law) s.heap.objs.size (He.fAd K ("law", none)) cdv)) → (spLaw K) vs H Q E →
    ∃ t, PSs (cxOf (L2.CX P w) P w K mg base N_law "law" (defScope s_law) (He.fAd K ("law", none)) cdv A outer s H E) (defBody s_law) t ∧ t { nx := fun _ H' => Q .non H', rt := Q } (L2.start N_law vs) H := by
  intro cdv A outer s H vs Q E hr h
  have hu := hu_of hr
  obtain ⟨tB, htB, hturn⟩ := law_turn (P := P) (w := w) (base := base) (E := E) (Hz := H) T hr
  refine ⟨_, (pss_cons (ps_set (i := 1) sc_law.nd rfl (Or.inl rfl) (callK (ok_law_box T) hr (by decide) (takes_of rfl rfl rfl rfl) T.g_law_box (pa_cons (callK (ok_law_cell_at T) hr (by decide) (takes_of rfl rfl rfl rfl) T.g_law_cell_at (pa_cons (pv 0) (pa_cons pe_int pa_nil))) pa_nil)))
      (pss_cons (ps_set (i := 2) sc_law.nd rfl (Or.inl rfl) (callK (ok_law_names T) hr (by decide) (takes_of rfl rfl rfl rfl) T.g_law_names (pa_cons (pv 1) (pa_cons pe_int pa_nil))))
      (pss_cons (ps_set (i := 3) sc_law.nd rfl (Or.inl rfl) (callK (ok_law_names T) hr (by decide) (takes_of rfl rfl rfl rfl) T.g_law_names (pa_cons (pv 1) (pa_cons pe_int pa_nil))))
      (pss_cons (ps_set (i := 4) sc_law.nd rfl (Or.inl rfl) (callK (ok_law_pick T) hr (by decide) (takes_of rfl rfl rfl rfl) T.g_law_pick (pa_cons (pv 1) (pa_cons (pe_lst (pa_cons pe_str (pa_cons pe_str pa_nil))) pa_nil))))
      (pss_cons (ps_set (i := 5) sc_law.nd rfl (Or.inr rfl) (callK (ok_law_pick T) hr (by decide) (takes_of rfl rfl rfl rfl) T.g_law_pick (pa_cons (pv 1) (pa_cons (pe_lst (pa_cons pe_int (pa_cons (pe_op op_pow pe_int pe_int) (pa_cons (pe_op op_add pe_int (callK (ok_law_take T) hr (by decide) (takes_of rfl rfl rfl rfl) T.g_law_take (pa_cons (pv 1) (pa_cons pe_int pa_nil)))) pa_nil)))) pa_nil))))
      (pss_cons (ps_set (i := 6) sc_law.nd rfl (Or.inr rfl) (callK (ok_law_take T) hr (by decide) (takes_of rfl rfl rfl rfl) T.g_law_take (pa_cons (pv 1) (pa_cons (pv 5) pa_nil))))
      (pss_cons (ps_setLc (i := 7) (own := [("k", 13)]) rfl sc_law.nd rfl rfl (sw_true rfl rfl rfl (by decide +kernel)) (listI (K := K) (callK (ok_law_order T) hr (by decide) (takes_of rfl rfl rfl rfl) T.g_law_order (pa_cons (pv 1) (pa_cons pe_int pa_nil)))) (blkOk_by (own := [("k", 13)]) (N := N_law) (sc := defScope s_law) (by decide +kernel)) (fun _ _ _ _ _ => (pg_name (i := 13) sc_law.nd rfl (Or.inl rfl))) (fun _ _ _ _ _ => pts_nil) (fun _ _ _ _ _ => (pe_op op_modP (pe_op op_add (pv 6) (pe_op op_mulA pe_int (pv 13))) (pv 5))))
      (pss_cons (ps_set (i := 8) sc_law.nd rfl (Or.inl rfl) (pe_op op_sub (callK (ok_law_take T) hr (by decide) (takes_of rfl rfl rfl rfl) T.g_law_take (pa_cons (pv 1) (pa_cons (pe_op op_add (pe_op op_mulA pe_int (pe_op op_pow pe_int pe_int)) pe_int) pa_nil))) (pe_op op_pow pe_int pe_int)))
      (pss_cons (ps_set (i := 9) sc_law.nd rfl (Or.inl rfl) (pe_lst (pa_cons (pe_tup (pa_cons (pe_ix (ixL (K := K)) (pv 3) pe_int (fun _ _ => rfl)) (pa_cons (pe_tup (pa_cons pe_str (pa_cons (pe_tup (pa_cons pe_str pa_nil)) pa_nil))) pa_nil))) (pa_cons (pe_tup (pa_cons (pe_ix (ixL (K := K)) (pv 3) pe_int (fun _ _ => rfl)) (pa_cons (pe_tup (pa_cons pe_str (pa_cons (pe_tup (pa_cons pe_str pa_nil)) pa_nil))) pa_nil))) pa_nil))))
      (pss_cons (ps_set (i := 9) sc_law.nd rfl (Or.inl rfl) (pe_op op_cat (pv 9) (pe_lst (pa_cons (pe_tup (pa_cons (pe_ix (ixL (K := K)) (pv 3) pe_int (fun _ _ => rfl)) (pa_cons (pe_tup (pa_cons pe_str pa_nil)) pa_nil))) (pa_cons (pe_tup (pa_cons (pe_ix (ixL (K := K)) (pv 3) pe_int (fun _ _ => rfl)) (pa_cons (pe_tup (pa_cons pe_str pa_nil)) pa_nil))) pa_nil)))))
      (pss_cons (ps_set (i := 10) sc_law.nd rfl (Or.inl rfl) (pe_tup (pa_cons (pv 5) (pa_cons (pe_tup (pa_cons (pe_tup (pa_cons (pe_ix (ixL (K := K)) (pv 2) pe_int (fun _ _ => rfl)) (pa_cons pe_str (pa_cons (pe_tupF pa_nil) pa_nil)))) (pa_cons (pe_tup (pa_cons (pe_ix (ixL (K := K)) (pv 2) pe_int (fun _ _ => rfl)) (pa_cons (pv 4) (pa_cons (pe_callTy (tupleK (K := K)) rfl T.b_tuple (by decide +kernel) (pa_cons (pe_callB (sortSXK (K := K)) rfl T.b_sorted (by decide +kernel) (pa_cons (pv 9) pa_nil)) pa_nil)) pa_nil)))) pa_nil))) pa_nil))))
      (pss_cons (ps_set (i := 11) sc_law.nd rfl (Or.inl rfl) (makeK (ok_Plain_init_1 T) hr (by decide) (takes_of rfl rfl rfl rfl) T.mk_Plain T.g_Plain (pa_cons (pv 10) pa_nil)))
      (pss_cons (ps_set (i := 12) sc_law.nd rfl (Or.inl rfl) pe_dnewK)
      (pss_cons (ps_for (passes_of rfl) rfl (pi_range2 rfl T.b_range (pa_cons pe_int (pa_cons (pe_callB (call_max2 rfl) rfl T.b_max (by decide +kernel) (pa_cons pe_int (pa_cons (pe_callB (call_min2 rfl) rfl T.b_min (by decide +kernel) (pa_cons (pe_callB (lenK (K := K)) rfl T.b_len (by decide +kernel) (pa_cons (pv 0) pa_nil)) (pa_cons pe_int pa_nil))) pa_nil))) pa_nil))) (pg_name (i := 13) sc_law.nd rfl (Or.inl rfl))
      htB)
      (pss_one (ps_ret pe_bl)))))))))))))))), ?_⟩
  obtain ⟨s0, ns, rfl, hs, hns, hQ⟩ := h
  walk_at "go"
  refine ⟨s0, ns, 0, rfl, hs, by omega, fun cv => ?_⟩
  walk_at "go"
  refine fun b o hbn ho => ?_
  have sm1 : Same H (upd H b o) := Same.new hbn
  have hb1 : BoxAt (upd H b o) b := ⟨o, upd_same, ho⟩
  generalize upd H b o = H1 at sm1 hb1
  walk_at "go"
  refine ⟨b, 2, rfl, hb1, by omega, by omega, fun nl na H2 hnl hnd sb2 hnan hna => ?_⟩
  obtain ⟨n0, n1, rfl, h01⟩ := two_of hnl hnd
  have hna2 : H2 na = some (.lst [.str n0, .str n1]) := hna
  have hnab : na ≠ b := sb2.2.lst hna2 (by show 2 ≠ 3; omega)
  walk_at "go"
  refine ⟨b, 4, rfl, sb2.2, by omega, by omega, fun cs c H3 hcl hcn sb3 hcnn hc => ?_⟩
  have hna3 := sb3.1 _ _ hna2 hnab
  have hcb : c ≠ b := sb3.2.lst hc (by rw [List.length_map]; omega)
  have sb03 := sb2.trans sb3
  walk_at "go"
  refine ⟨by walk_at "sz", fun p4 hp4 => ?_⟩
  have sb4 := sb3.same (Same.new (o := .lst [.str "many", .str "some"]) hp4)
  have hp4l : (upd H3 p4 (.lst [.str "many", .str "some"])) p4 = some (.lst [.str "many", .str "some"]) := upd_same
  have hp4b : p4 ≠ b := sb3.2.ne hp4
  have hna4 := upd_free (o := .lst [.str "many", .str "some"]) hp4 hna3
  have hc4 := upd_free (o := .lst [.str "many", .str "some"]) hp4 hc
  have sb04 := sb03.same (Same.new (o := .lst [.str "many", .str "some"]) hp4)
  generalize upd H3 p4 (.lst [.str "many", .str "some"]) = H4 at sb4 hp4l hna4 hc4 sb04
  refine ⟨b, p4, _, rfl, sb04.2, hp4l, hp4b, (fun z => by cases z), by show 2 ≤ 1000; omega, fun sv hsv o5 ho5 => ?_⟩
  obtain ⟨sort, rfl, hsort⟩ : ∃ sort : Str, sv = .str sort ∧ (sort = "many" ∨ sort = "some") := by
    rcases List.mem_cons.mp hsv with h | h
    · exact ⟨_, h, .inl rfl⟩
    · exact ⟨_, List.mem_singleton.mp h, .inr rfl⟩
  have sb05 := sb04.trans (SameB.box ho5)
  have hna5 : (upd H4 b o5) na = _ := (upd_ne hnab).trans hna4
  have hc5 : (upd H4 b o5) c = _ := (upd_ne hcb).trans hc4
  generalize upd H4 b o5 = H5 at sb05 hna5 hc5
  walk_at "go"
  refine ⟨b, 1000, rfl, sb05.2, by omega, by decide +kernel, fun dz o6 hdz0 hdz1 ho6 => ?_⟩
  have sb06 := sb05.trans (SameB.box ho6)
  have hna6 : (upd H5 b o6) na = _ := (upd_ne hnab).trans hna5
  have hc6 : (upd H5 b o6) c = _ := (upd_ne hcb).trans hc5
  generalize upd H5 b o6 = H6 at sb06 hna6 hc6
  walk_at "go"
  refine ⟨by walk_at "sz", fun p7 hp7 => ?_⟩
  have hp7l : (upd H6 p7 (.lst [V.int 30, V.int (10 ^ (12 : Int).toNat), V.int (40 + dz)])) p7 = some (.lst [V.int 30, V.int (10 ^ (12 : Int).toNat), V.int (40 + dz)]) := upd_same
  have sm7 : Same H6 (upd H6 p7 (.lst [V.int 30, V.int (10 ^ (12 : Int).toNat), V.int (40 + dz)])) := Same.new hp7
  have hp7b := sb06.2.ne hp7
  generalize upd H6 p7 (.lst [V.int 30, V.int (10 ^ (12 : Int).toNat), V.int (40 + dz)]) = H7 at hp7l sm7
  have sb07 := sb06.same sm7
  walk_at "go"
  refine ⟨b, p7, _, rfl, sb07.2, hp7l, hp7b, (fun z => by cases z), by show 3 ≤ 1000; omega, fun zv hzv o8 ho8 => ?_⟩
  obtain ⟨size, rfl, hz1, hz2⟩ : ∃ size : Int, zv = .int size ∧ 30 ≤ size ∧ size ≤ 1000000000000 := by
    have e12 : (10 : Int) ^ (12 : Int).toNat = 1000000000000 := by decide
    rcases List.mem_cons.mp hzv with h | h
    · exact ⟨_, h, by omega, by omega⟩
    rcases List.mem_cons.mp h with h | h
    · exact ⟨_, h, by omega, by omega⟩
    · exact ⟨_, List.mem_singleton.mp h, by omega, by omega⟩
  have sb08 := sb07.trans (SameB.box ho8)
  have hna8 : (upd H7 b o8) na = _ := (upd_ne hnab).trans (sm7 _ _ hna6)
  have hc8 : (upd H7 b o8) c = _ := (upd_ne hcb).trans (sm7 _ _ hc6)
  generalize upd H7 b o8 = H8 at sb08 hna8 hc8
  walk_at "go"
  refine ⟨b, size, rfl, sb08.2, by omega, Int.lt_of_le_of_lt hz2 (by decide +kernel), fun fst o9 hf0 hf1 ho9 => ?_⟩
  have sb09 := sb08.trans (SameB.box ho9)
  have hna9 : (upd H8 b o9) na = _ := (upd_ne hnab).trans hna8
  have hc9 : (upd H8 b o9) c = _ := (upd_ne hcb).trans hc8
  generalize upd H8 b o9 = H9 at sb09 hna9 hc9
  walk_at "go"
  refine ⟨b, 5, rfl, sb09.2, by omega, fun l p10 H10 hperm sb10 hp10 hp10l => ⟨p10, rfl, ⟨_, SqL.of hp10l⟩, fun D hD => lc_list (xs := l.map fun k : Nat => V.int (k : Int)) (fun i H' => Same H10 H' ∧ H' D = some (.lst (((l.take i).map fun k : Nat => (fst + 7 * (k : Int)) % size).map V.int))) ⟨Same.new hD, upd_same⟩ (fun i H' _ h => SqL.of (h.1 _ _ hp10l)) ?_ ?_⟩⟩
  · rintro i x H11 hi ⟨sm11, hd11⟩
    rw [List.getElem?_map] at hi
    obtain ⟨k, hk, rfl⟩ := Option.map_eq_some_iff.mp hi
    walk_at "go"
    refine ⟨_, hd11, ?_, sm11.mut hD, ?_⟩
    · have h2 := hperm.length_eq
      rw [List.length_range] at h2
      rw [List.length_map, List.length_map, List.length_take]
      exact small1000 (by omega)
    · rw [upd_same, List.take_succ, hk, List.map_append, List.map_append]
      rfl
  · rintro H11 ⟨sm11, hd11⟩
    rw [List.length_map, List.take_length] at hd11
    have hkl : (l.map fun k : Nat => (fst + 7 * (k : Int)) % size).length = 5 := by
      rw [List.length_map, hperm.length_eq, List.length_range]
    have hkr : ∀ k ∈ (l.map fun k : Nat => (fst + 7 * (k : Int)) % size), 0 ≤ k ∧ k < size := by
      intro k hk
      obtain ⟨j, _, rfl⟩ := List.mem_map.mp hk
      exact ⟨Int.emod_nonneg _ (by omega), Int.emod_lt_of_pos _ (by omega)⟩
    generalize (l.map fun k : Nat => (fst + 7 * (k : Int)) % size) = keys at hd11 hkl hkr
    have sb011 := (sb09.trans sb10).same sm11
    have hna11 := sm11 _ _ (sb10.1 _ _ hna9 hnab)
    have hc11 := sm11 _ _ (sb10.1 _ _ hc9 hcb)
    have hDb := sb10.2.ne hD
    walk_at "go"
    refine ⟨b, _, rfl, sb011.2, by decide +kernel, by decide +kernel, fun bs o12 _ _ ho12 => ?_⟩
    have sb012 := sb011.trans (SameB.box ho12)
    have hna12 : (upd H11 b o12) na = _ := (upd_ne hnab).trans hna11
    have hc12 : (upd H11 b o12) c = _ := (upd_ne hcb).trans hc11
    have hd12 : (upd H11 b o12) D = _ := (upd_ne hDb).trans hd11
    generalize upd H11 b o12 = H12 at sb012 hna12 hc12 hd12
    have sm12 : Same H H12 := fun c o h => sb012.1 c o (sm1 c o h) (ne_of_none h hbn)
    clear sb011 sb09 sb08 sb07 sb06 sb05 sb04 sb03 sb2 sb3 sb4 sb10 hna11 hc11 hd11 hna9 hc9 hna8 hc8 hna6 hc6 hna5 hc5 hna4 hc4 hna3 hc hna hna2 hp10l hp7l hp4l sm7 sm11 hsv hzv ho5 ho6 ho8 ho9 ho12 hb1 sm1 hp4 hp7 hp10 hD hperm
    obtain ⟨c0, c1, c2, c3, rfl⟩ := four_of hcl
    have hc12 : H12 c = some (.lst [.str c0, .str c1, .str c2, .str c3]) := hc12
    walk_at "go"
    refine ⟨by walk_at "sz", fun w0 hw0 => ?_⟩
    walk_at "go"
    refine ⟨by walk_at "sz", fun u0 hu0 => ?_⟩
    walk_at "go"
    refine ⟨by walk_at "sz", fun t0 ht0 => ?_⟩
    walk_at "go"
    refine ⟨by walk_at "sz", fun w1 hw1 => ?_⟩
    walk_at "go"
    refine ⟨by walk_at "sz", fun u1 hu1 => ?_⟩
    walk_at "go"
    refine ⟨by walk_at "sz", fun t1 ht1 => ?_⟩
    walk_at "go"
    refine ⟨by walk_at "sz", fun l9 hl9 => ?_⟩
    walk_at "go"
    refine ⟨by walk_at "sz", fun w2 hw2 => ?_⟩
    walk_at "go"
    refine ⟨by walk_at "sz", fun t2 ht2 => ?_⟩
    walk_at "go"
    refine ⟨by walk_at "sz", fun w3 hw3 => ?_⟩
    walk_at "go"
    refine ⟨by walk_at "sz", fun t3 ht3 => ?_⟩
    walk_at "go"
    refine ⟨by walk_at "sz", fun l9b hl9b => ?_⟩
    refine ⟨l9, l9b, _, _, rfl, rfl, by walk_at "hp", by walk_at "hp", Nat.le_of_lt (small1000 (by show 4 ≤ 1000; omega)), fun l10 hl10 => ?_⟩
    walk_at "go"
    refine ⟨by walk_at "sz", fun e0 eo he0 heo => ?_⟩
    walk_at "go"
    refine ⟨by walk_at "sz", fun h0 hh0 => ?_⟩
    walk_at "go"
    have n10 : t1 ≠ t0 := Ne.symm (ne_of_none (by walk_at "hp") ht1)
    have n20 : t2 ≠ t0 := Ne.symm (ne_of_none (by walk_at "hp") ht2)
    have n21 : t2 ≠ t1 := Ne.symm (ne_of_none (by walk_at "hp") ht2)
    have n30 : t3 ≠ t0 := Ne.symm (ne_of_none (by walk_at "hp") ht3)
    have n31 : t3 ≠ t1 := Ne.symm (ne_of_none (by walk_at "hp") ht3)
    have n32 : t3 ≠ t2 := Ne.symm (ne_of_none (by walk_at "hp") ht3)
    let kz : Addr → Str := fun t => if t = t0 then c0 else if t = t1 then c1 else if t = t2 then c2 else c3
    have z0 : kz t0 = c0 := if_pos rfl
    have z1 : kz t1 = c1 := (if_neg n10).trans (if_pos rfl)
    have z2 : kz t2 = c2 := (if_neg n20).trans ((if_neg n21).trans (if_pos rfl))
    have z3 : kz t3 = c3 := (if_neg n30).trans ((if_neg n31).trans (if_neg n32))
    refine ⟨l10, [t0, t1, t2, t3], kz, rfl, SqL.of (by walk_at "hp"), fun t ht => ?_, fun t ht u hu e => ?_, fun ts pS hpm _ hpS => ?_⟩
    · rcases List.mem_cons.mp ht with rfl | ht
      · exact ⟨_, by rw [z0]; walk_at "hp"⟩
      rcases List.mem_cons.mp ht with rfl | ht
      · exact ⟨_, by rw [z1]; walk_at "hp"⟩
      rcases List.mem_cons.mp ht with rfl | ht
      · exact ⟨_, by rw [z2]; walk_at "hp"⟩
      cases List.mem_singleton.mp ht
      exact ⟨_, by rw [z3]; walk_at "hp"⟩
    · refine kz_inj (kz := kz) (l := [t0, t1, t2, t3]) ?_ ht hu e
      show [kz t0, kz t1, kz t2, kz t3].Nodup
      rw [z0, z1, z2, z3]
      exact hcn
    clear_value kz
    walk_at "go"
    refine ⟨pS, _, rfl, SqL.of upd_same, fun lf fo hlf hfo => ?_⟩
    walk_at "go"
    refine ⟨by walk_at "sz", fun q1 hq1 => ?_⟩
    walk_at "go"
    refine ⟨by walk_at "sz", fun q2 hq2 => ?_⟩
    walk_at "go"
    refine ⟨by walk_at "sz", fun ff hff => ?_⟩
    walk_at "go"
    have hs12 : SqL K H12 s0 (ns.map V.int) := Same.seq sm12 hs
    refine fun x dx hx hdx hxd => ?_
    have hFm := form_at (K := K) (w0 := w0) (u0 := u0) (t0 := t0) (w1 := w1) (u1 := u1) (t1 := t1) (w2 := w2) (t2 := t2) (w3 := w3) (t3 := t3) (e0 := e0) (h0 := h0) (lf := lf) (q1 := q1) (q2 := q2) (ff := ff) (eo := eo) (fo := fo) (ts := ts) (n0 := n0) (n1 := n1) (sort := sort) (c0 := c0) (c1 := c1) (c2 := c2) (c3 := c3) (size := size) hx (by walk_at "hp") (by walk_at "hp") (by walk_at "hp") (by walk_at "hp") (by walk_at "hp") (by walk_at "hp") (by walk_at "hp") (by walk_at "hp") (by walk_at "hp") (by walk_at "hp") (by walk_at "hp") heo (by walk_at "hp") (by walk_at "hp") hfo (by walk_at "hp") (by walk_at "hp") (by walk_at "hp") hpm hcn h01 hsort
    obtain ⟨F, hFm, hFk, hFs⟩ := hFm
    have hHold0 : Holds n0 n1 [c0, c1, c2, c3] (sheetOf []) [] := made_holds (T := []) h01 .nil
    have hTk0 : TOk keys sort [] := TOk.nil
    have hKo : KOk keys F.size := ⟨hkl, by rw [hFs]; exact hkr, by rw [hFs]; exact hz2⟩
    obtain ⟨e1, e2⟩ := due_none hFk hHold0 .nil (due_nil c0 c1)
    refine ⟨x, dx, .ref ff, .non, F, [], _, rfl, upd_same, (Same.new hdx).trans (Same.new (by rw [upd_ne (Ne.symm hxd)]; exact hx)), hx, hFm, .inl ⟨rfl, rfl⟩, .nil, fun t ht => by show 0 < sizeLine; rw [sizeLine_eq]; omega, holds_shs K _ hFk hHold0 hTk0 hKo, form_once hFk, form_ne hFk, fun q L H13 _ _ sm13 hx13 _ hC13 hL13 _ => ⟨rfl, ?_⟩, fun n p e => ?_, fun n p _ e => ?_⟩
    · have hna13 : H13 na = some (.lst [.str n0, .str n1]) := sm13 _ _ (by walk_at "hp")
      have hc13 : H13 c = some (.lst [.str c0, .str c1, .str c2, .str c3]) := sm13 _ _ (by walk_at "hp")
      have hd13 : H13 D = some (.lst (keys.map V.int)) := sm13 _ _ (by walk_at "hp")
      have hs13 : SqL K H13 s0 (ns.map V.int) := Same.seq sm13 (by walk_at "seq")
      have hF13 := hFm.mono sm13
      walk_at "go"
      refine fun a0 ha0 => ?_
      have LA : LawAt K (upd H13 a0 (.dK [])) na c D x a0 (.ref ff) n0 n1 [c0, c1, c2, c3] keys F [] := ⟨upd_free ha0 hna13, upd_free ha0 hc13, upd_free ha0 hd13, hF13.mono (Same.new ha0), ⟨dx, q, L, _, upd_free ha0 hx13, hC13.mono (Same.new ha0), hL13, hHold0⟩, ⟨[], upd_same, .nil⟩⟩
      have hs14 : SqL K (upd H13 a0 (.dK [])) s0 (ns.map V.int) := sqL_free ha0 hs13
      generalize upd H13 a0 (.dK []) = H14 at LA hs14
      clear hna13 hc13 hd13 hs13 hF13 sm13 hx13 hC13 ha0 hL13
      clear hFm hx hdx hxd
      walk_at "go"
      refine ⟨_, _, rfl, .inl ⟨_, hs14, rfl⟩, ?_⟩
      rw [List.length_map]
      walk_at "go"
      refine ⟨_, _, rfl, ?_⟩
      walk_at "go"
      refine ⟨_, _, rfl, ?_⟩
      refine ⟨_, _, rfl, by omega, for_range (lo := 1) (fun i σ H' => LawInv K s0 na c D x (.ref ff) ns n0 n1 sort c0 c1 c2 c3 size fst (bs - 10 ^ (40 : Int).toNat) keys F (fun _ => True) σ H') ?_ ?_ ?_⟩
      · exact ⟨_, _, _, _, _, _, _, _, _, _, trivial, rfl, hs14, LA, hTk0⟩
      · rintro i σ H15 hi ⟨b', v9, v13, v14, v15, v16, v17, v18, a', T', _, rfl, hs15, LA15, hTO15⟩
        show gName 13 _ _ _ _
        refine hturn s0 na c D x (.ref ff) ns n0 n1 sort c0 c1 c2 c3 size fst (bs - 10 ^ (40 : Int).toNat) keys F hFk hKo (1 + (i : Nat)) _ _ _ (by omega) ⟨_, _, _, _, _, _, _, _, _, _, rfl, rfl, hs15, LA15, hTO15⟩ fun σ' H' hI => hI
      · rintro σ H15 _
        exact hQ _
    · rw [e1] at e; cases e
    · rw [e2] at e; cases e


theorem facts {h : Heap} {f : Addr} (X : K.In h) (G : h.Ns mainGlobals mg) (hfa : mg ("law" : Str) = some (.ref f)) (c : He.SaysX fa fn [] [] exB w h K) :
    ∃ fd : FuncData, (∀ (s : Shared) (v : Value), BindsTo s fd ⟨[v], []⟩ [("script", v)]) ∧ ∀ base : Heap, K.In base → base.Ns mainGlobals mg → FnOk P w K mg base (L2.CX P w) 11 f fd ["script"] (spLaw K) := by
  have T := tx_of X G c
  obtain ⟨fd, FD⟩ := T.f_law
  have e := hfa.symm.trans T.g_law
  cases e
  have b := FunD.bindsA (ps := ["script"]) FD fun _ _ _ _ _ _ us hl => match us, hl with | [_], _ => rfl
  exact ⟨fd, fun s v => b s [v] rfl, fun base _ _ => FD.ok sc_law (fun vs H Q E h => by obtain ⟨_, _, rfl, _⟩ := h; rfl) (run_law T)⟩
/-- a law's end over a head by facts, where the context hangs on the world -/
theorem walk_ofEW {l : PySem.W.OpenLaw} {n k : Nat} {q : Program} {loose : List Str} {XP : (Str → Option Value) → Heap → Prop} {YP : World → Heap → Prop} {d : DefRec} {CX : World → CXT} {x : Str}
    (hn : l.most = some n) (hn2 : n ≤ sizeLine) (hdf : d.params.defaults = []) (hr : Room k callerA)
    (F : ∀ (w : World) (mg : Str → Option Value) (fa : Addr) (h : Heap), YP w h → h.Ns mainGlobals mg → mg d.name = some (.ref fa) →
      ∃ (K : PySem.W.Frag) (fd : FuncData) (sp : Sp), K.In h ∧ (∀ (s : Shared) (u : Value), BindsTo s fd ⟨[u], []⟩ [(x, u)]) ∧
        (∀ (H : Hp) (a : Addr) (ns : List Int), ns.length ≤ n → Only H → SqL K H a (ns.map V.int) → sp [.ref a] H (fun v _ => v = .bl true) fun _ _ _ => False) ∧
        ∀ base : Heap, K.In base → base.Ns mainGlobals mg → FnOk l.prog w K mg base (CX w) k fa fd [x] sp)
    (hCX : ∀ (w : World) (H : Hp) (s : Shared) (e : Value) (s' : Shared), CX w [] H s (fun _ _ _ => False) e s' → False) :
    PySem.W.WalkO q loose XP YP l.row.toRowW d [] (fun f vs => PySem.call f vs) := by
  refine Att.attach_call hn hdf fun w s₀ s₁ mg mb fa o pm cd doc a vs ns G Y ho hd hcd hmg hobj hints hlen hg => ?_
  obtain ⟨K, fd, sp, KX, hb, hsp, hF⟩ := F w mg fa _ Y G.T.g hmg
  exact law_call KX G.T.g G.T.b G.T.builtins G.T.nolimit hg hobj hints (Nat.le_trans hlen hn2) hr hF hb (fun H hO hS => hsp H a ns hlen hO hS) fun H e s' => hCX w H s₁ e s'
end
end Lw
open PySem PySem.W PySem.Calls PyProof.Rows
theorem PySem.Challenge.cw_halfmoved_k13_rows_out_of_order_holds : PySem.Challenge.rw_halfmoved_k13_rows_out_of_order.Holds := by
  w_on; o_law
  refine HandSHeadRun.head_any (r := OpenLaw.row PySem.Challenge.rw_halfmoved_k13_rows_out_of_order) (q := view (OpenLaw.row PySem.Challenge.rw_halfmoved_k13_rows_out_of_order).prog [52]) (H := Lw.hk) (ob := Lw.ob) (M := 6000) (loose := Lw.names) (d := HandSHeadRun.topDef (OpenLaw.row PySem.Challenge.rw_halfmoved_k13_rows_out_of_order).prog 52) (kwd := []) Lw.ob_eq
    (by kernel_rfl) (fun s => by kernel_rfl) Lw.run (by kernel_rfl) (by kernel_rfl) (by kernel_rfl) (by rfl) (by first | assumption | decide +kernel) (by decide +kernel) ⟨rfl, rfl, rfl, rfl, rfl, by decide +kernel⟩ ?hw ?hc
  case hw => w_witness2
  case hc =>
    refine Lw.walk_ofEW (l := PySem.Challenge.rw_halfmoved_k13_rows_out_of_order) (n := 63) (k := 11) (x := "script") (CX := fun w => L2.CX (PySem.Challenge.rw_halfmoved_k13_rows_out_of_order).prog w) rfl (by decide +kernel) (by kernel_rfl) ⟨rfl, by decide, by decide⟩ ?F (fun _ _ _ _ _ z => L2.CX0_of z)
    intro w mg fa h Y G hmg0
    obtain ⟨K, KX, c⟩ := Y
    have hmg : mg ("law" : PySem.Str) = some (.ref fa) := by
      have e : (HandSHeadRun.topDef (OpenLaw.row PySem.Challenge.rw_halfmoved_k13_rows_out_of_order).prog 52).name = ("law" : PySem.Str) := by kernel_rfl
      rw [← e]
      exact hmg0
    obtain ⟨fd, hb, hF⟩ := Lw.facts (P := (PySem.Challenge.rw_halfmoved_k13_rows_out_of_order).prog) (w := w) KX G hmg c
    exact ⟨K, fd, Lw.spLaw K, KX, hb, fun H a ns hl _ hS => ⟨a, ns, rfl, hS, hl, fun _ => rfl⟩, hF⟩
