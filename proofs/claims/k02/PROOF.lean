import PyProof.Rows.All
import Wide.All
import OpenK.AllK
import Wide.FinOn
import PyProof.Draws
import PyProof.EnumMake
import PyProof.StrOps2
import KE.KStateDown
import HandS.Base
import HandS.Call
import HandS.List
import HandS.Comp
import HandS.Ends
import HandS.Dict
import HandS.Iter
import HandS.Text
import HandS.Words
import HandS.WordsList
import HandS.WordsDict
import HandS.Flow
import HandS.Style
import HandS.Codes
import HandS.IsInst
import HandS.RaiseMore
import HandS.Wide
import HandS.WideBits
import HandS.Defaults
import HandS.TupAny
import HandS.More
import HandS.WordsExc
import HandS.Exc
import HandS.MakeKwOnly
import HandS.Head0
import HandS.Head1
import HandS.Head2
import HandS.HeadEnd
import HandS.HeadHook1
import HandS.HeadHook2
import HandS.HeadHook3
import HandS.HeadHook4
import PyProof.ReprRoads
import KE.KExcIs
import KE.KExcInit
import HandS.ExcOwn
import HandS.ExcInit
import HandS.ExcField
import HandS.TryOnly
import HandS.StrMore
import KE.KRevSl
import PyProof.SliceStr2

import PySem.Challenge.RW_formatwords_k02_texts_that_are_no_digits

set_option Elab.async false
set_option linter.all false
set_option maxRecDepth 100000
set_option maxHeartbeats 4000000
namespace Fw
open PySem PySem.Spec PyProof.Rows L2
/-! ### defs by their names -/
/-- the def that the module's name x holds: n values are written in a call, dvs fill up -/
structure Dn (P : Program) (w : World) (K : PySem.W.Frag) (mg : Str → Option Value) (base : Heap) (CX : CXT) (k : Nat) (x : Str) (ps : List Str) (dvs : List V) (sp : Sp) : Prop where
  ex : ∃ (f : Addr) (fd : FuncData) (ds : List Value), FnOk P w K mg base CX k f fd ps sp ∧ mg x = some (.ref f) ∧ PySem.W.keepIn K (.ref f) = true ∧ Binds K fd ps ds ∧ Vals dvs ds
section
variable {X : Cx} {k : Nat} {x : Str} {ps : List Str} {dvs : List V} {sp : Sp} {p pos : Pos} {e : Expr} {es : List Expr} {t : TA}
theorem pe_dn (D : Dn X.prog X.w X.K X.mg X.base CX0 k x ps dvs sp) (hr : Room k X.A) (hg : Gl X x) (ha : PA X (e :: es) t)
    (hdb : (x == ("__debug__" : Str)) = false := by decide) (he : starEach (e :: es) X.env = (false, eval e X.env) :: starEach es X.env := by rfl)
    (hpl : (backTo pos (starEach es X.env)).any (·.1) = false := by rfl) : PE X (.Call (.Name x p) (e :: es) [] pos) (tCall sp dvs E0 t) := by
  obtain ⟨f, fd, ds, F, hm, hk, hb, hd⟩ := D.ex
  exact pe_call F hr hg hm hk hb hd pass0 ha hdb he hpl
theorem pe_dn0 (D : Dn X.prog X.w X.K X.mg X.base CX0 k x ps dvs sp) (hr : Room k X.A) (hg : Gl X x)
    (hdb : (x == ("__debug__" : Str)) = false := by decide) : PE X (.Call (.Name x p) [] [] pos) (tCall sp dvs E0 tNil) := by
  obtain ⟨f, fd, ds, F, hm, hk, hb, hd⟩ := D.ex
  exact pe_call0 F hr hg hm hk hb hd pass0 hdb
end
/-- the same called with keywords -/
structure Dk (P : Program) (w : World) (K : PySem.W.Frag) (mg : Str → Option Value) (base : Heap) (CX : CXT) (k : Nat) (x : Str) (n : Nat) (ks : List Str) (gV : List V → List V → List V) (sp : Sp) : Prop where
  ex : ∃ (f : Addr) (fd : FuncData) (ps : List Str) (g : List Value → List Value → List Value), FnOk P w K mg base CX k f fd ps sp ∧ mg x = some (.ref f) ∧ PySem.W.keepIn K (.ref f) = true ∧ KBn K fd ps n ks g gV
theorem pe_dk {X : Cx} {k n : Nat} {x : Str} {ks : List Str} {gV : List V → List V → List V} {sp : Sp} {p pos : Pos} {e : Expr} {es : List Expr} {kws : List Keyword} {t tk : TA}
    (D : Dk X.prog X.w X.K X.mg X.base CX0 k x n ks gV sp) (hr : Room k X.A) (hg : Gl X x) (ha : PA X (e :: es) t) (hkw : PK X kws tk)
    (hall : (backToKw pos (keywordEach kws X.env)).all (·.1.isSome) = true := by rfl) (hks : (backToKw pos (keywordEach kws X.env)).filterMap (·.1) = ks := by rfl)
    (hdb : (x == ("__debug__" : Str)) = false := by decide) (he : starEach (e :: es) X.env = (false, eval e X.env) :: starEach es X.env := by rfl)
    (hpl : ((backTo pos (starEach (e :: es) X.env)).any (·.1) || (backToKw pos (keywordEach kws X.env)).any (·.1.isNone)) = false := by rfl) :
    PE X (.Call (.Name x p) (e :: es) kws pos) (tCallN n ks.length sp gV E0 t tk) := by
  obtain ⟨f, fd, ps, g, F, hm, hk, hb⟩ := D.ex
  exact pe_callN F hr hg hm hk hb pass0 ha hkw hall hks hdb he hpl
/-! ### text * number -/
def mulS (z : Str) (n : Int) : Str := ⟨(List.replicate n.toNat z.cps).foldl (· ++ ·) #[]⟩
theorem foldl_cat (a : Array Nat) : ∀ (k : Nat) (acc : Array Nat), ((List.replicate k a).foldl (· ++ ·) acc).toList = acc.toList ++ (List.replicate k a.toList).flatten
  | 0, acc => by simp
  | k + 1, acc => by
    rw [List.replicate_succ, List.foldl_cons, foldl_cat a k, List.replicate_succ, List.flatten_cons, Array.toList_append, List.append_assoc]
theorem mulS_tl (z : Str) (n : Int) : (mulS z n).cps.toList = (List.replicate n.toNat z.cps.toList).flatten := by
  unfold mulS
  rw [foldl_cat]
  simp
theorem mulS_len (z : Str) (n : Int) : (mulS z n).length = n.toNat * z.length := by
  show (mulS z n).cps.size = _
  rw [← Array.length_toList, mulS_tl, List.length_flatten, List.map_replicate, List.sum_replicate_nat, Array.length_toList]
  rfl
theorem op_mul_str {X : Cx} : OpR X (binaryOp .Mult) (fun x y H Q => ∃ (z : Str) (n : Int), x = .str z ∧ y = .int n ∧ (-(2 ^ 62) ≤ n ∧ n < 2 ^ 62) ∧ n.toNat * z.length ≤ sizeLine ∧ Q (.str (mulS z n)) H) := by
  intro pins s σ H x y v u Q I rx ry h
  obtain ⟨z, n, rfl, rfl, ⟨h1, h2⟩, hz, q⟩ := h
  obtain ⟨t, rfl⟩ := rx
  obtain ⟨t', rfl⟩ := ry
  have hsz : (sizeLine : Int) ≤ 2 ^ 40 := by decide
  refine PySem.P.mul_str ?_ (fun g1 g2 => ?_) (fun g1 g2 => ?_) ?_
  · rw [decide_eq_false (by omega), decide_eq_false (by omega)]; rfl
  · intro hc
    have hc' : (z.length : Int) > (2 ^ 63 - 1) / n := hc
    have hn : 0 < n := by omega
    have e1 : (2 ^ 63 - 1 : Int) < n * z.length := by
      have := Int.lt_mul_of_ediv_lt hn hc'
      rw [Int.mul_comm] at this
      exact this
    have e2 : n * (z.length : Int) = ((n.toNat * z.length : Nat) : Int) := by
      rw [Int.natCast_mul, Int.toNat_of_nonneg (by omega)]
    have e3 : ((n.toNat * z.length : Nat) : Int) ≤ (sizeLine : Int) := by exact_mod_cast hz
    omega
  · show decide (z.length * n.toNat > sizeLine) = false
    rw [Nat.mul_comm]
    exact decide_eq_false (by omega)
  · have hl := mulS_len z n
    by_cases c1 : n < 1
    · rw [if_pos c1]
      have e0 : mulS z n = Str.empty := by
        have : n.toNat = 0 := by omega
        unfold mulS; rw [this]; rfl
      refine ⟨by decide, ⟨.str (mulS z n), H, I.tok _, ⟨_, by rw [e0]⟩, q⟩⟩
    · rw [if_neg c1]
      by_cases c2 : (n == 1 || z.length == 0) = true
      · rw [if_pos c2]
        have e0 : mulS z n = z := by
          apply TL.ext_tl
          show (mulS z n).cps.toList = z.cps.toList
          rw [mulS_tl]
          rw [Bool.or_eq_true] at c2
          rcases c2 with c | c
          · have : n = 1 := by simpa using c
            subst this
            simp
          · have : z.cps.toList = [] := by
              apply List.length_eq_zero_iff.mp
              rw [Array.length_toList]
              exact eq_of_beq c
            rw [this]
            simp
        exact ⟨.str (mulS z n), H, I, ⟨t, by rw [e0]⟩, q⟩
      · rw [if_neg c2]
        exact ⟨by show (mulS z n).length ≤ sizeLine; omega, ⟨.str (mulS z n), H, I.tok _, ⟨_, rfl⟩, q⟩⟩
/-! ### enumerate(text) -/
def IteS (x : Str) : It :=
  ⟨fun i _ => i < x.cps.size, fun i H v H' => ∃ T c, v = .ref T ∧ H T = none ∧ x.cps[i]? = some c ∧ H' = upd H T (.tup [.int (i : Nat), .str ⟨#[c]⟩]), fun i _ => x.cps.size ≤ i⟩
theorem iterType_or (x : Str) : strIterType x = "str_ascii_iterator" ∨ strIterType x = "str_iterator" := by
  unfold strIterType
  split
  · exact .inl rfl
  · exact .inr rfl
theorem drawsS {prog : Program} {w : World} {A : Around} (hh : A.handled = none) (it : Addr) (x : Str) (t : Tok) :
    Draws prog w A it [it] x.cps.size (fun i v => ∃ c u, x.cps[i]? = some c ∧ v = .str ⟨#[c]⟩ u) (fun i h => h.IsStrIter it (strIterType x) x t i) := by
  rcases iterType_or x with e | e
  · rw [e]; exact Draws.strAscii hh it x t
  · rw [e]; exact Draws.strWide hh it x t
theorem turn_enumS {P : Program} {w : World} {K : PySem.W.Frag} {elts : List Expr} {kk : Nat} {tpos : Pos} (x : Str) (t : Tok) (e it : Addr) (hne : e ≠ it) :
    Turn P w K (.Tuple elts kk tpos) (IteS x) [e, it] e (fun i h => (∃ old, IsEnum h e it ((i : Nat) : Int) old) ∧ h.IsStrIter it (strIterType x) x t i) where
  mem := by simp
  obj := fun i h st b hb => by
    obtain ⟨⟨old, he⟩, ⟨o, ho, hc, hd⟩⟩ := st
    have e' : b = e ∨ b = it := by simpa using hb
    rcases e' with z | z
    · subst z; exact ⟨_, he, fun v q => nomatch q⟩
    · subst z; exact ⟨o, ho, fun v q => by rw [hd] at q; cases q⟩
  keep := fun i h h' st k => by
    obtain ⟨⟨old, he⟩, ⟨o, ho, r⟩⟩ := st
    exact ⟨⟨old, k e (by simp) _ he⟩, ⟨o, k it (by simp) o ho, r⟩⟩
  item := by
    intro X hP hw hK hc i pins s σ H E I hf st hg
    subst hP hw hK
    obtain ⟨⟨old, he⟩, hit⟩ := st
    have hel : e < s.heap.objs.size := Heap.lt_size he
    have hil : it < s.heap.objs.size := by obtain ⟨_, q, _⟩ := hit; exact Heap.lt_size q
    have hlt : i < x.cps.size := hg
    have D1 := drawsS (prog := X.prog) (w := X.w) (A := X.A.in1) (I.ok.hd hc) it x t
    refine wpAny_pyNext_enum_itemD D1 he hit hlt hne (by simpa using hne) fun v h' tk hv ho hit' hT hsz hk => ?_
    obtain ⟨c, u, hcx, rfl⟩ := hv
    refine ⟨_, rfl, wpAny_letOwnedTupleGo_enum (s := { s with heap := h', toks := tk + 1 }) ho fun h2 he2 sb => ?_⟩
    have hT2 : h2.get? s.heap.objs.size = some { cls := .type "tuple", data := .seq #[.int i tk, .str ⟨#[c]⟩ u] } := (sb.2 _ (Nat.ne_of_gt hel)).trans hT
    have new : ObjOk X.prog X.w (upd H s.heap.objs.size (.tup [.int (i : Nat), .str ⟨#[c]⟩])) h2 s.heap.objs.size (.tup [.int (i : Nat), .str ⟨#[c]⟩]) :=
      ⟨by show 2 ≤ sizeLine; decide, [.int i tk, .str ⟨#[c]⟩ u], .cons ⟨_, rfl⟩ (.cons ⟨_, rfl⟩ .nil), ⟨_, hT2, rfl, _, rfl⟩⟩
    have J : Inv X pins σ (upd H s.heap.objs.size (.tup [.int (i : Nat), .str ⟨#[c]⟩])) { s with heap := h2, toks := tk + 1 } :=
      I.turnedNew (ch := [e, it]) (fun b ob hb q => by
        have hb1 : b ≠ e := fun z => hb (by simp [z])
        have hb2 : b ≠ it := fun z => hb (by simp [z])
        exact (sb.2 b hb1).trans (hk b ob hb1 hb2 q)) hf (Nat.le_refl _) new
    refine ⟨.ref s.heap.objs.size, _, J, rfl, ⟨_, c, rfl, I.hok.fresh (Nat.le_refl _), hcx, rfl⟩, ⟨⟨.str ⟨#[c]⟩ u, ?_⟩, ?_⟩, fun b hb => ?_⟩
    · have e1 : ((i + 1 : Nat) : Int) = (i : Int) + 1 := by omega
      rw [e1]; exact he2
    · obtain ⟨o, q, r⟩ := hit'
      exact ⟨o, (sb.2 it (Ne.symm hne)).trans q, r⟩
    · have hlt : b < s.heap.objs.size := by
        have e' : b = e ∨ b = it := by simpa using hb
        rcases e' with z | z
        · subst z; exact hel
        · subst z; exact hil
      rw [upd_ne (Nat.ne_of_lt hlt)]
      exact (hf b hb).1
  done := by
    intro X hP hw hK hc i pins s σ H E I hf st hg
    subst hP hw hK
    obtain ⟨⟨old, he⟩, hit⟩ := st
    have hz : x.cps.size ≤ i := hg
    obtain ⟨f0, f1, f2, f3, f4, f5⟩ := hf it (by simp)
    by_cases q : i = x.cps.size
    · subst q
      have D1 := drawsS (prog := X.prog) (w := X.w) (A := X.A.in1) (I.ok.hd hc) it x t
      exact wpAny_pyNext_enum_endD D1 he hit fun h' eb => ⟨rfl, I.turned (t' := s.toks) (fun b o hb q => eb b o hb q) f0 f1 f3 f4 f5⟩
    · -- the iterator stands nowhere beyond its end
      have D2 : Draws X.prog X.w X.A.in1 it [it] i (fun _ _ => False) (fun j h => j = i ∧ h.IsStrIter it (strIterType x) x t i) :=
        ⟨fun _ _ st => by obtain ⟨_, o, ho, _⟩ := st; exact ⟨o, ho⟩, fun _ _ _ st hk => by
          obtain ⟨z, o, ho, r⟩ := st
          exact ⟨z, o, hk it (by simp) o ho, r⟩, fun j s Q E hj st _ => absurd st.1 (Nat.ne_of_lt hj), fun s Q E st hE => by
          have hx : x.cps[i]? = none := Array.getElem?_eq_none hz
          obtain ⟨_, st⟩ := st
          rcases iterType_or x with e | e
          · rw [e] at st; exact wpAny_nextOf_ascii_end (I.ok.hd hc) st hx hE
          · rw [e] at st; exact wpAny_nextOf_wide_end (I.ok.hd hc) st hx hE⟩
      exact wpAny_pyNext_enum_endD D2 he ⟨rfl, hit⟩ fun h' eb => ⟨rfl, I.turned (t' := s.toks) (fun b o hb q => eb b o hb q) f0 f1 f3 f4 f5⟩
  self := fun A i s Q E st h => by
    obtain ⟨⟨_, he⟩, _⟩ := st
    exact wpAny_pyIter_enum he h
def iEnumS (ta : TA) : TI := fun σ H R => ta σ H fun vs H1 => ∃ x, vs = [.str x] ∧ R (IteS x) H1
theorem pi_enumS {X : Cx} {e : Expr} {ta : TA} {p pos tpos : Pos} {elts : List Expr} {kk : Nat} (hg : Gl X "enumerate") (hm : X.mg "enumerate" = none) (ha : PA X [e] ta) (hs : starEach [e] X.env = [(false, eval e X.env)] := by rfl) :
    PI X (.Tuple elts kk tpos) (.Call (.Name "enumerate" p) [e] [] pos) (iEnumS ta) := by
  refine ⟨fun pins s σ H R I h => ?_⟩
  refine Call_ (ld_blt I hg hm boot_enumerate (PyProof.Rows.callWith_type1 (thn (ha.run pos pins s σ H _ I h) fun us s1 ⟨vs, H1, I1, r1, q1⟩ => ?_) hs rfl))
  obtain ⟨x, rfl, q⟩ := q1
  obtain ⟨u, rfl, t, rfl⟩ := vals1 r1
  refine call_enumerate_str fun h' he hit hsz hk => wpAny_pyIter_enum he ?_
  have J : Inv X pins σ H1 { s1 with heap := h' } := I1.kept (t' := s1.toks) hk
  refine ⟨s1.heap.objs.size + 1, [s1.heap.objs.size + 1, s1.heap.objs.size], _, _, H1, rfl, J, turn_enumS x t _ _ (Nat.succ_ne_self _), ⟨⟨.none, he⟩, hit⟩, fun b hb => ?_, q⟩
  have hle : s1.heap.objs.size ≤ b := by
    have e' : b = s1.heap.objs.size + 1 ∨ b = s1.heap.objs.size := by simpa using hb
    rcases e' with z | z
    · rw [z]; exact Nat.le_succ _
    · rw [z]; exact Nat.le_refl _
  exact I1.fpOk hle (I1.hok.fresh hle)
/-- the reading of such a for -/
theorem for_enumS {x : Str} {g : TG} {tb : TS} {D : Ends} {σ : L2.St} {H : Hp} (Pv : Nat → L2.St → Hp → Prop) (h0 : Pv 0 σ H)
    (hs : ∀ i c T σ H, x.cps[i]? = some c → H T = none → Pv i σ H → g (.ref T) σ (upd H T (.tup [.int (i : Nat), .str ⟨#[c]⟩])) fun σ2 H2 => tb { D with nx := Pv (i + 1), ct := Pv (i + 1), bk := D.nx } σ2 H2)
    (hd : ∀ σ H, Pv x.cps.size σ H → D.nx σ H) :
    ∃ W : Nat → Nat → L2.St → Hp → Prop, (∃ m, W 0 m σ H) ∧ ∀ i m σ H, W i m σ H →
      ((IteS x).stop i H ∧ D.nx σ H) ∨ ((IteS x).go i H ∧ ∃ N : L2.St → Hp → Prop, (∀ σ' H', N σ' H' → ∃ m', m' < m ∧ W (i + 1) m' σ' H') ∧ ∀ v H', (IteS x).yld i H v H' → g v σ H' fun σ2 H2 => tb { D with nx := N, ct := N, bk := D.nx } σ2 H2) := by
  refine ⟨fun i m σ H => m = x.cps.size - i ∧ i ≤ x.cps.size ∧ Pv i σ H, ⟨_, rfl, Nat.zero_le _, h0⟩, ?_⟩
  rintro i m σ H ⟨rfl, hi, pv⟩
  by_cases hlt : i < x.cps.size
  · refine .inr ⟨hlt, Pv (i + 1), fun σ' H' p' => ⟨_, by omega, rfl, hlt, p'⟩, fun v H' y => ?_⟩
    obtain ⟨T, c, rfl, hT, hc, rfl⟩ := y
    exact hs i c T σ H hc hT pv
  · have e : i = x.cps.size := by omega
    subst e
    exact .inl ⟨Nat.le_refl _, hd σ H pv⟩
/-- a comprehension over range(a, b, c) -/
theorem lc_rangeC {lo c : Int} {n : Nat} {g : TG} {tt : TT} {te : TE} {vs : List Nat} {σ : L2.St} {H1 : Hp} {D : Addr} {Qd : Hp → Prop} (Pv : Nat → Hp → Prop) (h0 : Pv 0 (upd H1 D (.lst [])))
    (hs : ∀ i H, i < n → Pv i H → g (.int (lo + (i : Nat) * c)) (wipe σ vs) H fun σ2 H2 => wipe σ2 vs = wipe σ vs ∧ tt σ2 H2 fun b H3 =>
      if b = true then te σ2 H3 fun y H4 => ∃ acc, H4 D = some (.lst acc) ∧ acc.length < sizeLine ∧ Pv (i + 1) (upd H4 D (.lst (acc ++ [y]))) else Pv (i + 1) H3) (hd : ∀ H, Pv n H → Qd H) :
    ∃ W : Nat → Nat → Hp → Prop, (∃ m, W 0 m (upd H1 D (.lst []))) ∧ ∀ i m H, W i m H →
      ((Itc lo c n).stop i H ∧ Qd H) ∨ ((Itc lo c n).go i H ∧ ∃ Nx : Hp → Prop, (∀ H', Nx H' → ∃ m', m' < m ∧ W (i + 1) m' H') ∧ ∀ x H', (Itc lo c n).yld i H x H' → g x (wipe σ vs) H' fun σ2 H2 => wipe σ2 vs = wipe σ vs ∧ tt σ2 H2 fun b H3 =>
        if b = true then te σ2 H3 fun y H4 => ∃ acc, H4 D = some (.lst acc) ∧ acc.length < sizeLine ∧ Nx (upd H4 D (.lst (acc ++ [y]))) else Nx H3) := by
  refine ⟨fun i m H => m = n - i ∧ i ≤ n ∧ Pv i H, ⟨_, rfl, Nat.zero_le _, h0⟩, ?_⟩
  rintro i m H ⟨rfl, hi, pw⟩
  by_cases hlt : i < n
  · refine .inr ⟨hlt, Pv (i + 1), fun H' p' => ⟨_, by omega, rfl, hlt, p'⟩, fun x H' y => ?_⟩
    obtain ⟨e, y⟩ := y
    subst e y
    exact hs i _ hlt pw
  · have e : i = n := by omega
    subst e
    exact .inl ⟨Nat.le_refl _, hd H pw⟩
theorem small_up {a b c : Int} (ha : -(2 ^ 61) ≤ a) (ha' : a < 2 ^ 61) (hb : -(2 ^ 61) ≤ b) (hb' : b < 2 ^ 61) (hc : 0 < c) (hc' : c < 1073741824) : Builtin.Range.small a b c = true := by
  have h1 : a < b → 0 ≤ (b - a - 1) / c ∧ (b - a - 1) / c ≤ b - a - 1 := fun h => ⟨Int.ediv_nonneg (by omega) (by omega), Int.ediv_le_self _ (by omega)⟩
  unfold Builtin.Range.small Builtin.Range.rangeSize
  simp only [Builtin.Range.rangeFitsLong, Bool.and_eq_true, Bool.or_eq_true, decide_eq_true_eq, beq_iff_eq, gt_iff_lt, if_pos hc]
  by_cases h : a < b
  · have := h1 h
    simp only [if_pos h]
    omega
  · simp only [if_neg h]
    omega
/-- t[i:j] -/
theorem slice_S (a : List Nat) (i j : Nat) : Txt.slice (SX.S a) (some (i : Int)) (some (j : Int)) = SX.S ((a.drop i).take (j - i)) := by
  rw [← C8.cutS_slice]
  apply TL.ext_tl
  show (a.drop (HT.sIx (SX.S a).length 0 (some (i : Int)))).take (HT.sIx (SX.S a).length (SX.S a).length (some (j : Int)) - HT.sIx (SX.S a).length 0 (some (i : Int))) = (a.drop i).take (j - i)
  rw [HT.sIx_nat, HT.sIx_nat, SX.S_len]
  by_cases hi : i ≤ a.length
  · rw [Nat.min_eq_left hi]
    by_cases hj : j ≤ a.length
    · rw [Nat.min_eq_left hj]
    · rw [Nat.min_eq_right (by omega), List.take_of_length_le (by rw [List.length_drop]; omega), List.take_of_length_le (by rw [List.length_drop]; omega)]
  · rw [List.drop_eq_nil_of_le (show a.length ≤ min i a.length by omega), List.drop_eq_nil_of_le (show a.length ≤ i by omega), List.take_nil, List.take_nil]
end Fw

namespace Fw
open PySem PySem.Spec PyProof.Rows L2
/-! ### defs called where no repr is under way -/
/-- FnOk, where the caller knows that no repr is under way -/
structure FnG (P : Program) (w : World) (K : PySem.W.Frag) (mg : Str → Option Value) (base : Heap) (CX : CXT) (k : Nat) (f : Addr) (fd : FuncData) (ps : List Str) (sp : Sp) : Prop where
  len : ∀ vs H Q E, sp vs H Q E → vs.length = ps.length
  run : ∀ (A : Around) (outer : List Env) (s : Shared) (H : Hp) (args : Args) (us : List Value) (vs : List V) (Q : VK) (E : XK), A.guards = some [] → Room k A → Env0 P w K mg base A outer s H →
    BindsTo s fd args (ps.zip us) → Vals vs us → sp vs H Q E → codeAny (model P w) A (.call (.ref f) args) (CR CX outer P w H s Q E) s
section
variable {P : Program} {w : World} {K : PySem.W.Frag} {mg : Str → Option Value} {base : Heap} {CX : CXT} {k : Nat} {f : Addr} {fd : FuncData} {ps : List Str} {sp : Sp}
theorem FnG.of (F : FnOk P w K mg base CX k f fd ps sp) : FnG P w K mg base CX k f fd ps sp := ⟨F.len, fun A outer s H args us vs Q E _ => F.run A outer s H args us vs Q E⟩
theorem FnG.mono {j : Nat} (F : FnG P w K mg base CX j f fd ps sp) (h : j ≤ k) : FnG P w K mg base CX k f fd ps sp :=
  ⟨F.len, fun A outer s H args us vs Q E g hr => F.run A outer s H args us vs Q E g (hr.mono h)⟩
/-- the rule for a def's body -/
theorem fnG {x qual : Str} {params : Arguments} {body : List Stmt} {scope : Scope} {dvs : List V} {kws : List (Str × V)} {N : List Str} (F : FunD K x qual params body scope dvs kws f fd) (S : FnScope N ps scope)
    (len : ∀ vs H Q E, sp vs H Q E → vs.length = ps.length)
    (hb : ∀ (cdv : Value) (A : Around) (outer : List Env) (s : Shared) (H : Hp) (vs : List V) (Q : VK) (E : XK), A.guards = some [] → Room k (A.deeper (envOfC qual scope s.heap.objs.size f cdv)) → sp vs H Q E →
      ∃ t, PSs (cxOf CX P w K mg base N qual scope f cdv A outer s H E) body t ∧ t { nx := fun _ H' => Q .non H', rt := Q } (start N vs) H) : FnG P w K mg base CX (k + 1) f fd ps sp := by
  obtain ⟨oc, od, dV, kV, doc, pm, an, cdv, ct, osl, rfl, lk, hcd, _, _⟩ := F.ex
  refine ⟨len, ?_⟩
  intro A outer s H args us vs Q E hg hr e0 bt rv hsp
  have stay : ∀ b o, base.get? b = some o → s.heap.get? b = some o := fun b o e => (e0.bs b o e).1
  have KX : K.In s.heap := e0.mod.kin.keeps stay
  have lim : s.heap.NoLimit := e0.mod.nolimit.keeps stay
  refine codeAny_call_function hr.depth (KX _ _ lk) rfl S.co S.gen rfl (PySem.W.codeRec_of KX hcd) (bt _ _ _ _ ?_)
  refine wpAny_newFunctionEnv_cells S.kind (fun y hy => ?_) fun env he s1 ic => ?_
  · rcases S.par y.1 (List.of_mem_zip hy).1 with q | q
    · exact Or.inl q
    · exact Or.inr ⟨q, PySem.W.cellsFrom_some _ _ _ (Or.inl q)⟩
  subst he
  refine ⟨lim.keeps ic.toInCall.keep, codeAny_func ?_⟩
  obtain ⟨t, ht, hq⟩ := hb cdv A outer s H vs Q E hg (hr.deeper _) hsp
  have J := inv_start (CX := CX) (N := N) (qual := qual) (f := f) (cd := cdv) (E := E) S hr.hd e0 (len _ _ _ _ hsp) rv ic
  refine wpAny_mono (ht.run [] s1 (start N vs) H _ J hq) (fun fl s' z => ?_) fun _ _ z => z
  cases fl with
  | ret u =>
    obtain ⟨v, _, H', J', r', q'⟩ := z
    exact ⟨v, H', J'.os, J'.bare, J'.base, J'.hok, r', q'⟩
  | next =>
    obtain ⟨_, H', J', q'⟩ := z
    exact ⟨.non, H', J'.os, J'.bare, J'.base, J'.hok, rfl, q'⟩
  | brk =>
    obtain ⟨_, _, _, q'⟩ := z
    exact q'.elim
  | cont =>
    obtain ⟨_, _, _, q'⟩ := z
    exact q'.elim
end
/-- such a def by its name -/
structure Dg (P : Program) (w : World) (K : PySem.W.Frag) (mg : Str → Option Value) (base : Heap) (CX : CXT) (k : Nat) (x : Str) (ps : List Str) (dvs : List V) (sp : Sp) : Prop where
  ex : ∃ (f : Addr) (fd : FuncData) (ds : List Value), FnG P w K mg base CX k f fd ps sp ∧ mg x = some (.ref f) ∧ PySem.W.keepIn K (.ref f) = true ∧ Binds K fd ps ds ∧ Vals dvs ds
section
variable {X : Cx} {k : Nat} {x : Str} {ps : List Str} {dvs : List V} {sp : Sp} {p pos : Pos} {e : Expr} {es : List Expr} {t : TA}
theorem run_g {CX : CXT} {E : XK} {f : Addr} {fd : FuncData} {ds : List Value} {pins : List (Addr × Obj)} {σ : L2.St} {H : Hp} {s : Shared} {Q : VK} {us : List Value} {vs : List V} (F : FnG X.prog X.w X.K X.mg X.base CX k f fd ps sp) (hg : X.A.guards = some []) (hr : Room k X.A)
    (hb : Binds X.K fd ps ds) (hd : Vals dvs ds) (hx : Passes CX X E) (I : Inv X pins σ H s) (r : Vals vs us) (h : sp (vs ++ dvs) H Q E) : wpAny (model X.prog X.w) X.A (call (.ref f) us) (EP X pins σ Q) X.xe s := by
  have rr := r.append hd
  have hl : (us ++ ds).length = ps.length := rr.length.symm.trans (F.len _ _ _ _ h)
  refine wpAny_call (codeAny_mono (F.run X.A X.stack s H ⟨us, []⟩ (us ++ ds) (vs ++ dvs) Q E hg hr I.env0 (hb s us I.kIn hl) rr h) fun r s' z => ?_)
  rcases r with e | (_ | _ | _ | _)
  · exact hx pins σ H s e s' I z
  all_goals first | exact I.after z | exact False.elim z
theorem pe_dg (D : Dg X.prog X.w X.K X.mg X.base CX0 k x ps dvs sp) (gd : X.A.guards = some []) (hr : Room k X.A) (hg : Gl X x) (ha : PA X (e :: es) t)
    (hdb : (x == ("__debug__" : Str)) = false := by decide) (he : starEach (e :: es) X.env = (false, eval e X.env) :: starEach es X.env := by rfl)
    (hpl : (backTo pos (starEach es X.env)).any (·.1) = false := by rfl) : PE X (.Call (.Name x p) (e :: es) [] pos) (tCall sp dvs E0 t) := by
  obtain ⟨f, fd, ds, F, hm, hk, hb, hd⟩ := D.ex
  refine ⟨fun pins s σ H Q I h => wpAny_Call_Name_kw (ld_glob I hg hm ?_ hdb)⟩
  refine PySem.W.callWith_K (h₀ := X.base) I.ok.mod.kin hk (thn (ha.run pos pins s σ H _ I h) fun us s1 z => ?_) he hpl
  obtain ⟨vs, H1, I1, r, q⟩ := z
  exact ⟨I1.kIn, run_g F gd hr hb hd pass0 I1 r q⟩
end
/-- the script as it is tracked: what K does not hold -/
def scriptH (K : PySem.W.Frag) (a : Addr) (o : Obj) (ns : List Int) : Hp := fun b => if b = a ∧ K.lookup a = none then some (.frz o (.lst (ns.map V.int))) else none
theorem law_g {P : Program} {w : World} {K : PySem.W.Frag} {mg mb : Str → Option Value} {k : Nat} {fa a : Addr} {fd : FuncData} {x : Str} {sp : Sp} {s1 : Shared} {vs : List Value} {ns : List Int}
    (KX : K.In s1.heap) (hns : s1.heap.Ns mainGlobals mg) (hb : s1.heap.Ns builtinsNs mb) (hbb : ∀ x : Str, x ≠ "__name__" → mb x = bootBuiltins x) (hlim : s1.heap.NoLimit) (hg : s1.gens = #[])
    (ha : s1.heap.get? a = some { cls := .type "list", data := .seq vs.toArray }) (hi : IntsAre vs ns) (hl : ns.length ≤ sizeLine) (hr : Room k callerA)
    (F : ∀ base : Heap, K.In base → base.Ns mainGlobals mg → FnG P w K mg base CX0 k fa fd [x] sp) (hbind : ∀ (s : Shared) (u : Value), BindsTo s fd ⟨[u], []⟩ [(x, u)])
    (hsp : ∀ H : Hp, Only H → SqL K H a (ns.map V.int) → sp [.ref a] H (fun v _ => v = .bl true) fun _ _ _ => False) :
    codeAny (model P w) callerA (.call (.ref fa) ⟨[.ref a], []⟩) (fun r s' => r = .ok (.ret (.bool true)) ∧ OldK s1.heap s'.heap ∧ s'.os = s1.os ∧ AllBare s'.gens) s1 := by
  have rv := vals_ints hi
  generalize ho : ({ cls := .type "list", data := .seq vs.toArray } : Obj) = o at ha
  generalize hH : scriptH K a o ns = H
  have only : ∀ b, H b = none ∨ (b = a ∧ K.lookup a = none ∧ H b = some (.frz o (.lst (ns.map V.int)))) := fun b => by
    rw [← hH]
    unfold scriptH
    by_cases c : b = a ∧ K.lookup a = none
    · rw [if_pos c]; exact Or.inr ⟨c.1, c.2, rfl⟩
    · rw [if_neg c]; exact Or.inl rfl
  have hO : Only H := fun b => by
    rcases only b with z | ⟨_, _, z⟩
    · exact Or.inl z
    · exact Or.inr ⟨_, _, z⟩
  have hS : SqL K H a (ns.map V.int) := by
    cases q : K.lookup a with
    | none => exact Or.inl (Or.inr ⟨o, by rw [← hH]; unfold scriptH; rw [if_pos ⟨rfl, q⟩]⟩)
    | some ob =>
      have e := KX a ob q
      rw [ha] at e
      cases e
      subst ho
      exact Or.inr ⟨_, vs.toArray, _, q, rfl, rfl, rfl, by rw [List.size_toArray, hi.length]; exact hl, by simpa using rv⟩
  have hok : HOk P w H s1.heap := fun b u e => by
    rcases only b with z | ⟨rfl, _, z⟩
    · rw [z] at e; cases e
    · rw [z] at e
      cases e
      exact ⟨ha, by rw [List.length_map]; exact hl, vs, _, rv, by rw [ha, ← ho]⟩
  have up : ∀ {b : Addr} {u : Obj}, s1.heap.get? b = some u → H b = none → (hidT s1.heap H).get? b = some u := fun e n => hidT_get e n
  have dictFree : ∀ {b : Addr} {u : Obj} {es : Array DictEntry} {ep : Nat}, s1.heap.get? b = some u → u.data = .dict es ep → H b = none := fun {b u es ep} e d => by
    rcases only b with z | ⟨rfl, _, _⟩
    · exact z
    · rw [ha] at e
      cases e
      rw [← ho] at d
      exact absurd d (by intro z; cases z)
  have ns1 : ∀ {b : Addr} {m : Str → Option Value}, s1.heap.Ns b m → (hidT s1.heap H).Ns b m := fun {b m} z => by
    obtain ⟨u, es, ep, e, d, r⟩ := z
    exact ⟨u, es, ep, up e (dictFree e d), d, r⟩
  have KB : K.In (hidT s1.heap H) := fun b u e => up (KX b u e) (by
    rcases only b with z | ⟨rfl, q, _⟩
    · exact z
    · rw [q] at e; cases e)
  obtain ⟨mc, l1, l2⟩ := hlim
  have e0 : Env0 P w K mg (hidT s1.heap H) callerA [] s1 H :=
    ⟨rfl, ⟨KB, ns1 hns, ⟨mb, ns1 hb, hbb⟩, ⟨mc, ns1 l1, l2⟩⟩, fun b u e => of_hidT e, Nat.le_of_eq (hidT_size _ _), trivial, fun b hm => absurd (show b ∈ ([] : List Addr) from hm) (by simp), hok, .of_eq hg⟩
  refine codeAny_mono ((F _ KB (ns1 hns)).run callerA [] s1 H ⟨[.ref a], []⟩ [.ref a] [.ref a] _ _ rfl hr e0 (hbind s1 (.ref a)) (.cons rfl .nil) (hsp H hO hS)) fun r s' z => ?_
  rcases r with e | (_ | _ | _ | u)
  · exact False.elim z
  all_goals first | exact False.elim z | skip
  obtain ⟨v, H', os, bare, un, hok', r', q⟩ := z
  have q' : v = .bl true := q
  subst q'
  obtain rfl : _ = Value.bool true := r'
  refine ⟨rfl, OldK.of_keep fun b ob e => ?_, os, bare⟩
  rcases only b with z | ⟨rfl, _, z⟩
  · exact un.keep b ob e z (fun hm => absurd (show b ∈ ([] : List Addr) from hm) (by simp)) (by simp)
  · have z2 := hok' b _ (un.frzs b o _ z)
    rw [ha] at e
    cases e
    exact z2.1
theorem walk_g {l : PySem.W.OpenLaw} {n k : Nat} {q : Program} {loose : List Str} {XP : (Str → Option Value) → Heap → Prop} {YP : World → Heap → Prop} {d : DefRec} {x : Str}
    (hn : l.most = some n) (hn2 : n ≤ sizeLine) (hdf : d.params.defaults = []) (hr : Room k callerA)
    (F : ∀ (w : World) (mg : Str → Option Value) (fa : Addr) (h : Heap), YP w h → h.Ns mainGlobals mg → mg d.name = some (.ref fa) →
      ∃ (K : PySem.W.Frag) (fd : FuncData) (sp : Sp), K.In h ∧ (∀ (s : Shared) (u : Value), BindsTo s fd ⟨[u], []⟩ [(x, u)]) ∧
        (∀ (H : Hp) (a : Addr) (ns : List Int), ns.length ≤ n → Only H → SqL K H a (ns.map V.int) → sp [.ref a] H (fun v _ => v = .bl true) fun _ _ _ => False) ∧
        ∀ base : Heap, K.In base → base.Ns mainGlobals mg → FnG l.prog w K mg base CX0 k fa fd [x] sp) :
    PySem.W.WalkO q loose XP YP l.row.toRowW d [] (fun f vs => PySem.call f vs) := by
  refine Att.attach_call hn hdf ?_
  intro w s0 s1 mg mb fa o pm cd doc a vs ns G Y ho hd hcd hmg hobj hints hlen hg
  obtain ⟨K, fd, sp, KX, hb, hsp, hF⟩ := F w mg fa _ Y G.T.g hmg
  exact law_g KX G.T.g G.T.b G.T.builtins G.T.nolimit hg hobj hints (Nat.le_trans hlen hn2) hr hF hb fun H hO hS => hsp H a ns hlen hO hS
/-! ### repr of data -/
theorem call_reprD {X : Cx} (hg : X.A.guards = some []) (hu : X.A.units + 64 < cLine) : CallR X (.builtin "repr")
    (fun xs H Q => ∃ (v : V) (d : PyData), xs = [v] ∧ Dp X.K H v d ∧ d.showable = true ∧ d.hasDict = false ∧ d.depth ≤ 60 ∧ d.shown.length ≤ sizeLine ∧ Q (.str d.shown) H) := by
  intro pins s σ H xs us Q I r h
  obtain ⟨v, d, rfl, hd, hs, hn, hdp, hz, q⟩ := h
  obtain ⟨u, rfl, ru⟩ := vals1 r
  obtain ⟨as, rd⟩ := Dp.reads I d v u hd ru
  cases hd with
  | non =>
    cases ru
    exact PySem.P.repr_of_none ⟨.str _, H, I.tok _, ⟨_, rfl⟩, q⟩
  | bl b =>
    cases ru
    exact PySem.P.repr_of_bool ⟨.str _, H, I.tok _, ⟨_, rfl⟩, q⟩
  | int i =>
    obtain ⟨t, rfl⟩ := ru
    exact PySem.P.repr_of_int (of_decide_eq_true hs) ⟨.str _, H, I.tok _, ⟨_, rfl⟩, q⟩
  | str x =>
    obtain ⟨t, rfl⟩ := ru
    exact PySem.P.repr_of_str ⟨.str _, H, I.tok _, ⟨_, rfl⟩, q⟩ hz
  | lst h1 h2 =>
    cases ru
    exact repr_of_reads' rd hs (fun z => by rw [hn] at z; cases z) hg (by omega) (fun _ _ z => z) (fun h' u tk k => ⟨.str _, H, I.kept (t' := tk) k, ⟨_, rfl⟩, q⟩) hz
  | tup h1 h2 =>
    cases ru
    exact repr_of_reads' rd hs (fun z => by rw [hn] at z; cases z) hg (by omega) (fun _ _ z => z) (fun h' u tk k => ⟨.str _, H, I.kept (t' := tk) k, ⟨_, rfl⟩, q⟩) hz
end Fw

namespace Fw
open PySem PySem.Spec PyProof.Rows L2
/-! ### an exception that was caught and is kept -/
/-- at a: an exception of the class cls, its dict at d -/
def ExK (a : Addr) (cls : Value) (d : Option Addr) : HO := .ext fun h => ∃ (oe : Obj) (vs : Array Value), h.get? a = some oe ∧ Zc cls d oe ∧ oe.data = .fields vs
theorem exK_ok {P : Program} {w : World} {H : Hp} {h : Heap} {a : Addr} {cls : Value} {d : Option Addr} {oe : Obj} {vs : Array Value} (e : h.get? a = some oe) (z : Zc cls d oe) (q : oe.data = .fields vs) : ObjOk P w H h a (ExK a cls d) :=
  ⟨⟨oe, vs, e, z, q⟩, ⟨oe, e⟩, fun _ _ y k => by
    obtain ⟨o, v, y1, y2⟩ := y
    exact ⟨o, v, k o y1, y2⟩⟩
theorem exK_at {P : Program} {w : World} {H : Hp} {h : Heap} {a : Addr} {cls : Value} {d : Option Addr} (hok : HOk P w H h) (e : H a = some (ExK a cls d)) : ∃ (oe : Obj) (vs : Array Value), h.get? a = some oe ∧ Zc cls d oe ∧ oe.data = .fields vs := by
  have x : ObjOk P w H h a (.ext fun h => ∃ (oe : Obj) (vs : Array Value), h.get? a = some oe ∧ Zc cls d oe ∧ oe.data = .fields vs) := hok a _ e
  exact x.1
section
variable {X : Cx} {pins : List (Addr × Obj)} {σ : L2.St} {H : Hp} {s : Shared}
/-- an object that came since the entry and is not tracked is tracked from now on -/
theorem track {a : Addr} {oe : Obj} {o : HO} (I : Inv X pins σ H s) (ha : s.heap.get? a = some oe) (hn : H a = none) (h0 : X.s_0.heap.get? a = none) (nL : a ≠ X.env.locals) (nC : ∀ v, oe.data ≠ .cell v) (nP : ∀ p ∈ X.pn ++ pins, p.1 ≠ a)
    (ok : ObjOk X.prog X.w (upd H a o) s.heap a o) : Inv X pins σ (upd H a o) s := by
  have old : ∀ {b : Addr} {ob : Obj}, X.s_0.heap.get? b = some ob → b ≠ a := fun {b ob} e z => by
    rw [z, h0] at e; cases e
  have oldH : ∀ {b : Addr} {u : HO}, H b = some u → b ≠ a := fun {b u} e => ne_of_none e hn
  refine ⟨I.ok, I.os, I.bare, ⟨I.base.keep, I.base.slot, fun b ob e n x => ?_, I.base.there, fun b xs e => ?_, fun b ob u e => ?_, fun b ps e => ?_⟩, I.loc, I.cell, ?_, fun x c e => ?_, fun p hp => ?_, fun b u e => ?_, I.len⟩
  · rw [upd_ne (old e)]; exact I.base.free b ob e n x
  · have q := I.base.tups b xs e
    rw [upd_ne (oldH q)]; exact q
  · have q := I.base.frzs b ob u e
    rw [upd_ne (oldH q)]; exact q
  · obtain ⟨more, q⟩ := I.base.tbls b ps e
    exact ⟨more, by rw [upd_ne (oldH q)]; exact q⟩
  · rw [upd_ne (Ne.symm nL)]; exact I.free
  · have : c ≠ a := fun z => by
      obtain ⟨v, q⟩ := I.cell x c e
      obtain ⟨oc, q1, q2⟩ := q
      rw [z, ha] at q1
      cases q1
      exact nC _ q2
    rw [upd_ne this]; exact I.freeC x c e
  · obtain ⟨p1, p2, p3⟩ := I.pin p hp
    exact ⟨p1, by rw [upd_ne (nP p hp)]; exact p2, p3⟩
  · by_cases hb : b = a
    · subst hb
      rw [upd_same] at e
      cases e
      exact ok
    · rw [upd_ne hb] at e
      exact (I.hok b u e).stay (fun _ _ _ q => q) (fun c q => by rw [upd_ne (oldH q)]; exact q) fun c xs q => by rw [upd_ne (oldH q)]; exact q
end
/-- what «except x as n» wishes of an exception of the body, where it is kept behind the suite -/
def wKeep (K : PySem.W.Frag) (c : Value) (i : Nat) (ts : Addr → Value → Option Addr → TS) (Wout : WX) (D : Ends) : WX := fun cls d σ H =>
  ∃ b, PySem.W.exmOne K cls c = some b ∧ (b = true → ∀ a, H a = none → ts a cls d { nx := fun σ' H' => D.nx (σ'.set i none) (upd H' a (ExK a cls d)), rt := D.rt, bk := fun σ' H' => D.bk (σ'.set i none) H', ct := fun σ' H' => D.ct (σ'.set i none) H' } (σ.set i (some (.ref a))) H) ∧
    (b = false → Wout cls d σ H)
section
variable {X : Cx} {x n : Str} {c : Value} {i : Nat} {body suite : List Stmt} {b₀ : Stmt} {np pos pos' : Pos} {tb : WX → TS} {ts : Addr → Value → Option Addr → TS} {Wout : WX}
/-- try: body, except x as n: suite; the exception stands, tracked, behind it -/
theorem ps_try_keep (hs : X.stack = X.env :: X.outer) (hf : X.env.frame = some X.env.locals) (hex : X.ex = []) (hN : X.N.Nodup) (hi : X.N[i]? = some n) (hln : X.env.kindOf n = some .local) (hc : Names X x c) (tk : Takes X Wout)
    (hb : ∀ (W : WX) (pn : List (Addr × Obj)) (xe : Value → Shared → Prop), Takes (X.tr pn xe) W → PassesOwn (model X.prog X.w) X.A X.env xe → PSs (X.tr pn xe) body (tb W))
    (hsu : ∀ (a : Addr) (oe : Obj) (cls : Value) (d : Option Addr) (pn : List (Addr × Obj)), Zc cls d oe → (∃ vs, oe.data = .fields vs) → PSs (X.suite a ((a, oe) :: pn)) (b₀ :: suite) (ts a cls d)) :
    PS X (.Try body [.ExceptHandler (some (.Name x np)) (some n) (b₀ :: suite) pos'] [] [] pos) (fun D σ H => tb (wKeep X.K c i ts Wout D) D σ H) := by
  refine ⟨?_⟩
  intro pins s σ H D I h
  have ok := I.ok
  have hfr : X.A.frames = some (X.env :: X.outer) := by rw [← hs]; exact ok.frames
  refine wpAny_Try_except ?_
  -- what is done with an exception of the body
  generalize hxe : (fun (e : Value) (s1 : Shared) => wpAny (model X.prog X.w) X.A (noteFrame e X.env) (fun _ s2 => wpAny (model X.prog X.w) X.A (setFlight e none) (fun _ s3 =>
    wpAny (model X.prog X.w) X.A (handleBy e X.env [.ExceptHandler (some (.Name x np)) (some n) (b₀ :: suite) pos']) (SP X pins D) X.xe s3) X.xe s2) X.xe s1) = xe
  have look : PassesOwn (model X.prog X.w) X.A X.env xe := by rw [← hxe]; exact PassesOwn.looking
  have caught : Takes (X.tr (X.pn ++ pins) xe) (wKeep X.K c i ts Wout D) := by
    intro u s' xx
    obtain ⟨a, B, sI, pins', σ', H', cls, d, rfl, J', nb, up, sky, na, os, ag, b, hb1, hyes, hno⟩ := xx
    have J : Inv X pins σ' H' sI := J'.ofTry ok
    have sky2 : Sky B (X.env :: X.outer) a (Zc cls d) X.env.locals s'.heap := hs ▸ sky
    show xe (.ref a) s'
    rw [← hxe]
    refine Sky.land Zc.steady hfr hf sky2 fun h3 fl3 up3 => ?_
    have J3 : Inv X pins σ' H' { s' with heap := h3 } := J.landed nb fl3.1 (up.trans up3) os ag
    obtain ⟨oe3, vs3, he3, hz3, hd3⟩ := fl3.there
    have nfr : a ∉ frs (X.env :: X.outer) := fun hm => by
      obtain ⟨_, o2, e2, hnf⟩ := fl3.2.2.1.mem hm
      rw [he3] at e2; cases e2
      exact hnf _ hd3
    have nL : a ≠ X.env.locals := fun z => nfr (List.mem_filterMap.mpr ⟨X.env, List.mem_cons_self, by rw [hf, z]⟩)
    have nF : a ∉ X.fs := fun hm => by
      obtain ⟨e, he, q⟩ := List.mem_filterMap.mp hm
      exact nfr (List.mem_filterMap.mpr ⟨e, List.mem_cons_of_mem _ he, q⟩)
    have noI : sI.heap.get? a = none := by
      cases q : sI.heap.get? a with
      | none => rfl
      | some o2 =>
        have z := nb a o2 q (by rw [hs]; exact nfr)
        rw [fl3.2.1] at z; cases z
    have no0 : X.s_0.heap.get? a = none := by
      cases q : X.s_0.heap.get? a with
      | none => rfl
      | some o2 =>
        obtain ⟨o3, z⟩ := J.base.there a o2 q (by rw [hex]; exact List.not_mem_nil)
        rw [noI] at z; cases z
    have noP : ∀ p ∈ X.pn ++ pins, p.1 ≠ a := fun p hp z => by
      have q := (J.pin p hp).1
      rw [z, noI] at q; cases q
    have S3 := J3.suite he3 hd3 na nL nF
    refine wpAny_handleBy_cons (codeAny_handlers_test ?_) (by intro q; cases q)
    have LT : PySem.W.Looks (model X.prog X.w) h3 (typeOf (.ref a)) cls := fun A Q E s k q => wpAny_typeOf_ref (k _ _ he3) (by rw [hz3.1]; exact q)
    have LM := PySem.W.exm_one (M := model X.prog X.w) J3.kIn LT hb1
    have test : ∀ {Q : Value → Shared → Prop} {E : Value → Shared → Prop}, Q c { s' with heap := h3 } → wpAny (model X.prog X.w) (X.A.mark (some (.ref a))) (eval (.Name x np) X.env) Q E { s' with heap := h3 } := by
      intro Q E q
      obtain ⟨hg, hdbg, hm | ⟨hm, hv, hnn⟩⟩ := hc
      · exact ld_glob (X := X.suite a ((a, oe3) :: (X.pn ++ pins))) S3 hg hm q hdbg
      · exact ld_blt (X := X.suite a ((a, oe3) :: (X.pn ++ pins))) S3 hg hm hv q hnn hdbg
    refine test (LM.here ?_)
    cases b with
    | false =>
      show wpAny _ X.A (handleBy (.ref a) X.env []) _ _ _
      refine wpAny_handleBy_nil ?_
      obtain ⟨k1, k2, k3, oe, vs, T, oT, ts', he, hz, hd, h1, hr⟩ := id fl3
      unfold PySem.passOn
      refine wpAny_bind (wpAny_field he hd h1 ?_)
      rw [if_neg (show ¬ ((Value.ref T == Value.none) = true) from by simp)]
      have fin : wpAny (model X.prog X.w) X.A (setFlight (.ref a) X.env.frame) (fun _ s4 => wpAny (model X.prog X.w) X.A (throw (.ref a) : Sem Flow) (SP X pins D) X.xe s4) X.xe { s' with heap := h3 } := by
        rw [hf]
        refine HandSPX.setFlight_upZ fl3 fun h4 hh4 up4 => wpAny_throw (tk _ _ ?_)
        exact ⟨a, B, sI, pins, σ', H', cls, d, rfl, J, nb, (up.trans up3).trans up4, .inr (.inr (by rw [hs]; exact hh4)), na, os, ag, hno rfl⟩
      first
        | exact wpAny_bind (wpAny_pure (wpAny_bind fin))
        | exact wpAny_bind fin
    | true =>
      refine codeAny_handlers_suite_as ?_
      refine HandSPX.lands_againZ fl3 fun h4 fl4 up4 => ?_
      have J4 : Inv X pins σ' H' { s' with heap := h4 } := J.landed nb fl4.1 ((up.trans up3).trans up4) os ag
      obtain ⟨oe4, vs4, he4, hz4, hd4⟩ := fl4.there
      have S4 := J4.suite he4 hd4 na nL nF
      refine store_ok (X := X.suite a ((a, oe4) :: (X.pn ++ pins))) (v := .ref a) S4 hN hi (.inl hln) rfl (fun s5 S5 => ?_) (.inr hln)
      refine wpAny_mono ((hsu a oe4 cls d (X.pn ++ pins) hz4 ⟨_, hd4⟩).run [] s5 _ H' _ S5 (hyes rfl a na)) (fun f s6 hsp => ?_) (fun _ _ z => False.elim z)
      have behind : ∀ {σ6 : L2.St} {H6 : Hp} {Q : Shared → Prop}, Inv X pins σ6 H6 s6 → (∀ s7, Inv X pins (σ6.set i none) H6 s7 → Q s7) →
          wpAny (model X.prog X.w) X.A (do bindName X.env n .none; unbindBehindTheSuite X.env n pos') (fun _ s7 => Q s7) X.xe s6 := fun {σ6 H6 Q} S6 hq => gone_ok S6 hN hi hln hq
      cases f with
      | next =>
        obtain ⟨σ6, H6, S6, q6⟩ := hsp
        obtain ⟨g1, g2, _⟩ := S6.pin (a, oe4) (List.mem_append_left _ List.mem_cons_self)
        have T6 := track (o := ExK a cls d) (S6.unsuite ok) g1 g2 no0 nL (fun v z => by rw [hd4] at z; cases z) noP (exK_ok g1 hz4 hd4)
        exact behind T6 fun s7 J7 => ⟨_, _, J7, q6⟩
      | brk =>
        obtain ⟨σ6, H6, S6, q6⟩ := hsp
        exact behind (S6.unsuite ok) fun s7 J7 => ⟨_, _, J7, q6⟩
      | cont =>
        obtain ⟨σ6, H6, S6, q6⟩ := hsp
        exact behind (S6.unsuite ok) fun s7 J7 => ⟨_, _, J7, q6⟩
      | ret u =>
        obtain ⟨v6, σ6, H6, S6, r6, q6⟩ := hsp
        exact behind (S6.unsuite ok) fun s7 J7 => ⟨_, _, _, J7, r6, q6⟩
  refine wpAny_mono ((hb _ (X.pn ++ pins) xe caught look).run [] s σ H D (I.toTry _) h) (fun f s1 z => ?_) (fun e s1 he => he)
  cases f with
  | next =>
    obtain ⟨σ', H', J', q⟩ := z
    exact wpAny_execs_nil ⟨σ', H', J'.ofTry ok, q⟩
  | brk =>
    obtain ⟨σ', H', J', q⟩ := z
    exact ⟨σ', H', J'.ofTry ok, q⟩
  | cont =>
    obtain ⟨σ', H', J', q⟩ := z
    exact ⟨σ', H', J'.ofTry ok, q⟩
  | ret u =>
    obtain ⟨v, σ', H', J', r, q⟩ := z
    exact ⟨v, σ', H', J'.ofTry ok, r, q⟩
end
/-! ### isinstance, fields of a kept exception -/
/-- what the class of an exception says -/
structure ExcK (K : PySem.W.Frag) (D : Addr) : Prop where
  hc : (PySem.W.clsIn K D).isSome = true
  hg : PySem.W.findIn K (.ref D) "__getattribute__" = some (some (.builtin "BaseException.__getattribute__"))
  hk : PySem.W.findIn K (.ref D) "__getattr__" = some none
  hs : PySem.W.subIn K (.ref D) (.type "BaseException") = some true
  hd : PySem.W.hasDictIn K D = true
  ha : PySem.W.findIn K (.ref D) "__class__" = some (some (.builtin "object.__class__"))
  hn : PySem.W.specialIn K (.builtin "object.__class__") "__get__" = some (some (.builtin "getset_descriptor.__get__"))
  ht : PySem.W.takesIn K (.builtin "object.__class__") = some true
  hm : PySem.W.mroIn K D (.type "object") = some true
def excKB (K : PySem.W.Frag) (D : Addr) : Bool :=
  (PySem.W.clsIn K D).isSome && decide (PySem.W.findIn K (.ref D) "__getattribute__" = some (some (.builtin "BaseException.__getattribute__"))) && decide (PySem.W.findIn K (.ref D) "__getattr__" = some none) &&
    decide (PySem.W.subIn K (.ref D) (.type "BaseException") = some true) && PySem.W.hasDictIn K D && decide (PySem.W.findIn K (.ref D) "__class__" = some (some (.builtin "object.__class__"))) &&
    decide (PySem.W.specialIn K (.builtin "object.__class__") "__get__" = some (some (.builtin "getset_descriptor.__get__"))) && decide (PySem.W.takesIn K (.builtin "object.__class__") = some true) && decide (PySem.W.mroIn K D (.type "object") = some true)
theorem excKB_ok {K : PySem.W.Frag} {D : Addr} (h : excKB K D = true) : ExcK K D := by
  unfold excKB at h
  simp only [Bool.and_eq_true, decide_eq_true_eq] at h
  obtain ⟨⟨⟨⟨⟨⟨⟨⟨h1, h2⟩, h3⟩, h4⟩, h5⟩, h6⟩, h7⟩, h8⟩, h9⟩ := h
  exact ⟨h1, h2, h3, h4, h5, h6, h7, h8, h9⟩
/-- the exception at a, of the class at D, its dict (if it has one) with the fields fs -/
def Kept (H : Hp) (a D : Addr) (d : Option Addr) (fs : List (Str × V)) : Prop := H a = some (ExK a (.ref D) d) ∧ ((d = none ∧ fs = []) ∨ ∃ dd, d = some dd ∧ H dd = some (.xd fs))
theorem kept_inst {X : Cx} {pins : List (Addr × Obj)} {σ : L2.St} {H : Hp} {s : Shared} {a D : Addr} {d : Option Addr} {fs : List (Str × V)} (I : Inv X pins σ H s) (k : Kept H a D d fs) : ∃ oe od, PySem.W.InstAt s.heap a oe D od := by
  obtain ⟨oe, vs, e, z, q⟩ := exK_at I.hok k.1
  obtain ⟨oc, od0, odt, osl⟩ := oe
  obtain ⟨z1, z2⟩ := z
  dsimp only at z1 z2 q
  subst z1 z2 q
  rcases k.2 with ⟨rfl, _⟩ | ⟨dd, rfl, hd⟩
  · exact ⟨_, none, e, rfl, rfl, trivial⟩
  · have x : ObjOk X.prog X.w H s.heap dd (.xd fs) := I.hok dd _ hd
    obtain ⟨mA, hns, _⟩ := x
    obtain ⟨od, ho, _⟩ := lookIn_ns hns
    exact ⟨_, some od, e, rfl, rfl, ho⟩
section
variable {X : Cx}
theorem call_isK : CallR X (.builtin "isinstance") (fun xs H Q => ∃ (a D : Addr) (d : Option Addr) (fs : List (Str × V)) (c : V) (cv : Value) (b : Bool), xs = [.ref a, c] ∧ Kept H a D d fs ∧ ExcK X.K D ∧ ClsV c cv ∧ PySem.W.kitOne X.K (.ref D) cv = some b ∧ Q (.bl b) H) := by
  intro pins s σ H xs us Q I r h
  obtain ⟨a, D, d, fs, c, cv, b, rfl, k, C, hcv, e, q⟩ := h
  obtain ⟨u1, u2, rfl, r1, r2⟩ := vals2 r
  cases r1
  have e2 := hcv.eq r2
  subst e2
  obtain ⟨oe, od, J⟩ := kept_inst I k
  exact PySem.W.kia_one (PySem.W.kitx_exc C.hc C.hg C.hk C.hs C.ha C.hn C.ht C.hm) I.kIn J e (fun z => nomatch z) fun tk => ⟨.bl b, H, I.tok tk, rfl, q⟩
theorem call_isKT : CallR X (.builtin "isinstance") (fun xs H Q => ∃ (a D : Addr) (d : Option Addr) (fs : List (Str × V)) (tp : Addr) (cs : List V) (us : List Value) (b : Bool), xs = [.ref a, .ref tp] ∧ Kept H a D d fs ∧ ExcK X.K D ∧ H tp = some (.tup cs) ∧ Paired ClsV cs us ∧ PySem.W.kitAny X.K (.ref D) us = some b ∧ Q (.bl b) H) := by
  intro pins s σ H xs us Q I r h
  obtain ⟨a, D, d, fs, tp, cs, us, b, rfl, k, C, ht, hp, e, q⟩ := h
  obtain ⟨u1, u2, rfl, r1, r2⟩ := vals2 r
  cases r1
  cases r2
  obtain ⟨oe, od, J⟩ := kept_inst I k
  have x : ObjOk X.prog X.w H s.heap tp (.tup cs) := I.hok tp _ ht
  obtain ⟨_, its, rv, ob, he, hcl, n, hd⟩ := x
  have ei := ClsV.all hp rv
  subst ei
  obtain ⟨oc, odd, odt, osl⟩ := ob
  dsimp only at hcl hd
  subst hcl hd
  exact PySem.W.kia_tup (PySem.W.kitx_exc C.hc C.hg C.hk C.hs C.ha C.hn C.ht C.hm) I.kIn J he e (fun z => nomatch z) fun tk => ⟨.bl b, H, I.tok tk, rfl, q⟩
/-- e.f -/
def tKf (K : PySem.W.Frag) (f : Str) (te : TE) : TE := fun σ H Q => te σ H fun x H1 => ∃ (a D : Addr) (d : Option Addr) (fs : List (Str × V)) (v : V), x = .ref a ∧ Kept H1 a D d fs ∧ ExcK K D ∧ PySem.W.findIn K (.ref D) f = some none ∧ fs.lookup f = some v ∧ Q v H1
theorem pe_kf {e : Expr} {te : TE} {pos : Pos} {n : Str} (he : PE X e te) (hb : attributeBase e n X.env (eval e X.env) = eval e X.env := by rfl) : PE X (.Attribute e n pos) (tKf X.K n te) := by
  refine ⟨fun pins s σ H Q I h => ?_⟩
  refine attr_of hb (thn (he.run pins s σ H _ I h) fun u s1 hh => ?_)
  obtain ⟨x, H1, I1, rx, a, D, d, fs, v, rfl, k, C, hno, l, q⟩ := hh
  cases rx
  obtain ⟨oe, vs, e1, z, qd⟩ := exK_at I1.hok k.1
  rcases k.2 with ⟨rfl, rfl⟩ | ⟨dd, rfl, hd⟩
  · cases l
  · have hx : ObjOk X.prog X.w H1 s1.heap dd (.xd fs) := I1.hok dd _ hd
    obtain ⟨mA, hns, hr⟩ := hx
    obtain ⟨od, ho, hl⟩ := lookIn_ns hns
    obtain ⟨u, hu, ru⟩ := RelO.some_of (v := v) (o := mA n) (by rw [← l]; exact hr n)
    have J : PySem.W.InstAt s1.heap a oe D (some od) := ⟨e1, z.1, by unfold PySem.W.notCls; rw [qd] <;> rfl, by rw [z.2]; exact ho⟩
    exact HandSPX.exc_get I1.kIn J C.hg C.hk C.hs (PySem.W.findObj_own C.hd hno rfl (by rw [hl, hu])) (handed_of ru) ⟨v, H1, I1.tok _, ru, q⟩
end
end Fw

namespace Fw
open PySem PySem.Spec PyProof.Rows L2
open Builtin.ObjectAttr in
/-- a base class of Python's, straight over own exceptions -/
structure ExB (B newId initId : String) (bm : List Value) : Prop where
  F : ExcBaseFacts B newId initId bm
  ob : bm.contains (.type "object") = true
  pass : ∀ self : Value, refuseLoop self "__setattr__" bm = pure ()
theorem exB_of {B newId initId : String} {bm : List Value} (F : ExcBaseFacts B newId initId bm) (S : StoreFacts B bm "object.__setattr__" "object") : ExB B newId initId bm := ⟨F, S.hasOwner, S.passes⟩
/-- an own class straight over such a base -/
structure OexB (K : PySem.W.Frag) (C : Addr) (newId : String) (bm : List Value) : Prop where
  cls : ∃ nm q N bs sn sub ab col dd k0 k1 k2 k3 k5, K.lookup C = some (excClassObj nm q C N bs bm true sn sub ab col dd k0 k1 k2 k3 k5 newId)
  sa : PySem.W.findIn K (.ref C) "__setattr__" = some (some (.builtin "object.__setattr__"))
  exC : PySem.W.subIn K (.ref C) (.type "BaseException") = some true
  tyC : PySem.W.typeIn K (.ref C) = some (.type "type")
  kC : PySem.W.keepIn K (.ref C) = true
section
open Builtin Builtin.ObjectAttr
variable {prog : Program} {w : World} {A : Around} {R : Result → Shared → Prop} {hp : Heap} {g : Array GenState} {d : Drawn} {t : Nat} {os : OsState} {K : PySem.W.Frag} {name : Str} {tk : Tok} {v : Value} {x C : Addr} {fv : Array Value} {cd : ClassData}
/-- how a store to an exception of an own class goes, up to its own dict -/
theorem osa_any {od : Option Obj} {dx : Option Addr} (X : K.In hp) (I : PySem.W.InstAt hp x { cls := .ref C, dict := dx, data := .fields fv } C od) (hcd : PySem.W.clsIn K C = some cd)
    (m1 : ∀ self : Value, refuseLoop self "__setattr__" cd.mro = pure ()) (m2 : cd.mro.isEmpty = false) (m3 : cd.mro.contains (.type "object") = true) (ha : PySem.W.findIn K (.ref C) name = some none)
    (hq : wpAny (model prog w) A.in1 (storeInOwnDict (.ref x) (.ref C) (.str name tk) name v false) (fun fin s' => match fin with | .done f => R (.ok f) s' | .again c' => c'.quiet = true ∧ codeAny (model prog w) A c' R s') (fun e s' => R (.error e) s') ⟨hp, g, d, t, os⟩) :
    codeAny (model prog w) A (.call (.builtin "object.__setattr__") ⟨[.ref x, .str name tk, v], []⟩) R ⟨hp, g, d, t, os⟩ := by
  have SF := F.store_object
  have sub : PySem.W.Looks (model prog w) hp (isInstance (.ref x) (.type "object")) true := by
    refine I.type.andThen (PySem.W.looks_mroIn X ?_)
    unfold PySem.W.mroIn
    rw [hcd, Option.bind_some, if_neg (by rw [m2]; decide), m3]
  refine codeAny_call_builtin SF.slot.plain SF.entry ?_
  refine @PySem.W.check_slot (model prog w) _ _ ⟨hp, g, d, t, os⟩ "object.__setattr__" "object" "__setattr__" (.ref x) [.str name tk, v] [] _ SF.kind SF.split sub (SF.args (.ref x) (.str name tk) v) ?_
  have hmr : PySem.W.Looks (model prog w) hp (mroOf (.ref C)) cd.mro := (PySem.W.looks_clsIn X hcd).andThen .now
  have none_ : PySem.W.Looks (model prog w) hp (storeTaker? none) none := .now
  rw [PySem.W.osa_eq, refuse_eq]
  refine wpAny_bind (wpAny_bind (I.type.at (wpAny_bind (hmr.at ?_))))
  rw [m1]
  exact wpAny_pure (wpAny_bind (I.type.at (wpAny_bind ((PySem.W.looks_findIn X ha).at (wpAny_bind (none_.at hq))))))
theorem osa_first (X : K.In hp) (hx : hp.get? x = some { cls := .ref C, data := .fields fv }) (hcd : PySem.W.clsIn K C = some cd)
    (m1 : ∀ self : Value, refuseLoop self "__setattr__" cd.mro = pure ()) (m2 : cd.mro.isEmpty = false) (m3 : cd.mro.contains (.type "object") = true) (hh : cd.hasDict = true) (ha : PySem.W.findIn K (.ref C) name = some none)
    (hq : ∀ h' tk' dx, (∀ b o, b ≠ x → hp.get? b = some o → h'.get? b = some o) → hp.objs.size ≤ dx → dx ≠ x → h'.get? x = some { cls := .ref C, dict := some dx, data := .fields fv } →
      h'.Ns1 dx (fun y => if y = name then some v else none) → R (.ok (.ret .none)) ⟨h', g, d, tk', os⟩) :
    codeAny (model prog w) A (.call (.builtin "object.__setattr__") ⟨[.ref x, .str name tk, v], []⟩) R ⟨hp, g, d, t, os⟩ := by
  have I : PySem.W.InstAt hp x { cls := .ref C, data := .fields fv } C none := ⟨hx, rfl, rfl, trivial⟩
  have hxs : x ≠ hp.objs.size := Nat.ne_of_lt (Heap.lt_size hx)
  refine osa_any X I hcd m1 m2 m3 ha ?_
  have hcls : PySem.W.Looks (model prog w) hp (classData C) cd := PySem.W.looks_clsIn X hcd
  obtain ⟨nm, bs, mro, ns, qn, hd, sn, sb, ab, col, del⟩ := cd
  dsimp only at hh
  subst hh
  unfold storeInOwnDict ownDictForStores
  repeat (first | with_reducible refine HandSPX.store_in_new ?_ ?_ | with_reducible refine wpAny_loadPart_at hx ?_ | with_reducible refine hcls.at ?_ | wp_step)
  · exact ⟨_, #[], _, (Heap.get?_update_ne _ _ _ _ hxs.symm).trans (Heap.get?_push_at rfl rfl), rfl, fun e he => absurd he (by simp), fun _ => rfl⟩
  · intro h' tk' hn' hs
    have hx1 : (hp.push { cls := .type "dict", data := .dict #[] }).get? x = some { cls := .ref C, data := .fields fv } := Heap.get?_push_of_some _ hx
    refine hq h' tk' hp.objs.size (fun b o hb ho => ?_) (Nat.le_refl _) hxs.symm ?_ hn'
    · exact (hs.2 b (Nat.ne_of_lt (Heap.lt_size ho))).trans ((Heap.get?_update_ne _ _ _ _ hb).trans (Heap.get?_push_of_some _ ho))
    · exact (hs.2 x hxs).trans (Heap.get?_update_self _ hx1 rfl)
theorem osa_next {dx : Addr} {m0 : Str → Option Value} {nl : List Str} (X : K.In hp) (hx : hp.get? x = some { cls := .ref C, dict := some dx, data := .fields fv }) (hns : hp.Ns1 dx m0) (hw : Within m0 nl) (hz : nl.length ≤ 1000) (hcd : PySem.W.clsIn K C = some cd)
    (m1 : ∀ self : Value, refuseLoop self "__setattr__" cd.mro = pure ()) (m2 : cd.mro.isEmpty = false) (m3 : cd.mro.contains (.type "object") = true) (hh : cd.hasDict = true) (ha : PySem.W.findIn K (.ref C) name = some none)
    (hq : ∀ h' tk', (∀ b o, b ≠ dx → hp.get? b = some o → h'.get? b = some o) → h'.Ns1 dx (fun y => if y = name then some v else m0 y) → R (.ok (.ret .none)) ⟨h', g, d, tk', os⟩) :
    codeAny (model prog w) A (.call (.builtin "object.__setattr__") ⟨[.ref x, .str name tk, v], []⟩) R ⟨hp, g, d, t, os⟩ := by
  obtain ⟨oD, esD, epD, hoD, hdD, _⟩ := hns.count hw
  have I : PySem.W.InstAt hp x { cls := .ref C, dict := some dx, data := .fields fv } C (some oD) := ⟨hx, rfl, rfl, hoD⟩
  refine osa_any X I hcd m1 m2 m3 ha ?_
  have hcls : PySem.W.Looks (model prog w) hp (classData C) cd := PySem.W.looks_clsIn X hcd
  obtain ⟨nm, bs, mro, ns, qn, hd, sn, sb, ab, col, del⟩ := cd
  dsimp only at hh
  subst hh
  unfold storeInOwnDict ownDictForStores
  repeat (first | with_reducible refine PySem.OEX.store_in_old hns hw hz ?_ | with_reducible refine wpAny_loadPart_at hx ?_ | with_reducible refine hcls.at ?_ | wp_step)
  intro h' tk' hn' hs
  exact hq h' tk' (fun b o hb ho => (hs.2 b hb).trans ho) hn'
end
section
variable {X : Cx} {pins : List (Addr × Obj)} {σ : L2.St} {H : Hp} {s : Shared} {a C dx : Addr} {f : Str} {y : V} {u : Value} {fs : List (Str × V)} {E : Value → Shared → Prop} {A : Around} {B newId initId : String} {bm : List Value}
theorem mro_pass (T : ExB B newId initId bm) (C : Addr) (self : Value) : refuseLoop self "__setattr__" (.ref C :: bm) = pure () := by
  rw [refuseLoop_ref]; exact T.pass self
theorem mro_ob (T : ExB B newId initId bm) (C : Addr) : (Value.ref C :: bm).contains (.type "object") = true := by
  rw [List.contains_cons, T.ob, Bool.or_true]
/-- self.f = y, the first store -/
theorem put_first {Q : Unit → Shared → Prop} (T : ExB B newId initId bm) (O : OexB X.K C newId bm) (I : Inv X pins σ H s) (e : H a = some (exo a C none)) (hno : PySem.W.findIn X.K (.ref C) f = some none) (ry : RelV y u)
    (h : ∀ dx s', H dx = none → dx ≠ a → Inv X pins σ (upd (upd H dx (exd dx [(f, y)])) a (exo a C (some dx))) s' → Q () s') : wpAny (model X.prog X.w) A (setAttr (.ref a) f u) Q E s := by
  obtain ⟨nm, q, N, bs, sn, sub, ab, col, dd, k0, k1, k2, k3, k5, hC⟩ := O.cls
  have hcl : PySem.W.clsIn X.K C = some { name := nm, bases := bs, mro := .ref C :: bm, ns := N, qualname := q, hasDict := true, slotNames := sn, subclasses := sub, abstract := ab, collection := col, hasDel := false } := by
    unfold PySem.W.clsIn; rw [hC] <;> rfl
  obtain ⟨t1, ho⟩ := exo_at I.hok e
  obtain ⟨hp, g, dr, tk, os⟩ := s
  refine PySem.W.set_plain I.kIn (ox := { cls := .ref C, dict := none, data := .fields #[.ref t1, .none, .none, .none, .bool false, .none] }) (od := none) ⟨ho, rfl, rfl, trivial⟩ O.sa ?_
  refine osa_first I.kIn ho hcl (mro_pass T C) rfl (mro_ob T C) rfl hno ?_
  intro h' tk' dx k dn dne hx hn
  have hnd : H dx = none := I.hok.fresh dn
  have ndx : ∀ {b : Addr} {o : Obj}, hp.get? b = some o → b ≠ dx := fun {b o} q => Nat.ne_of_lt (Nat.lt_of_lt_of_le (Heap.lt_size q) dn)
  have na : ∀ {b : Addr}, H b = none → b ≠ a := fun {b} n z => by
    rw [z, e] at n; cases n
  have two : ∀ {b : Addr} {o : HO}, H b = some o → o ≠ exo a C none → upd (upd H dx (exd dx [(f, y)])) a (exo a C (some dx)) b = some o := fun {b o} q n => by
    have hb : b ≠ a := fun z => by
      rw [z, e] at q
      exact n (Option.some.inj q).symm
    rw [upd_ne hb, upd_ne (ne_of_none q hnd)]; exact q
  have U : Un X.fs [] H (upd (upd H dx (exd dx [(f, y)])) a (exo a C (some dx))) hp h' := by
    refine ⟨fun b o q n _ _ => k b o (na n) q, fun b o q n _ _ => ⟨o.slots, k b o (na n) q⟩, fun b o q n _ => ?_, fun b o q _ => ?_, fun b xs q => two q (Ne.symm exo_tup), fun b o v q => two q (Ne.symm exo_frz), fun b ps q => ⟨#[], ?_⟩⟩
    · rw [upd_ne (na n), upd_ne (ndx q)]; exact n
    · by_cases hb : b = a
      · exact ⟨_, by rw [hb]; exact hx⟩
      · exact ⟨o, k b o hb q⟩
    · have z := two q (Ne.symm exo_tbl)
      rw [z]; simp
  refine h dx _ hnd dne (I.un (t' := tk') U fun b o q => ?_)
  by_cases hb : b = a
  · subst hb
    rw [upd_same] at q; cases q
    exact exo_ok hx
  · rw [upd_ne hb] at q
    by_cases hd : b = dx
    · subst hd
      rw [upd_same] at q; cases q
      exact exd_ok hn (relO_put (fs := []) ry fun g => True.intro)
    · rw [upd_ne hd] at q
      refine (I.hok b o q).stay (fun c v hc z => k c v ?_ z) (fun c hc => two hc (Ne.symm exo_own)) fun c xs hc => two hc (Ne.symm exo_tup)
      rcases hc with hc | hc
      · rw [hc]; exact hb
      · exact at_ne e hc exo_own
/-- self.f = y, a further store -/
theorem put_next {Q : Unit → Shared → Prop} (T : ExB B newId initId bm) (O : OexB X.K C newId bm) (I : Inv X pins σ H s) (e : H a = some (exo a C (some dx))) (ed : H dx = some (exd dx fs)) (hl : fs.length ≤ 900) (hno : PySem.W.findIn X.K (.ref C) f = some none) (ry : RelV y u)
    (h : ∀ s', Inv X pins σ (upd H dx (exd dx ((f, y) :: fs))) s' → Q () s') : wpAny (model X.prog X.w) A (setAttr (.ref a) f u) Q E s := by
  obtain ⟨nm, q, N, bs, sn, sub, ab, col, dd, k0, k1, k2, k3, k5, hC⟩ := O.cls
  have hcl : PySem.W.clsIn X.K C = some { name := nm, bases := bs, mro := .ref C :: bm, ns := N, qualname := q, hasDict := true, slotNames := sn, subclasses := sub, abstract := ab, collection := col, hasDel := false } := by
    unfold PySem.W.clsIn; rw [hC] <;> rfl
  obtain ⟨t1, ho⟩ := exo_at I.hok e
  obtain ⟨mA, hns, rel⟩ := exd_at I.hok ed
  have hw := within_of rel
  obtain ⟨hp, g, dr, tk, os⟩ := s
  obtain ⟨oD, _, _, hoD, _, _⟩ := hns.count hw
  refine PySem.W.set_plain I.kIn (ox := { cls := .ref C, dict := some dx, data := .fields #[.ref t1, .none, .none, .none, .bool false, .none] }) (od := some oD) ⟨ho, rfl, rfl, hoD⟩ O.sa ?_
  refine osa_next I.kIn ho hns hw (by rw [List.length_map]; omega) hcl (mro_pass T C) rfl (mro_ob T C) rfl hno ?_
  intro h' tk' k hn
  have hd : ∃ o, h'.get? dx = some o := by
    obtain ⟨o, _, _, e', _⟩ := hn
    exact ⟨o, e'⟩
  exact h _ (I.write (t' := tk') (x := dx) (e := dx) (o := exd dx ((f, y) :: fs)) (by rw [ed]; exact True.intro) (.inl rfl) k hd (exd_ok hn (relO_put ry rel)))
/-- B.__init__(self, ..) -/
theorem init_up {us : List Value} {Q : Value → Shared → Prop} (T : ExB B newId initId bm) (O : OexB X.K C newId bm) (I : Inv X pins σ H s) (e : H a = some (exo a C none)) (hl : us.length ≤ sizeLine) (h : ∀ s', Inv X pins σ H s' → Q .none s') :
    wpAny (model X.prog X.w) A (call (.builtin initId) (.ref a :: us)) Q E s := by
  obtain ⟨nm, q, N, bs, sn, sub, ab, col, dd, k0, k1, k2, k3, k5, hC⟩ := O.cls
  obtain ⟨t1, ho⟩ := exo_at I.hok e
  obtain ⟨hp, g, dr, tk, os⟩ := s
  refine wpAny_call (HandSPX.init_base T.F (fun Y => rfl) (I.kIn _ _ hC) ho hl fun h' t2 k hx => ?_)
  have J := I.write (t' := tk) (x := a) (e := a) (o := exo a C none) (by rw [e]; exact True.intro) (.inl rfl) k ⟨_, hx⟩ (exo_ok hx)
  have eu : upd H a (exo a C none) = H := by
    funext b
    by_cases hb : b = a
    · rw [hb, upd_same, e]
    · rw [upd_ne hb]
  rw [eu] at J
  exact h _ J
end
/-- B.__init__(self, ..) -/
def tUp (K : PySem.W.Frag) (newId : String) (bm : List Value) (ta : TA) : TE := fun σ H Q => ta σ H fun vs H1 => ∃ (a C : Addr) (ws : List V), vs = .ref a :: ws ∧ ws.length ≤ 1000 ∧ OexB K C newId bm ∧ H1 a = some (exo a C none) ∧ Q .non H1
/-- self.f = e -/
def tPut (K : PySem.W.Frag) (newId : String) (bm : List Value) (f : Str) (to te : TE) : TS := fun D σ H => te σ H fun y H1 => to σ H1 fun x H2 => ∃ a C : Addr, x = .ref a ∧ OexB K C newId bm ∧ PySem.W.findIn K (.ref C) f = some none ∧
  ((H2 a = some (exo a C none) ∧ ∀ dx, H2 dx = none → dx ≠ a → D.nx σ (upd (upd H2 dx (exd dx [(f, y)])) a (exo a C (some dx)))) ∨
    ∃ (dx : Addr) (fs : List (Str × V)), H2 a = some (exo a C (some dx)) ∧ H2 dx = some (exd dx fs) ∧ fs.length ≤ 900 ∧ D.nx σ (upd H2 dx (exd dx ((f, y) :: fs))))
section
variable {X : Cx} {o e : Expr} {es : List Expr} {to te : TE} {ta : TA} {f : Str} {p p' p1 p2 pos : Pos} {B newId initId : String} {bm : List Value} {bs : Str}
theorem pe_up {pl : Sem Bool} (T : ExB B newId initId bm) (hg : Gl X bs) (hm : X.mg bs = none) (hv : bootBuiltins bs = some (.type B)) (ty : typeOf (.type B) = pure (.type "type"))
    (vV : PySem.W.findCls X.K (.type B) (.type "type") "__init__" = some (.val (.builtin initId))) (ha : PA X (e :: es) ta) (h1 : (bs == ("__debug__" : Str)) = false := by decide) (h2 : bs ≠ "__name__" := by decide)
    (ga : Manifest.isStub B = false := by decide +kernel) (hh : PySem.W.handedIn (.builtin initId) = true := by decide +kernel)
    (hc : eval (.Call (.Attribute (.Name bs p1) "__init__" p2) (e :: es) [] pos) X.env = (do
      let ov ← eval (.Name bs p1) X.env
      standAt p2.atName
      let (f, first) ← holding [ov] (getMethod ov "__init__" pl)
      callWith pos f first (backTo pos (starEach (e :: es) X.env)) (backToKw pos (keywordEach [] X.env))) := by rfl)
    (he : starEach (e :: es) X.env = (false, eval e X.env) :: starEach es X.env := by rfl) (hpl : (backTo pos (starEach es X.env)).any (·.1) = false := by rfl) :
    PE X (.Call (.Attribute (.Name bs p1) "__init__" p2) (e :: es) [] pos) (tUp X.K newId bm ta) := by
  refine ⟨fun pins s σ H Q I h => ?_⟩
  refine PySem.W.methodCall_KW (ld_blt I hg hm hv ?_ h2 h1) hc
  obtain ⟨m, fr⟩ := I.fr
  refine PySem.W.method_type fr I.ok.mod.kin ty ga vV hh ?_
  show wpAny _ _ (callWith pos (Value.builtin initId) [] (backTo pos (starEach (e :: es) X.env)) []) _ _ _
  refine PyProof.Rows.callWith_method1 (thn (ha.run pos pins _ σ H _ (I.tok _) h) fun us s1 z => ?_) he hpl
  obtain ⟨vs, H1, I1, r1, a, C, ws, ev, hl, O, ea, q⟩ := z
  subst ev
  cases r1 with
  | @cons _ u0 _ ur ra rw' =>
    obtain rfl : u0 = Value.ref a := ra
    have hlen : ur.length ≤ sizeLine := by
      rw [← Paired.length rw', sizeLine_eq]
      omega
    exact init_up T O I1 ea hlen fun s' J => ⟨.non, H1, J, rfl, q⟩
theorem ps_put (T : ExB B newId initId bm) (ho : PE X o to) (he : PE X e te) (hs : swapsWith e (some (.Attribute o f p')) pos.line X.env = pure false := by rfl) : PS X (.Assign [.Attribute o f p'] e pos) (tPut X.K newId bm f to te) := by
  refine ⟨fun pins s σ H D I h => ?_⟩
  refine plainObj_wpAny_Assign_Attribute (thn (he.run pins s σ H _ I h) fun v s1 z1 => ?_) hs
  obtain ⟨y, H1, I1, r1, q1⟩ := z1
  refine thn (ho.run pins s1 σ H1 _ I1 q1) fun u s2 z2 => ?_
  obtain ⟨x, H2, I2, r2, a, C, rfl, O, hno, q⟩ := z2
  cases r2
  rcases q with ⟨ea, q⟩ | ⟨dx, fs, ea, ed, hl, q⟩
  · exact put_first T O I2 ea hno r1 fun dx s' n ne J => ⟨σ, _, J, q dx n ne⟩
  · exact put_next T O I2 ea ed hl hno r1 fun s' J => ⟨σ, _, J, q⟩
/-- C(e, ..) of an own exception class whose __init__ keeps sp, to be raised -/
theorem pmk_up {CX : CXT} {x : Str} {C fI : Addr} {k : Nat} {fd : FuncData} {ps : List Str} {sp : Sp} {ds : List Value} {dvs : List V} (T : ExB B newId initId bm) (O : OexB X.K C newId bm) (iC : PySem.W.findIn X.K (.ref C) "__init__" = some (some (.ref fI))) (tI : PySem.W.typeIn X.K (.ref fI) = some (.type "function"))
    (F1 : FnOk X.prog X.w X.K X.mg X.base CX k fI fd ps sp) (hr : Room (k + 1) X.A) (hb : Binds X.K fd ps ds) (hd : Vals dvs ds) (hx : Passes CX X (fun _ _ _ => False)) (hg : Gl X x) (hm : X.mg x = some (.ref C)) (ha : PA X (e :: es) ta)
    (hdb : (x == ("__debug__" : Str)) = false := by decide) (he : starEach (e :: es) X.env = (false, eval e X.env) :: starEach es X.env := by rfl) (hpl : (backTo pos (starEach es X.env)).any (·.1) = false := by rfl) :
    PMk X (.Call (.Name x p) (e :: es) [] pos) (tMkO C sp dvs ta) := by
  intro pins s σ H Q I h
  obtain ⟨nm, q, N, bs, sn, sub, ab, col, dd, k0, k1, k2, k3, k5, hC⟩ := O.cls
  refine wpAny_Call_Name_kw (ld_glob I hg hm ?_ hdb)
  refine PySem.W.callWith_K (h₀ := X.base) I.ok.mod.kin O.kC (thn (ha.run pos pins s σ H _ I h) fun us s1 z => ?_) he hpl
  obtain ⟨vs, H1, I1, r1, hz, q1⟩ := z
  refine ⟨I1.kIn, ?_⟩
  show wpAny _ _ (call (.ref C) us) _ _ _
  obtain ⟨hp, g, dr, tk, os⟩ := s1
  have hsz : hp.objs.size ≤ hp.objs.size + 1 := Nat.le_succ _
  have hq := q1 (hp.objs.size + 1) (I1.hok.fresh hsz)
  generalize hG : (hp.push (PySem.W.kdv_tup us)).push (HandSPX.excO C hp.objs.size) = G
  have kk : ∀ b o, hp.get? b = some o → G.get? b = some o := fun b o e => by rw [← hG]; exact Heap.get?_push_of_some _ (Heap.get?_push_of_some _ e)
  have hget : G.get? (hp.objs.size + 1) = some (HandSPX.excO C hp.objs.size) := by rw [← hG]; heap_get
  have I2 : Inv X pins σ (upd H1 (hp.objs.size + 1) (exo (hp.objs.size + 1) C none)) ⟨G, g, dr, tk, os⟩ :=
    I1.laid (t' := tk) (a := hp.objs.size + 1) (o := exo (hp.objs.size + 1) C none) (h' := G) kk hsz (exo_ok hget)
  have r2 : Vals (V.ref (hp.objs.size + 1) :: (vs ++ dvs)) (Value.ref (hp.objs.size + 1) :: (us ++ ds)) := .cons rfl (r1.append hd)
  have hl : (Value.ref (hp.objs.size + 1) :: us ++ ds).length = ps.length := r2.length.symm.trans (F1.len _ _ _ _ hq)
  have hus : us.length ≤ sizeLine := by
    rw [← Paired.length r1, sizeLine_eq]; omega
  have call := F1.run _ X.stack _ _ ⟨Value.ref (hp.objs.size + 1) :: us, []⟩ (Value.ref (hp.objs.size + 1) :: (us ++ ds)) _ _ (fun _ _ _ => False) (hr.make C us []) (I2.env0.make C us []) (hb _ (Value.ref (hp.objs.size + 1) :: us) I2.kIn hl) r2 hq
  refine wpAny_call (HandSPX.call_own T.F (fun Y => rfl) (I1.kIn _ _ hC) (PySem.W.looks_findIn I1.kIn iC) (fun self => PySem.W.bind_fn I1.kIn self tI) hus ?_)
  rw [hG]
  refine codeAny_mono call fun r s' z => ?_
  rcases r with er | (_ | _ | _ | u)
  · exact hx pins σ _ _ er s' I2 z
  all_goals first | exact False.elim z | skip
  obtain ⟨v, H2, os2, bare2, un2, hok2, rv, ev, d, fs, ea, ed, hd1, q2⟩ := z
  subst ev
  obtain ⟨h2, g2, d2, t2, os'⟩ := s'
  exact ⟨rv, mk_end (raises_own O.exC O.tyC) I1 hsz kk un2 hok2 os2 bare2 ea ed hd1 q2⟩
end
end Fw

namespace Fw
open PySem PySem.Spec PyProof.Rows L2
/-! ### calls of defs that may let an exception out -/
def tCallSd (sp : Sp) (dvs : List V) (E : L2.St → XK) (t : TA) : TE := fun σ H Q => t σ H fun vs H1 => sp (vs ++ dvs) H1 Q (E σ)
def tCallNS (n m : Nat) (sp : Sp) (gV : List V → List V → List V) (E : L2.St → XK) (t tk : TA) : TE := fun σ H Q => t σ H fun vs H1 => tk σ H1 fun zs H2 => vs.length = n ∧ zs.length = m ∧ sp (gV vs zs) H2 Q (E σ)
section
variable {X : Cx} {W : WX} {k n : Nat} {x : Str} {ps : List Str} {dvs : List V} {sp : Sp} {p pos : Pos} {e : Expr} {es : List Expr} {t tk : TA} {ks : List Str} {gV : List V → List V → List V} {kws : List Keyword}
theorem pe_dnS (D : Dn X.prog X.w X.K X.mg X.base (L2.CX X.prog X.w) k x ps dvs sp) (tk : Takes X W) (hr : Room k X.A) (hg : Gl X x) (ha : PA X (e :: es) t)
    (hdb : (x == ("__debug__" : Str)) = false := by decide) (he : starEach (e :: es) X.env = (false, eval e X.env) :: starEach es X.env := by rfl)
    (hpl : (backTo pos (starEach es X.env)).any (·.1) = false := by rfl) : PE X (.Call (.Name x p) (e :: es) [] pos) (tCallSd sp dvs (WE W) t) := by
  obtain ⟨f, fd, ds, F, hm, hk, hb, hd⟩ := D.ex
  refine ⟨fun pins s σ H Q I h => ?_⟩
  refine wpAny_Call_Name_kw (ld_glob I hg hm ?_ hdb)
  refine PySem.W.callWith_K (h₀ := X.base) I.ok.mod.kin hk (thn (ha.run pos pins s σ H _ I h) fun us s1 z => ?_) he hpl
  obtain ⟨vs, H1, I1, r, q⟩ := z
  refine ⟨I1.kIn, ?_⟩
  have r2 : Vals (vs ++ dvs) (us ++ ds) := r.append hd
  have hl : (us ++ ds).length = ps.length := r2.length.symm.trans (F.len _ _ _ _ q)
  refine wpAny_call (codeAny_mono (F.run X.A X.stack s1 H1 ⟨us, []⟩ (us ++ ds) (vs ++ dvs) Q _ hr I1.env0 (hb s1 us I1.kIn hl) r2 q) fun r s' hq => ?_)
  rcases r with er | (_ | _ | _ | u)
  · exact passAt tk σ pins H1 s1 er s' I1 hq
  all_goals first | exact I1.after hq | exact False.elim hq
theorem pe_dkS (D : Dk X.prog X.w X.K X.mg X.base (L2.CX X.prog X.w) k x n ks gV sp) (tkk : Takes X W) (hr : Room k X.A) (hg : Gl X x) (ha : PA X (e :: es) t) (hkw : PK X kws tk)
    (hall : (backToKw pos (keywordEach kws X.env)).all (·.1.isSome) = true := by rfl) (hks : (backToKw pos (keywordEach kws X.env)).filterMap (·.1) = ks := by rfl)
    (hdb : (x == ("__debug__" : Str)) = false := by decide) (he : starEach (e :: es) X.env = (false, eval e X.env) :: starEach es X.env := by rfl)
    (hpl : ((backTo pos (starEach (e :: es) X.env)).any (·.1) || (backToKw pos (keywordEach kws X.env)).any (·.1.isNone)) = false := by rfl) :
    PE X (.Call (.Name x p) (e :: es) kws pos) (tCallNS n ks.length sp gV (WE W) t tk) := by
  obtain ⟨f, fd, ps, g, F, hm, hk, hb⟩ := D.ex
  refine ⟨fun pins s σ H Q I h => ?_⟩
  refine wpAny_Call_Name_kw (ld_glob I hg hm ?_ hdb)
  refine PySem.W.callWith_KW (h₀ := X.base) I.ok.mod.kin hk hall (thn (ha.run pos pins s σ H _ I h) fun us s1 z1 => ?_) hpl he
  obtain ⟨vs, H1, I1, r, q⟩ := z1
  refine thn (hkw.run pos pins s1 σ H1 _ I1 q) fun ws s2 z2 => ?_
  obtain ⟨zs, H2, I2, rz, l1, l2, q2⟩ := z2
  refine ⟨I2.kIn, ?_⟩
  rw [hks]
  have r2 := hb.rel r rz
  refine wpAny_call (codeAny_mono (F.run X.A X.stack s2 H2 ⟨us, ks.zip ws⟩ (g us ws) (gV vs zs) Q _ hr I2.env0 (hb.to s2 us ws I2.kIn (r.length.symm.trans l1) (rz.length.symm.trans l2)) r2 q2) fun r s' hq => ?_)
  rcases r with er | (_ | _ | _ | u)
  · exact passAt tkk σ pins H2 s2 er s' I2 hq
  all_goals first | exact I2.after hq | exact False.elim hq
end
/-! ### own exception classes, raised -/
/-- the class that the module's name x holds is raised by x(e, ..): its __init__ keeps sp -/
structure Rz (P : Program) (w : World) (K : PySem.W.Frag) (mg : Str → Option Value) (base : Heap) (k : Nat) (x : Str) (C : Addr) (sp : Sp) : Prop where
  ex : ∃ (B newId initId : String) (bm : List Value) (fI : Addr) (fd : FuncData) (ps : List Str), ExB B newId initId bm ∧ OexB K C newId bm ∧ PySem.W.findIn K (.ref C) "__init__" = some (some (.ref fI)) ∧ PySem.W.typeIn K (.ref fI) = some (.type "function") ∧
    FnOk P w K mg base CX0 k fI fd ps sp ∧ Binds K fd ps [] ∧ mg x = some (.ref C)
theorem pm_rz {X : Cx} {k : Nat} {x : Str} {C : Addr} {sp : Sp} {e : Expr} {es : List Expr} {ta : TA} {p pos : Pos} (D : Rz X.prog X.w X.K X.mg X.base k x C sp) (hr : Room (k + 1) X.A) (hg : Gl X x) (ha : PA X (e :: es) ta)
    (hdb : (x == ("__debug__" : Str)) = false := by decide) (he : starEach (e :: es) X.env = (false, eval e X.env) :: starEach es X.env := by rfl) (hpl : (backTo pos (starEach es X.env)).any (·.1) = false := by rfl) :
    PMk X (.Call (.Name x p) (e :: es) [] pos) (tMkO C sp [] ta) := by
  obtain ⟨B, newId, initId, bm, fI, fd, ps, T, O, iC, tI, F, hb, hm⟩ := D.ex
  exact pmk_up T O iC tI F hr hb .nil pass0 hg hm ha hdb he hpl
/-- what the class says, as a Bool -/
def oexIn (K : PySem.W.Frag) (C : Addr) (newId : String) (bm : List Value) : Bool := match K.lookup C with
  | some ⟨.type "type", _, .cls cd, sl⟩ => (match cd.mro, sl.toList with
    | .ref C' :: bm', [_, _, _, _, some (.builtin n), _] => C' == C && n == newId && !cd.hasDel && cd.hasDict && decide (bm' = bm)
    | _, _ => false)
  | _ => false
theorem oexIn_ok {K : PySem.W.Frag} {C : Addr} {newId : String} {bm : List Value} (q : oexIn K C newId bm = true) : ∃ nm q N bs sn sub ab col dd k0 k1 k2 k3 k5, K.lookup C = some (excClassObj nm q C N bs bm true sn sub ab col dd k0 k1 k2 k3 k5 newId) := by
  unfold oexIn at q
  split at q
  · rename_i dd cd sl ho
    split at q
    · rename_i C' bm' k0 k1 k2 k3 n k5 hm hs
      simp only [Bool.and_eq_true, beq_iff_eq, Bool.not_eq_true', decide_eq_true_eq] at q
      obtain ⟨⟨⟨⟨rfl, rfl⟩, hdel⟩, hdi⟩, rfl⟩ := q
      obtain ⟨nm, bs, mro, ns, qn, hd, sn, sub, ab, col, del⟩ := cd
      dsimp only at hm hdel hdi
      subst hm hdel hdi
      have hsl : sl = #[k0, k1, k2, k3, some (.builtin n), k5] := by
        obtain ⟨l⟩ := sl
        simp only at hs
        rw [hs]
      subst hsl
      exact ⟨nm, qn, ns, bs, sn, sub, ab, col, dd, k0, k1, k2, k3, k5, ho⟩
    · cases q
  · cases q
def oexB (K : PySem.W.Frag) (C : Addr) (newId : String) (bm : List Value) : Bool :=
  oexIn K C newId bm && decide (PySem.W.findIn K (.ref C) "__setattr__" = some (some (.builtin "object.__setattr__"))) && decide (PySem.W.subIn K (.ref C) (.type "BaseException") = some true) && decide (PySem.W.typeIn K (.ref C) = some (.type "type")) && PySem.W.keepIn K (.ref C)
theorem oexB_ok {K : PySem.W.Frag} {C : Addr} {newId : String} {bm : List Value} (h : oexB K C newId bm = true) : OexB K C newId bm := by
  unfold oexB at h
  simp only [Bool.and_eq_true, decide_eq_true_eq] at h
  obtain ⟨⟨⟨⟨h1, h2⟩, h3⟩, h4⟩, h5⟩ := h
  exact ⟨oexIn_ok h1, h2, h3, h4, h5⟩
/-- an own exception class with an own __init__ at fI that stores the field f: all that is asked, as a Bool -/
def ownB (K : PySem.W.Frag) (C fI : Addr) (B newId initId : String) (bm : List Value) (f : Str) : Bool :=
  oexB K C newId bm && excKB K C && decide (PySem.W.findIn K (.ref C) "__init__" = some (some (.ref fI))) && decide (PySem.W.typeIn K (.ref fI) = some (.type "function")) && decide (PySem.W.findIn K (.ref C) f = some none) &&
    (match PySem.W.findCls K (.type B) (.type "type") "__init__" with | some (.val (.builtin n)) => n == initId | _ => false)
structure Own (K : PySem.W.Frag) (C fI : Addr) (B newId initId : String) (bm : List Value) (f : Str) : Prop where
  O : OexB K C newId bm
  k : ExcK K C
  iC : PySem.W.findIn K (.ref C) "__init__" = some (some (.ref fI))
  tI : PySem.W.typeIn K (.ref fI) = some (.type "function")
  no : PySem.W.findIn K (.ref C) f = some none
  up : PySem.W.findCls K (.type B) (.type "type") "__init__" = some (.val (.builtin initId))
theorem ownB_ok {K : PySem.W.Frag} {C fI : Addr} {B newId initId : String} {bm : List Value} {f : Str} (h : ownB K C fI B newId initId bm f = true) : Own K C fI B newId initId bm f := by
  unfold ownB at h
  simp only [Bool.and_eq_true, decide_eq_true_eq] at h
  obtain ⟨⟨⟨⟨⟨h1, h2⟩, h3⟩, h4⟩, h5⟩, h6⟩ := h
  refine ⟨oexB_ok h1, excKB_ok h2, h3, h4, h5, ?_⟩
  split at h6
  · rename_i n e
    rw [e, eq_of_beq h6]
  · cases h6
/-- __init__ of one field -/
def spIni (C : Addr) (f : Str) : Sp := fun vs H Q _ => ∃ (a : Addr) (v : V), vs = [.ref a, v] ∧ H a = some (exo a C none) ∧ ∀ dx, H dx = none → dx ≠ a → Q .non (upd (upd H dx (exd dx [(f, v)])) a (exo a C (some dx)))
/-- x(e) raised: what is wished of the exception -/
theorem mk_ini {C : Addr} {f : Str} {v : V} {H1 : Hp} {Q : XK} (h : ∀ d H2, H1 d = none → (∀ b o, H1 b = some o → H2 b = some o) → (∀ b, b ≠ d → H2 b = H1 b) → H2 d = some (.xd [(f, v)]) → Q (.ref C) (some d) H2) :
    [v].length ≤ 1000 ∧ ∀ a, H1 a = none → spIni C f (.ref a :: ([v] ++ [])) (upd H1 a (exo a C none))
      (fun u H2 => u = .non ∧ ∃ (d : Addr) (fs : List (Str × V)), H2 a = some (exo a C (some d)) ∧ H2 d = some (exd d fs) ∧ H1 d = none ∧ Q (.ref C) (some d) (upd (del H2 a) d (.xd fs))) (fun _ _ _ => False) := by
  refine ⟨by show 1 ≤ 1000; omega, fun a ha => ⟨a, v, rfl, upd_same, fun dx hd hn => ⟨rfl, dx, [(f, v)], upd_same, ?_, ?_, ?_⟩⟩⟩
  · rw [upd_ne hn, upd_same]
  · rw [upd_ne hn] at hd; exact hd
  · rw [upd_ne hn] at hd
    have far : ∀ b, b ≠ dx → upd (del (upd (upd (upd H1 a (exo a C none)) dx (exd dx [(f, v)])) a (exo a C (some dx))) a) dx (.xd [(f, v)]) b = H1 b := fun b hb => by
      rw [upd_ne hb]
      by_cases c : b = a
      · subst c
        rw [ha]
        exact del_same
      · rw [del_ne c, upd_ne c, upd_ne hb, upd_ne c]
    exact h dx _ hd (fun b o e => by rw [far b (ne_of_none e hd)]; exact e) far upd_same
/-! ### text[::-1] -/
def revS (z : Str) : Str := ⟨z.cps.toList.reverse.toArray⟩
theorem revS_len (z : Str) : (revS z).length = z.length := by
  show (z.cps.toList.reverse.toArray).size = z.cps.size
  simp
theorem pick_rev (z : Str) : ((Builtin.Str.strSliceIndices none none (-1) z.length).filterMap (z.cps[·]?)).toArray = z.cps.toList.reverse.toArray := by
  have e : Builtin.Str.strSliceIndices none none (-1) z.length = (List.range z.cps.size).reverse := by
    show sliceRange ((z.cps.size : Int) - 1) (-1) (-1) = _
    rw [PySem.W.krv_sliceRange, PySem.W.krv_range]
  rw [e, List.filterMap_reverse, PySem.W.krv_all]
def tRevS (te : TE) : TE := fun σ H Q => te σ H fun x H1 => ∃ z, x = .str z ∧ z.length ≤ sizeLine ∧ Q (.str (revS z)) H1
theorem pe_revS {X : Cx} {e : Expr} {te : TE} {k : Nat} {p1 p2 p3 pos : Pos} (he : PE X e te) : PE X (.Subscript e (.Slice none none (some (.UnaryOp .USub (.Constant (.int 1) k p1) p2)) p3) pos) (tRevS te) := by
  refine ⟨fun pins s σ H Q I h => ?_⟩
  refine Subscript_ (thn (he.run pins s σ H _ I h) fun v s1 z1 => ?_)
  obtain ⟨x, H1, I1, r1, z, rfl, hz, q⟩ := z1
  obtain ⟨t, rfl⟩ := r1
  have hst : PO X (some (.UnaryOp .USub (.Constant (.int 1) k p1) p2)) (tPart (tUn (rU fun i => .int (-i)) (tC (.int 1)))) := po_some (pe_un un_neg pe_int)
  refine wpAny_Slice (thn (po_none.run pins s1 σ H1 (fun o H2 => o = none ∧ H2 = H1) I1 ⟨rfl, rfl⟩) fun vl s2 z2 => ?_)
  obtain ⟨l, H2, I2, pl, rfl, rfl⟩ := z2
  refine thn (po_none.run pins s2 σ H2 (fun o H3 => o = none ∧ H3 = H2) I2 ⟨rfl, rfl⟩) fun vu s3 z3 => ?_
  obtain ⟨u, H3, I3, pu, rfl, rfl⟩ := z3
  refine thn (hst.run pins s3 σ H3 (fun o H4 => o = some (-1) ∧ H4 = H3) I3 ⟨1, rfl, -1, rfl, rfl, rfl⟩) fun vs s4 z4 => ?_
  obtain ⟨o, H4, I4, ps, rfl, rfl⟩ := z4
  have I5 : Inv X pins σ H4 { s4 with heap := s4.heap.push { cls := .type "slice", data := .fields #[vl, vu, vs] } } := I4.kept (t' := s4.toks) fun b ob q => Heap.get?_push_of_some _ q
  show wpAny (model X.prog X.w) X.A (subscriptTail e (.Slice none none (some (.UnaryOp .USub (.Constant (.int 1) k p1) p2)) p3) (.str z t) (.ref s4.heap.objs.size)) (EP X pins σ Q) X.xe { s4 with heap := s4.heap.push { cls := .type "slice", data := .fields #[vl, vu, vs] } }
  refine tail_any (ops := [.str z t, .ref s4.heap.objs.size]) (typeIs_str _ _ _) (PySem.F.slot_str_getitem.lookup) ?_ (by with_unfolding_all rfl)
  obtain ⟨l, rfl, el⟩ := IsPart.raw pl
  obtain ⟨u, rfl, eu⟩ := IsPart.raw pu
  obtain ⟨w, rfl, ew⟩ := IsPart.raw ps
  refine wpAny_getItem_str_slice (l := l) (u := u) (st := w) ⟨_, Heap.get?_push_size _ rfl, rfl, rfl⟩ (by rw [ew]; rfl) ?_
  unfold sliceMade slicePicked
  rw [el, eu, ew]
  show Made.post (if ((-1 : Int) == 1 && _) = true then _ else Made.str ⟨((Builtin.Str.strSliceIndices none none (-1) z.length).filterMap (z.cps[·]?)).toArray⟩) _ _
  rw [if_neg (by simp), pick_rev]
  exact ⟨by show (revS z).length ≤ sizeLine; rw [revS_len]; exact hz, .str (revS z), H4, I5.tok _, ⟨_, rfl⟩, q⟩
end Fw

namespace Lw
open PySem PySem.Spec PyProof.Rows L2 Fw
def top (i : Nat) : Stmt := PySem.Challenge.pw_formatwords_k02_texts_that_are_no_digits.main.body.getD i (.Pass ⟨0, 0, 0, 0⟩)
abbrev FnP (K : PySem.W.Frag) (x : Str) (st : Stmt) (f : Addr) (fd : FuncData) : Prop := FunD K x x (defArgs st) (defBody st) (defScope st) [] [] f fd
/-! ### the feed -/
def fdK (c : Addr) (at_ left : Int) : List (Key × V) := [(.inr "cells", .ref c), (.inr "at", .int at_), (.inr "left", .int left)]
/-- a feed stands at p: at most n draws were made -/
def Feed (H : Hp) (p : Addr) (n : Nat) : Prop := ∃ (c : Addr) (ns : List Int) (at_ left : Int), H p = some (.dK (fdK c at_ left)) ∧ H c = some (.lst (ns.map V.int)) ∧ 0 ≤ at_ ∧ at_ ≤ n ∧ 0 ≤ left
/-- all but what stands at p is as it was; the feed at p keeps its cells -/
structure But (p : Addr) (H H' : Hp) : Prop where
  to : ∀ b o, H b = some o → b ≠ p → H' b = some o
  cells : ∀ c a l, H p = some (.dK (fdK c a l)) → ∃ a' l', H' p = some (.dK (fdK c a' l'))
instance {p : Addr} {H H' : Hp} : CoeFun (But p H H') fun _ => ∀ b o, H b = some o → b ≠ p → H' b = some o := ⟨But.to⟩
theorem But.refl (p : Addr) (H : Hp) : But p H H := ⟨fun _ _ h _ => h, fun _ a l h => ⟨a, l, h⟩⟩
theorem But.trans {p : Addr} {H H1 H2 : Hp} (a : But p H H1) (b : But p H1 H2) : But p H H2 := ⟨fun c o h n => b c o (a c o h n) n, fun c x y h => by
  obtain ⟨x', y', h'⟩ := a.cells c x y h
  exact b.cells c x' y' h'⟩
theorem But.of {p : Addr} {H H' : Hp} (h : ∀ b o, H b = some o → H' b = some o) : But p H H' := ⟨fun b o e _ => h b o e, fun c a l e => ⟨a, l, h _ _ e⟩⟩
theorem But.new {p q : Addr} {o : HO} {H : Hp} (h : H q = none) : But p H (upd H q o) := But.of fun b u e => by
  rw [upd_ne (ne_of_none e h)]; exact e
theorem But.at {p c : Addr} {a l : Int} {o : HO} {H : Hp} (h : H p = some (.dK (fdK c a l))) (ho : ∃ a' l', o = .dK (fdK c a' l')) : But p H (upd H p o) := by
  refine ⟨fun b u e n => by rw [upd_ne n]; exact e, fun c' a' l' e => ?_⟩
  obtain ⟨x, y, rfl⟩ := ho
  rw [h] at e
  have z := congrArg (fun o => match o with | some (HO.dK ((_, V.ref c) :: _)) => c | _ => 0) e
  have z' : c = c' := z
  subst z'
  exact ⟨x, y, upd_same⟩
theorem Same.but {p : Addr} {H H' : Hp} (a : Same H H') : But p H H' := But.of a
/-- something of one's own, made behind the feed, is changed -/
theorem Feed.put {H0 H : Hp} {p D : Addr} {n m : Nat} {o : HO} (F : Feed H0 p n) (hD : H0 D = none) (B : But p H0 H) (F2 : Feed H p m) : Feed (upd H D o) p m := by
  obtain ⟨c, ns, a, l, h1, h2, _⟩ := F
  obtain ⟨c', ns', a', l', g1, g2, g3, g4, g5⟩ := F2
  obtain ⟨x, y, e⟩ := B.cells c a l h1
  rw [g1] at e
  have z := congrArg (fun o => match o with | some (HO.dK ((_, V.ref c) :: _)) => c | _ => 0) e
  have z' : c' = c := z
  subst z'
  exact ⟨c', ns', a', l', by rw [upd_ne (ne_of_none h1 hD)]; exact g1, by rw [upd_ne (ne_of_none h2 hD)]; exact g2, g3, g4, g5⟩
/-- .. and so all else is as it was -/
theorem But.put {H0 H : Hp} {p D : Addr} {o : HO} (B : But p H0 H) (hD : H0 D = none) (hp : ∃ u, H0 p = some u) : But p H0 (upd H D o) := by
  obtain ⟨u, hu⟩ := hp
  refine ⟨fun b v e n => by rw [upd_ne (ne_of_none e hD)]; exact B b v e n, fun c a l e => ?_⟩
  obtain ⟨a', l', z⟩ := B.cells c a l e
  exact ⟨a', l', by rw [upd_ne (ne_of_none hu hD)]; exact z⟩
theorem Feed.mono {H : Hp} {p : Addr} {n m : Nat} (f : Feed H p n) (h : n ≤ m) : Feed H p m := by
  obtain ⟨c, ns, a, l, h1, h2, h3, h4, h5⟩ := f
  exact ⟨c, ns, a, l, h1, h2, h3, by omega, h5⟩
theorem Feed.same {H H' : Hp} {p : Addr} {n : Nat} (f : Feed H p n) (s : Same H H') : Feed H' p n := by
  obtain ⟨c, ns, a, l, h1, h2, h3, h4, h5⟩ := f
  exact ⟨c, ns, a, l, s _ _ h1, s _ _ h2, h3, h4, h5⟩
theorem same_new {H : Hp} {q : Addr} {o : HO} (h : H q = none) : Same H (upd H q o) := fun b u e => by
  rw [upd_ne (ne_of_none e h)]; exact e
theorem Feed.new {H : Hp} {p q : Addr} {o : HO} {n : Nat} (f : Feed H p n) (h : H q = none) : Feed (upd H q o) p n := f.same (same_new h)
theorem Feed.ex {H : Hp} {p : Addr} {n : Nat} (f : Feed H p n) : ∃ kvs, H p = some (.dK kvs) := by
  obtain ⟨c, ns, a, l, h1, _⟩ := f
  exact ⟨_, h1⟩
theorem Feed.ne {H : Hp} {p q : Addr} {n : Nat} {o : HO} (f : Feed H p n) (h : H q = some o) (ho : ∀ kvs, o ≠ .dK kvs) : q ≠ p := by
  obtain ⟨kvs, e⟩ := f.ex
  exact ne_of h e (ho kvs)
theorem s_ne1 : ¬ ("cells" : Str) = "at" := by decide +kernel
theorem s_ne2 : ¬ ("cells" : Str) = "left" := by decide +kernel
theorem s_ne3 : ¬ ("at" : Str) = "left" := by decide +kernel
theorem k_ne1 : ¬ (Sum.inr (Str.ofString "cells") : Key) = Sum.inr (Str.ofString "at") := fun e => s_ne1 (Sum.inr.inj e)
theorem k_ne2 : ¬ (Sum.inr (Str.ofString "cells") : Key) = Sum.inr (Str.ofString "left") := fun e => s_ne2 (Sum.inr.inj e)
theorem k_ne3 : ¬ (Sum.inr (Str.ofString "at") : Key) = Sum.inr (Str.ofString "left") := fun e => s_ne3 (Sum.inr.inj e)
theorem v_cells (c : Addr) (a l : Int) : valV (fdK c a l) (Sum.inr "cells") = some (.ref c) := by
  unfold fdK; rw [valV_pos rfl]
theorem v_at (c : Addr) (a l : Int) : valV (fdK c a l) (Sum.inr "at") = some (.int a) := by
  unfold fdK; rw [valV_neg k_ne1, valV_pos rfl]
theorem v_left (c : Addr) (a l : Int) : valV (fdK c a l) (Sum.inr "left") = some (.int l) := by
  unfold fdK; rw [valV_neg k_ne2, valV_neg k_ne3, valV_pos rfl]
theorem p_at (c : Addr) (a l b : Int) : putK (fdK c a l) (Sum.inr "at") (.int b) = fdK c b l := by
  unfold putK fdK
  rw [if_pos (by simp)]
  simp [s_ne1, Ne.symm s_ne3]
theorem p_left (c : Addr) (a l b : Int) : putK (fdK c a l) (Sum.inr "left") (.int b) = fdK c a b := by
  unfold putK fdK
  rw [if_pos (by simp)]
  simp [s_ne2, s_ne3]
theorem fdK_len (c : Addr) (a l : Int) : (fdK c a l).length < sizeLine := by
  show 3 < sizeLine
  decide
/-- a draw: some number from 0 on, less than m -/
def spDraw : Sp := fun vs H Q _ => ∃ (p : Addr) (m : Int) (n : Nat), vs = [.ref p, .int m] ∧ 0 < m ∧ m < 1073741824 ∧ Feed H p n ∧ n < 1000000000 ∧
  ∀ (r : Int) (H' : Hp), 0 ≤ r → r < m → Feed H' p (n + 1) → But p H H' → Q (.int r) H'
theorem dp_ints {K : PySem.W.Frag} {H : Hp} : ∀ ns : List Int, DpAll K H (ns.map V.int) (ns.map PyData.int)
  | [] => .nil
  | n :: r => .cons (.int n) (dp_ints r)
theorem lay_ints : ∀ ns : List Int, PyData.canLayAll0 (ns.map PyData.int) = true
  | [] => rfl
  | n :: r => by
    show (PyData.canLay0 (.int n) && PyData.canLayAll0 (r.map PyData.int)) = true
    rw [lay_ints r]; rfl
theorem depth_ints : ∀ ns : List Int, PyData.depthAll (ns.map PyData.int) = 0
  | [] => rfl
  | n :: r => by
    show max (PyData.depth (.int n)) (PyData.depthAll (r.map PyData.int)) = 0
    rw [depth_ints r]; rfl
theorem shaped_ints (ns : List Int) : SeqAt.shaped (.list (ns.map PyData.int)) = true := by
  show (PyData.canLayAll0 (ns.map PyData.int) && decide (PyData.depthAll (ns.map PyData.int) + 1 ≤ 64)) = true
  rw [lay_ints, depth_ints]; rfl
section
variable {P : Program} {w : World} {K : PySem.W.Frag} {mg : Str → Option Value} {base : Heap}
abbrev s_draw : Stmt := top 13
theorem sc__law_draw : FnScope ["_law_feed_here", "_law_many", "_law_digit", "_law_at", "_law_cell", "_law_number", "_law_turn"] ["_law_feed_here", "_law_many"] (defScope s_draw) :=
  ⟨rfl, rfl, rfl, by decide +kernel, rfl, by decide +kernel,
    by decide +kernel⟩
theorem ok_draw {f : Addr} {fd : FuncData} (F : FnP K "_law_draw" s_draw f fd) (mg_len : mg "len" = none) (mg_abs : mg "abs" = none) (mg_range : mg "range" = none) :
    FnOk P w K mg base CX0 1 f fd ["_law_feed_here", "_law_many"] spDraw := by
  refine F.ok sc__law_draw (fun vs H Q E h => ?_) (fun cdv A outer s H vs Q E hr h => ?_)
  · obtain ⟨p, m, n, rfl, _⟩ := h
    rfl
  · obtain ⟨p, m, n, rfl, hm, hm2, hF, hn, k⟩ := h
    have hu := hu_of hr
    refine ⟨_, PSs.nox (pss_cons (ps_if (pt_cmpR op_gt (pe_dget hu (pv 0) pe_str (fun _ _ => rfl)) pe_int (nomark _))
    (pss_cons (ps_set (i := 2) sc__law_draw.nd rfl (Or.inl rfl) (pe_op op_mod (pe_dget hu (pv 0) pe_str (fun _ _ => rfl)) (pv 1)))
      (pss_cons (ps_dput hu (pv 0) pe_str (pe_op op_fdiv (pe_dget hu (pv 0) pe_str (fun _ _ => rfl)) (pv 1)) rfl)
      (pss_one (ps_ret (pv 2)))))
    pss_nil)
  (pss_cons (ps_set (i := 3) sc__law_draw.nd rfl (Or.inl rfl) (pe_dget hu (pv 0) pe_str (fun _ _ => rfl)))
  (pss_cons (ps_dput hu (pv 0) pe_str (pe_op op_add (pv 3) pe_int) rfl)
  (pss_cons (ps_set (i := 4) sc__law_draw.nd rfl (Or.inl rfl) (pe_op op_add (pe_op op_mul (pv 3) (pv 3)) pe_int))
  (C8.pss_cut (ps_if (pt_cmpR (op_neD hr.units) (pe_dget hu (pv 0) pe_str (fun _ _ => rfl)) (pe_lst pa_nil) (nomark _))
    (pss_one (ps_set (i := 4) sc__law_draw.nd rfl (Or.inl rfl) (pe_ix ix_list (pe_dget hu (pv 0) pe_str (fun _ _ => rfl)) (pe_op op_mod (pv 3) (pe_callB call_len_seq (by rfl) mg_len (by decide +kernel) (pa_cons (pe_dget hu (pv 0) pe_str (fun _ _ => rfl)) pa_nil))) (fun _ _ => rfl))))
    pss_nil)
  (C8.pss_cut (ps_if (PW.pt (pw_and (pt_cmpR op_lt (pv 3) (pe_callB call_len_seq (by rfl) mg_len (by decide +kernel) (pa_cons (pe_dget hu (pv 0) pe_str (fun _ _ => rfl)) pa_nil)) (nomark _)) (pw_and1 (pt_cmpR op_ge (pe_callB call_abs (by rfl) mg_abs (by decide +kernel) (pa_cons (pv 4) pa_nil)) (pe_op op_pow pe_int pe_int) (nomark _)))))
    (pss_cons (ps_dput hu (pv 0) pe_str (pe_op op_fdiv (pe_callB call_abs (by rfl) mg_abs (by decide +kernel) (pa_cons (pv 4) pa_nil)) (pv 1)) rfl)
      (pss_one (ps_ret (pe_op op_mod (pe_callB call_abs (by rfl) mg_abs (by decide +kernel) (pa_cons (pv 4) pa_nil)) (pv 1)))))
    pss_nil)
  (pss_cons (ps_set (i := 5) sc__law_draw.nd rfl (Or.inl rfl) (pe_op op_mod (pe_op op_mul (pe_op op_add (pe_op op_add (pe_op op_mod (pv 4) pe_int) (pe_op op_mul pe_int (pv 3))) pe_int) pe_int) pe_int))
  (pss_cons (ps_for PassesOwn.never rfl (pi_range1 (by rfl) mg_range (pa_cons pe_int pa_nil)) (pg_name (i := 6) sc__law_draw.nd rfl (.inl rfl))
    (pss_cons (ps_set (i := 5) sc__law_draw.nd rfl (Or.inl rfl) (pe_op op_add (pe_op op_add (pe_op op_add (pe_op op_mul (pv 5) (pv 5)) (pe_op op_mul pe_int (pv 5))) (pv 3)) (pv 6)))
      (pss_one (ps_set (i := 5) sc__law_draw.nd rfl (Or.inl rfl) (pe_op op_mod (pv 5) pe_int)))))
  (pss_one (ps_ret (pe_op op_mod (pe_op op_fdiv (pv 5) pe_int) (pv 1)))))))))))), ?_⟩
    obtain ⟨c, ns, a, l, h1, h2, ha, han, hl⟩ := hF
    have g1 : ∀ H1 : Hp, H1 p = some (.dK (fdK c a l)) → DGet H1 p (.str "left") (some (.int l)) := fun H1 e => by
      have z := DGet.k (k := Sum.inr "left") e; rw [v_left] at z; exact z
    have g2 : ∀ (H1 : Hp) (a l : Int), H1 p = some (.dK (fdK c a l)) → DGet H1 p (.str "at") (some (.int a)) := fun H1 a l e => by
      have z := DGet.k (k := Sum.inr "at") e; rw [v_at] at z; exact z
    have g3 : ∀ (H1 : Hp) (a l : Int), H1 p = some (.dK (fdK c a l)) → DGet H1 p (.str "cells") (some (.ref c)) := fun H1 a l e => by
      have z := DGet.k (k := Sum.inr "cells") e; rw [v_cells] at z; exact z
    have ncp : c ≠ p := ne_of h2 h1 (by intro z; cases z)
    -- left > 0
    refine ⟨_, rfl, p, _, rfl, g1 H h1, _, _, rfl, rfl, _, rfl, ?_⟩
    refine ite2 (fun _ => ?_) (fun _ => ?_)
    · refine ⟨_, rfl, p, _, rfl, g1 H h1, _, rfl, _, _, rfl, rfl, hm, ?_⟩
      refine ⟨_, rfl, p, _, rfl, g1 H h1, _, rfl, _, _, rfl, rfl, ⟨hm, hm2⟩, _, rfl, p, _, rfl, DPut.k (k := Sum.inr "left") h1 (fdK_len _ _ _), ?_⟩
      refine ⟨_, rfl, ?_⟩
      refine k _ _ (Int.emod_nonneg _ (by omega)) (Int.emod_lt_of_pos _ hm) ⟨c, ns, a, l / m, ?_, ?_, ha, by omega, Int.ediv_nonneg hl (by omega)⟩ (But.at h1 ⟨_, _, by rw [p_left]⟩)
      · rw [upd_same, p_left]
      · rw [upd_ne ncp]; exact h2
    · -- at; at + 1
      refine ⟨_, rfl, p, _, rfl, g2 H a l h1, ?_⟩
      refine ⟨_, rfl, _, _, rfl, rfl, _, rfl, p, _, rfl, DPut.k (k := Sum.inr "at") h1 (fdK_len _ _ _), ?_⟩
      have e1 : upd H p (.dK (putK (fdK c a l) (Sum.inr "at") (.int (a + 1)))) = upd H p (.dK (fdK c (a + 1) l)) := by rw [p_at]
      rw [e1]
      generalize hH1 : upd H p (.dK (fdK c (a + 1) l)) = H1
      have i1 : H1 p = some (.dK (fdK c (a + 1) l)) := by rw [← hH1]; exact upd_same
      have i2 : H1 c = some (.lst (ns.map V.int)) := by rw [← hH1, upd_ne ncp]; exact h2
      have i3 : But p H H1 := by rw [← hH1]; exact But.at h1 ⟨_, _, rfl⟩
      refine ⟨_, rfl, _, rfl, _, _, rfl, rfl, .inl ⟨by omega, by omega⟩, _, _, rfl, rfl, ?_⟩
      -- behind the first if: some cell, the feed as it is but for a new list
      refine ⟨fun σ' H2 => ∃ z : Int, σ' = [some (.ref p), some (.int m), none, some (.int a), some (.int z), none, none] ∧ H2 p = some (.dK (fdK c (a + 1) l)) ∧ H2 c = some (.lst (ns.map V.int)) ∧ But p H H2, ?_, ?_⟩
      · refine ⟨_, rfl, p, _, rfl, g3 H1 _ _ i1, (by show 0 ≤ sizeLine; decide), fun q hq => ?_⟩
        have j1 := same_new (o := HO.lst []) hq _ _ i1
        have j2 := same_new (o := HO.lst []) hq _ _ i2
        have j3 : But p H (upd H1 q (.lst [])) := i3.trans (But.new hq)
        generalize hH2 : upd H1 q (.lst []) = H2 at j1 j2 j3 ⊢
        have jq : H2 q = some (.lst []) := by rw [← hH2]; exact upd_same
        refine ⟨_, _, .lst (SqL.of j2) (dp_ints ns), .lst (SqL.of jq) .nil, shaped_ints ns, rfl, _, rfl, ?_⟩
        cases ns with
        | nil =>
          refine iteF ?_
          exact ⟨_, rfl, j1, j2, j3⟩
        | cons n0 nr =>
          refine iteT ?_
          have hpos : (0 : Int) < (((n0 :: nr).map V.int).length : Int) := by simp
          have hlt := Int.emod_lt_of_pos a hpos
          have hge := Int.emod_nonneg a (Int.ne_of_gt hpos)
          obtain ⟨i, hi⟩ : ∃ i : Nat, a % (((n0 :: nr).map V.int).length : Int) = i := ⟨(a % (((n0 :: nr).map V.int).length : Int)).toNat, by omega⟩
          have hil : i < ((n0 :: nr).map V.int).length := by omega
          refine ⟨_, rfl, p, _, rfl, g3 H2 _ _ j1, _, rfl, _, rfl, p, _, rfl, g3 H2 _ _ j1, c, _, rfl, .inl (SqL.of j2), _, _, rfl, rfl, hpos, c, _, _, V.int ((n0 :: nr).getD i 0), rfl, rfl, SqL.of j2, ?_, ?_⟩
          · rw [hi]
            apply atI_nat
            rw [List.getElem?_map]
            rw [List.length_map] at hil
            rw [List.getD_eq_getElem?_getD, List.getElem?_eq_getElem hil]
            rfl
          · exact ⟨_, rfl, j1, j2, j3⟩
      · rintro σ' H2 ⟨z, rfl, j1, j2, j3⟩
        have fin : ∀ (r l' : Int) (H3 : Hp), 0 ≤ r → r < m → 0 ≤ l' → H3 p = some (.dK (fdK c (a + 1) l')) → H3 c = some (.lst (ns.map V.int)) → But p H H3 → Q (.int r) H3 := fun r l' H3 q1 q2 q3 q4 q5 q6 =>
          k r H3 q1 q2 ⟨c, ns, a + 1, l', q4, q5, by omega, by omega, q3⟩ q6
        refine ⟨fun σ' H2 => ∃ z : Int, σ' = [some (.ref p), some (.int m), none, some (.int a), some (.int z), none, none] ∧ H2 p = some (.dK (fdK c (a + 1) l)) ∧ H2 c = some (.lst (ns.map V.int)) ∧ But p H H2, ?_, ?_⟩
        · -- at < len(cells) and abs(cell) >= 10 ** 18
          refine ⟨_, rfl, _, rfl, p, _, rfl, g3 H2 _ _ j1, c, _, rfl, .inl (SqL.of j2), _, _, rfl, rfl, _, rfl, ?_⟩
          refine ite2 (fun _ => ?_) (fun _ => ?_)
          · refine ⟨_, rfl, _, rfl, _, _, rfl, rfl, ⟨by decide, by decide, by decide⟩, _, _, rfl, rfl, _, rfl, ?_⟩
            have habs : (0 : Int) ≤ (if z < 0 then -z else z) := by split <;> omega
            refine ite2 (fun _ => ?_) (fun _ => ?_)
            · refine ⟨_, rfl, _, rfl, _, rfl, _, _, rfl, rfl, ⟨hm, hm2⟩, _, rfl, p, _, rfl, DPut.k (k := Sum.inr "left") j1 (fdK_len _ _ _), ?_⟩
              refine ⟨_, rfl, _, rfl, _, rfl, _, _, rfl, rfl, hm, ?_⟩
              refine fin _ ((if z < 0 then -z else z) / m) _ (Int.emod_nonneg _ (by omega)) (Int.emod_lt_of_pos _ hm) (Int.ediv_nonneg habs (by omega)) (by rw [upd_same, p_left]) (by rw [upd_ne ncp]; exact j2) (j3.trans (But.at j1 ⟨_, _, by rw [p_left]⟩))
            · exact ⟨z, rfl, j1, j2, j3⟩
          · exact ⟨z, rfl, j1, j2, j3⟩
        · rintro σ' H2 ⟨z, rfl, j1, j2, j3⟩
          -- the number that is mixed
          have w1 := Int.emod_nonneg z (show (4294967311 : Int) ≠ 0 by decide)
          have w2 := Int.emod_lt_of_pos z (show (0 : Int) < 4294967311 by decide)
          refine ⟨_, rfl, _, _, rfl, rfl, (by show (0 : Int) < 4294967311; decide), _, rfl, _, _, rfl, rfl, .inl ⟨by decide, by decide⟩, _, _, rfl, rfl, _, _, rfl, rfl, _, _, rfl, rfl, .inr ⟨by decide, by decide⟩, _, _, rfl, rfl, (by show (0 : Int) < 4294967311; decide), ?_⟩
          have inv := fun (b : Int) => Int.emod_nonneg b (show (4294967311 : Int) ≠ 0 by decide)
          have inv2 := fun (b : Int) => Int.emod_lt_of_pos b (show (0 : Int) < 4294967311 by decide)
          refine ⟨3, rfl, by decide, by decide, for_range (lo := 0) (n := 3) (fun i σ' H' => H' = H2 ∧ ∃ (y : Int) (v : Option V), 0 ≤ y ∧ y < 4294967311 ∧ σ' = [some (.ref p), some (.int m), none, some (.int a), some (.int z), some (.int y), v])
            ⟨rfl, _, none, inv _, inv2 _, rfl⟩ ?_ ?_⟩
          · rintro i σ' H' hi ⟨rfl, y, v, y0, y1, rfl⟩
            refine ⟨_, rfl, _, rfl, _, _, rfl, rfl, .inl ⟨by omega, by omega⟩, _, rfl, _, _, rfl, rfl, .inl ⟨by decide, by decide⟩, _, _, rfl, rfl, _, rfl, _, _, rfl, rfl, _, rfl, _, _, rfl, rfl, ?_⟩
            refine ⟨_, rfl, _, _, rfl, rfl, (by show (0 : Int) < 4294967311; decide), ?_⟩
            exact ⟨rfl, _, _, inv _, inv2 _, rfl⟩
          · rintro σ' H' ⟨rfl, y, v, y0, y1, rfl⟩
            refine ⟨_, rfl, _, _, rfl, rfl, ⟨by decide, by decide⟩, _, rfl, _, _, rfl, rfl, hm, ?_⟩
            exact fin _ _ _ (Int.emod_nonneg _ (by omega)) (Int.emod_lt_of_pos _ hm) hl j1 j2 j3
end
end Lw

/-! ### the feed is made -/
namespace Lw
open PySem PySem.Spec PyProof.Rows L2 Fw
def spFeed (K : PySem.W.Frag) : Sp := fun vs H Q _ => ∃ (a : Addr) (ns : List Int), vs = [.ref a] ∧ SqL K H a (ns.map V.int) ∧ ns.length ≤ 63 ∧
  ∀ (p : Addr) (H' : Hp), H p = none → Same H H' → Feed H' p 0 → Q (.ref p) H'
theorem merge_fd (D : Addr) : mergeK [] [((Sum.inr (Str.ofString "cells") : Key), V.ref D), (Sum.inr (Str.ofString "at"), V.int 0), (Sum.inr (Str.ofString "left"), V.int 0)] = fdK D 0 0 := by
  simp [mergeK, putK, fdK, s_ne1, s_ne2, s_ne3]
theorem cut_ints (ns : List Int) (lo hi : Option Int) : ∃ ms : List Int, cutV (ns.map V.int) lo hi = ms.map V.int := by
  unfold cutV
  rw [List.length_map]
  exact ⟨(ns.drop _).take _, by rw [List.map_take, List.map_drop]⟩
theorem take_succ_of {α : Type} {l : List α} {i : Nat} {x : α} (h : l[i]? = some x) : l.take (i + 1) = l.take i ++ [x] := by
  rw [List.take_succ, h]; rfl
section
variable {P : Program} {w : World} {K : PySem.W.Frag} {mg : Str → Option Value} {base : Heap}
abbrev s_feed : Stmt := top 12
theorem sc__law_feed : FnScope ["_law_script", "_law_cell"] ["_law_script"] (defScope s_feed) :=
  ⟨rfl, rfl, rfl, by decide +kernel, rfl, by decide +kernel,
    by decide +kernel⟩
theorem ok_feed {f : Addr} {fd : FuncData} (F : FnP K "_law_feed" s_feed f fd) : FnOk P w K mg base CX0 1 f fd ["_law_script"] (spFeed K) := by
  refine F.ok sc__law_feed (fun vs H Q E h => ?_) (fun cdv A outer s H vs Q E hr h => ?_)
  · obtain ⟨a, ns, rfl, _⟩ := h
    rfl
  · obtain ⟨a, ns, rfl, hS, hlen, k⟩ := h
    refine ⟨_, PSs.nox (pss_one (ps_ret (pe_disp (pps_cons pe_str (pe_lc (own := [("_law_cell", 1)]) (g := gName 1) (tt := tYes) (by rfl) sc__law_feed.nd (pi_list (pe_slice sl_list (pv 0) po_none (po_some pe_int))) (blkOk_by (own := [("_law_cell", 1)]) (N := ["_law_script", "_law_cell"]) (sc := defScope (top 12)) (by decide +kernel)) (fun _ _ _ _ _ => (pg_name (i := 1) sc__law_feed.nd rfl (.inl rfl))) (fun _ _ _ _ _ => pts_nil) (fun _ _ _ _ _ => (pv 1))) (pps_cons pe_str pe_int (pps_cons pe_str pe_int pps_nil))) (by rfl) (by rfl) (fun z => by cases z) (by decide)))), ?_⟩
    intro p hp
    obtain ⟨ms, hms⟩ := cut_ints ns none (some 63)
    have s1 : Same H (upd H p (.dK [])) := same_new hp
    refine ⟨_, rfl, _, rfl, a, _, rfl, s1.seq hS, fun q hq => ⟨q, rfl, ⟨_, SqL.of upd_same⟩, fun D hD => ?_⟩⟩
    rw [hms] at hD ⊢
    have n1 : p ≠ q := ne_of_none upd_same hq
    have n2 : q ≠ D := ne_of_none upd_same hD
    have n3 : p ≠ D := ne_of_none (by rw [upd_ne n1]; exact upd_same) hD
    have hD0 : H D = none := (s1.trans (same_new hq)).free hD
    refine lc_list (K := K) (a := q) (xs := ms.map V.int) (fun i H' => Same H H' ∧ H' q = some (.lst (ms.map V.int)) ∧ H' p = some (.dK []) ∧ H' D = some (.lst ((ms.map V.int).take i)))
      ⟨(s1.trans (same_new hq)).trans (same_new hD), ?_, ?_, upd_same⟩ (fun i H' _ h => SqL.of h.2.1) ?_ ?_
    · rw [upd_ne n2, upd_same]
    · rw [upd_ne n3, upd_ne n1, upd_same]
    · rintro i x H' hx ⟨k1, k2, k3, k4⟩
      refine ⟨rfl, ?_⟩
      refine ⟨_, rfl, _, k4, ?_, ?_, ?_, ?_, ?_⟩
      · rw [List.length_take]
        have h1 := cutV_length (ns.map V.int) none (some 63)
        rw [hms, List.length_map, List.length_map] at h1
        have h2 : 1000 < sizeLine := by decide
        rw [List.length_map]
        omega
      · intro b o e
        rw [upd_ne (ne_of_none e hD0)]; exact k1 b o e
      · rw [upd_ne n2]; exact k2
      · rw [upd_ne n3]; exact k3
      · rw [upd_same, take_succ_of hx]
    · rintro H' ⟨k1, k2, k3, k4⟩
      refine ⟨k3, [(Sum.inr (Str.ofString "cells"), .ref D), (Sum.inr (Str.ofString "at"), .int 0), (Sum.inr (Str.ofString "left"), .int 0)], rfl, by show 3 ≤ 15; decide, ?_⟩
      rw [merge_fd]
      refine k p _ hp (fun b o e => by rw [upd_ne (ne_of_none e hp)]; exact k1 b o e) ⟨D, ms, 0, 0, upd_same, ?_, by decide, by decide, by decide⟩
      rw [upd_ne n3.symm, k4, List.take_length]
end
end Lw

/-! ### texts that are digits or not -/
namespace Lw
open PySem PySem.Spec PyProof.Rows L2 Fw SX
abbrev sg : Str := "0123456789abcdefghijklmnopqrstuvwxyz"
def sgl : List Nat := sg.cps.toList
def fnd (c : Nat) : Int := if 48 ≤ c ∧ c ≤ 57 then (c : Int) - 48 else if 97 ≤ c ∧ c ≤ 122 then (c : Int) - 87 else -1
theorem sg_S : sg = S sgl := by decide +kernel
theorem sg_len : sg.length ≤ sizeLine := by decide +kernel
theorem sg_find : ∀ c : Fin 128, Txt.find sg ⟨#[c.val]⟩ = fnd c.val := by decide +kernel
theorem sg_in : ∀ (b : Fin 37) (c : Fin 128), decide (c.val ∈ sgl.take b.val) = decide (0 ≤ fnd c.val ∧ fnd c.val < b.val) := by decide +kernel
theorem sg_index : ∀ (b : Fin 37) (c : Fin 128), 0 ≤ fnd c.val → fnd c.val < b.val → Txt.index0 (S (sgl.take b.val)) ⟨#[c.val]⟩ = some (fnd c.val).toNat := by decide +kernel
theorem empty_S : (Str.ofString "") = S [] := by decide +kernel
theorem S_get {l : List Nat} {i c : Nat} (h : (S l).cps[i]? = some c) : l[i]? = some c := by
  rw [← Array.getElem?_toList] at h
  exact h
/-- the number, or the place of the first sign that is no digit -/
def scan (b : Nat) : Nat → Nat → List Nat → Nat ⊕ Nat
  | _, acc, [] => .inl acc
  | i, acc, c :: r => if 0 ≤ fnd c ∧ fnd c < b then scan b (i + 1) (acc * b + (fnd c).toNat) r else .inr i
theorem scan_cons (b i n c : Nat) (r : List Nat) : scan b i n (c :: r) = if 0 ≤ fnd c ∧ fnd c < b then scan b (i + 1) (n * b + (fnd c).toNat) r else .inr i := rfl
def due (b : Nat) (l : List Nat) : Nat ⊕ Nat := if l = [] then .inr 0 else scan b 0 0 l
theorem drop_at {l : List Nat} {i c : Nat} (h : l[i]? = some c) : l.drop i = c :: l.drop (i + 1) := by
  obtain ⟨hi, e⟩ := List.getElem?_eq_some_iff.mp h
  rw [List.drop_eq_getElem_cons hi, e]
theorem scan_lt {b : Nat} (hb : 2 ≤ b) : ∀ (l : List Nat) (i acc n : Nat), scan b i acc l = .inl n → n < (acc + 1) * b ^ l.length
  | [], i, acc, n, h => by
    cases h
    show acc < (acc + 1) * 1
    omega
  | c :: r, i, acc, n, h => by
    unfold scan at h
    split at h
    · rename_i hc
      have := scan_lt hb r _ _ _ h
      refine Nat.lt_of_lt_of_le this ?_
      have hd : (fnd c).toNat < b := by omega
      have e : acc * b + (fnd c).toNat + 1 ≤ (acc + 1) * b := by rw [Nat.succ_mul]; omega
      rw [List.length_cons, Nat.pow_succ', ← Nat.mul_assoc]
      exact Nat.mul_le_mul_right _ e
    · cases h
theorem scan_at {b : Nat} : ∀ (l : List Nat) (i acc k : Nat), scan b i acc l = .inr k → k < i + l.length
  | [], i, acc, k, h => by cases h
  | c :: r, i, acc, k, h => by
    unfold scan at h
    split at h
    · have := scan_at r _ _ _ h
      rw [List.length_cons]; omega
    · cases h
      rw [List.length_cons]; omega
/-- things that are handed to number_of -/
inductive Thing (K : PySem.W.Frag) (H : Hp) (b : Nat) : V → (Nat ⊕ Nat) → Prop where
  | txt (l : List Nat) (hl : l.length ≤ 100) (hc : ∀ c ∈ l, c < 128) : Thing K H b (.str (S l)) (due b l)
  | odd {v : V} {t : String} (ty : TyX K H v (.type t)) (hk : kitB t "str" = some false) : Thing K H b v (.inr 0)
/-- the answer: a number, or ("no", place) -/
def Told (H : Hp) (v : V) : Nat ⊕ Nat → Prop
  | .inl n => v = .int n
  | .inr k => ∃ T, v = .ref T ∧ H T = some (.tup [.str "no", .int (k : Nat)])
/-- the field of the exception that number_of raises -/
def NdX (C : Addr) (k : Nat) (Q : XK) (H : Hp) : Prop := ∀ d H2, H d = none → (∀ b o, H b = some o → H2 b = some o) → (∀ b, b ≠ d → H2 b = H b) → H2 d = some (.xd [("at", .int (k : Nat))]) → Q (.ref C) (some d) H2
def spNumber (K : PySem.W.Frag) (C : Addr) : Sp := fun vs H Q E => ∃ (v : V) (b : Nat) (r : Nat ⊕ Nat), vs = [v, .int b] ∧ 2 ≤ b ∧ b ≤ 36 ∧ Thing K H b v r ∧
  (∀ n H', r = .inl n → Same H H' → Q (.int (n : Nat)) H') ∧ (∀ k H', r = .inr k → Same H H' → NdX C k E H')
section
variable {P : Program} {w : World} {K : PySem.W.Frag} {mg : Str → Option Value} {base : Heap}
abbrev s_ini : Stmt := inClass (top 1) 0
theorem sc_NoDigits___init__ : FnScope ["self", "at"] ["self", "at"] (defScope s_ini) :=
  ⟨rfl, rfl, rfl, by decide +kernel, rfl, by decide +kernel,
    by decide +kernel⟩
theorem ok_ini {C f : Addr} {fd : FuncData} (F : FunD K "__init__" "NoDigits.__init__" (defArgs s_ini) (defBody s_ini) (defScope s_ini) [] [] f fd) (W : Own K C f "ValueError" "ValueError.__new__" "ValueError.__init__" [.type "ValueError", .type "Exception", .type "BaseException", .type "object"] "at")
    (mg_ValueError : mg "ValueError" = none) : FnOk P w K mg base CX0 1 f fd ["self", "at"] (spIni C "at") := by
  have T := exB_of PySem.F.excBase_ValueError PySem.F.store_ValueError
  have ty := PySem.OEX.typ_VE
  have up := W.up
  refine F.ok sc_NoDigits___init__ (fun vs H Q E h => ?_) (fun cdv A outer s H vs Q E hr h => ?_)
  · obtain ⟨a, v, rfl, _⟩ := h
    rfl
  · obtain ⟨a, v, rfl, ha, k⟩ := h
    refine ⟨_, PSs.nox (pss_cons (ps_expr (pe_up T rfl mg_ValueError (by decide +kernel) ty up (pa_cons (pv 0) (pa_cons pe_str pa_nil))))
  (pss_one (ps_put T (pv 0) (pv 1)))), ?_⟩
    refine ⟨_, rfl, a, C, [_], rfl, by decide, W.O, ha, ?_⟩
    exact ⟨_, rfl, _, rfl, a, C, rfl, W.O, W.no, .inl ⟨ha, fun dx hd hn => k dx hd hn⟩⟩
abbrev s_number_of : Stmt := top 10
theorem sc_number_of : FnScope ["text", "base", "number", "at", "sign", "digit"] ["text", "base"] (defScope s_number_of) :=
  ⟨rfl, rfl, rfl, by decide +kernel, rfl, by decide +kernel,
    by decide +kernel⟩
theorem ok_number_of {C f : Addr} {fd : FuncData} {dv : List V} {kv : List (Str × V)} (F : FunD K "number_of" "number_of" (defArgs s_number_of) (defBody s_number_of) (defScope s_number_of) dv kv f fd) {ts : Tok} (mg_SIGNS : mg "SIGNS" = some (.str sg ts))
    (mg_isinstance : mg "isinstance" = none) (mg_str : mg "str" = none) (mg_enumerate : mg "enumerate" = none) (R_NoDigits : Rz P w K mg base 1 "NoDigits" C (spIni C "at")) : FnOk P w K mg base (L2.CX P w) 3 f fd ["text", "base"] (spNumber K C) := by
  refine F.ok sc_number_of (fun vs H Q E h => ?_) (fun cdv A outer s H vs Q E hr h => ?_)
  · obtain ⟨v, b, r, rfl, _⟩ := h
    rfl
  · obtain ⟨v, b, r, rfl, hb, hb2, ht, kI, kE⟩ := h
    refine ⟨_, (pss_cons (ps_if (PW.pt (pw_or (pt_not (pt_val (pe_callB call_isi (by rfl) mg_isinstance (by decide +kernel) (pa_cons (pv 0) (pa_cons (pe_bltn (v := .ty "str") (u := .type "str") (by rfl) mg_str (by decide +kernel) rfl) pa_nil))))) (pw_or1 (pt_cmpR op_eq (pv 0) pe_str (nomark _)))))
    (pss_one (ps_raise rfl (takes_of rfl rfl rfl rfl) (pm_rz R_NoDigits (hr.mono (by decide)) rfl (pa_cons pe_int pa_nil))))
    pss_nil)
  (pss_cons (ps_set (i := 2) sc_number_of.nd rfl (Or.inl rfl) pe_int)
  (pss_cons (ps_for (passes_of rfl) rfl (pi_enumS (by rfl) mg_enumerate (pa_cons (pv 0) pa_nil)) (pg_tup (by rfl) (pgs_cons (pg_name (i := 3) sc_number_of.nd rfl (.inl rfl)) (pgs_cons (pg_name (i := 4) sc_number_of.nd rfl (.inl rfl)) pgs_nil)))
    (pss_cons (ps_set (i := 5) sc_number_of.nd rfl (Or.inl rfl) (pe_m1 PySem.F.slot_str_find PySem.F.type_str_find mt_find (pe_glob (v := .str "0123456789abcdefghijklmnopqrstuvwxyz") rfl mg_SIGNS ⟨_, rfl⟩) (pv 4)))
      (pss_cons (ps_if (pt_not (pt_chain op_le op_lt pe_int (pv 5) (pv 1)))
        (pss_one (ps_raise rfl (takes_of rfl rfl rfl rfl) (pm_rz R_NoDigits (hr.mono (by decide)) rfl (pa_cons (pv 3) pa_nil))))
        pss_nil)
      (pss_one (ps_set (i := 2) sc_number_of.nd rfl (Or.inl rfl) (pe_op op_add (pe_op op_mul (pv 2) (pv 1)) (pv 5)))))))
  (pss_one (ps_ret (pv 2)))))), ?_⟩
    cases ht with
    | @odd _ t ty hk =>
      refine ⟨_, rfl, _, _, _, _, false, rfl, .ty _, ty, kit_ty hk, _, rfl, iteT ?_⟩
      exact mk_ini (kE 0 H rfl (Same.refl _))
    | txt l hlen hm =>
      refine ⟨_, rfl, _, _, _, _, true, rfl, .ty _, .base (.str _), kit_ty (by decide +kernel), _, rfl, iteF ?_⟩
      refine ⟨_, rfl, rfl, _, rfl, ?_⟩
      by_cases hne : l = []
      · subst hne
        rw [decide_eq_true (by rw [empty_S])]
        refine iteT ?_
        exact mk_ini (kE 0 H rfl (Same.refl _))
      rw [decide_eq_false (by
        intro e
        have e2 := V.str.inj e
        rw [empty_S] at e2
        exact hne (S_inj e2))]
      refine iteF ?_
      have hdue : due b l = scan b 0 0 l := by unfold due; rw [if_neg hne]
      rw [hdue] at kI kE
      refine ⟨_, rfl, S l, rfl, ?_⟩
      refine for_enumS (x := S l) (fun i σ' H' => Same H H' ∧ ∃ (n : Nat) (v3 v4 v5 : Option V), σ' = [some (.str (S l)), some (.int b), some (.int (n : Nat)), v3, v4, v5] ∧ scan b 0 0 l = scan b i n (l.drop i)) ⟨Same.refl _, 0, none, none, none, rfl, rfl⟩ ?_ ?_
      · rintro i c T σ' H' hc hT ⟨hs, n, v3, v4, v5, rfl, e⟩
        have hc2 := S_get hc
        have hc3 := hm c (List.mem_of_getElem? hc2)
        rw [drop_at hc2, scan_cons] at e
        refine ⟨T, _, rfl, SqT.of upd_same, rfl, _, _, rfl, _, _, rfl, rfl, ?_⟩
        refine ⟨⟨_, rfl⟩, _, rfl, sg, S [c], rfl, rfl, ?_⟩
        have hf : Txt.find sg (S [c]) = fnd c := sg_find ⟨c, hc3⟩
        rw [hf]
        have hS : Same H (upd H' T (.tup [.int (i : Nat), .str ⟨#[c]⟩])) := hs.trans (same_new hT)
        refine ⟨_, rfl, _, _, rfl, rfl, _, rfl, ?_⟩
        refine ite2 (fun c1 => ?_) (fun c1 => ?_)
        · refine ⟨_, rfl, _, _, rfl, rfl, _, rfl, ?_⟩
          refine ite2 (fun c2 => ?_) (fun c2 => ?_)
          · have h1 : ¬ fnd c < b := fun z => by
              rw [decide_eq_true z] at c2
              exact absurd c2 (by decide)
            rw [if_neg (fun z => h1 z.2)] at e
            exact ⟨_, rfl, mk_ini (kE i _ e hS)⟩
          · have h0 : 0 ≤ fnd c := of_decide_eq_true c1
            have h1 : fnd c < b := by
              cases q : decide (fnd c < (b : Int)) with
              | true => exact of_decide_eq_true q
              | false => rw [q] at c2; exact absurd rfl c2
            rw [if_pos ⟨h0, h1⟩] at e
            refine ⟨_, rfl, _, rfl, _, _, rfl, rfl, .inr ⟨by omega, by omega⟩, _, rfl, _, _, rfl, rfl, ?_⟩
            refine ⟨hS, n * b + (fnd c).toNat, some (.int i), some (.str ⟨#[c]⟩), some (.int (fnd c)), ?_, e⟩
            have e3 : ((n * b + (fnd c).toNat : Nat) : Int) = (n : Int) * b + fnd c := by
              rw [Int.natCast_add, Int.natCast_mul, Int.toNat_of_nonneg h0]
            rw [e3]
            rfl
        · have h1 : ¬ 0 ≤ fnd c := fun z => c1 (decide_eq_true z)
          rw [if_neg (fun z => h1 z.1)] at e
          exact ⟨_, rfl, iteT ⟨_, rfl, mk_ini (kE i _ e hS)⟩⟩
      · rintro σ' H' ⟨hs, n, v3, v4, v5, rfl, e⟩
        refine ⟨_, rfl, kI n H' ?_ hs⟩
        have e2 : (S l).cps.size = l.length := S_len l
        rw [e2, List.drop_length] at e
        exact e
end
end Lw

namespace Lw
open PySem PySem.Spec PyProof.Rows L2 Fw SX
def spDue (K : PySem.W.Frag) : Sp := fun vs H Q _ => ∃ (v : V) (b : Nat) (r : Nat ⊕ Nat), vs = [v, .int b] ∧ 2 ≤ b ∧ b ≤ 36 ∧ Thing K H b v r ∧ ∀ u H', Same H H' → Told H' u r → Q u H'
theorem sl_sg {b : Nat} (hb : b ≤ 36) : Txt.slice sg none (some (b : Int)) = S (sgl.take b) := by
  rw [sg_S, slice_to (by omega)]
  rfl
/-- the exception that number_of raised -/
def spRefusal (K : PySem.W.Frag) (C : Addr) : Sp := fun vs H Q _ => ∃ (a : Addr) (d : Option Addr) (k : Nat), vs = [.ref a] ∧ Kept H a C d [("at", .int (k : Nat))] ∧ ∀ u H', Same H H' → Told H' u (.inr k) → Q u H'
section
variable {P : Program} {w : World} {K : PySem.W.Frag} {mg : Str → Option Value} {base : Heap}
abbrev s_due : Stmt := top 16
theorem sc__law_due : FnScope ["_law_text", "_law_radix_here", "_law_signs_here", "_law_number", "_law_at", "_law_one"] ["_law_text", "_law_radix_here"] (defScope s_due) :=
  ⟨rfl, rfl, rfl, by decide +kernel, rfl, by decide +kernel,
    by decide +kernel⟩
theorem ok_due {f : Addr} {fd : FuncData} (F : FnP K "_law_due" s_due f fd) (mg_isinstance : mg "isinstance" = none) (mg_str : mg "str" = none) (mg_enumerate : mg "enumerate" = none) : FnOk P w K mg base CX0 1 f fd ["_law_text", "_law_radix_here"] (spDue K) := by
  refine F.ok sc__law_due (fun vs H Q E h => ?_) (fun cdv A outer s H vs Q E hr h => ?_)
  · obtain ⟨v, b, r, rfl, _⟩ := h
    rfl
  · obtain ⟨v, b, r, rfl, hb, hb2, ht, k⟩ := h
    refine ⟨_, PSs.nox (pss_cons (ps_if (PW.pt (pw_or (pt_not (pt_val (pe_callB call_isi (by rfl) mg_isinstance (by decide +kernel) (pa_cons (pv 0) (pa_cons (pe_bltn (v := .ty "str") (u := .type "str") (by rfl) mg_str (by decide +kernel) rfl) pa_nil))))) (pw_or1 (pt_cmpR op_eq (pv 0) pe_str (nomark _)))))
    (pss_one (ps_ret (pe_tup (pa_cons pe_str (pa_cons pe_int pa_nil)))))
    pss_nil)
  (pss_cons (ps_set (i := 2) sc__law_due.nd rfl (Or.inl rfl) (pe_slice C8.sl_txt pe_str po_none (po_some (pv 1))))
  (pss_cons (ps_set (i := 3) sc__law_due.nd rfl (Or.inl rfl) pe_int)
  (pss_cons (ps_for PassesOwn.never rfl (pi_enumS (by rfl) mg_enumerate (pa_cons (pv 0) pa_nil)) (pg_tup (by rfl) (pgs_cons (pg_name (i := 4) sc__law_due.nd rfl (.inl rfl)) (pgs_cons (pg_name (i := 5) sc__law_due.nd rfl (.inl rfl)) pgs_nil)))
    (pss_cons (ps_if (pt_cmpR op_notIn_sign (pv 5) (pv 2) rfl)
        (pss_one (ps_ret (pe_tup (pa_cons pe_str (pa_cons (pv 4) pa_nil)))))
        pss_nil)
      (pss_one (ps_set (i := 3) sc__law_due.nd rfl (Or.inl rfl) (pe_op op_add (pe_op op_mul (pv 3) (pv 1)) (pe_bmS PySem.F.plainAttrs_str PySem.F.slot_str_index PySem.F.type_str_index (mt_indexX rfl takes0) (pv 2) (pa_cons (pv 5) pa_nil)))))))
  (pss_one (ps_ret (pv 3))))))), ?_⟩
    have no0 : ∀ T, H T = none → Told (upd H T (.tup [.str "no", .int 0])) (.ref T) (.inr 0) := fun T hT => ⟨T, rfl, upd_same⟩
    cases ht with
    | @odd _ t ty hk =>
      refine ⟨_, rfl, _, _, _, _, false, rfl, .ty _, ty, kit_ty hk, _, rfl, iteT ?_⟩
      exact ⟨by decide, fun T hT => k _ _ (same_new hT) (no0 T hT)⟩
    | txt l hlen hm =>
      refine ⟨_, rfl, _, _, _, _, true, rfl, .ty _, .base (.str _), kit_ty (by decide +kernel), _, rfl, iteF ?_⟩
      refine ⟨_, rfl, rfl, _, rfl, ?_⟩
      by_cases hne : l = []
      · subst hne
        rw [decide_eq_true (by rw [empty_S])]
        exact iteT ⟨by decide, fun T hT => k _ _ (same_new hT) (no0 T hT)⟩
      rw [decide_eq_false (by
        intro e
        have e2 := V.str.inj e
        rw [empty_S] at e2
        exact hne (S_inj e2))]
      refine iteF ?_
      have hdue : due b l = scan b 0 0 l := by unfold due; rw [if_neg hne]
      rw [hdue] at k
      refine ⟨_, rfl, _, rfl, sg, rfl, sg_len, ?_⟩
      rw [sl_sg hb2]
      refine ⟨_, rfl, S l, rfl, ?_⟩
      refine for_enumS (x := S l) (fun i σ' H' => Same H H' ∧ ∃ (n : Nat) (v4 v5 : Option V), σ' = [some (.str (S l)), some (.int b), some (.str (S (sgl.take b))), some (.int (n : Nat)), v4, v5] ∧ scan b 0 0 l = scan b i n (l.drop i)) ⟨Same.refl _, 0, none, none, rfl, rfl⟩ ?_ ?_
      · rintro i c T σ' H' hc hT ⟨hs, n, v4, v5, rfl, e⟩
        have hc2 := S_get hc
        have hc3 := hm c (List.mem_of_getElem? hc2)
        rw [drop_at hc2, scan_cons] at e
        have hS : Same H (upd H' T (.tup [.int (i : Nat), .str ⟨#[c]⟩])) := hs.trans (same_new hT)
        have hin : decide (c ∈ (S (sgl.take b)).cps.toList) = decide (0 ≤ fnd c ∧ fnd c < b) := sg_in ⟨b, by omega⟩ ⟨c, hc3⟩
        refine ⟨T, _, rfl, SqT.of upd_same, rfl, _, _, rfl, _, _, rfl, rfl, ?_⟩
        refine ⟨_, rfl, _, rfl, c, S (sgl.take b), rfl, rfl, _, rfl, ?_⟩
        rw [hin]
        by_cases hd : 0 ≤ fnd c ∧ fnd c < b
        · rw [if_pos hd] at e
          rw [decide_eq_true hd]
          refine iteF ?_
          refine ⟨_, rfl, _, rfl, _, _, rfl, rfl, .inr ⟨by omega, by omega⟩, _, rfl, rfl, _, rfl, S (sgl.take b), S [c], rfl, rfl, fun j hj => ?_, fun hj => ?_⟩
          · have z := sg_index ⟨b, by omega⟩ ⟨c, hc3⟩ hd.1 hd.2
            have z2 : Txt.index0 (S (sgl.take b)) (S [c]) = some (fnd c).toNat := z
            rw [z2] at hj
            cases hj
            refine ⟨_, _, rfl, rfl, hS, n * b + (fnd c).toNat, some (.int i), some (.str ⟨#[c]⟩), ?_, e⟩
            rw [Int.natCast_add, Int.natCast_mul]
            rfl
          · have z := sg_index ⟨b, by omega⟩ ⟨c, hc3⟩ hd.1 hd.2
            have z2 : Txt.index0 (S (sgl.take b)) (S [c]) = some (fnd c).toNat := z
            rw [z2] at hj
            cases hj
        · rw [if_neg hd] at e
          rw [decide_eq_false hd]
          refine iteT ⟨_, rfl, by show 2 ≤ sizeLine; decide, fun T2 hT2 => k _ _ (hS.trans (same_new hT2)) ?_⟩
          rw [e]
          exact ⟨T2, rfl, upd_same⟩
      · rintro σ' H' ⟨hs, n, v4, v5, rfl, e⟩
        refine ⟨_, rfl, k _ H' hs ?_⟩
        have e2 : (S l).cps.size = l.length := S_len l
        rw [e2, List.drop_length] at e
        rw [e]
        rfl
abbrev s_refusal : Stmt := top 17
theorem sc__law_refusal : FnScope ["_law_error", "_law_others"] ["_law_error"] (defScope s_refusal) :=
  ⟨rfl, rfl, rfl, by decide +kernel, rfl, by decide +kernel,
    by decide +kernel⟩
/-- what isinstance is asked of NoDigits -/
structure NdIs (K : PySem.W.Frag) (C : Addr) : Prop where
  k : ExcK K C
  no : PySem.W.findIn K (.ref C) "at" = some none
  oth : PySem.W.kitAny K (.ref C) [.ref (He.ga K "NoWord"), .ref (He.ga K "NoText"), .ref (He.ga K "NoMachine"), .ref (He.ga K "NoRange"), .ref (He.ga K "Nought")] = some false
  ve : PySem.W.kitOne K (.ref C) (.type "ValueError") = some true
  ae : PySem.W.kitOne K (.ref C) (.type "ArithmeticError") = some false
  me : PySem.W.exmOne K (.ref C) (.ref C) = some true
theorem ok_refusal {C f : Addr} {fd : FuncData} (F : FnP K "_law_refusal" s_refusal f fd) (D : NdIs K C) (mg_isinstance : mg "isinstance" = none) (mg_ValueError : mg "ValueError" = none) (mg_ArithmeticError : mg "ArithmeticError" = none)
    (mg_NoWord : mg "NoWord" = some (.ref (He.ga K "NoWord"))) (mg_NoText : mg "NoText" = some (.ref (He.ga K "NoText"))) (mg_NoMachine : mg "NoMachine" = some (.ref (He.ga K "NoMachine"))) (mg_NoRange : mg "NoRange" = some (.ref (He.ga K "NoRange")))
    (mg_Nought : mg "Nought" = some (.ref (He.ga K "Nought"))) : FnOk P w K mg base CX0 1 f fd ["_law_error"] (spRefusal K C) := by
  refine F.ok sc__law_refusal (fun vs H Q E h => ?_) (fun cdv A outer s H vs Q E hr h => ?_)
  · obtain ⟨a, d, k, rfl, _⟩ := h
    rfl
  · obtain ⟨a, d, k, rfl, hk, kq⟩ := h
    refine ⟨_, PSs.nox (pss_cons (ps_set (i := 1) sc__law_refusal.nd rfl (Or.inl rfl) (pe_callB call_isKT (by rfl) mg_isinstance (by decide +kernel) (pa_cons (pv 0) (pa_cons (pe_tup (pa_cons (pe_glob (v := .ref (He.ga K "NoWord")) rfl mg_NoWord rfl) (pa_cons (pe_glob (v := .ref (He.ga K "NoText")) rfl mg_NoText rfl) (pa_cons (pe_glob (v := .ref (He.ga K "NoMachine")) rfl mg_NoMachine rfl) (pa_cons (pe_glob (v := .ref (He.ga K "NoRange")) rfl mg_NoRange rfl) (pa_cons (pe_glob (v := .ref (He.ga K "Nought")) rfl mg_Nought rfl) pa_nil)))))) pa_nil))))
  (pss_cons (ps_if (PW.pt (pw_or (pt_val (pv 1)) (pw_or (pt_not (pt_val (pe_callB call_isK (by rfl) mg_isinstance (by decide +kernel) (pa_cons (pv 0) (pa_cons (pe_bltn (v := .ty "ValueError") (u := .type "ValueError") (by rfl) mg_ValueError (by decide +kernel) rfl) pa_nil))))) (pw_or1 (pt_val (pe_callB call_isK (by rfl) mg_isinstance (by decide +kernel) (pa_cons (pv 0) (pa_cons (pe_bltn (v := .ty "ArithmeticError") (u := .type "ArithmeticError") (by rfl) mg_ArithmeticError (by decide +kernel) rfl) pa_nil))))))))
    (pss_one (ps_ret (pe_tup (pa_cons pe_str pa_nil))))
    pss_nil)
  (pss_one (ps_ret (pe_tup (pa_cons pe_str (pa_cons (pe_kf (pv 0)) pa_nil))))))), ?_⟩
    have kep : ∀ {H1 : Hp}, Same H H1 → Kept H1 a C d [("at", .int (k : Nat))] := fun {H1} s => ⟨s _ _ hk.1, by
      rcases hk.2 with z | ⟨dd, z1, z2⟩
      · exact .inl z
      · exact .inr ⟨dd, z1, s _ _ z2⟩⟩
    refine ⟨_, rfl, by show 5 ≤ sizeLine; decide, fun tp htp => ?_⟩
    have s1 := same_new (o := .tup [.ref (He.ga K "NoWord"), .ref (He.ga K "NoText"), .ref (He.ga K "NoMachine"), .ref (He.ga K "NoRange"), .ref (He.ga K "Nought")]) htp
    refine ⟨a, C, d, _, tp, _, _, false, rfl, kep s1, D.k, upd_same, .cons (.own _) (.cons (.own _) (.cons (.own _) (.cons (.own _) (.cons (.own _) .nil)))), D.oth, ?_⟩
    refine ⟨_, rfl, _, rfl, iteF ?_⟩
    refine ⟨_, rfl, a, C, d, _, _, _, true, rfl, kep s1, D.k, .ty _, D.ve, _, rfl, iteF ?_⟩
    refine ⟨_, rfl, a, C, d, _, _, _, false, rfl, kep s1, D.k, .ty _, D.ae, _, rfl, iteF ?_⟩
    refine ⟨_, rfl, a, C, d, _, _, rfl, kep s1, D.k, D.no, rfl, by show 2 ≤ sizeLine; decide, fun T hT => kq _ _ (s1.trans (same_new hT)) ⟨T, rfl, upd_same⟩⟩
end
end Lw

namespace Lw
open PySem PySem.Spec PyProof.Rows L2 Fw SX
theorem at_ints {ns : List Int} {i : Int} (h0 : 0 ≤ i) (h1 : i < ns.length) : ∃ n ∈ ns, atI (ns.map V.int) i = some (.int n) := by
  obtain ⟨j, rfl⟩ : ∃ j : Nat, i = j := ⟨i.toNat, by omega⟩
  have hj : j < ns.length := by omega
  refine ⟨ns[j], List.getElem_mem hj, atI_nat ?_⟩
  rw [List.getElem?_map, List.getElem?_eq_getElem hj]
  rfl
theorem iteD {c A B : Prop} [Decidable c] (hc : c) (h : A) : if decide c = true then A else B := by
  rw [if_pos (decide_eq_true hc)]; exact h
theorem log2_lt {n k : Nat} (hk : 0 < k) (h : n < 2 ^ k) : n.log2 < k := by
  by_cases z : n = 0
  · subst z
    rw [Nat.log2_zero]; exact hk
  · exact (Nat.log2_lt z).mpr h
def spLaw (K : PySem.W.Frag) : Sp := fun vs H Q _ => ∃ (a : Addr) (ns : List Int), vs = [.ref a] ∧ SqL K H a (ns.map V.int) ∧ ns.length ≤ 63 ∧ ∀ H', Q (.bl true) H'
theorem at_mem {α : Type} {l : List α} {i : Int} (h0 : 0 ≤ i) (h1 : i < l.length) : ∃ v ∈ l, atI l i = some v := by
  obtain ⟨j, rfl⟩ : ∃ j : Nat, i = j := ⟨i.toNat, by omega⟩
  have hj : j < l.length := by omega
  exact ⟨l[j], List.getElem_mem hj, atI_nat (List.getElem?_eq_getElem hj)⟩
theorem nul_S : (Str.ofString "") = S [] := by decide +kernel
theorem join_ones (l : List Nat) : Txt.join (Str.ofString "") (l.map fun c => S [c]) = S l := by
  have e : (l.map fun c => S [c]) = (l.map fun c => [c]).map S := by rw [List.map_map]; rfl
  rw [nul_S, e, join_S]
  congr 1
  induction l with
  | nil => rfl
  | cons c r ih =>
    cases r with
    | nil => rfl
    | cons d r =>
      show [c] ++ ([] ++ TL.joinL [] ((d :: r).map fun c => [c])) = c :: d :: r
      rw [ih (by rw [List.map_map]; rfl)]
      rfl
theorem ones_sum (l : List Nat) : ((l.map fun c => S [c]).map (·.length)).sum = l.length := by
  induction l with
  | nil => rfl
  | cons a r ih =>
    rw [List.map_cons, List.map_cons, List.sum_cons, ih, S_len]
    simp; omega
theorem nul_len : (Str.ofString "").length = 0 := by decide +kernel
/-- turns of the outer loop -/
theorem turns {n lo hi : Int} (h0 : 0 ≤ lo) (h1 : lo ≤ hi) : (if (if n < hi then n else hi) > lo then (if n < hi then n else hi) else lo).toNat ≤ hi.toNat := by
  split <;> split <;> omega
end Lw

/-! ### repr: sizes -/
namespace Lw
open PySem PySem.Spec PyProof.Rows L2 Fw SX
theorem sh_int {i : Int} (h : i.natAbs.log2 < 1920) : (PyData.int i).showable = true ∧ (PyData.int i).shown.length ≤ sizeLine := ⟨decide_eq_true h, Nat.le_trans (int_text_len_1921 h) (by decide)⟩
theorem lv_int {i : Int} (h : i.natAbs.log2 < 1920) : (PyData.int i).leavesShort 1921 = true := decide_eq_true (int_text_len_1921 h)
theorem wt_int {i : Int} (h : i.natAbs.log2 < 1920) : (PyData.int i).weight ≤ 1920 := by
  show (if (i == 0) = true then 0 else i.natAbs.log2 + 1) ≤ 1920
  split <;> omega
theorem sh_of {d : PyData} (h : d.leavesShort 1921 = true) (hw : d.weight ≤ 8000) : d.shown.length ≤ sizeLine := by
  have h1 := PyData.shown_le 1921 (by decide) d h
  have h2 : (1921 + 2) * d.weight ≤ (1921 + 2) * 8000 := Nat.mul_le_mul_left _ hw
  have h3 : (1921 + 2) * 8000 + 10000 ≤ sizeLine := by decide
  omega
/-- what call_reprD asks of data -/
structure Shows (d : PyData) : Prop where
  s : d.showable = true
  n : d.hasDict = false
  dp : d.depth ≤ 60
  z : d.shown.length ≤ sizeLine
theorem Shows.int {i : Int} (h : i.natAbs.log2 < 1920) : Shows (.int i) := ⟨(sh_int h).1, rfl, by show 0 ≤ 60; omega, (sh_int h).2⟩
/-- a pair of numbers -/
theorem Shows.two {i j : Int} (hi : i.natAbs.log2 < 1920) (hj : j.natAbs.log2 < 1920) : Shows (.tuple [.int i, .int j]) := by
  refine ⟨?_, rfl, by show (max 0 (max 0 0)) + 1 ≤ 60; decide, sh_of ?_ ?_⟩
  · show ((PyData.int i).showable && ((PyData.int j).showable && true)) = true
    rw [(sh_int hi).1, (sh_int hj).1]; rfl
  · show ((PyData.int i).leavesShort 1921 && ((PyData.int j).leavesShort 1921 && true)) = true
    rw [lv_int hi, lv_int hj]; rfl
  · show (PyData.int i).weight + 1 + ((PyData.int j).weight + 1 + 0) ≤ 8000
    have := wt_int hi
    have := wt_int hj
    omega
end Lw

namespace Lw
open PySem PySem.Spec PyProof.Rows L2 Fw SX
section
variable {P : Program} {w : World} {K : PySem.W.Frag} {mg : Str → Option Value} {base : Heap}
def spRadix : Sp := fun vs H Q _ => ∃ (p : Addr) (n : Nat), vs = [.ref p] ∧ Feed H p n ∧ n < 100000000 ∧
  ∀ (r : Nat) (H' : Hp), 2 ≤ r → r ≤ 36 → Feed H' p (n + 2) → But p H H' → Q (.int r) H'
abbrev s_radix : Stmt := top 14
theorem sc__law_radix : FnScope ["_law_feed_here"] ["_law_feed_here"] (defScope s_radix) :=
  ⟨rfl, rfl, rfl, by decide +kernel, rfl, by decide +kernel,
    by decide +kernel⟩
theorem ok_radix {f : Addr} {fd : FuncData} (F : FnP K "_law_radix" s_radix f fd) (D__law_draw : Dn P w K mg base CX0 1 "_law_draw" ["_law_feed_here", "_law_many"] [] spDraw) : FnOk P w K mg base CX0 2 f fd ["_law_feed_here"] spRadix := by
  refine F.ok sc__law_radix (fun vs H Q E h => ?_) (fun cdv A outer s H vs Q E hr h => ?_)
  · obtain ⟨p, n, rfl, _⟩ := h
    rfl
  · obtain ⟨p, n, rfl, hF, hn, k⟩ := h
    refine ⟨_, PSs.nox (pss_one (ps_ret (pe_ix ix_list (pe_lst (pa_cons pe_int (pa_cons pe_int (pa_cons pe_int (pa_cons pe_int (pa_cons pe_int (pa_cons (pe_op op_add pe_int (pe_dn D__law_draw (hr.mono (by decide)) rfl (pa_cons (pv 0) (pa_cons pe_int pa_nil)))) pa_nil))))))) (pe_dn D__law_draw (hr.mono (by decide)) rfl (pa_cons (pv 0) (pa_cons pe_int pa_nil))) (fun _ _ => rfl)))), ?_⟩
    refine ⟨_, rfl, p, 35, n, rfl, by decide, by decide, hF, by omega, fun r H1 r0 r1 F1 B1 => ⟨_, _, rfl, rfl, by show 6 ≤ sizeLine; decide, fun q hq => ?_⟩⟩
    refine ⟨_, rfl, p, 6, n + 1, rfl, by decide, by decide, F1.new hq, by omega, fun i H2 i0 i1 F2 B2 => ?_⟩
    obtain ⟨x, hx, e⟩ := at_ints (ns := [10, 10, 2, 16, 36, 2 + r]) i0 (by simpa using i1)
    have hqp : q ≠ p := by
      obtain ⟨kvs, z⟩ := F1.ex
      exact (ne_of_none z hq).symm
    refine ⟨q, _, _, _, rfl, rfl, SqL.of (B2 q _ upd_same hqp), e, ?_⟩
    obtain ⟨y, rfl⟩ : ∃ y : Nat, x = y := ⟨x.toNat, by simp at hx; omega⟩
    exact k y H2 (by simp at hx; omega) (by simp at hx; omega) F2 ((B1.trans (But.new hq)).trans B2)
end
end Lw

namespace Lw
open PySem PySem.Spec PyProof.Rows L2 Fw SX
abbrev allSigns : Str := " !\"#$&'()*+,-./0123456789:;<=>?@ABCDEFGHIJKLMNOPQRSTUVWXYZ[\\]^_`abcdefghijklmnopqrstuvwxyz{|}~"
theorem signs_at {i : Int} (h0 : 0 ≤ i) (h1 : i < 94) : ∃ c, atI allSigns.cps.toList i = some c ∧ c < 128 := by
  obtain ⟨j, rfl⟩ : ∃ j : Nat, i = j := ⟨i.toNat, by omega⟩
  have hl : allSigns.cps.toList.length = 94 := by decide +kernel
  have hj : j < allSigns.cps.toList.length := by omega
  have hc : ∀ c ∈ allSigns.cps.toList, c < 128 := by decide +kernel
  exact ⟨_, atI_nat (List.getElem?_eq_getElem hj), hc _ (List.getElem_mem hj)⟩
theorem signs_len : allSigns.length ≤ sizeLine := by decide +kernel
section
variable {P : Program} {w : World} {K : PySem.W.Frag} {mg : Str → Option Value} {base : Heap}
def spSigns : Sp := fun vs H Q _ => vs = [] ∧ Q (.str (Str.ofString " !\"#$&'()*+,-./0123456789:;<=>?@ABCDEFGHIJKLMNOPQRSTUVWXYZ[\\]^_`abcdefghijklmnopqrstuvwxyz{|}~")) H
abbrev s_signs : Stmt := top 15
theorem sc__law_signs : FnScope ["_law_signs_here"] [] (defScope s_signs) :=
  ⟨rfl, rfl, rfl, by decide +kernel, rfl, by decide +kernel,
    by decide +kernel⟩
theorem ok_signs {f : Addr} {fd : FuncData} (F : FnP K "_law_signs" s_signs f fd) : FnOk P w K mg base CX0 1 f fd [] spSigns := by
  refine F.ok sc__law_signs (fun vs H Q E h => ?_) (fun cdv A outer s H vs Q E hr h => ?_)
  · obtain ⟨rfl, _⟩ := h
    rfl
  · obtain ⟨rfl, k⟩ := h
    refine ⟨_, PSs.nox (pss_cons (ps_set (i := 0) sc__law_signs.nd rfl (Or.inl rfl) pe_str)
  (pss_one (ps_ret (pe_op op_add_str (pv 0) pe_str)))), ?_⟩
    refine ⟨_, rfl, _, _, rfl, rfl, by decide +kernel, ?_⟩
    have e : ∀ x y : Str, x = y → Q (.str y) H → Q (.str x) H := fun x y e q => by rw [e]; exact q
    exact e _ _ (by decide +kernel) k
end
end Lw

namespace Lw
open PySem PySem.Spec PyProof.Rows L2 Fw SX
/-- things of the law; p: where the feed stands -/
inductive Good (p : Addr) (H : Hp) : V → Prop where
  | non : Good p H .non
  | bl (b : Bool) : Good p H (.bl b)
  | int (i : Int) : Good p H (.int i)
  | txt (l : List Nat) (hl : l.length ≤ 100) (hc : ∀ c ∈ l, c < 128) : Good p H (.str (S l))
  | lst {a : Addr} {xs : List V} (e : H a = some (.lst xs)) (n : a ≠ p) : Good p H (.ref a)
  | tup {a : Addr} {xs : List V} (e : H a = some (.tup xs)) (n : a ≠ p) : Good p H (.ref a)
  | dct {a : Addr} {kvs : List (Key × V)} (e : H a = some (.dK kvs)) (n : a ≠ p) : Good p H (.ref a)
theorem Good.but {p : Addr} {H H' : Hp} {v : V} (g : Good p H v) (b : But p H H') : Good p H' v := by
  cases g with
  | non => exact .non
  | bl x => exact .bl x
  | int i => exact .int i
  | txt l hl hc => exact .txt l hl hc
  | lst e n => exact .lst (b _ _ e n) n
  | tup e n => exact .tup (b _ _ e n) n
  | dct e n => exact .dct (b _ _ e n) n
theorem Good.thing {K : PySem.W.Frag} {p : Addr} {H : Hp} {v : V} (g : Good p H v) (b : Nat) : ∃ r, Thing K H b v r := by
  cases g with
  | non => exact ⟨_, .odd (.base .non) (by decide +kernel)⟩
  | bl x => exact ⟨_, .odd (.base (.bl x)) (by decide +kernel)⟩
  | int i => exact ⟨_, .odd (.base (.int i)) (by decide +kernel)⟩
  | txt l hl hc => exact ⟨_, .txt l hl hc⟩
  | lst e n => exact ⟨_, .odd (.base (.lst e)) (by decide +kernel)⟩
  | tup e n => exact ⟨_, .odd (.base (.tup e)) (by decide +kernel)⟩
  | dct e n => exact ⟨_, .odd (.base (.dK e)) (by decide +kernel)⟩
theorem thing_due {K : PySem.W.Frag} {H : Hp} {b : Nat} {v : V} {r : Nat ⊕ Nat} (hb : 2 ≤ b) (hb2 : b ≤ 36) (h : Thing K H b v r) : (∀ n, r = .inl n → n < 2 ^ 700) ∧ ∀ k, r = .inr k → k < 1000 := by
  cases h with
  | odd ty hk => exact ⟨fun n e => by (cases e), fun k e => by cases e; omega⟩
  | txt l hl hc =>
    unfold due
    split
    · exact ⟨fun n e => by (cases e), fun k e => by cases e; omega⟩
    · refine ⟨fun n e => ?_, fun k e => ?_⟩
      · have h1 := scan_lt hb _ _ _ _ e
        have h2 : b ^ l.length ≤ (2 ^ 6) ^ l.length := Nat.pow_le_pow_left (by omega) _
        rw [← Nat.pow_mul] at h2
        have h3 : (2 : Nat) ^ (6 * l.length) ≤ 2 ^ 700 := Nat.pow_le_pow_right (by decide) (by omega)
        rw [Nat.zero_add, Nat.one_mul] at h1
        exact Nat.lt_of_lt_of_le h1 (Nat.le_trans h2 h3)
      · have := scan_at _ _ _ _ e
        omega
def spBent : Sp := fun vs H Q _ => ∃ (p : Addr) (n : Nat) (l : List Nat), vs = [.ref p, .str (S l)] ∧ Feed H p n ∧ n < 100000000 ∧ l.length ≤ 90 ∧ (∀ c ∈ l, c < 128) ∧
  ∀ (l' : List Nat) (H' : Hp), l'.length ≤ l.length + 1 → (∀ c ∈ l', c < 128) → Feed H' p (n + 3) → But p H H' → Q (.str (S l')) H'
theorem up1_lt : ∀ c : Fin 128, PyProof.Rows.up1 c.val < 128 := by decide +kernel
section
variable {P : Program} {w : World} {K : PySem.W.Frag} {mg : Str → Option Value} {base : Heap}
abbrev s_told : Stmt := top 18
theorem sc__law_told : FnScope ["_law_thing", "_law_radix_here", "_law_wrong", "_law_found", "e"] ["_law_thing", "_law_radix_here"] (defScope s_told) :=
  ⟨rfl, rfl, rfl, by decide +kernel, rfl, by decide +kernel,
    by decide +kernel⟩
theorem ok_told {C f : Addr} {fd : FuncData} (F : FnP K "_law_told" s_told f fd) (D : NdIs K C) (mg_NoDigits : mg "NoDigits" = some (.ref C))
    (D_number_of_base : Dk P w K mg base (L2.CX P w) 3 "number_of" 1 ["base"] (fun vs zs => vs ++ zs) (spNumber K C)) (D__law_refusal : Dn P w K mg base CX0 1 "_law_refusal" ["_law_error"] [] (spRefusal K C)) :
    FnOk P w K mg base CX0 4 f fd ["_law_thing", "_law_radix_here"] (spDue K) := by
  refine F.ok sc__law_told (fun vs H Q E h => ?_) (fun cdv A outer s H vs Q E hr h => ?_)
  · obtain ⟨v, b, r, rfl, _⟩ := h
    rfl
  · obtain ⟨v, b, r, rfl, hb, hb2, ht, k⟩ := h
    refine ⟨_, PSs.nox (pss_cons (ps_set (i := 2) sc__law_told.nd rfl (Or.inl rfl) pe_non)
  (pss_cons (ps_set (i := 3) sc__law_told.nd rfl (Or.inl rfl) pe_non)
  (pss_cons (ps_try_keep (i := 4) (Wout := fun _ _ _ _ => False) rfl rfl rfl sc__law_told.nd rfl rfl ⟨rfl, by decide, Or.inl mg_NoDigits⟩ takes0
    (fun W pn xe tk po => (pss_one (ps_set (i := 3) sc__law_told.nd rfl (Or.inl rfl) (pe_dkS D_number_of_base tk (hr.mono (by decide)) rfl (pa_cons (pv 0) pa_nil) (pk_cons (pv 1) pk_nil)))))
    (fun a oe cls d pn z v => (pss_one (ps_set (i := 2) sc__law_told.nd rfl (Or.inl rfl) (pv 4)))))
  (pss_one (ps_ret (pe_ifExp (pt_cmpR op_isN (pv 2) pe_non (nomark _)) (pv 3) (pe_dn D__law_refusal (hr.mono (by decide)) rfl (pa_cons (pv 2) pa_nil)))))))), ?_⟩
    refine ⟨_, rfl, _, rfl, rfl, rfl, v, b, r, rfl, hb, hb2, ht, fun n H' e hS => ?_, fun j H' e hS => ?_⟩
    · refine ⟨_, rfl, rfl, _, rfl, iteT ⟨_, rfl, k _ _ hS ?_⟩⟩
      rw [e]; rfl
    · intro d H2 hd st far hx
      refine ⟨true, D.me, fun _ a ha => ⟨_, rfl, ?_⟩, fun z => by cases z⟩
      have hda : d ≠ a := fun z => by
        rw [z, ha] at hx; cases hx
      refine ⟨_, rfl, rfl, _, rfl, iteF ⟨_, rfl, a, some d, j, rfl, ⟨upd_same, .inr ⟨d, rfl, ?_⟩⟩, fun u H3 hS3 ht3 => k _ _ ?_ ?_⟩⟩
      · rw [upd_ne hda]; exact hx
      · exact (hS.trans st).trans ((same_new ha).trans hS3)
      · rw [e]; exact ht3
abbrev s_told_plain : Stmt := top 19
theorem sc__law_told_plain : FnScope ["_law_thing", "_law_wrong", "_law_found", "e"] ["_law_thing"] (defScope s_told_plain) :=
  ⟨rfl, rfl, rfl, by decide +kernel, rfl, by decide +kernel,
    by decide +kernel⟩
def spDueP (K : PySem.W.Frag) : Sp := fun vs H Q _ => ∃ (v : V) (r : Nat ⊕ Nat), vs = [v] ∧ Thing K H 10 v r ∧ ∀ u H', Same H H' → Told H' u r → Q u H'
theorem ok_told_plain {C f : Addr} {fd : FuncData} (F : FnP K "_law_told_plain" s_told_plain f fd) (D : NdIs K C) (mg_NoDigits : mg "NoDigits" = some (.ref C))
    (D_number_of : Dn P w K mg base (L2.CX P w) 3 "number_of" ["text", "base"] [.int 10] (spNumber K C)) (D__law_refusal : Dn P w K mg base CX0 1 "_law_refusal" ["_law_error"] [] (spRefusal K C)) :
    FnOk P w K mg base CX0 4 f fd ["_law_thing"] (spDueP K) := by
  refine F.ok sc__law_told_plain (fun vs H Q E h => ?_) (fun cdv A outer s H vs Q E hr h => ?_)
  · obtain ⟨v, r, rfl, _⟩ := h
    rfl
  · obtain ⟨v, r, rfl, ht, k⟩ := h
    refine ⟨_, PSs.nox (pss_cons (ps_set (i := 1) sc__law_told_plain.nd rfl (Or.inl rfl) pe_non)
  (pss_cons (ps_set (i := 2) sc__law_told_plain.nd rfl (Or.inl rfl) pe_non)
  (pss_cons (ps_try_keep (i := 3) (Wout := fun _ _ _ _ => False) rfl rfl rfl sc__law_told_plain.nd rfl rfl ⟨rfl, by decide, Or.inl mg_NoDigits⟩ takes0
    (fun W pn xe tk po => (pss_one (ps_set (i := 2) sc__law_told_plain.nd rfl (Or.inl rfl) (pe_dnS D_number_of tk (hr.mono (by decide)) rfl (pa_cons (pv 0) pa_nil)))))
    (fun a oe cls d pn z v => (pss_one (ps_set (i := 1) sc__law_told_plain.nd rfl (Or.inl rfl) (pv 3)))))
  (pss_one (ps_ret (pe_ifExp (pt_cmpR op_isN (pv 1) pe_non (nomark _)) (pv 2) (pe_dn D__law_refusal (hr.mono (by decide)) rfl (pa_cons (pv 1) pa_nil)))))))), ?_⟩
    refine ⟨_, rfl, v, 10, r, rfl, by decide, by decide, ht, fun n H' e hS => ?_, fun j H' e hS => ?_⟩
    · refine ⟨_, rfl, rfl, _, rfl, iteT ⟨_, rfl, k _ _ hS ?_⟩⟩
      rw [e]; rfl
    · intro d H2 hd st far hx
      refine ⟨true, D.me, fun _ a ha => ⟨_, rfl, ?_⟩, fun z => by cases z⟩
      have hda : d ≠ a := fun z => by
        rw [z, ha] at hx; cases hx
      refine ⟨_, rfl, rfl, _, rfl, iteF ⟨_, rfl, a, some d, j, rfl, ⟨upd_same, .inr ⟨d, rfl, ?_⟩⟩, fun u H3 hS3 ht3 => k _ _ ?_ ?_⟩⟩
      · rw [upd_ne hda]; exact hx
      · exact (hS.trans st).trans ((same_new ha).trans hS3)
      · rw [e]; exact ht3
abbrev s_bent : Stmt := top 20
theorem sc__law_bent : FnScope ["_law_feed_here", "_law_text", "_law_at", "_law_way", "_law_one"] ["_law_feed_here", "_law_text"] (defScope s_bent) :=
  ⟨rfl, rfl, rfl, by decide +kernel, rfl, by decide +kernel,
    by decide +kernel⟩
theorem ok_bent {f : Addr} {fd : FuncData} (F : FnP K "_law_bent" s_bent f fd) (mg_len : mg "len" = none) (D__law_draw : Dn P w K mg base CX0 1 "_law_draw" ["_law_feed_here", "_law_many"] [] spDraw) (D__law_signs : Dn P w K mg base CX0 1 "_law_signs" [] [] spSigns) :
    FnOk P w K mg base CX0 2 f fd ["_law_feed_here", "_law_text"] spBent := by
  refine F.ok sc__law_bent (fun vs H Q E h => ?_) (fun cdv A outer s H vs Q E hr h => ?_)
  · obtain ⟨p, n, l, rfl, _⟩ := h
    rfl
  · obtain ⟨p, n, l, rfl, hF, hn, hl, hc, k⟩ := h
    have hsz : 100000 < sizeLine := by decide
    refine ⟨_, PSs.nox (pss_cons (ps_par (by rfl) sc__law_bent.nd (i := 2) (j := 3) rfl rfl (by decide) rfl rfl (pa_cons (pe_dn D__law_draw (hr.mono (by decide)) rfl (pa_cons (pv 0) (pa_cons (pe_op op_add (pe_callB call_len_str (by rfl) mg_len (by decide +kernel) (pa_cons (pv 1) pa_nil)) pe_int) pa_nil))) (pa_cons (pe_dn D__law_draw (hr.mono (by decide)) rfl (pa_cons (pv 0) (pa_cons pe_int pa_nil))) pa_nil)) (by rfl))
  (pss_cons (ps_set (i := 4) sc__law_bent.nd rfl (Or.inl rfl) (pe_ix ix_str (pe_dn0 D__law_signs (hr.mono (by decide)) rfl) (pe_dn D__law_draw (hr.mono (by decide)) rfl (pa_cons (pv 0) (pa_cons pe_int pa_nil))) (fun _ _ => rfl)))
  (pss_cons (ps_if (pt_cmpR op_lt (pv 3) pe_int (nomark _))
    (pss_one (ps_ret (pe_op op_add_str (pe_op op_add_str (pe_slice C8.sl_txt (pv 1) po_none (po_some (pv 2))) (pv 4)) (pe_slice C8.sl_txt (pv 1) (po_some (pe_op op_add (pv 2) (pv 3))) po_none))))
    pss_nil)
  (pss_cons (ps_if (pt_cmpR op_eq (pv 3) pe_int (nomark _))
    (pss_one (ps_ret (pe_op op_add_str (pe_slice C8.sl_txt (pv 1) po_none (po_some (pv 2))) (pe_slice C8.sl_txt (pv 1) (po_some (pe_op op_add (pv 2) pe_int)) po_none))))
    pss_nil)
  (pss_cons (ps_if (pt_cmpR op_eq (pv 3) pe_int (nomark _))
    (pss_one (ps_ret (pe_op op_add_str (pe_op op_add_str (pe_slice C8.sl_txt (pv 1) po_none (po_some (pv 2))) (pe_revS (pe_slice C8.sl_txt (pv 1) (po_some (pv 2)) (po_some (pe_op op_add (pv 2) pe_int))))) (pe_slice C8.sl_txt (pv 1) (po_some (pe_op op_add (pv 2) pe_int)) po_none))))
    pss_nil)
  (pss_cons (ps_if (pt_cmpR op_eq (pv 3) pe_int (nomark _))
    (pss_one (ps_ret (pe_bm0 PySem.F.plainAttrs_str PySem.F.slot_str_upper PySem.F.type_str_upper mt_upper (pv 1))))
    pss_nil)
  (pss_one (ps_ret (pe_op op_add_str (pe_op op_add_str (pe_slice C8.sl_txt (pv 1) po_none (po_some (pv 2))) pe_str) (pe_slice C8.sl_txt (pv 1) (po_some (pv 2)) po_none)))))))))), ?_⟩
    have hl1 : (S l).length ≤ sizeLine := by rw [S_len]; omega
    refine ⟨_, rfl, _, rfl, S l, rfl, hl1, _, _, rfl, rfl, p, ((S l).length : Int) + 1, n, rfl, by omega, by rw [S_len]; omega, hF, by omega, fun r1 H1 a0 a1 F1 B1 => ?_⟩
    refine ⟨_, rfl, p, 6, n + 1, rfl, by decide, by decide, F1, by omega, fun r2 H2 b0 b1 F2 B2 => ?_⟩
    refine ⟨_, _, rfl, rfl, _, rfl, p, 94, n + 2, rfl, by decide, by decide, F2, by omega, fun r3 H3 c0 c1 F3 B3 => ?_⟩
    obtain ⟨c, hc1, hc2⟩ := signs_at c0 c1
    refine ⟨allSigns, _, c, rfl, rfl, signs_len, hc1, ?_⟩
    rw [S_len] at a1
    obtain ⟨i, rfl⟩ : ∃ i : Nat, r1 = i := ⟨r1.toNat, by omega⟩
    obtain ⟨y, rfl⟩ : ∃ y : Nat, r2 = y := ⟨r2.toNat, by omega⟩
    have hB : But p H H3 := (B1.trans B2).trans B3
    have e1 : Txt.slice (S l) none (some (i : Int)) = S (l.take i) := slice_to (by omega)
    have e2 : ∀ j : Nat, Txt.slice (S l) (some (j : Int)) none = S (l.drop j) := fun j => slice_from (by omega)
    have fin : ∀ l' : List Nat, l'.length ≤ l.length + 1 → (∀ c ∈ l', c < 128) → Q (.str (S l')) H3 := fun l' q1 q2 => k l' H3 q1 q2 F3 hB
    have m1 : ∀ c ∈ l.take i, c < 128 := fun c h => hc c (List.mem_of_mem_take h)
    have m2 : ∀ j, ∀ c ∈ l.drop j, c < 128 := fun j c h => hc c (List.mem_of_mem_drop h)
    have hlen : ∀ a b : List Nat, a.length ≤ 1000 → b.length ≤ 1000 → (S a).length + (S b).length ≤ sizeLine := fun a b q1 q2 => by rw [S_len, S_len]; omega
    have l1 : (l.take i).length ≤ 90 := by rw [List.length_take]; omega
    have l2 : ∀ j, (l.drop j).length ≤ 90 := fun j => by rw [List.length_drop]; omega
    have app : ∀ {a b : List Nat}, (∀ c ∈ a, c < 128) → (∀ c ∈ b, c < 128) → ∀ c ∈ a ++ b, c < 128 := fun {a b} q1 q2 c h => by
      rcases List.mem_append.mp h with z | z
      · exact q1 c z
      · exact q2 c z
    refine ⟨_, rfl, _, _, rfl, rfl, _, rfl, ?_⟩
    refine ite2 (fun cy => ?_) (fun cy => ?_)
    · refine ⟨_, rfl, _, rfl, _, rfl, S l, rfl, hl1, ?_⟩
      rw [e1]
      refine ⟨_, rfl, S (l.take i), S [c], rfl, rfl, hlen _ _ (by omega) (by simp), _, rfl, _, rfl, _, rfl, _, _, rfl, rfl, _, rfl, S l, rfl, hl1, ?_⟩
      have z := e2 (i + y)
      rw [Int.natCast_add] at z
      rw [z, S_cat]
      refine ⟨S (l.take i ++ [c]), S (l.drop (i + y)), rfl, rfl, hlen _ _ (by simp; omega) (by have := l2 (i + y); omega), ?_⟩
      rw [S_cat]
      refine fin _ ?_ (app (app m1 (by simpa using hc2)) (m2 _))
      simp only [List.length_append, List.length_take, List.length_drop, List.length_cons, List.length_nil]
      omega
    refine ⟨_, rfl, rfl, _, rfl, ?_⟩
    refine ite2 (fun cy2 => ?_) (fun cy2 => ?_)
    · refine ⟨_, rfl, _, rfl, _, rfl, S l, rfl, hl1, ?_⟩
      rw [e1]
      refine ⟨_, rfl, _, rfl, _, _, rfl, rfl, _, rfl, S l, rfl, hl1, ?_⟩
      have z := e2 (i + 1)
      rw [Int.natCast_add] at z
      have z2 : Txt.slice (S l) (some ((i : Int) + 1)) none = S (l.drop (i + 1)) := z
      rw [z2]
      refine ⟨S (l.take i), S (l.drop (i + 1)), rfl, rfl, hlen _ _ (by omega) (by have := l2 (i + 1); omega), ?_⟩
      rw [S_cat]
      refine fin _ ?_ (app m1 (m2 _))
      simp only [List.length_append, List.length_take, List.length_drop]
      omega
    refine ⟨_, rfl, rfl, _, rfl, ?_⟩
    refine ite2 (fun cy3 => ?_) (fun cy3 => ?_)
    · refine ⟨_, rfl, _, rfl, _, rfl, S l, rfl, hl1, ?_⟩
      rw [e1]
      refine ⟨_, rfl, _, rfl, _, rfl, _, rfl, _, _, rfl, rfl, _, rfl, S l, rfl, hl1, ?_⟩
      have z0 : Txt.slice (S l) (some (i : Int)) (some ((i : Int) + 2)) = S ((l.drop i).take 2) := by
        have q := slice_S l i (i + 2)
        rw [Int.natCast_add, Nat.add_sub_cancel_left] at q
        exact q
      rw [z0]
      have z1 : revS (S ((l.drop i).take 2)) = S ((l.drop i).take 2).reverse := rfl
      have l3 : ((l.drop i).take 2).length ≤ 2 := by rw [List.length_take]; omega
      refine ⟨_, rfl, by rw [S_len]; omega, S (l.take i), S ((l.drop i).take 2).reverse, rfl, rfl, hlen _ _ (by omega) (by rw [List.length_reverse]; omega), ?_⟩
      rw [S_cat]
      refine ⟨_, rfl, _, rfl, _, _, rfl, rfl, _, rfl, S l, rfl, hl1, ?_⟩
      have z := e2 (i + 2)
      rw [Int.natCast_add] at z
      have z2 : Txt.slice (S l) (some ((i : Int) + 2)) none = S (l.drop (i + 2)) := z
      rw [z2]
      refine ⟨S (l.take i ++ ((l.drop i).take 2).reverse), S (l.drop (i + 2)), rfl, rfl, hlen _ _ (by rw [List.length_append, List.length_reverse]; omega) (by have := l2 (i + 2); omega), ?_⟩
      rw [S_cat]
      refine fin _ ?_ (app (app m1 fun c h => hc c (List.mem_of_mem_drop (List.mem_of_mem_take (List.mem_reverse.mp h)))) (m2 _))
      simp only [List.length_append, List.length_take, List.length_drop, List.length_reverse]
      omega
    refine ⟨_, rfl, rfl, _, rfl, ?_⟩
    refine ite2 (fun cy4 => ?_) (fun cy4 => ?_)
    · refine ⟨_, rfl, rfl, S l, rfl, rfl, by rw [S_len]; omega, ?_⟩
      rw [upper_S (List.all_eq_true.mpr fun c h => decide_eq_true (hc c h))]
      refine fin _ (by rw [List.length_map]; omega) fun c h => ?_
      obtain ⟨d, hd, rfl⟩ := List.mem_map.mp h
      exact up1_lt ⟨d, hc d hd⟩
    · refine ⟨_, rfl, _, rfl, _, rfl, S l, rfl, hl1, ?_⟩
      rw [e1]
      have eb : Str.ofString " " = S [32] := by decide +kernel
      refine ⟨S (l.take i), S [32], rfl, by rw [eb], hlen _ _ (by omega) (by simp), ?_⟩
      rw [S_cat]
      refine ⟨_, rfl, _, rfl, _, rfl, S l, rfl, hl1, ?_⟩
      rw [e2]
      refine ⟨S (l.take i ++ [32]), S (l.drop i), rfl, rfl, hlen _ _ (by simp; omega) (by have := l2 i; omega), ?_⟩
      rw [S_cat]
      refine fin _ ?_ (app (app m1 (by simp)) (m2 _))
      simp only [List.length_append, List.length_take, List.length_drop, List.length_cons, List.length_nil]
      omega
end
end Lw
namespace Lw
open PySem PySem.Spec PyProof.Rows L2 Fw SX
def datOf : Nat ⊕ Nat → PyData
  | .inl n => .int n
  | .inr k => .tuple [.str "no", .int (k : Nat)]
theorem Told.dp {K : PySem.W.Frag} {H : Hp} {v : V} {r : Nat ⊕ Nat} (h : Told H v r) : Dp K H v (datOf r) := by
  cases r with
  | inl n =>
    obtain rfl : v = .int n := h
    exact .int _
  | inr k =>
    obtain ⟨T, rfl, e⟩ := h
    exact .tup (SqT.of e) (.cons (.str _) (.cons (.int _) .nil))
theorem told_shows {r : Nat ⊕ Nat} (h1 : ∀ n, r = .inl n → n < 2 ^ 700) (h2 : ∀ k, r = .inr k → k < 1000) : Shows (datOf r) := by
  cases r with
  | inl n =>
    refine Shows.int ?_
    have := h1 n rfl
    show n.log2 < 1920
    exact Nat.lt_of_lt_of_le (log2_lt (by decide) this) (by decide)
  | inr k =>
    have hk : ((k : Nat) : Int).natAbs.log2 < 1920 := by
      show k.log2 < 1920
      have h3 : k < 2 ^ 10 := by have := h2 k rfl; omega
      exact Nat.lt_of_lt_of_le (log2_lt (by decide) h3) (by decide)
    refine ⟨?_, rfl, by show (max 0 (max 0 0)) + 1 ≤ 60; decide, sh_of ?_ ?_⟩
    · show (true && ((PyData.int k).showable && true)) = true
      rw [(sh_int hk).1]; rfl
    · show ((PyData.str "no").leavesShort 1921 && ((PyData.int k).leavesShort 1921 && true)) = true
      rw [lv_int hk]; decide +kernel
    · show (PyData.str "no").weight + 1 + ((PyData.int k).weight + 1 + 0) ≤ 8000
      have := wt_int hk
      have e : (PyData.str "no").weight = 2 := by decide +kernel
      omega
end Lw

namespace Lw
open PySem PySem.Spec PyProof.Rows L2 Fw SX
theorem thing_one {K K' : PySem.W.Frag} {H H' : Hp} {b : Nat} {v : V} {r r' : Nat ⊕ Nat} (h : Thing K H b v r) (h' : Thing K' H' b v r') : r = r' := by
  cases h with
  | odd ty hk =>
    cases h' with
    | odd ty' hk' => rfl
    | txt l hl hc =>
      cases ty with
      | base z =>
        cases z
        exact absurd hk (by decide +kernel)
  | txt l hl hc =>
    generalize hv : V.str (S l) = v at h'
    cases h' with
    | odd ty hk =>
      subst hv
      cases ty with
      | base z =>
        cases z
        exact absurd hk (by decide +kernel)
    | txt l' hl' hc' =>
      have e := S_inj (V.str.inj hv)
      rw [e]
section
variable {P : Program} {w : World} {K : PySem.W.Frag} {mg : Str → Option Value} {base : Heap}
abbrev s_law : Stmt := top 21
theorem sc_law : FnScope ["_law_script", "_law_feed_here", "_law_odd", "_law_turn", "_law_radix_here", "_law_signs_here", "_law_text", "_law_things", "_law_bout", "_law_thing", "_law_k"] ["_law_script"] (defScope s_law) :=
  ⟨rfl, rfl, rfl, by decide +kernel, rfl, by decide +kernel,
    by decide +kernel⟩
theorem ok_law {f : Addr} {fd : FuncData} (F : FnP K "law" s_law f fd) (mg_len : mg "len" = none) (mg_range : mg "range" = none) (mg_max : mg "max" = none) (mg_min : mg "min" = none) (mg_repr : mg "repr" = none)
    (D__law_feed : Dn P w K mg base CX0 1 "_law_feed" ["_law_script"] [] (spFeed K)) (D__law_draw : Dn P w K mg base CX0 1 "_law_draw" ["_law_feed_here", "_law_many"] [] spDraw)
    (D__law_radix : Dn P w K mg base CX0 2 "_law_radix" ["_law_feed_here"] [] spRadix) (D__law_bent : Dn P w K mg base CX0 2 "_law_bent" ["_law_feed_here", "_law_text"] [] spBent)
    (D__law_told : Dn P w K mg base CX0 4 "_law_told" ["_law_thing", "_law_radix_here"] [] (spDue K)) (D__law_told_plain : Dn P w K mg base CX0 4 "_law_told_plain" ["_law_thing"] [] (spDueP K)) (D__law_due : Dn P w K mg base CX0 1 "_law_due" ["_law_text", "_law_radix_here"] [] (spDue K)) :
    FnG P w K mg base CX0 5 f fd ["_law_script"] (spLaw K) := by
  refine fnG F sc_law (fun vs H Q E h => ?_) (fun cdv A outer s H vs Q E gd hr h => ?_)
  · obtain ⟨a, ns, rfl, _⟩ := h
    rfl
  · obtain ⟨a, ns, rfl, hS, hlen, k⟩ := h
    have hsz : 100000 < sizeLine := by decide
    refine ⟨_, PSs.nox (pss_cons (ps_set (i := 1) sc_law.nd rfl (Or.inr rfl) (pe_dn D__law_feed (hr.mono (by decide)) rfl (pa_cons (pv 0) pa_nil)))
  (pss_cons (ps_set (i := 2) sc_law.nd rfl (Or.inl rfl) (pe_lst (pa_cons pe_non (pa_cons pe_bl (pa_cons pe_bl (pa_cons pe_int (pa_cons pe_int (pa_cons (pe_un un_neg pe_int) (pa_cons (pe_op op_pow pe_int pe_int) (pa_cons (pe_lst pa_nil) (pa_cons (pe_lst (pa_cons pe_str pa_nil)) (pa_cons (pe_tup (pa_cons pe_str pa_nil)) (pa_cons pe_dnewK (pa_cons (pe_disp (pps_cons pe_str pe_int pps_nil) (by rfl) (by rfl) (fun z => by cases z) (by decide)) (pa_cons pe_str (pa_cons pe_str (pa_cons pe_str (pa_cons pe_str (pa_cons pe_str (pa_cons pe_str pa_nil))))))))))))))))))))
  (pss_cons (ps_for PassesOwn.never rfl (pi_range1 (by rfl) mg_range (pa_cons (pe_callB (call_max2 rfl) (by rfl) mg_max (by decide +kernel) (pa_cons pe_int (pa_cons (pe_callB (call_min2 rfl) (by rfl) mg_min (by decide +kernel) (pa_cons pe_int (pa_cons (pe_callB call_len_seq (by rfl) mg_len (by decide +kernel) (pa_cons (pv 0) pa_nil)) pa_nil))) pa_nil))) pa_nil)) (pg_name (i := 3) sc_law.nd rfl (.inl rfl))
    (pss_cons (ps_set (i := 4) sc_law.nd rfl (Or.inr rfl) (pe_dn D__law_radix (hr.mono (by decide)) rfl (pa_cons (pv 1) pa_nil)))
      (pss_cons (ps_set (i := 5) sc_law.nd rfl (Or.inr rfl) (pe_slice C8.sl_txt pe_str po_none (po_some (pv 4))))
      (pss_cons (ps_set (i := 6) sc_law.nd rfl (Or.inl rfl) (pe_join pe_str (pe_lc (own := [("_law_k", 10)]) (g := gName 10) (tt := tYes) (by rfl) sc_law.nd (pi_range1 (by rfl) mg_range (pa_cons (pe_op op_add pe_int (pe_dn D__law_draw (hr.mono (by decide)) rfl (pa_cons (pv 1) (pa_cons pe_int pa_nil)))) pa_nil)) (blkOk_by (own := [("_law_k", 10)]) (N := ["_law_script", "_law_feed_here", "_law_odd", "_law_turn", "_law_radix_here", "_law_signs_here", "_law_text", "_law_things", "_law_bout", "_law_thing", "_law_k"]) (sc := defScope (top 21)) (by decide +kernel)) (fun _ _ _ _ _ => (pg_name (i := 10) sc_law.nd rfl (.inl rfl))) (fun _ _ _ _ _ => pts_nil) (fun _ _ _ _ _ => (pe_ix ix_str (pv 5) (pe_dn D__law_draw (hr.mono (by decide)) rfl (pa_cons (pv 1) (pa_cons (pv 4) pa_nil))) (fun _ _ => rfl))))))
      (pss_cons (ps_set (i := 7) sc_law.nd rfl (Or.inl rfl) (pe_lst (pa_cons (pv 6) (pa_cons (pe_ix ix_list (pv 2) (pe_dn D__law_draw (hr.mono (by decide)) rfl (pa_cons (pv 1) (pa_cons pe_int pa_nil))) (fun _ _ => rfl)) (pa_cons (pe_ix ix_list (pv 2) (pe_dn D__law_draw (hr.mono (by decide)) rfl (pa_cons (pv 1) (pa_cons pe_int pa_nil))) (fun _ _ => rfl)) pa_nil)))))
      (pss_cons (ps_for PassesOwn.never rfl (pi_range1 (by rfl) mg_range (pa_cons pe_int pa_nil)) (pg_name (i := 8) sc_law.nd rfl (.inl rfl))
        (pss_cons (ps_set (i := 6) sc_law.nd rfl (Or.inl rfl) (pe_dn D__law_bent (hr.mono (by decide)) rfl (pa_cons (pv 1) (pa_cons (pv 6) pa_nil))))
          (pss_one (ps_expr (pe_bm PySem.F.plainAttrs_list PySem.F.slot_list_append PySem.F.type_list_append mt_append (pv 7) (pa_cons (pv 6) pa_nil))))))
      (pss_one (ps_for PassesOwn.never rfl (pi_list (pv 7)) (pg_name (i := 9) sc_law.nd rfl (.inl rfl))
        (pss_cons (ps_if (pt_cmpR op_ne (pe_callB (call_reprD gd hr.units) (by rfl) mg_repr (by decide +kernel) (pa_cons (pe_dn D__law_told (hr.mono (by decide)) rfl (pa_cons (pv 9) (pa_cons (pv 4) pa_nil))) pa_nil)) (pe_callB (call_reprD gd hr.units) (by rfl) mg_repr (by decide +kernel) (pa_cons (pe_dn D__law_due (hr.mono (by decide)) rfl (pa_cons (pv 9) (pa_cons (pv 4) pa_nil))) pa_nil)) (nomark _))
            (pss_one (ps_ret pe_bl))
            pss_nil)
          (pss_one (ps_if (pt_cmpR op_ne (pe_callB (call_reprD gd hr.units) (by rfl) mg_repr (by decide +kernel) (pa_cons (pe_dn D__law_told_plain (hr.mono (by decide)) rfl (pa_cons (pv 9) pa_nil)) pa_nil)) (pe_callB (call_reprD gd hr.units) (by rfl) mg_repr (by decide +kernel) (pa_cons (pe_dn D__law_due (hr.mono (by decide)) rfl (pa_cons (pv 9) (pa_cons pe_int pa_nil))) pa_nil)) (nomark _))
            (pss_one (ps_ret pe_bl))
            pss_nil)))))))))))
  (pss_one (ps_ret pe_bl))))), ?_⟩
    refine ⟨_, rfl, a, ns, rfl, hS, hlen, fun p H1 hp s1 F1 => ?_⟩
    refine ⟨_, rfl, _, _, rfl, rfl, ⟨by decide, by decide, by decide⟩, ?_⟩
    refine ⟨by show 0 ≤ sizeLine; decide, fun q1 h1 => ⟨by show 1 ≤ sizeLine; decide, fun q2 h2 => ⟨by show 1 ≤ sizeLine; decide, fun q3 h3 => fun q4 h4 => fun q5 h5 => ?_⟩⟩⟩
    refine ⟨upd_same, [(Sum.inr "1", .int 1)], rfl, by show 1 ≤ 15; decide, ?_⟩
    refine ⟨by show 18 ≤ sizeLine; decide, fun o ho => ?_⟩
    -- what stands in the list of odd things
    have np : ∀ {H0 : Hp} {q : Addr}, Feed H0 p 0 → H0 q = none → q ≠ p := fun {H0 q} F e => by
      obtain ⟨kvs, z⟩ := F.ex
      exact (ne_of_none z e).symm
    have t1 := same_new (o := HO.lst []) h1
    have t2 := t1.trans (same_new (o := HO.lst [V.str "1"]) h2)
    have t3 := t2.trans (same_new (o := HO.tup [V.str "1"]) h3)
    have t4 := t3.trans (same_new (o := HO.dK []) h4)
    have e5 : upd (upd (upd (upd (upd (upd H1 q1 (.lst [])) q2 (.lst [V.str "1"])) q3 (.tup [V.str "1"])) q4 (.dK [])) q5 (.dK [])) q5 (.dK (mergeK [] [(Sum.inr "1", V.int 1)])) =
        upd (upd (upd (upd (upd H1 q1 (.lst [])) q2 (.lst [V.str "1"])) q3 (.tup [V.str "1"])) q4 (.dK [])) q5 (.dK (mergeK [] [(Sum.inr "1", V.int 1)])) := by
      funext b
      by_cases c : b = q5
      · rw [c, upd_same, upd_same]
      · rw [upd_ne c, upd_ne c, upd_ne c]
    rw [e5] at ho ⊢
    have t5 := t4.trans (same_new (o := HO.dK (mergeK [] [(Sum.inr "1", V.int 1)])) h5)
    have n1 := np F1 h1
    have n2 := np (F1.same t1) h2
    have n3 := np (F1.same t2) h3
    have n4 := np (F1.same t3) h4
    have n5 := np (F1.same t4) h5
    have n6 := np (F1.same t5) ho
    have g5 := same_new (o := HO.lst [V.non, .bl true, .bl false, .int 0, .int 7, .int (-1), .int (10 ^ Int.toNat 30), .ref q1, .ref q2, .ref q3, .ref q4, .ref q5, .str "", .str " ", .str "-1", .str "+1", .str "1_0", .str "0x1"]) ho
    have g4 := (same_new (o := HO.dK (mergeK [] [(Sum.inr "1", V.int 1)])) h5).trans g5
    have g3 := (same_new (o := HO.dK []) h4).trans g4
    have g2 := (same_new (o := HO.tup [V.str "1"]) h3).trans g3
    have g1 := (same_new (o := HO.lst [V.str "1"]) h2).trans g2
    have good : ∀ v ∈ [V.non, .bl true, .bl false, .int 0, .int 7, .int (-1), .int (10 ^ Int.toNat 30), .ref q1, .ref q2, .ref q3, .ref q4, .ref q5, .str "", .str " ", .str "-1", .str "+1", .str "1_0", .str "0x1"], Good p
        (upd (upd (upd (upd (upd (upd H1 q1 (.lst [])) q2 (.lst [V.str "1"])) q3 (.tup [V.str "1"])) q4 (.dK [])) q5 (.dK (mergeK [] [(Sum.inr "1", V.int 1)]))) o (.lst [V.non, .bl true, .bl false, .int 0, .int 7, .int (-1), .int (10 ^ Int.toNat 30), .ref q1, .ref q2, .ref q3, .ref q4, .ref q5, .str "", .str " ", .str "-1", .str "+1", .str "1_0", .str "0x1"])) v := by
      have tx : ∀ {H0 : Hp} (x : Str) (l : List Nat), x = S l → l.length ≤ 100 → (∀ c ∈ l, c < 128) → Good p H0 (.str x) := fun x l e q1 q2 => by
        rw [e]; exact .txt l q1 q2
      refine List.forall_mem_cons.mpr ⟨.non, List.forall_mem_cons.mpr ⟨.bl _, List.forall_mem_cons.mpr ⟨.bl _, List.forall_mem_cons.mpr ⟨.int _, List.forall_mem_cons.mpr ⟨.int _, List.forall_mem_cons.mpr ⟨.int _, List.forall_mem_cons.mpr ⟨.int _, ?_⟩⟩⟩⟩⟩⟩⟩
      refine List.forall_mem_cons.mpr ⟨.lst (g1 _ _ upd_same) n1, List.forall_mem_cons.mpr ⟨.lst (g2 _ _ upd_same) n2, List.forall_mem_cons.mpr ⟨.tup (g3 _ _ upd_same) n3, List.forall_mem_cons.mpr ⟨.dct (g4 _ _ upd_same) n4, List.forall_mem_cons.mpr ⟨.dct (g5 _ _ upd_same) n5, ?_⟩⟩⟩⟩⟩
      refine List.forall_mem_cons.mpr ⟨tx _ [] (by decide +kernel) (by decide) (by decide), List.forall_mem_cons.mpr ⟨tx _ [32] (by decide +kernel) (by decide) (by decide), List.forall_mem_cons.mpr ⟨tx _ [45, 49] (by decide +kernel) (by decide) (by decide), List.forall_mem_cons.mpr ⟨tx _ [43, 49] (by decide +kernel) (by decide) (by decide), List.forall_mem_cons.mpr ⟨tx _ [49, 95, 48] (by decide +kernel) (by decide) (by decide), List.forall_mem_cons.mpr ⟨tx _ [48, 120, 49] (by decide +kernel) (by decide) (by decide), fun _ z => absurd z (by simp)⟩⟩⟩⟩⟩⟩
    have t6 := t5.trans g5
    have go : (upd (upd (upd (upd (upd (upd H1 q1 (.lst [])) q2 (.lst [V.str "1"])) q3 (.tup [V.str "1"])) q4 (.dK [])) q5 (.dK (mergeK [] [(Sum.inr "1", V.int 1)]))) o (.lst [V.non, .bl true, .bl false, .int 0, .int 7, .int (-1), .int (10 ^ Int.toNat 30), .ref q1, .ref q2, .ref q3, .ref q4, .ref q5, .str "", .str " ", .str "-1", .str "+1", .str "1_0", .str "0x1"])) o = some (.lst [V.non, .bl true, .bl false, .int 0, .int 7, .int (-1), .int (10 ^ Int.toNat 30), .ref q1, .ref q2, .ref q3, .ref q4, .ref q5, .str "", .str " ", .str "-1", .str "+1", .str "1_0", .str "0x1"]) := upd_same
    have F6 := F1.same t6
    have s6 := s1.trans t6
    generalize (upd (upd (upd (upd (upd (upd H1 q1 (.lst [])) q2 (.lst [V.str "1"])) q3 (.tup [V.str "1"])) q4 (.dK [])) q5 (.dK (mergeK [] [(Sum.inr "1", V.int 1)]))) o (.lst [V.non, .bl true, .bl false, .int 0, .int 7, .int (-1), .int (10 ^ Int.toNat 30), .ref q1, .ref q2, .ref q3, .ref q4, .ref q5, .str "", .str " ", .str "-1", .str "+1", .str "1_0", .str "0x1"])) = H6 at good go F6 s6 ⊢
    have hod : ([V.non, .bl true, .bl false, .int 0, .int 7, .int (-1), .int (10 ^ Int.toNat 30), .ref q1, .ref q2, .ref q3, .ref q4, .ref q5, .str "", .str " ", .str "-1", .str "+1", .str "1_0", .str "0x1"] : List V).length = 18 := rfl
    generalize ([V.non, .bl true, .bl false, .int 0, .int 7, .int (-1), .int (10 ^ Int.toNat 30), .ref q1, .ref q2, .ref q3, .ref q4, .ref q5, .str "", .str " ", .str "-1", .str "+1", .str "1_0", .str "0x1"] : List V) = od at good go hod
    clear t1 t2 t3 t4 t5 t6 g1 g2 g3 g4 g5 ho h1 h2 h3 h4 h5 e5
    refine ⟨_, rfl, a, _, rfl, .inl (s6.seq hS), _, _, rfl, _, _, rfl, _, rfl, ?_, ?_, ?_⟩
    · split <;> omega
    · rw [List.length_map]; split <;> split <;> omega
    have hT := turns (n := (((ns.map V.int).length : Nat) : Int)) (lo := 4) (hi := 12) (by decide) (by decide)
    generalize (if (if (((ns.map V.int).length : Nat) : Int) < 12 then (((ns.map V.int).length : Nat) : Int) else 12) > 4 then (if (((ns.map V.int).length : Nat) : Int) < 12 then (((ns.map V.int).length : Nat) : Int) else 12) else 4).toNat = T at hT ⊢
    have hT2 : T ≤ 12 := hT
    refine for_range (lo := 0) (n := T) (fun i σ' H' => ∃ v3 v4 v5 v6 v7 v8 v9 v10 : Option V, σ' = [some (.ref a), some (.ref p), some (.ref o), v3, v4, v5, v6, v7, v8, v9, v10] ∧ Feed H' p (60 * i) ∧ H' o = some (.lst od) ∧ ∀ v ∈ od, Good p H' v)
      ⟨none, none, none, none, none, none, none, none, rfl, F6, go, good⟩ ?_ ?_
    · rintro i σ' H' hi ⟨v3, v4, v5, v6, v7, v8, v9, v10, rfl, hF, ho, hg⟩
      refine ⟨_, rfl, p, _, rfl, hF, by omega, fun r H2 r1 r2 F2 B2 => ?_⟩
      refine ⟨_, rfl, _, rfl, sg, rfl, sg_len, ?_⟩
      rw [sl_sg r2]
      refine ⟨⟨_, rfl⟩, _, rfl, p, 30, _, rfl, by decide, by decide, F2, by omega, fun x H3 x0 x1 F3 B3 => ⟨_, _, rfl, rfl, _, rfl, by omega, by omega, fun D hD => ?_⟩⟩
      have B3' := B2.trans B3
      have nD : D ≠ p := by
        obtain ⟨kvs, z⟩ := F3.ex
        exact (ne_of_none z hD).symm
      have pe3 : ∃ u, H3 p = some u := by
        obtain ⟨kvs, z⟩ := F3.ex
        exact ⟨_, z⟩
      refine lc_range (lo := 0) (n := (1 + x).toNat) (fun j Hj => ∃ l : List Nat, l.length = j ∧ (∀ c ∈ l, c < 128) ∧ Hj D = some (.lst (l.map fun c => V.str (S [c]))) ∧ Feed Hj p (60 * i + 3 + j) ∧ But p H3 Hj)
        ⟨[], rfl, by simp, upd_same, F3.new hD, But.new hD⟩ ?_ ?_
      · rintro j Hj hj ⟨l, l1, l2, l3, l4, l5⟩
        refine ⟨rfl, ?_⟩
        refine ⟨_, rfl, _, rfl, _, rfl, p, r, _, rfl, by omega, by omega, l4, by omega, fun y H4 y0 y1 F4 B4 => ?_⟩
        obtain ⟨c, hc, hat⟩ := at_mem (l := sgl.take r) (i := y) y0 (by
          have e : sgl.length = 36 := by decide +kernel
          rw [List.length_take, e]; omega)
        have hc2 : c < 128 := (show ∀ c ∈ sgl, c < 128 by decide +kernel) c (List.mem_of_mem_take hc)
        refine ⟨S (sgl.take r), _, c, rfl, rfl, ?_, hat, _, B4 _ _ l3 nD, ?_, ?_⟩
        · rw [S_len, List.length_take]
          have e : sgl.length = 36 := by decide +kernel
          omega
        · rw [List.length_map]; omega
        · refine ⟨l ++ [c], by rw [List.length_append, l1]; rfl, fun z hz => ?_, ?_, F3.put hD (l5.trans B4) F4, (l5.trans B4).put hD pe3⟩
          · rcases List.mem_append.mp hz with q | q
            · exact l2 z q
            · rw [List.mem_singleton.mp q]; exact hc2
          · rw [upd_same, List.map_append]; rfl
      rintro H4 ⟨l, l1, l2, l3, F4, B4⟩
      refine ⟨_, D, l.map (fun c => S [c]), rfl, rfl, .inl (SqL.of ?_), ?_, ?_⟩
      · rw [l3, List.map_map]; rfl
      · rw [ones_sum, nul_len]; omega
      rw [join_ones]
      have B4' := B3'.trans B4
      have hl31 : l.length ≤ 31 := by omega
      refine ⟨_, rfl, _, rfl, _, rfl, p, 18, _, rfl, by decide, by decide, F4, by omega, fun y1 H5 a0 a1 F5 B5 => ?_⟩
      obtain ⟨w1, m1, at1⟩ := at_mem (l := od) a0 (by rw [hod]; exact a1)
      have B5' := B4'.trans B5
      refine ⟨o, _, _, w1, rfl, rfl, SqL.of (B5' _ _ ho n6), at1, ?_⟩
      refine ⟨_, rfl, _, rfl, p, 18, _, rfl, by decide, by decide, F5, by omega, fun y2 H6 b0 b1 F6 B6 => ?_⟩
      obtain ⟨w2, m2, at2⟩ := at_mem (l := od) b0 (by rw [hod]; exact b1)
      have B6' := B5'.trans B6
      refine ⟨o, _, _, w2, rfl, rfl, SqL.of (B6' _ _ ho n6), at2, by show 3 ≤ sizeLine; decide, fun q hq => ?_⟩
      have nq : q ≠ p := by
        obtain ⟨kvs, z⟩ := F6.ex
        exact (ne_of_none z hq).symm
      have pe6 : ∃ u, H6 p = some u := by
        obtain ⟨kvs, z⟩ := F6.ex
        exact ⟨_, z⟩
      refine ⟨3, rfl, by decide, by decide, ?_⟩
      refine for_range (lo := 0) (n := 3) (fun j σj Hj => ∃ (l : List Nat) (vs : List V) (v8 : Option V), σj = [some (.ref a), some (.ref p), some (.ref o), some (.int (0 + (i : Nat))), some (.int (r : Nat)), some (.str (S (sgl.take r))), some (.str (S l)), some (.ref q), v8, v9, v10] ∧
          l.length ≤ 31 + j ∧ (∀ c ∈ l, c < 128) ∧ Hj q = some (.lst vs) ∧ vs.length ≤ 3 + j ∧ (∀ v ∈ vs, Good p Hj v) ∧ Feed Hj p (60 * i + 36 + 3 * j) ∧ But p H6 Hj)
        ⟨l, [.str (S l), w1, w2], v8, rfl, hl31, l2, upd_same, by show 3 ≤ 3 + 0; decide, ?_, (F6.new hq).mono (by omega), But.new hq⟩ ?_ ?_
      · have B7 := B6'.trans (But.new (o := .lst [.str (S l), w1, w2]) hq)
        exact List.forall_mem_cons.mpr ⟨.txt l (by omega) l2, List.forall_mem_cons.mpr ⟨(hg w1 m1).but B7, List.forall_mem_cons.mpr ⟨(hg w2 m2).but B7, fun _ z => absurd z (by simp)⟩⟩⟩
      · rintro j σj Hj hj ⟨l, vs, v8, rfl, k1, k2, k3, k4, k5, k6, k7⟩
        refine ⟨_, rfl, _, rfl, p, _, l, rfl, k6, by omega, by omega, k2, fun l' H7 c1 c2 F7 B7 => ?_⟩
        have q7 := B7 _ _ k3 nq
        refine ⟨_, rfl, .inl ⟨rfl, _, SqL.of q7⟩, _, rfl, q, _, _, rfl, rfl, q7, by omega, ?_⟩
        have B8 := k7.trans B7
        refine ⟨l', vs ++ [.str (S l')], some (.int (0 + (j : Nat))), rfl, by omega, c2, upd_same, by rw [List.length_append]; simp; omega, ?_, (F6.put hq B8 F7).mono (by omega), B8.put hq pe6⟩
        intro v hv
        rcases List.mem_append.mp hv with z | z
        · have g1 := (k5 v z).but B7
          cases g1 with
          | non => exact .non
          | bl x => exact .bl x
          | int i => exact .int i
          | txt l hl hc => exact .txt l hl hc
          | @lst a1 xs e n =>
            by_cases c : a1 = q
            · exact .lst (by rw [c]; exact upd_same) n
            · exact .lst (by rw [upd_ne c]; exact e) n
          | @tup a1 xs e n =>
            have c : a1 ≠ q := ne_of e q7 (by intro z; cases z)
            exact .tup (by rw [upd_ne c]; exact e) n
          | @dct a1 xs e n =>
            have c : a1 ≠ q := ne_of e q7 (by intro z; cases z)
            exact .dct (by rw [upd_ne c]; exact e) n
        · rw [List.mem_singleton.mp z]
          exact .txt l' (by omega) c2
      rintro σj Hj ⟨l, vs, v8, rfl, k1, k2, k3, k4, k5, k6, k7⟩
      have B9 := B6'.trans k7
      refine ⟨_, rfl, q, rfl, ⟨vs, SqL.of k3⟩, ?_⟩
      refine for_list (K := K) (a := q) (xs := vs) (fun j σj Hk => ∃ (l : List Nat) (v8 v9 : Option V), σj = [some (.ref a), some (.ref p), some (.ref o), some (.int (0 + (i : Nat))), some (.int (r : Nat)), some (.str (S (sgl.take r))), some (.str (S l)), some (.ref q), v8, v9, v10] ∧ Same Hj Hk)
        ⟨l, v8, v9, rfl, Same.refl _⟩ (fun j σj Hk _ h => by
          obtain ⟨_, _, _, _, z⟩ := h
          exact SqL.of (z _ _ k3)) ?_ ?_
      · rintro j v σj Hk hv ⟨l, v8, v9, rfl, hs⟩
        have gv := (k5 v (List.mem_of_getElem? hv)).but (But.of hs)
        obtain ⟨res, hth⟩ := gv.thing (K := K) r
        obtain ⟨q1, q2⟩ := thing_due r1 r2 hth
        have sh := told_shows q1 q2
        refine ⟨_, rfl, _, rfl, v, r, res, rfl, r1, r2, hth, fun u1 Ha sa ta => ?_⟩
        refine ⟨u1, _, rfl, ta.dp, sh.s, sh.n, sh.dp, sh.z, ?_⟩
        obtain ⟨res', hth'⟩ := (gv.but (But.of sa)).thing (K := K) r
        have er : res' = res := thing_one hth' hth
        subst er
        refine ⟨_, rfl, _, rfl, v, r, res', rfl, r1, r2, hth', fun u2 Hb sb tb => ?_⟩
        refine ⟨u2, _, rfl, tb.dp, sh.s, sh.n, sh.dp, sh.z, rfl, _, rfl, iteNS rfl ?_⟩
        obtain ⟨res2, hth2⟩ := ((gv.but (But.of sa)).but (But.of sb)).thing (K := K) 10
        obtain ⟨p1, p2⟩ := thing_due (by decide) (by decide) hth2
        have sh2 := told_shows p1 p2
        refine ⟨_, rfl, v, res2, rfl, hth2, fun u3 Hc sc tc => ?_⟩
        refine ⟨u3, _, rfl, tc.dp, sh2.s, sh2.n, sh2.dp, sh2.z, ?_⟩
        obtain ⟨res3, hth3⟩ := (((gv.but (But.of sa)).but (But.of sb)).but (But.of sc)).thing (K := K) 10
        have er2 : res3 = res2 := thing_one hth3 hth2
        subst er2
        refine ⟨_, rfl, v, 10, res3, rfl, by decide, by decide, hth3, fun u4 Hd sd td => ?_⟩
        refine ⟨u4, _, rfl, td.dp, sh2.s, sh2.n, sh2.dp, sh2.z, rfl, _, rfl, iteNS rfl ?_⟩
        exact ⟨l, v8, _, rfl, ((hs.trans sa).trans sb).trans (sc.trans sd)⟩
      · rintro σj Hk ⟨l, v8, v9, rfl, hs⟩
        have B10 := B9.trans (But.of hs)
        exact ⟨_, _, _, _, _, _, _, _, rfl, (k6.same hs).mono (by omega), B10 _ _ ho n6, fun v hv => (hg v hv).but B10⟩
    · rintro σ' H' ⟨v3, v4, v5, v6, v7, v8, v9, v10, rfl, hF, _⟩
      exact k H'
end
end Lw

/-! ### the head -/
namespace Hd
open PySem PySem.Spec PyProof.Rows L2 Fw Lw
def tabs : List He.Tab := []
abbrev ND (K : PySem.W.Frag) : Addr := He.ga K "NoDigits"
def extra (K : PySem.W.Frag) : Bool :=
  ownB K (ND K) (He.fAd K ("NoDigits", some "__init__")) "ValueError" "ValueError.__new__" "ValueError.__init__" [.type "ValueError", .type "Exception", .type "BaseException", .type "object"] "at" &&
    decide (PySem.W.kitAny K (.ref (ND K)) [.ref (He.ga K "NoWord"), .ref (He.ga K "NoText"), .ref (He.ga K "NoMachine"), .ref (He.ga K "NoRange"), .ref (He.ga K "Nought")] = some false) &&
    decide (PySem.W.kitOne K (.ref (ND K)) (.type "ValueError") = some true) && decide (PySem.W.kitOne K (.ref (ND K)) (.type "ArithmeticError") = some false) && decide (PySem.W.exmOne K (.ref (ND K)) (.ref (ND K)) = some true)
def d_number_of : He.DefD := ⟨("number_of", none), "number_of", "number_of", defArgs (top 10), defBody (top 10), defScope (top 10), [], [("base", .int 10)]⟩
def d__law_feed : He.DefD := ⟨("_law_feed", none), "_law_feed", "_law_feed", defArgs (top 12), defBody (top 12), defScope (top 12), [], []⟩
def d__law_draw : He.DefD := ⟨("_law_draw", none), "_law_draw", "_law_draw", defArgs (top 13), defBody (top 13), defScope (top 13), [], []⟩
def d__law_radix : He.DefD := ⟨("_law_radix", none), "_law_radix", "_law_radix", defArgs (top 14), defBody (top 14), defScope (top 14), [], []⟩
def d__law_signs : He.DefD := ⟨("_law_signs", none), "_law_signs", "_law_signs", defArgs (top 15), defBody (top 15), defScope (top 15), [], []⟩
def d__law_due : He.DefD := ⟨("_law_due", none), "_law_due", "_law_due", defArgs (top 16), defBody (top 16), defScope (top 16), [], []⟩
def d__law_refusal : He.DefD := ⟨("_law_refusal", none), "_law_refusal", "_law_refusal", defArgs (top 17), defBody (top 17), defScope (top 17), [], []⟩
def d__law_told : He.DefD := ⟨("_law_told", none), "_law_told", "_law_told", defArgs (top 18), defBody (top 18), defScope (top 18), [], []⟩
def d__law_told_plain : He.DefD := ⟨("_law_told_plain", none), "_law_told_plain", "_law_told_plain", defArgs (top 19), defBody (top 19), defScope (top 19), [], []⟩
def d__law_bent : He.DefD := ⟨("_law_bent", none), "_law_bent", "_law_bent", defArgs (top 20), defBody (top 20), defScope (top 20), [], []⟩
def d_law : He.DefD := ⟨("law", none), "law", "law", defArgs (top 21), defBody (top 21), defScope (top 21), [], []⟩
def d_NoDigits___init__ : He.DefD := ⟨("NoDigits", some "__init__"), "__init__", "NoDigits.__init__", defArgs (inClass (top 1) 0), defBody (inClass (top 1) 0), defScope (inClass (top 1) 0), [], []⟩
def d_NoWord___init__ : He.DefD := ⟨("NoWord", some "__init__"), "__init__", "NoWord.__init__", defArgs (inClass (top 2) 0), defBody (inClass (top 2) 0), defScope (inClass (top 2) 0), [], []⟩
def d_NoText___init__ : He.DefD := ⟨("NoText", some "__init__"), "__init__", "NoText.__init__", defArgs (inClass (top 3) 0), defBody (inClass (top 3) 0), defScope (inClass (top 3) 0), [], []⟩
def d_NoMachine___init__ : He.DefD := ⟨("NoMachine", some "__init__"), "__init__", "NoMachine.__init__", defArgs (inClass (top 4) 0), defBody (inClass (top 4) 0), defScope (inClass (top 4) 0), [], []⟩
def d_Nought___init__ : He.DefD := ⟨("Nought", some "__init__"), "__init__", "Nought.__init__", defArgs (inClass (top 6) 0), defBody (inClass (top 6) 0), defScope (inClass (top 6) 0), [], []⟩
def fn_0 : List He.DefD := [d_number_of, d__law_feed, d__law_draw, d__law_radix, d__law_signs, d__law_due, d__law_refusal, d__law_told, d__law_told_plain, d__law_bent, d_law, d_NoDigits___init__, d_NoWord___init__, d_NoText___init__, d_NoMachine___init__, d_Nought___init__]
def fn : List He.DefD := fn_0
def fa_0 : List He.Fa := [.glo "number_of", .glo "_law_feed", .glo "_law_draw", .glo "_law_radix", .glo "_law_signs", .glo "_law_due", .glo "_law_refusal", .glo "_law_told", .glo "_law_told_plain", .glo "_law_bent", .glo "law", .glo "NoDigits", .glo "NoWord", .glo "NoText", .glo "NoMachine", .glo "NoRange", .glo "Nought", .free "len", .free "abs", .free "range", .free "enumerate", .free "isinstance", .free "str", .free "repr", .free "max", .free "min", .free "ValueError", .free "ArithmeticError", .str "SIGNS" "0123456789abcdefghijklmnopqrstuvwxyz", .int "TEN" 10]
def fa : List He.Fa := fa_0
def loose_0 : List Str := ["NoDigits", "NoWord", "NoText", "NoMachine", "NoRange", "Nought", "SIGNS", "TEN", "number_of", "_law_feed", "_law_draw", "_law_radix", "_law_signs", "_law_due", "_law_refusal", "_law_told", "_law_told_plain", "_law_bent"]
def loose : List Str := loose_0
abbrev R : PySem.W.OpenRow := PySem.W.OpenLaw.row PySem.Challenge.rw_formatwords_k02_texts_that_are_no_digits
abbrev hk : PySem.W.Hook := He.hookX 4 fa fn tabs [] extra
def ob (s : PySem.W.SharedT) : He.AlX := He.obsX 4 fa fn tabs [] extra (HandSHeadRun.getT s)
theorem ob_eq (s : PySem.W.SharedT) : ob s = hk.obs s.abs := He.obsX_eq (HandSHeadRun.getT_eq s)
theorem run (w : World) : HandSHeadRun.RunEq R (PySem.W.view R.prog [21]) hk ob 4000 loose w := by
  intro os
  kernel_rfl
section
variable {K : PySem.W.Frag} {h : Heap} {mg : Str → Option Value} (X : K.In h) (G : h.Ns mainGlobals mg) (c : He.SaysD fa fn K)
include X G c in
theorem gl_number_of : mg "number_of" = some (.ref (He.ga K "number_of")) := He.glo_ok X G (c.fact 0 (f := .glo "number_of") rfl)
include X G c in
theorem gl__law_feed : mg "_law_feed" = some (.ref (He.ga K "_law_feed")) := He.glo_ok X G (c.fact 1 (f := .glo "_law_feed") rfl)
include X G c in
theorem gl__law_draw : mg "_law_draw" = some (.ref (He.ga K "_law_draw")) := He.glo_ok X G (c.fact 2 (f := .glo "_law_draw") rfl)
include X G c in
theorem gl__law_radix : mg "_law_radix" = some (.ref (He.ga K "_law_radix")) := He.glo_ok X G (c.fact 3 (f := .glo "_law_radix") rfl)
include X G c in
theorem gl__law_signs : mg "_law_signs" = some (.ref (He.ga K "_law_signs")) := He.glo_ok X G (c.fact 4 (f := .glo "_law_signs") rfl)
include X G c in
theorem gl__law_due : mg "_law_due" = some (.ref (He.ga K "_law_due")) := He.glo_ok X G (c.fact 5 (f := .glo "_law_due") rfl)
include X G c in
theorem gl__law_refusal : mg "_law_refusal" = some (.ref (He.ga K "_law_refusal")) := He.glo_ok X G (c.fact 6 (f := .glo "_law_refusal") rfl)
include X G c in
theorem gl__law_told : mg "_law_told" = some (.ref (He.ga K "_law_told")) := He.glo_ok X G (c.fact 7 (f := .glo "_law_told") rfl)
include X G c in
theorem gl__law_told_plain : mg "_law_told_plain" = some (.ref (He.ga K "_law_told_plain")) := He.glo_ok X G (c.fact 8 (f := .glo "_law_told_plain") rfl)
include X G c in
theorem gl__law_bent : mg "_law_bent" = some (.ref (He.ga K "_law_bent")) := He.glo_ok X G (c.fact 9 (f := .glo "_law_bent") rfl)
include X G c in
theorem gl_law : mg "law" = some (.ref (He.ga K "law")) := He.glo_ok X G (c.fact 10 (f := .glo "law") rfl)
include X G c in
theorem gl_NoDigits : mg "NoDigits" = some (.ref (He.ga K "NoDigits")) := He.glo_ok X G (c.fact 11 (f := .glo "NoDigits") rfl)
include X G c in
theorem gl_NoWord : mg "NoWord" = some (.ref (He.ga K "NoWord")) := He.glo_ok X G (c.fact 12 (f := .glo "NoWord") rfl)
include X G c in
theorem gl_NoText : mg "NoText" = some (.ref (He.ga K "NoText")) := He.glo_ok X G (c.fact 13 (f := .glo "NoText") rfl)
include X G c in
theorem gl_NoMachine : mg "NoMachine" = some (.ref (He.ga K "NoMachine")) := He.glo_ok X G (c.fact 14 (f := .glo "NoMachine") rfl)
include X G c in
theorem gl_NoRange : mg "NoRange" = some (.ref (He.ga K "NoRange")) := He.glo_ok X G (c.fact 15 (f := .glo "NoRange") rfl)
include X G c in
theorem gl_Nought : mg "Nought" = some (.ref (He.ga K "Nought")) := He.glo_ok X G (c.fact 16 (f := .glo "Nought") rfl)
include X G c in
theorem fr_len : mg "len" = none := He.free_ok X G (c.fact 17 (f := .free "len") rfl)
include X G c in
theorem fr_abs : mg "abs" = none := He.free_ok X G (c.fact 18 (f := .free "abs") rfl)
include X G c in
theorem fr_range : mg "range" = none := He.free_ok X G (c.fact 19 (f := .free "range") rfl)
include X G c in
theorem fr_enumerate : mg "enumerate" = none := He.free_ok X G (c.fact 20 (f := .free "enumerate") rfl)
include X G c in
theorem fr_isinstance : mg "isinstance" = none := He.free_ok X G (c.fact 21 (f := .free "isinstance") rfl)
include X G c in
theorem fr_str : mg "str" = none := He.free_ok X G (c.fact 22 (f := .free "str") rfl)
include X G c in
theorem fr_repr : mg "repr" = none := He.free_ok X G (c.fact 23 (f := .free "repr") rfl)
include X G c in
theorem fr_max : mg "max" = none := He.free_ok X G (c.fact 24 (f := .free "max") rfl)
include X G c in
theorem fr_min : mg "min" = none := He.free_ok X G (c.fact 25 (f := .free "min") rfl)
include X G c in
theorem fr_ValueError : mg "ValueError" = none := He.free_ok X G (c.fact 26 (f := .free "ValueError") rfl)
include X G c in
theorem fr_ArithmeticError : mg "ArithmeticError" = none := He.free_ok X G (c.fact 27 (f := .free "ArithmeticError") rfl)
include X G c in
theorem co_SIGNS : ∃ t, mg "SIGNS" = some (.str "0123456789abcdefghijklmnopqrstuvwxyz" t) := He.str_ok X G (c.fact 28 (f := .str "SIGNS" "0123456789abcdefghijklmnopqrstuvwxyz") rfl)
include X G c in
theorem co_TEN : ∃ t, mg "TEN" = some (.int 10 t) := He.int_ok X G (c.fact 29 (f := .int "TEN" 10) rfl)
include c in
theorem de_number_of : ∃ fd, FunD K d_number_of.name d_number_of.qual d_number_of.params d_number_of.body d_number_of.scope (d_number_of.dvs K) (d_number_of.kws K) (He.fAd K d_number_of.at_) fd := c.def_ 0 (d := d_number_of) rfl
include c in
theorem de__law_feed : ∃ fd, FunD K d__law_feed.name d__law_feed.qual d__law_feed.params d__law_feed.body d__law_feed.scope (d__law_feed.dvs K) (d__law_feed.kws K) (He.fAd K d__law_feed.at_) fd := c.def_ 1 (d := d__law_feed) rfl
include c in
theorem de__law_draw : ∃ fd, FunD K d__law_draw.name d__law_draw.qual d__law_draw.params d__law_draw.body d__law_draw.scope (d__law_draw.dvs K) (d__law_draw.kws K) (He.fAd K d__law_draw.at_) fd := c.def_ 2 (d := d__law_draw) rfl
include c in
theorem de__law_radix : ∃ fd, FunD K d__law_radix.name d__law_radix.qual d__law_radix.params d__law_radix.body d__law_radix.scope (d__law_radix.dvs K) (d__law_radix.kws K) (He.fAd K d__law_radix.at_) fd := c.def_ 3 (d := d__law_radix) rfl
include c in
theorem de__law_signs : ∃ fd, FunD K d__law_signs.name d__law_signs.qual d__law_signs.params d__law_signs.body d__law_signs.scope (d__law_signs.dvs K) (d__law_signs.kws K) (He.fAd K d__law_signs.at_) fd := c.def_ 4 (d := d__law_signs) rfl
include c in
theorem de__law_due : ∃ fd, FunD K d__law_due.name d__law_due.qual d__law_due.params d__law_due.body d__law_due.scope (d__law_due.dvs K) (d__law_due.kws K) (He.fAd K d__law_due.at_) fd := c.def_ 5 (d := d__law_due) rfl
include c in
theorem de__law_refusal : ∃ fd, FunD K d__law_refusal.name d__law_refusal.qual d__law_refusal.params d__law_refusal.body d__law_refusal.scope (d__law_refusal.dvs K) (d__law_refusal.kws K) (He.fAd K d__law_refusal.at_) fd := c.def_ 6 (d := d__law_refusal) rfl
include c in
theorem de__law_told : ∃ fd, FunD K d__law_told.name d__law_told.qual d__law_told.params d__law_told.body d__law_told.scope (d__law_told.dvs K) (d__law_told.kws K) (He.fAd K d__law_told.at_) fd := c.def_ 7 (d := d__law_told) rfl
include c in
theorem de__law_told_plain : ∃ fd, FunD K d__law_told_plain.name d__law_told_plain.qual d__law_told_plain.params d__law_told_plain.body d__law_told_plain.scope (d__law_told_plain.dvs K) (d__law_told_plain.kws K) (He.fAd K d__law_told_plain.at_) fd := c.def_ 8 (d := d__law_told_plain) rfl
include c in
theorem de__law_bent : ∃ fd, FunD K d__law_bent.name d__law_bent.qual d__law_bent.params d__law_bent.body d__law_bent.scope (d__law_bent.dvs K) (d__law_bent.kws K) (He.fAd K d__law_bent.at_) fd := c.def_ 9 (d := d__law_bent) rfl
include c in
theorem de_law : ∃ fd, FunD K d_law.name d_law.qual d_law.params d_law.body d_law.scope (d_law.dvs K) (d_law.kws K) (He.fAd K d_law.at_) fd := c.def_ 10 (d := d_law) rfl
include c in
theorem de_NoDigits___init__ : ∃ fd, FunD K d_NoDigits___init__.name d_NoDigits___init__.qual d_NoDigits___init__.params d_NoDigits___init__.body d_NoDigits___init__.scope (d_NoDigits___init__.dvs K) (d_NoDigits___init__.kws K) (He.fAd K d_NoDigits___init__.at_) fd := c.def_ 11 (d := d_NoDigits___init__) rfl
include c in
theorem de_NoWord___init__ : ∃ fd, FunD K d_NoWord___init__.name d_NoWord___init__.qual d_NoWord___init__.params d_NoWord___init__.body d_NoWord___init__.scope (d_NoWord___init__.dvs K) (d_NoWord___init__.kws K) (He.fAd K d_NoWord___init__.at_) fd := c.def_ 12 (d := d_NoWord___init__) rfl
include c in
theorem de_NoText___init__ : ∃ fd, FunD K d_NoText___init__.name d_NoText___init__.qual d_NoText___init__.params d_NoText___init__.body d_NoText___init__.scope (d_NoText___init__.dvs K) (d_NoText___init__.kws K) (He.fAd K d_NoText___init__.at_) fd := c.def_ 13 (d := d_NoText___init__) rfl
include c in
theorem de_NoMachine___init__ : ∃ fd, FunD K d_NoMachine___init__.name d_NoMachine___init__.qual d_NoMachine___init__.params d_NoMachine___init__.body d_NoMachine___init__.scope (d_NoMachine___init__.dvs K) (d_NoMachine___init__.kws K) (He.fAd K d_NoMachine___init__.at_) fd := c.def_ 14 (d := d_NoMachine___init__) rfl
include c in
theorem de_Nought___init__ : ∃ fd, FunD K d_Nought___init__.name d_Nought___init__.qual d_Nought___init__.params d_Nought___init__.body d_Nought___init__.scope (d_Nought___init__.dvs K) (d_Nought___init__.kws K) (He.fAd K d_Nought___init__.at_) fd := c.def_ 15 (d := d_Nought___init__) rfl
end
abbrev lawAt : Nat := 21
/-- a def without defaults, by its name -/
theorem dn_of {P : Program} {w : World} {K : PySem.W.Frag} {mg : Str → Option Value} {base : Heap} {CX : CXT} {k : Nat} {x : Str} {ps : List Str} {dvs : List V} {sp : Sp} {f : Addr} {fd : FuncData} {ds : List Value}
    (F : FnOk P w K mg base CX k f fd ps sp) (hm : mg x = some (.ref f)) (kp : PySem.W.keepIn K (.ref f) = true) (b : Binds K fd ps ds) (v : Vals dvs ds) : Dn P w K mg base CX k x ps dvs sp := ⟨f, fd, ds, F, hm, kp, b, v⟩
theorem facts {P : Program} {w : World} {K : PySem.W.Frag} {h : Heap} {mg : Str → Option Value} {f : Addr} (X : K.In h) (G : h.Ns mainGlobals mg) (hfa : mg ("law" : Str) = some (.ref f)) (c : He.SaysD fa fn K) (m : extra K = true) :
    ∃ fd : FuncData, (∀ (s : Shared) (v : Value), BindsTo s fd ⟨[v], []⟩ [("_law_script", v)]) ∧ ∀ base : Heap, K.In base → base.Ns mainGlobals mg → FnG P w K mg base CX0 5 f fd ["_law_script"] (spLaw K) := by
  unfold extra at m
  simp only [Bool.and_eq_true, decide_eq_true_eq] at m
  obtain ⟨⟨⟨⟨m1, m2⟩, m3⟩, m4⟩, m5⟩ := m
  have W := ownB_ok m1
  have N : NdIs K (ND K) := ⟨W.k, W.no, m2, m3, m4, m5⟩
  obtain ⟨ts, gS⟩ := co_SIGNS X G c
  have nl := fr_len X G c
  have nr := fr_range X G c
  have ni := fr_isinstance X G c
  have ns := fr_str X G c
  have ne := fr_enumerate X G c
  have nv := fr_ValueError X G c
  obtain ⟨_, f0⟩ := de_NoDigits___init__ c
  obtain ⟨_, f2⟩ := de_number_of c
  obtain ⟨_, f5⟩ := de__law_feed c
  obtain ⟨_, f6⟩ := de__law_draw c
  obtain ⟨_, f10⟩ := de__law_radix c
  obtain ⟨_, f12⟩ := de__law_signs c
  obtain ⟨_, f7⟩ := de__law_due c
  obtain ⟨_, f8⟩ := de__law_refusal c
  obtain ⟨_, f9⟩ := de__law_told c
  obtain ⟨_, f11⟩ := de__law_told_plain c
  obtain ⟨_, f13⟩ := de__law_bent c
  obtain ⟨fd, f14⟩ := de_law c
  have e := hfa.symm.trans (gl_law X G c)
  cases e
  have b2 : ∃ ds, Vals [V.int 10] ds ∧ Binds K _ ["text", "base"] ds := f2.binds0 1 (by simp [He.DefD.kws, d_number_of]) rfl fun D doc pm an cdv ct us ks hu hk => match us, ks, hu, hk with | [_], [_], _, _ => ⟨_, _, _, _, _, _, rfl, rfl, rfl⟩
  obtain ⟨ds2, v2, b2⟩ := b2
  have k2 : ∃ mv : List Value, KBn K _ ["text", "base"] 1 ["base"] (fun us ws => us ++ ws) (fun vs zs => vs ++ zs) := f2.kbinds0 1 ["base"] [] (fun us _ ws => us ++ ws) (by simp [He.DefD.kws, d_number_of]) (by simp) (fun a _ b => a.append b) fun D doc pm an cdv ct us mv ws hu hm hw => match us, mv, ws, hu, hm, hw with | [_], [], [_], _, _, _ => rfl
  obtain ⟨_, k2⟩ := k2
  have b0 : Binds K _ ["self", "at"] [] := f0.bindsN fun _ _ _ _ _ _ us hl => match us, hl with | [_, _], _ => rfl
  have b5 : Binds K _ ["_law_script"] [] := f5.bindsN fun _ _ _ _ _ _ us hl => match us, hl with | [_], _ => rfl
  have b6 : Binds K _ ["_law_feed_here", "_law_many"] [] := f6.bindsN fun _ _ _ _ _ _ us hl => match us, hl with | [_, _], _ => rfl
  have b10 : Binds K _ ["_law_feed_here"] [] := f10.bindsN fun _ _ _ _ _ _ us hl => match us, hl with | [_], _ => rfl
  have b12 : Binds K _ [] [] := f12.bindsN fun _ _ _ _ _ _ us hl => match us, hl with | [], _ => rfl
  have b7 : Binds K _ ["_law_text", "_law_radix_here"] [] := f7.bindsN fun _ _ _ _ _ _ us hl => match us, hl with | [_, _], _ => rfl
  have b8 : Binds K _ ["_law_error"] [] := f8.bindsN fun _ _ _ _ _ _ us hl => match us, hl with | [_], _ => rfl
  have b9 : Binds K _ ["_law_thing", "_law_radix_here"] [] := f9.bindsN fun _ _ _ _ _ _ us hl => match us, hl with | [_, _], _ => rfl
  have b11 : Binds K _ ["_law_thing"] [] := f11.bindsN fun _ _ _ _ _ _ us hl => match us, hl with | [_], _ => rfl
  have b13 : Binds K _ ["_law_feed_here", "_law_text"] [] := f13.bindsN fun _ _ _ _ _ _ us hl => match us, hl with | [_, _], _ => rfl
  have b := FunD.bindsA (ps := ["_law_script"]) f14 fun _ _ _ _ _ _ us hl => match us, hl with | [_], _ => rfl
  refine ⟨fd, fun s v => b s [v] rfl, fun base _ _ => ?_⟩
  have gND := gl_NoDigits X G c
  have Ddraw := dn_of (x := "_law_draw") (ok_draw (P := P) (w := w) (base := base) f6 nl (fr_abs X G c) nr) (gl__law_draw X G c) f6.kp b6 .nil
  have Rnd : Rz P w K mg base 1 "NoDigits" (ND K) (spIni (ND K) "at") :=
    ⟨_, _, _, _, _, _, _, exB_of PySem.F.excBase_ValueError PySem.F.store_ValueError, W.O, W.iC, W.tI, ok_ini (P := P) (w := w) (base := base) f0 W nv, b0, gND⟩
  have o2 := ok_number_of (P := P) (w := w) (base := base) f2 gS ni ns ne Rnd
  have Dref := dn_of (x := "_law_refusal") (ok_refusal (P := P) (w := w) (base := base) f8 N ni nv (fr_ArithmeticError X G c) (gl_NoWord X G c) (gl_NoText X G c) (gl_NoMachine X G c) (gl_NoRange X G c) (gl_Nought X G c)) (gl__law_refusal X G c) f8.kp b8 .nil
  have Dsig := dn_of (x := "_law_signs") (ok_signs (P := P) (w := w) (mg := mg) (base := base) f12) (gl__law_signs X G c) f12.kp b12 .nil
  exact ok_law f14 nl nr (fr_max X G c) (fr_min X G c) (fr_repr X G c)
    (dn_of (ok_feed f5) (gl__law_feed X G c) f5.kp b5 .nil) Ddraw
    (dn_of (ok_radix f10 Ddraw) (gl__law_radix X G c) f10.kp b10 .nil) (dn_of (ok_bent f13 nl Ddraw Dsig) (gl__law_bent X G c) f13.kp b13 .nil)
    (dn_of (ok_told f9 N gND ⟨_, _, _, _, o2, gl_number_of X G c, f2.kp, k2⟩ Dref) (gl__law_told X G c) f9.kp b9 .nil)
    (dn_of (ok_told_plain f11 N gND (dn_of o2 (gl_number_of X G c) f2.kp b2 v2) Dref) (gl__law_told_plain X G c) f11.kp b11 .nil)
    (dn_of (ok_due f7 ni ns ne) (gl__law_due X G c) f7.kp b7 .nil)
end Hd

open PySem PySem.W PySem.Calls PyProof.Rows
set_option maxRecDepth 100000 in
set_option maxHeartbeats 8000000 in
theorem PySem.Challenge.cw_formatwords_k02_texts_that_are_no_digits_holds : PySem.Challenge.rw_formatwords_k02_texts_that_are_no_digits.Holds := by
  w_on; o_law
  refine HandSHeadRun.head_any (r := Hd.R) (q := view Hd.R.prog [Hd.lawAt]) (H := Hd.hk) (ob := Hd.ob) (M := 4000) (loose := Hd.loose) (d := HandSHeadRun.topDef Hd.R.prog Hd.lawAt) (kwd := []) Hd.ob_eq
    (by kernel_rfl) (fun s => by kernel_rfl) Hd.run (by kernel_rfl) (by kernel_rfl) (by kernel_rfl) (by rfl) (by first | assumption | decide +kernel) (by decide +kernel)
    ⟨rfl, rfl, rfl, rfl, rfl, by decide +kernel⟩ ?hw ?hc
  case hw => w_witness2
  case hc =>
    refine Fw.walk_g (l := PySem.Challenge.rw_formatwords_k02_texts_that_are_no_digits) (n := 63) (k := 5) (x := "_law_script") rfl (by decide) (by kernel_rfl) ⟨rfl, by decide, by decide⟩ ?F
    intro w mg fa h Y G hmg0
    obtain ⟨K, KX, c⟩ := Y
    have hmg : mg ("law" : PySem.Str) = some (.ref fa) := by
      have e : (HandSHeadRun.topDef Hd.R.prog Hd.lawAt).name = ("law" : PySem.Str) := by kernel_rfl
      rw [← e]; exact hmg0
    obtain ⟨fd, hb, hF⟩ := Hd.facts (P := (PySem.Challenge.rw_formatwords_k02_texts_that_are_no_digits).prog) (w := w) KX G hmg c.t.d c.more
    exact ⟨K, fd, Lw.spLaw K, KX, hb, fun H a ns hl _ hS => ⟨a, ns, rfl, hS, hl, fun _ => rfl⟩, hF⟩
