import PyProof.Rows.All
import Wide.All
import OpenK.AllK
import Wide.FinOn
import PyProof.Draws
import PyProof.EnumMake
import PyProof.StrOps2
import KE.KStateDown
import HandS.Base
import HandS.Call
import HandS.List
import HandS.Comp
import HandS.Ends
import HandS.Dict
import HandS.Iter
import HandS.Text
import HandS.Words
import HandS.WordsList
import HandS.WordsDict
import HandS.Flow
import HandS.Style
import HandS.Codes
import HandS.IsInst
import HandS.RaiseMore
import HandS.Wide
import HandS.WideBits
import HandS.Defaults
import HandS.TupAny
import HandS.More
import HandS.WordsExc
import HandS.Exc
import HandS.MakeKwOnly
import HandS.Head0
import HandS.Head1
import HandS.Head2
import HandS.HeadEnd
import HandS.HeadHook1
import HandS.HeadHook2
import HandS.HeadHook3
import HandS.HeadHook4
import PyProof.ReprRoads
import KE.KExcIs
import KE.KExcInit
import HandS.ExcOwn
import HandS.ExcInit
import HandS.ExcField
import HandS.TryOnly
import HandS.StrMore
import KE.KRevSl
import PyProof.SliceStr2
import HandS.CallLocal
import HandS.Conv
import HandS.SlotsOwn
import KE.KCallOwn
import HandS.TupMul
import HandS.FStr
import HandS.Deep
import HandS.Zip
import PyProof.EqAt
import PyProof.MeetsIn

import PySem.Challenge.RW_formatwords_k04_ranges_and_what_they_hav

set_option Elab.async false
set_option linter.all false
set_option maxRecDepth 100000
set_option maxHeartbeats 4000000
namespace Fw
open PySem PySem.Spec PyProof.Rows L2
/-! ### defs by their names -/
/-- the def that the module's name x holds: n values are written in a call, dvs fill up -/
structure Dn (P : Program) (w : World) (K : PySem.W.Frag) (mg : Str → Option Value) (base : Heap) (CX : CXT) (k : Nat) (x : Str) (ps : List Str) (dvs : List V) (sp : Sp) : Prop where
  ex : ∃ (f : Addr) (fd : FuncData) (ds : List Value), FnOk P w K mg base CX k f fd ps sp ∧ mg x = some (.ref f) ∧ PySem.W.keepIn K (.ref f) = true ∧ Binds K fd ps ds ∧ Vals dvs ds
section
variable {X : Cx} {k : Nat} {x : Str} {ps : List Str} {dvs : List V} {sp : Sp} {p pos : Pos} {e : Expr} {es : List Expr} {t : TA}
theorem pe_dn (D : Dn X.prog X.w X.K X.mg X.base CX0 k x ps dvs sp) (hr : Room k X.A) (hg : Gl X x) (ha : PA X (e :: es) t)
    (hdb : (x == ("__debug__" : Str)) = false := by decide) (he : starEach (e :: es) X.env = (false, eval e X.env) :: starEach es X.env := by rfl)
    (hpl : (backTo pos (starEach es X.env)).any (·.1) = false := by rfl) : PE X (.Call (.Name x p) (e :: es) [] pos) (tCall sp dvs E0 t) := by
  obtain ⟨f, fd, ds, F, hm, hk, hb, hd⟩ := D.ex
  exact pe_call F hr hg hm hk hb hd pass0 ha hdb he hpl
theorem pe_dn0 (D : Dn X.prog X.w X.K X.mg X.base CX0 k x ps dvs sp) (hr : Room k X.A) (hg : Gl X x)
    (hdb : (x == ("__debug__" : Str)) = false := by decide) : PE X (.Call (.Name x p) [] [] pos) (tCall sp dvs E0 tNil) := by
  obtain ⟨f, fd, ds, F, hm, hk, hb, hd⟩ := D.ex
  exact pe_call0 F hr hg hm hk hb hd pass0 hdb
end
/-- the same called with keywords -/
structure Dk (P : Program) (w : World) (K : PySem.W.Frag) (mg : Str → Option Value) (base : Heap) (CX : CXT) (k : Nat) (x : Str) (n : Nat) (ks : List Str) (gV : List V → List V → List V) (sp : Sp) : Prop where
  ex : ∃ (f : Addr) (fd : FuncData) (ps : List Str) (g : List Value → List Value → List Value), FnOk P w K mg base CX k f fd ps sp ∧ mg x = some (.ref f) ∧ PySem.W.keepIn K (.ref f) = true ∧ KBn K fd ps n ks g gV
theorem pe_dk {X : Cx} {k n : Nat} {x : Str} {ks : List Str} {gV : List V → List V → List V} {sp : Sp} {p pos : Pos} {e : Expr} {es : List Expr} {kws : List Keyword} {t tk : TA}
    (D : Dk X.prog X.w X.K X.mg X.base CX0 k x n ks gV sp) (hr : Room k X.A) (hg : Gl X x) (ha : PA X (e :: es) t) (hkw : PK X kws tk)
    (hall : (backToKw pos (keywordEach kws X.env)).all (·.1.isSome) = true := by rfl) (hks : (backToKw pos (keywordEach kws X.env)).filterMap (·.1) = ks := by rfl)
    (hdb : (x == ("__debug__" : Str)) = false := by decide) (he : starEach (e :: es) X.env = (false, eval e X.env) :: starEach es X.env := by rfl)
    (hpl : ((backTo pos (starEach (e :: es) X.env)).any (·.1) || (backToKw pos (keywordEach kws X.env)).any (·.1.isNone)) = false := by rfl) :
    PE X (.Call (.Name x p) (e :: es) kws pos) (tCallN n ks.length sp gV E0 t tk) := by
  obtain ⟨f, fd, ps, g, F, hm, hk, hb⟩ := D.ex
  exact pe_callN F hr hg hm hk hb pass0 ha hkw hall hks hdb he hpl
/-! ### text * number -/
def mulS (z : Str) (n : Int) : Str := ⟨(List.replicate n.toNat z.cps).foldl (· ++ ·) #[]⟩
theorem foldl_cat (a : Array Nat) : ∀ (k : Nat) (acc : Array Nat), ((List.replicate k a).foldl (· ++ ·) acc).toList = acc.toList ++ (List.replicate k a.toList).flatten
  | 0, acc => by simp
  | k + 1, acc => by
    rw [List.replicate_succ, List.foldl_cons, foldl_cat a k, List.replicate_succ, List.flatten_cons, Array.toList_append, List.append_assoc]
theorem mulS_tl (z : Str) (n : Int) : (mulS z n).cps.toList = (List.replicate n.toNat z.cps.toList).flatten := by
  unfold mulS
  rw [foldl_cat]
  simp
theorem mulS_len (z : Str) (n : Int) : (mulS z n).length = n.toNat * z.length := by
  show (mulS z n).cps.size = _
  rw [← Array.length_toList, mulS_tl, List.length_flatten, List.map_replicate, List.sum_replicate_nat, Array.length_toList]
  rfl
theorem op_mul_str {X : Cx} : OpR X (binaryOp .Mult) (fun x y H Q => ∃ (z : Str) (n : Int), x = .str z ∧ y = .int n ∧ (-(2 ^ 62) ≤ n ∧ n < 2 ^ 62) ∧ n.toNat * z.length ≤ sizeLine ∧ Q (.str (mulS z n)) H) := by
  intro pins s σ H x y v u Q I rx ry h
  obtain ⟨z, n, rfl, rfl, ⟨h1, h2⟩, hz, q⟩ := h
  obtain ⟨t, rfl⟩ := rx
  obtain ⟨t', rfl⟩ := ry
  have hsz : (sizeLine : Int) ≤ 2 ^ 40 := by decide
  refine PySem.P.mul_str ?_ (fun g1 g2 => ?_) (fun g1 g2 => ?_) ?_
  · rw [decide_eq_false (by omega), decide_eq_false (by omega)]; rfl
  · intro hc
    have hc' : (z.length : Int) > (2 ^ 63 - 1) / n := hc
    have hn : 0 < n := by omega
    have e1 : (2 ^ 63 - 1 : Int) < n * z.length := by
      have := Int.lt_mul_of_ediv_lt hn hc'
      rw [Int.mul_comm] at this
      exact this
    have e2 : n * (z.length : Int) = ((n.toNat * z.length : Nat) : Int) := by
      rw [Int.natCast_mul, Int.toNat_of_nonneg (by omega)]
    have e3 : ((n.toNat * z.length : Nat) : Int) ≤ (sizeLine : Int) := by exact_mod_cast hz
    omega
  · show decide (z.length * n.toNat > sizeLine) = false
    rw [Nat.mul_comm]
    exact decide_eq_false (by omega)
  · have hl := mulS_len z n
    by_cases c1 : n < 1
    · rw [if_pos c1]
      have e0 : mulS z n = Str.empty := by
        have : n.toNat = 0 := by omega
        unfold mulS; rw [this]; rfl
      refine ⟨by decide, ⟨.str (mulS z n), H, I.tok _, ⟨_, by rw [e0]⟩, q⟩⟩
    · rw [if_neg c1]
      by_cases c2 : (n == 1 || z.length == 0) = true
      · rw [if_pos c2]
        have e0 : mulS z n = z := by
          apply TL.ext_tl
          show (mulS z n).cps.toList = z.cps.toList
          rw [mulS_tl]
          rw [Bool.or_eq_true] at c2
          rcases c2 with c | c
          · have : n = 1 := by simpa using c
            subst this
            simp
          · have : z.cps.toList = [] := by
              apply List.length_eq_zero_iff.mp
              rw [Array.length_toList]
              exact eq_of_beq c
            rw [this]
            simp
        exact ⟨.str (mulS z n), H, I, ⟨t, by rw [e0]⟩, q⟩
      · rw [if_neg c2]
        exact ⟨by show (mulS z n).length ≤ sizeLine; omega, ⟨.str (mulS z n), H, I.tok _, ⟨_, rfl⟩, q⟩⟩
/-! ### enumerate(text) -/
def IteS (x : Str) : It :=
  ⟨fun i _ => i < x.cps.size, fun i H v H' => ∃ T c, v = .ref T ∧ H T = none ∧ x.cps[i]? = some c ∧ H' = upd H T (.tup [.int (i : Nat), .str ⟨#[c]⟩]), fun i _ => x.cps.size ≤ i⟩
theorem iterType_or (x : Str) : strIterType x = "str_ascii_iterator" ∨ strIterType x = "str_iterator" := by
  unfold strIterType
  split
  · exact .inl rfl
  · exact .inr rfl
theorem drawsS {prog : Program} {w : World} {A : Around} (hh : A.handled = none) (it : Addr) (x : Str) (t : Tok) :
    Draws prog w A it [it] x.cps.size (fun i v => ∃ c u, x.cps[i]? = some c ∧ v = .str ⟨#[c]⟩ u) (fun i h => h.IsStrIter it (strIterType x) x t i) := by
  rcases iterType_or x with e | e
  · rw [e]; exact Draws.strAscii hh it x t
  · rw [e]; exact Draws.strWide hh it x t
theorem turn_enumS {P : Program} {w : World} {K : PySem.W.Frag} {elts : List Expr} {kk : Nat} {tpos : Pos} (x : Str) (t : Tok) (e it : Addr) (hne : e ≠ it) :
    Turn P w K (.Tuple elts kk tpos) (IteS x) [e, it] e (fun i h => (∃ old, IsEnum h e it ((i : Nat) : Int) old) ∧ h.IsStrIter it (strIterType x) x t i) where
  mem := by simp
  obj := fun i h st b hb => by
    obtain ⟨⟨old, he⟩, ⟨o, ho, hc, hd⟩⟩ := st
    have e' : b = e ∨ b = it := by simpa using hb
    rcases e' with z | z
    · subst z; exact ⟨_, he, fun v q => nomatch q⟩
    · subst z; exact ⟨o, ho, fun v q => by rw [hd] at q; cases q⟩
  keep := fun i h h' st k => by
    obtain ⟨⟨old, he⟩, ⟨o, ho, r⟩⟩ := st
    exact ⟨⟨old, k e (by simp) _ he⟩, ⟨o, k it (by simp) o ho, r⟩⟩
  item := by
    intro X hP hw hK hc i pins s σ H E I hf st hg
    subst hP hw hK
    obtain ⟨⟨old, he⟩, hit⟩ := st
    have hel : e < s.heap.objs.size := Heap.lt_size he
    have hil : it < s.heap.objs.size := by obtain ⟨_, q, _⟩ := hit; exact Heap.lt_size q
    have hlt : i < x.cps.size := hg
    have D1 := drawsS (prog := X.prog) (w := X.w) (A := X.A.in1) (I.ok.hd hc) it x t
    refine wpAny_pyNext_enum_itemD D1 he hit hlt hne (by simpa using hne) fun v h' tk hv ho hit' hT hsz hk => ?_
    obtain ⟨c, u, hcx, rfl⟩ := hv
    refine ⟨_, rfl, wpAny_letOwnedTupleGo_enum (s := { s with heap := h', toks := tk + 1 }) ho fun h2 he2 sb => ?_⟩
    have hT2 : h2.get? s.heap.objs.size = some { cls := .type "tuple", data := .seq #[.int i tk, .str ⟨#[c]⟩ u] } := (sb.2 _ (Nat.ne_of_gt hel)).trans hT
    have new : ObjOk X.prog X.w (upd H s.heap.objs.size (.tup [.int (i : Nat), .str ⟨#[c]⟩])) h2 s.heap.objs.size (.tup [.int (i : Nat), .str ⟨#[c]⟩]) :=
      ⟨by show 2 ≤ sizeLine; decide, [.int i tk, .str ⟨#[c]⟩ u], .cons ⟨_, rfl⟩ (.cons ⟨_, rfl⟩ .nil), ⟨_, hT2, rfl, _, rfl⟩⟩
    have J : Inv X pins σ (upd H s.heap.objs.size (.tup [.int (i : Nat), .str ⟨#[c]⟩])) { s with heap := h2, toks := tk + 1 } :=
      I.turnedNew (ch := [e, it]) (fun b ob hb q => by
        have hb1 : b ≠ e := fun z => hb (by simp [z])
        have hb2 : b ≠ it := fun z => hb (by simp [z])
        exact (sb.2 b hb1).trans (hk b ob hb1 hb2 q)) hf (Nat.le_refl _) new
    refine ⟨.ref s.heap.objs.size, _, J, rfl, ⟨_, c, rfl, I.hok.fresh (Nat.le_refl _), hcx, rfl⟩, ⟨⟨.str ⟨#[c]⟩ u, ?_⟩, ?_⟩, fun b hb => ?_⟩
    · have e1 : ((i + 1 : Nat) : Int) = (i : Int) + 1 := by omega
      rw [e1]; exact he2
    · obtain ⟨o, q, r⟩ := hit'
      exact ⟨o, (sb.2 it (Ne.symm hne)).trans q, r⟩
    · have hlt : b < s.heap.objs.size := by
        have e' : b = e ∨ b = it := by simpa using hb
        rcases e' with z | z
        · subst z; exact hel
        · subst z; exact hil
      rw [upd_ne (Nat.ne_of_lt hlt)]
      exact (hf b hb).1
  done := by
    intro X hP hw hK hc i pins s σ H E I hf st hg
    subst hP hw hK
    obtain ⟨⟨old, he⟩, hit⟩ := st
    have hz : x.cps.size ≤ i := hg
    obtain ⟨f0, f1, f2, f3, f4, f5⟩ := hf it (by simp)
    by_cases q : i = x.cps.size
    · subst q
      have D1 := drawsS (prog := X.prog) (w := X.w) (A := X.A.in1) (I.ok.hd hc) it x t
      exact wpAny_pyNext_enum_endD D1 he hit fun h' eb => ⟨rfl, I.turned (t' := s.toks) (fun b o hb q => eb b o hb q) f0 f1 f3 f4 f5⟩
    · -- the iterator stands nowhere beyond its end
      have D2 : Draws X.prog X.w X.A.in1 it [it] i (fun _ _ => False) (fun j h => j = i ∧ h.IsStrIter it (strIterType x) x t i) :=
        ⟨fun _ _ st => by obtain ⟨_, o, ho, _⟩ := st; exact ⟨o, ho⟩, fun _ _ _ st hk => by
          obtain ⟨z, o, ho, r⟩ := st
          exact ⟨z, o, hk it (by simp) o ho, r⟩, fun j s Q E hj st _ => absurd st.1 (Nat.ne_of_lt hj), fun s Q E st hE => by
          have hx : x.cps[i]? = none := Array.getElem?_eq_none hz
          obtain ⟨_, st⟩ := st
          rcases iterType_or x with e | e
          · rw [e] at st; exact wpAny_nextOf_ascii_end (I.ok.hd hc) st hx hE
          · rw [e] at st; exact wpAny_nextOf_wide_end (I.ok.hd hc) st hx hE⟩
      exact wpAny_pyNext_enum_endD D2 he ⟨rfl, hit⟩ fun h' eb => ⟨rfl, I.turned (t' := s.toks) (fun b o hb q => eb b o hb q) f0 f1 f3 f4 f5⟩
  self := fun A i s Q E st h => by
    obtain ⟨⟨_, he⟩, _⟩ := st
    exact wpAny_pyIter_enum he h
def iEnumS (ta : TA) : TI := fun σ H R => ta σ H fun vs H1 => ∃ x, vs = [.str x] ∧ R (IteS x) H1
theorem pi_enumS {X : Cx} {e : Expr} {ta : TA} {p pos tpos : Pos} {elts : List Expr} {kk : Nat} (hg : Gl X "enumerate") (hm : X.mg "enumerate" = none) (ha : PA X [e] ta) (hs : starEach [e] X.env = [(false, eval e X.env)] := by rfl) :
    PI X (.Tuple elts kk tpos) (.Call (.Name "enumerate" p) [e] [] pos) (iEnumS ta) := by
  refine ⟨fun pins s σ H R I h => ?_⟩
  refine Call_ (ld_blt I hg hm boot_enumerate (PyProof.Rows.callWith_type1 (thn (ha.run pos pins s σ H _ I h) fun us s1 ⟨vs, H1, I1, r1, q1⟩ => ?_) hs rfl))
  obtain ⟨x, rfl, q⟩ := q1
  obtain ⟨u, rfl, t, rfl⟩ := vals1 r1
  refine call_enumerate_str fun h' he hit hsz hk => wpAny_pyIter_enum he ?_
  have J : Inv X pins σ H1 { s1 with heap := h' } := I1.kept (t' := s1.toks) hk
  refine ⟨s1.heap.objs.size + 1, [s1.heap.objs.size + 1, s1.heap.objs.size], _, _, H1, rfl, J, turn_enumS x t _ _ (Nat.succ_ne_self _), ⟨⟨.none, he⟩, hit⟩, fun b hb => ?_, q⟩
  have hle : s1.heap.objs.size ≤ b := by
    have e' : b = s1.heap.objs.size + 1 ∨ b = s1.heap.objs.size := by simpa using hb
    rcases e' with z | z
    · rw [z]; exact Nat.le_succ _
    · rw [z]; exact Nat.le_refl _
  exact I1.fpOk hle (I1.hok.fresh hle)
/-- the reading of such a for -/
theorem for_enumS {x : Str} {g : TG} {tb : TS} {D : Ends} {σ : L2.St} {H : Hp} (Pv : Nat → L2.St → Hp → Prop) (h0 : Pv 0 σ H)
    (hs : ∀ i c T σ H, x.cps[i]? = some c → H T = none → Pv i σ H → g (.ref T) σ (upd H T (.tup [.int (i : Nat), .str ⟨#[c]⟩])) fun σ2 H2 => tb { D with nx := Pv (i + 1), ct := Pv (i + 1), bk := D.nx } σ2 H2)
    (hd : ∀ σ H, Pv x.cps.size σ H → D.nx σ H) :
    ∃ W : Nat → Nat → L2.St → Hp → Prop, (∃ m, W 0 m σ H) ∧ ∀ i m σ H, W i m σ H →
      ((IteS x).stop i H ∧ D.nx σ H) ∨ ((IteS x).go i H ∧ ∃ N : L2.St → Hp → Prop, (∀ σ' H', N σ' H' → ∃ m', m' < m ∧ W (i + 1) m' σ' H') ∧ ∀ v H', (IteS x).yld i H v H' → g v σ H' fun σ2 H2 => tb { D with nx := N, ct := N, bk := D.nx } σ2 H2) := by
  refine ⟨fun i m σ H => m = x.cps.size - i ∧ i ≤ x.cps.size ∧ Pv i σ H, ⟨_, rfl, Nat.zero_le _, h0⟩, ?_⟩
  rintro i m σ H ⟨rfl, hi, pv⟩
  by_cases hlt : i < x.cps.size
  · refine .inr ⟨hlt, Pv (i + 1), fun σ' H' p' => ⟨_, by omega, rfl, hlt, p'⟩, fun v H' y => ?_⟩
    obtain ⟨T, c, rfl, hT, hc, rfl⟩ := y
    exact hs i c T σ H hc hT pv
  · have e : i = x.cps.size := by omega
    subst e
    exact .inl ⟨Nat.le_refl _, hd σ H pv⟩
/-- a comprehension over range(a, b, c) -/
theorem lc_rangeC {lo c : Int} {n : Nat} {g : TG} {tt : TT} {te : TE} {vs : List Nat} {σ : L2.St} {H1 : Hp} {D : Addr} {Qd : Hp → Prop} (Pv : Nat → Hp → Prop) (h0 : Pv 0 (upd H1 D (.lst [])))
    (hs : ∀ i H, i < n → Pv i H → g (.int (lo + (i : Nat) * c)) (wipe σ vs) H fun σ2 H2 => wipe σ2 vs = wipe σ vs ∧ tt σ2 H2 fun b H3 =>
      if b = true then te σ2 H3 fun y H4 => ∃ acc, H4 D = some (.lst acc) ∧ acc.length < sizeLine ∧ Pv (i + 1) (upd H4 D (.lst (acc ++ [y]))) else Pv (i + 1) H3) (hd : ∀ H, Pv n H → Qd H) :
    ∃ W : Nat → Nat → Hp → Prop, (∃ m, W 0 m (upd H1 D (.lst []))) ∧ ∀ i m H, W i m H →
      ((Itc lo c n).stop i H ∧ Qd H) ∨ ((Itc lo c n).go i H ∧ ∃ Nx : Hp → Prop, (∀ H', Nx H' → ∃ m', m' < m ∧ W (i + 1) m' H') ∧ ∀ x H', (Itc lo c n).yld i H x H' → g x (wipe σ vs) H' fun σ2 H2 => wipe σ2 vs = wipe σ vs ∧ tt σ2 H2 fun b H3 =>
        if b = true then te σ2 H3 fun y H4 => ∃ acc, H4 D = some (.lst acc) ∧ acc.length < sizeLine ∧ Nx (upd H4 D (.lst (acc ++ [y]))) else Nx H3) := by
  refine ⟨fun i m H => m = n - i ∧ i ≤ n ∧ Pv i H, ⟨_, rfl, Nat.zero_le _, h0⟩, ?_⟩
  rintro i m H ⟨rfl, hi, pw⟩
  by_cases hlt : i < n
  · refine .inr ⟨hlt, Pv (i + 1), fun H' p' => ⟨_, by omega, rfl, hlt, p'⟩, fun x H' y => ?_⟩
    obtain ⟨e, y⟩ := y
    subst e y
    exact hs i _ hlt pw
  · have e : i = n := by omega
    subst e
    exact .inl ⟨Nat.le_refl _, hd H pw⟩
theorem small_up {a b c : Int} (ha : -(2 ^ 61) ≤ a) (ha' : a < 2 ^ 61) (hb : -(2 ^ 61) ≤ b) (hb' : b < 2 ^ 61) (hc : 0 < c) (hc' : c < 1073741824) : Builtin.Range.small a b c = true := by
  have h1 : a < b → 0 ≤ (b - a - 1) / c ∧ (b - a - 1) / c ≤ b - a - 1 := fun h => ⟨Int.ediv_nonneg (by omega) (by omega), Int.ediv_le_self _ (by omega)⟩
  unfold Builtin.Range.small Builtin.Range.rangeSize
  simp only [Builtin.Range.rangeFitsLong, Bool.and_eq_true, Bool.or_eq_true, decide_eq_true_eq, beq_iff_eq, gt_iff_lt, if_pos hc]
  by_cases h : a < b
  · have := h1 h
    simp only [if_pos h]
    omega
  · simp only [if_neg h]
    omega
/-- t[i:j] -/
theorem slice_S (a : List Nat) (i j : Nat) : Txt.slice (SX.S a) (some (i : Int)) (some (j : Int)) = SX.S ((a.drop i).take (j - i)) := by
  rw [← C8.cutS_slice]
  apply TL.ext_tl
  show (a.drop (HT.sIx (SX.S a).length 0 (some (i : Int)))).take (HT.sIx (SX.S a).length (SX.S a).length (some (j : Int)) - HT.sIx (SX.S a).length 0 (some (i : Int))) = (a.drop i).take (j - i)
  rw [HT.sIx_nat, HT.sIx_nat, SX.S_len]
  by_cases hi : i ≤ a.length
  · rw [Nat.min_eq_left hi]
    by_cases hj : j ≤ a.length
    · rw [Nat.min_eq_left hj]
    · rw [Nat.min_eq_right (by omega), List.take_of_length_le (by rw [List.length_drop]; omega), List.take_of_length_le (by rw [List.length_drop]; omega)]
  · rw [List.drop_eq_nil_of_le (show a.length ≤ min i a.length by omega), List.drop_eq_nil_of_le (show a.length ≤ i by omega), List.take_nil, List.take_nil]
end Fw

namespace Fw
open PySem PySem.Spec PyProof.Rows L2
/-! ### defs called where no repr is under way -/
/-- FnOk, where the caller knows that no repr is under way -/
structure FnG (P : Program) (w : World) (K : PySem.W.Frag) (mg : Str → Option Value) (base : Heap) (CX : CXT) (k : Nat) (f : Addr) (fd : FuncData) (ps : List Str) (sp : Sp) : Prop where
  len : ∀ vs H Q E, sp vs H Q E → vs.length = ps.length
  run : ∀ (A : Around) (outer : List Env) (s : Shared) (H : Hp) (args : Args) (us : List Value) (vs : List V) (Q : VK) (E : XK), A.guards = some [] → Room k A → Env0 P w K mg base A outer s H →
    BindsTo s fd args (ps.zip us) → Vals vs us → sp vs H Q E → codeAny (model P w) A (.call (.ref f) args) (CR CX outer P w H s Q E) s
section
variable {P : Program} {w : World} {K : PySem.W.Frag} {mg : Str → Option Value} {base : Heap} {CX : CXT} {k : Nat} {f : Addr} {fd : FuncData} {ps : List Str} {sp : Sp}
theorem FnG.of (F : FnOk P w K mg base CX k f fd ps sp) : FnG P w K mg base CX k f fd ps sp := ⟨F.len, fun A outer s H args us vs Q E _ => F.run A outer s H args us vs Q E⟩
theorem FnG.mono {j : Nat} (F : FnG P w K mg base CX j f fd ps sp) (h : j ≤ k) : FnG P w K mg base CX k f fd ps sp :=
  ⟨F.len, fun A outer s H args us vs Q E g hr => F.run A outer s H args us vs Q E g (hr.mono h)⟩
/-- the rule for a def's body -/
theorem fnG {x qual : Str} {params : Arguments} {body : List Stmt} {scope : Scope} {dvs : List V} {kws : List (Str × V)} {N : List Str} (F : FunD K x qual params body scope dvs kws f fd) (S : FnScope N ps scope)
    (len : ∀ vs H Q E, sp vs H Q E → vs.length = ps.length)
    (hb : ∀ (cdv : Value) (A : Around) (outer : List Env) (s : Shared) (H : Hp) (vs : List V) (Q : VK) (E : XK), A.guards = some [] → Room k (A.deeper (envOfC qual scope s.heap.objs.size f cdv)) → sp vs H Q E →
      ∃ t, PSs (cxOf CX P w K mg base N qual scope f cdv A outer s H E) body t ∧ t { nx := fun _ H' => Q .non H', rt := Q } (start N vs) H) : FnG P w K mg base CX (k + 1) f fd ps sp := by
  obtain ⟨oc, od, dV, kV, doc, pm, an, cdv, ct, osl, rfl, lk, hcd, _, _⟩ := F.ex
  refine ⟨len, ?_⟩
  intro A outer s H args us vs Q E hg hr e0 bt rv hsp
  have stay : ∀ b o, base.get? b = some o → s.heap.get? b = some o := fun b o e => (e0.bs b o e).1
  have KX : K.In s.heap := e0.mod.kin.keeps stay
  have lim : s.heap.NoLimit := e0.mod.nolimit.keeps stay
  refine codeAny_call_function hr.depth (KX _ _ lk) rfl S.co S.gen rfl (PySem.W.codeRec_of KX hcd) (bt _ _ _ _ ?_)
  refine wpAny_newFunctionEnv_cells S.kind (fun y hy => ?_) fun env he s1 ic => ?_
  · rcases S.par y.1 (List.of_mem_zip hy).1 with q | q
    · exact Or.inl q
    · exact Or.inr ⟨q, PySem.W.cellsFrom_some _ _ _ (Or.inl q)⟩
  subst he
  refine ⟨lim.keeps ic.toInCall.keep, codeAny_func ?_⟩
  obtain ⟨t, ht, hq⟩ := hb cdv A outer s H vs Q E hg (hr.deeper _) hsp
  have J := inv_start (CX := CX) (N := N) (qual := qual) (f := f) (cd := cdv) (E := E) S hr.hd e0 (len _ _ _ _ hsp) rv ic
  refine wpAny_mono (ht.run [] s1 (start N vs) H _ J hq) (fun fl s' z => ?_) fun _ _ z => z
  cases fl with
  | ret u =>
    obtain ⟨v, _, H', J', r', q'⟩ := z
    exact ⟨v, H', J'.os, J'.bare, J'.base, J'.hok, r', q'⟩
  | next =>
    obtain ⟨_, H', J', q'⟩ := z
    exact ⟨.non, H', J'.os, J'.bare, J'.base, J'.hok, rfl, q'⟩
  | brk =>
    obtain ⟨_, _, _, q'⟩ := z
    exact q'.elim
  | cont =>
    obtain ⟨_, _, _, q'⟩ := z
    exact q'.elim
end
/-- such a def by its name -/
structure Dg (P : Program) (w : World) (K : PySem.W.Frag) (mg : Str → Option Value) (base : Heap) (CX : CXT) (k : Nat) (x : Str) (ps : List Str) (dvs : List V) (sp : Sp) : Prop where
  ex : ∃ (f : Addr) (fd : FuncData) (ds : List Value), FnG P w K mg base CX k f fd ps sp ∧ mg x = some (.ref f) ∧ PySem.W.keepIn K (.ref f) = true ∧ Binds K fd ps ds ∧ Vals dvs ds
section
variable {X : Cx} {k : Nat} {x : Str} {ps : List Str} {dvs : List V} {sp : Sp} {p pos : Pos} {e : Expr} {es : List Expr} {t : TA}
theorem run_g {CX : CXT} {E : XK} {f : Addr} {fd : FuncData} {ds : List Value} {pins : List (Addr × Obj)} {σ : L2.St} {H : Hp} {s : Shared} {Q : VK} {us : List Value} {vs : List V} (F : FnG X.prog X.w X.K X.mg X.base CX k f fd ps sp) (hg : X.A.guards = some []) (hr : Room k X.A)
    (hb : Binds X.K fd ps ds) (hd : Vals dvs ds) (hx : Passes CX X E) (I : Inv X pins σ H s) (r : Vals vs us) (h : sp (vs ++ dvs) H Q E) : wpAny (model X.prog X.w) X.A (call (.ref f) us) (EP X pins σ Q) X.xe s := by
  have rr := r.append hd
  have hl : (us ++ ds).length = ps.length := rr.length.symm.trans (F.len _ _ _ _ h)
  refine wpAny_call (codeAny_mono (F.run X.A X.stack s H ⟨us, []⟩ (us ++ ds) (vs ++ dvs) Q E hg hr I.env0 (hb s us I.kIn hl) rr h) fun r s' z => ?_)
  rcases r with e | (_ | _ | _ | _)
  · exact hx pins σ H s e s' I z
  all_goals first | exact I.after z | exact False.elim z
theorem pe_dg (D : Dg X.prog X.w X.K X.mg X.base CX0 k x ps dvs sp) (gd : X.A.guards = some []) (hr : Room k X.A) (hg : Gl X x) (ha : PA X (e :: es) t)
    (hdb : (x == ("__debug__" : Str)) = false := by decide) (he : starEach (e :: es) X.env = (false, eval e X.env) :: starEach es X.env := by rfl)
    (hpl : (backTo pos (starEach es X.env)).any (·.1) = false := by rfl) : PE X (.Call (.Name x p) (e :: es) [] pos) (tCall sp dvs E0 t) := by
  obtain ⟨f, fd, ds, F, hm, hk, hb, hd⟩ := D.ex
  refine ⟨fun pins s σ H Q I h => wpAny_Call_Name_kw (ld_glob I hg hm ?_ hdb)⟩
  refine PySem.W.callWith_K (h₀ := X.base) I.ok.mod.kin hk (thn (ha.run pos pins s σ H _ I h) fun us s1 z => ?_) he hpl
  obtain ⟨vs, H1, I1, r, q⟩ := z
  exact ⟨I1.kIn, run_g F gd hr hb hd pass0 I1 r q⟩
end
/-- the script as it is tracked: what K does not hold -/
def scriptH (K : PySem.W.Frag) (a : Addr) (o : Obj) (ns : List Int) : Hp := fun b => if b = a ∧ K.lookup a = none then some (.frz o (.lst (ns.map V.int))) else none
theorem law_g {P : Program} {w : World} {K : PySem.W.Frag} {mg mb : Str → Option Value} {k : Nat} {fa a : Addr} {fd : FuncData} {x : Str} {sp : Sp} {s1 : Shared} {vs : List Value} {ns : List Int}
    (KX : K.In s1.heap) (hns : s1.heap.Ns mainGlobals mg) (hb : s1.heap.Ns builtinsNs mb) (hbb : ∀ x : Str, x ≠ "__name__" → mb x = bootBuiltins x) (hlim : s1.heap.NoLimit) (hg : s1.gens = #[])
    (ha : s1.heap.get? a = some { cls := .type "list", data := .seq vs.toArray }) (hi : IntsAre vs ns) (hl : ns.length ≤ sizeLine) (hr : Room k callerA)
    (F : ∀ base : Heap, K.In base → base.Ns mainGlobals mg → FnG P w K mg base CX0 k fa fd [x] sp) (hbind : ∀ (s : Shared) (u : Value), BindsTo s fd ⟨[u], []⟩ [(x, u)])
    (hsp : ∀ H : Hp, Only H → SqL K H a (ns.map V.int) → sp [.ref a] H (fun v _ => v = .bl true) fun _ _ _ => False) :
    codeAny (model P w) callerA (.call (.ref fa) ⟨[.ref a], []⟩) (fun r s' => r = .ok (.ret (.bool true)) ∧ OldK s1.heap s'.heap ∧ s'.os = s1.os ∧ AllBare s'.gens) s1 := by
  have rv := vals_ints hi
  generalize ho : ({ cls := .type "list", data := .seq vs.toArray } : Obj) = o at ha
  generalize hH : scriptH K a o ns = H
  have only : ∀ b, H b = none ∨ (b = a ∧ K.lookup a = none ∧ H b = some (.frz o (.lst (ns.map V.int)))) := fun b => by
    rw [← hH]
    unfold scriptH
    by_cases c : b = a ∧ K.lookup a = none
    · rw [if_pos c]; exact Or.inr ⟨c.1, c.2, rfl⟩
    · rw [if_neg c]; exact Or.inl rfl
  have hO : Only H := fun b => by
    rcases only b with z | ⟨_, _, z⟩
    · exact Or.inl z
    · exact Or.inr ⟨_, _, z⟩
  have hS : SqL K H a (ns.map V.int) := by
    cases q : K.lookup a with
    | none => exact Or.inl (Or.inr ⟨o, by rw [← hH]; unfold scriptH; rw [if_pos ⟨rfl, q⟩]⟩)
    | some ob =>
      have e := KX a ob q
      rw [ha] at e
      cases e
      subst ho
      exact Or.inr ⟨_, vs.toArray, _, q, rfl, rfl, rfl, by rw [List.size_toArray, hi.length]; exact hl, by simpa using rv⟩
  have hok : HOk P w H s1.heap := fun b u e => by
    rcases only b with z | ⟨rfl, _, z⟩
    · rw [z] at e; cases e
    · rw [z] at e
      cases e
      exact ⟨ha, by rw [List.length_map]; exact hl, vs, _, rv, by rw [ha, ← ho]⟩
  have up : ∀ {b : Addr} {u : Obj}, s1.heap.get? b = some u → H b = none → (hidT s1.heap H).get? b = some u := fun e n => hidT_get e n
  have dictFree : ∀ {b : Addr} {u : Obj} {es : Array DictEntry} {ep : Nat}, s1.heap.get? b = some u → u.data = .dict es ep → H b = none := fun {b u es ep} e d => by
    rcases only b with z | ⟨rfl, _, _⟩
    · exact z
    · rw [ha] at e
      cases e
      rw [← ho] at d
      exact absurd d (by intro z; cases z)
  have ns1 : ∀ {b : Addr} {m : Str → Option Value}, s1.heap.Ns b m → (hidT s1.heap H).Ns b m := fun {b m} z => by
    obtain ⟨u, es, ep, e, d, r⟩ := z
    exact ⟨u, es, ep, up e (dictFree e d), d, r⟩
  have KB : K.In (hidT s1.heap H) := fun b u e => up (KX b u e) (by
    rcases only b with z | ⟨rfl, q, _⟩
    · exact z
    · rw [q] at e; cases e)
  obtain ⟨mc, l1, l2⟩ := hlim
  have e0 : Env0 P w K mg (hidT s1.heap H) callerA [] s1 H :=
    ⟨rfl, ⟨KB, ns1 hns, ⟨mb, ns1 hb, hbb⟩, ⟨mc, ns1 l1, l2⟩⟩, fun b u e => of_hidT e, Nat.le_of_eq (hidT_size _ _), trivial, fun b hm => absurd (show b ∈ ([] : List Addr) from hm) (by simp), hok, .of_eq hg⟩
  refine codeAny_mono ((F _ KB (ns1 hns)).run callerA [] s1 H ⟨[.ref a], []⟩ [.ref a] [.ref a] _ _ rfl hr e0 (hbind s1 (.ref a)) (.cons rfl .nil) (hsp H hO hS)) fun r s' z => ?_
  rcases r with e | (_ | _ | _ | u)
  · exact False.elim z
  all_goals first | exact False.elim z | skip
  obtain ⟨v, H', os, bare, un, hok', r', q⟩ := z
  have q' : v = .bl true := q
  subst q'
  obtain rfl : _ = Value.bool true := r'
  refine ⟨rfl, OldK.of_keep fun b ob e => ?_, os, bare⟩
  rcases only b with z | ⟨rfl, _, z⟩
  · exact un.keep b ob e z (fun hm => absurd (show b ∈ ([] : List Addr) from hm) (by simp)) (by simp)
  · have z2 := hok' b _ (un.frzs b o _ z)
    rw [ha] at e
    cases e
    exact z2.1
theorem walk_g {l : PySem.W.OpenLaw} {n k : Nat} {q : Program} {loose : List Str} {XP : (Str → Option Value) → Heap → Prop} {YP : World → Heap → Prop} {d : DefRec} {x : Str}
    (hn : l.most = some n) (hn2 : n ≤ sizeLine) (hdf : d.params.defaults = []) (hr : Room k callerA)
    (F : ∀ (w : World) (mg : Str → Option Value) (fa : Addr) (h : Heap), YP w h → h.Ns mainGlobals mg → mg d.name = some (.ref fa) →
      ∃ (K : PySem.W.Frag) (fd : FuncData) (sp : Sp), K.In h ∧ (∀ (s : Shared) (u : Value), BindsTo s fd ⟨[u], []⟩ [(x, u)]) ∧
        (∀ (H : Hp) (a : Addr) (ns : List Int), ns.length ≤ n → Only H → SqL K H a (ns.map V.int) → sp [.ref a] H (fun v _ => v = .bl true) fun _ _ _ => False) ∧
        ∀ base : Heap, K.In base → base.Ns mainGlobals mg → FnG l.prog w K mg base CX0 k fa fd [x] sp) :
    PySem.W.WalkO q loose XP YP l.row.toRowW d [] (fun f vs => PySem.call f vs) := by
  refine Att.attach_call hn hdf ?_
  intro w s0 s1 mg mb fa o pm cd doc a vs ns G Y ho hd hcd hmg hobj hints hlen hg
  obtain ⟨K, fd, sp, KX, hb, hsp, hF⟩ := F w mg fa _ Y G.T.g hmg
  exact law_g KX G.T.g G.T.b G.T.builtins G.T.nolimit hg hobj hints (Nat.le_trans hlen hn2) hr hF hb fun H hO hS => hsp H a ns hlen hO hS
/-! ### repr of data -/
theorem call_reprD {X : Cx} (hg : X.A.guards = some []) (hu : X.A.units + 64 < cLine) : CallR X (.builtin "repr")
    (fun xs H Q => ∃ (v : V) (d : PyData), xs = [v] ∧ Dp X.K H v d ∧ d.showable = true ∧ d.hasDict = false ∧ d.depth ≤ 60 ∧ d.shown.length ≤ sizeLine ∧ Q (.str d.shown) H) := by
  intro pins s σ H xs us Q I r h
  obtain ⟨v, d, rfl, hd, hs, hn, hdp, hz, q⟩ := h
  obtain ⟨u, rfl, ru⟩ := vals1 r
  obtain ⟨as, rd⟩ := Dp.reads I d v u hd ru
  cases hd with
  | non =>
    cases ru
    exact PySem.P.repr_of_none ⟨.str _, H, I.tok _, ⟨_, rfl⟩, q⟩
  | bl b =>
    cases ru
    exact PySem.P.repr_of_bool ⟨.str _, H, I.tok _, ⟨_, rfl⟩, q⟩
  | int i =>
    obtain ⟨t, rfl⟩ := ru
    exact PySem.P.repr_of_int (of_decide_eq_true hs) ⟨.str _, H, I.tok _, ⟨_, rfl⟩, q⟩
  | str x =>
    obtain ⟨t, rfl⟩ := ru
    exact PySem.P.repr_of_str ⟨.str _, H, I.tok _, ⟨_, rfl⟩, q⟩ hz
  | lst h1 h2 =>
    cases ru
    exact repr_of_reads' rd hs (fun z => by rw [hn] at z; cases z) hg (by omega) (fun _ _ z => z) (fun h' u tk k => ⟨.str _, H, I.kept (t' := tk) k, ⟨_, rfl⟩, q⟩) hz
  | tup h1 h2 =>
    cases ru
    exact repr_of_reads' rd hs (fun z => by rw [hn] at z; cases z) hg (by omega) (fun _ _ z => z) (fun h' u tk k => ⟨.str _, H, I.kept (t' := tk) k, ⟨_, rfl⟩, q⟩) hz
end Fw

namespace Fw
open PySem PySem.Spec PyProof.Rows L2
/-! ### an exception that was caught and is kept -/
/-- at a: an exception of the class cls, its dict at d -/
def ExK (a : Addr) (cls : Value) (d : Option Addr) : HO := .ext fun h => ∃ (oe : Obj) (vs : Array Value), h.get? a = some oe ∧ Zc cls d oe ∧ oe.data = .fields vs
theorem exK_ok {P : Program} {w : World} {H : Hp} {h : Heap} {a : Addr} {cls : Value} {d : Option Addr} {oe : Obj} {vs : Array Value} (e : h.get? a = some oe) (z : Zc cls d oe) (q : oe.data = .fields vs) : ObjOk P w H h a (ExK a cls d) :=
  ⟨⟨oe, vs, e, z, q⟩, ⟨oe, e⟩, fun _ _ y k => by
    obtain ⟨o, v, y1, y2⟩ := y
    exact ⟨o, v, k o y1, y2⟩⟩
theorem exK_at {P : Program} {w : World} {H : Hp} {h : Heap} {a : Addr} {cls : Value} {d : Option Addr} (hok : HOk P w H h) (e : H a = some (ExK a cls d)) : ∃ (oe : Obj) (vs : Array Value), h.get? a = some oe ∧ Zc cls d oe ∧ oe.data = .fields vs := by
  have x : ObjOk P w H h a (.ext fun h => ∃ (oe : Obj) (vs : Array Value), h.get? a = some oe ∧ Zc cls d oe ∧ oe.data = .fields vs) := hok a _ e
  exact x.1
section
variable {X : Cx} {pins : List (Addr × Obj)} {σ : L2.St} {H : Hp} {s : Shared}
/-- an object that came since the entry and is not tracked is tracked from now on -/
theorem track {a : Addr} {oe : Obj} {o : HO} (I : Inv X pins σ H s) (ha : s.heap.get? a = some oe) (hn : H a = none) (h0 : X.s_0.heap.get? a = none) (nL : a ≠ X.env.locals) (nC : ∀ v, oe.data ≠ .cell v) (nP : ∀ p ∈ X.pn ++ pins, p.1 ≠ a)
    (ok : ObjOk X.prog X.w (upd H a o) s.heap a o) : Inv X pins σ (upd H a o) s := by
  have old : ∀ {b : Addr} {ob : Obj}, X.s_0.heap.get? b = some ob → b ≠ a := fun {b ob} e z => by
    rw [z, h0] at e; cases e
  have oldH : ∀ {b : Addr} {u : HO}, H b = some u → b ≠ a := fun {b u} e => ne_of_none e hn
  refine ⟨I.ok, I.os, I.bare, ⟨I.base.keep, I.base.slot, fun b ob e n x => ?_, I.base.there, fun b xs e => ?_, fun b ob u e => ?_, fun b ps e => ?_⟩, I.loc, I.cell, ?_, fun x c e => ?_, fun p hp => ?_, fun b u e => ?_, I.len⟩
  · rw [upd_ne (old e)]; exact I.base.free b ob e n x
  · have q := I.base.tups b xs e
    rw [upd_ne (oldH q)]; exact q
  · have q := I.base.frzs b ob u e
    rw [upd_ne (oldH q)]; exact q
  · obtain ⟨more, q⟩ := I.base.tbls b ps e
    exact ⟨more, by rw [upd_ne (oldH q)]; exact q⟩
  · rw [upd_ne (Ne.symm nL)]; exact I.free
  · have : c ≠ a := fun z => by
      obtain ⟨v, q⟩ := I.cell x c e
      obtain ⟨oc, q1, q2⟩ := q
      rw [z, ha] at q1
      cases q1
      exact nC _ q2
    rw [upd_ne this]; exact I.freeC x c e
  · obtain ⟨p1, p2, p3⟩ := I.pin p hp
    exact ⟨p1, by rw [upd_ne (nP p hp)]; exact p2, p3⟩
  · by_cases hb : b = a
    · subst hb
      rw [upd_same] at e
      cases e
      exact ok
    · rw [upd_ne hb] at e
      exact (I.hok b u e).stay (fun _ _ _ q => q) (fun c q => by rw [upd_ne (oldH q)]; exact q) fun c xs q => by rw [upd_ne (oldH q)]; exact q
end
/-- what «except x as n» wishes of an exception of the body, where it is kept behind the suite -/
def wKeep (K : PySem.W.Frag) (c : Value) (i : Nat) (ts : Addr → Value → Option Addr → TS) (Wout : WX) (D : Ends) : WX := fun cls d σ H =>
  ∃ b, PySem.W.exmOne K cls c = some b ∧ (b = true → ∀ a, H a = none → ts a cls d { nx := fun σ' H' => D.nx (σ'.set i none) (upd H' a (ExK a cls d)), rt := D.rt, bk := fun σ' H' => D.bk (σ'.set i none) H', ct := fun σ' H' => D.ct (σ'.set i none) H' } (σ.set i (some (.ref a))) H) ∧
    (b = false → Wout cls d σ H)
section
variable {X : Cx} {x n : Str} {c : Value} {i : Nat} {body suite : List Stmt} {b₀ : Stmt} {np pos pos' : Pos} {tb : WX → TS} {ts : Addr → Value → Option Addr → TS} {Wout : WX}
/-- try: body, except x as n: suite; the exception stands, tracked, behind it -/
theorem ps_try_keep (hs : X.stack = X.env :: X.outer) (hf : X.env.frame = some X.env.locals) (hex : X.ex = []) (hN : X.N.Nodup) (hi : X.N[i]? = some n) (hln : X.env.kindOf n = some .local) (hc : Names X x c) (tk : Takes X Wout)
    (hb : ∀ (W : WX) (pn : List (Addr × Obj)) (xe : Value → Shared → Prop), Takes (X.tr pn xe) W → PassesOwn (model X.prog X.w) X.A X.env xe → PSs (X.tr pn xe) body (tb W))
    (hsu : ∀ (a : Addr) (oe : Obj) (cls : Value) (d : Option Addr) (pn : List (Addr × Obj)), Zc cls d oe → (∃ vs, oe.data = .fields vs) → PSs (X.suite a ((a, oe) :: pn)) (b₀ :: suite) (ts a cls d)) :
    PS X (.Try body [.ExceptHandler (some (.Name x np)) (some n) (b₀ :: suite) pos'] [] [] pos) (fun D σ H => tb (wKeep X.K c i ts Wout D) D σ H) := by
  refine ⟨?_⟩
  intro pins s σ H D I h
  have ok := I.ok
  have hfr : X.A.frames = some (X.env :: X.outer) := by rw [← hs]; exact ok.frames
  refine wpAny_Try_except ?_
  -- what is done with an exception of the body
  generalize hxe : (fun (e : Value) (s1 : Shared) => wpAny (model X.prog X.w) X.A (noteFrame e X.env) (fun _ s2 => wpAny (model X.prog X.w) X.A (setFlight e none) (fun _ s3 =>
    wpAny (model X.prog X.w) X.A (handleBy e X.env [.ExceptHandler (some (.Name x np)) (some n) (b₀ :: suite) pos']) (SP X pins D) X.xe s3) X.xe s2) X.xe s1) = xe
  have look : PassesOwn (model X.prog X.w) X.A X.env xe := by rw [← hxe]; exact PassesOwn.looking
  have caught : Takes (X.tr (X.pn ++ pins) xe) (wKeep X.K c i ts Wout D) := by
    intro u s' xx
    obtain ⟨a, B, sI, pins', σ', H', cls, d, rfl, J', nb, up, sky, na, os, ag, b, hb1, hyes, hno⟩ := xx
    have J : Inv X pins σ' H' sI := J'.ofTry ok
    have sky2 : Sky B (X.env :: X.outer) a (Zc cls d) X.env.locals s'.heap := hs ▸ sky
    show xe (.ref a) s'
    rw [← hxe]
    refine Sky.land Zc.steady hfr hf sky2 fun h3 fl3 up3 => ?_
    have J3 : Inv X pins σ' H' { s' with heap := h3 } := J.landed nb fl3.1 (up.trans up3) os ag
    obtain ⟨oe3, vs3, he3, hz3, hd3⟩ := fl3.there
    have nfr : a ∉ frs (X.env :: X.outer) := fun hm => by
      obtain ⟨_, o2, e2, hnf⟩ := fl3.2.2.1.mem hm
      rw [he3] at e2; cases e2
      exact hnf _ hd3
    have nL : a ≠ X.env.locals := fun z => nfr (List.mem_filterMap.mpr ⟨X.env, List.mem_cons_self, by rw [hf, z]⟩)
    have nF : a ∉ X.fs := fun hm => by
      obtain ⟨e, he, q⟩ := List.mem_filterMap.mp hm
      exact nfr (List.mem_filterMap.mpr ⟨e, List.mem_cons_of_mem _ he, q⟩)
    have noI : sI.heap.get? a = none := by
      cases q : sI.heap.get? a with
      | none => rfl
      | some o2 =>
        have z := nb a o2 q (by rw [hs]; exact nfr)
        rw [fl3.2.1] at z; cases z
    have no0 : X.s_0.heap.get? a = none := by
      cases q : X.s_0.heap.get? a with
      | none => rfl
      | some o2 =>
        obtain ⟨o3, z⟩ := J.base.there a o2 q (by rw [hex]; exact List.not_mem_nil)
        rw [noI] at z; cases z
    have noP : ∀ p ∈ X.pn ++ pins, p.1 ≠ a := fun p hp z => by
      have q := (J.pin p hp).1
      rw [z, noI] at q; cases q
    have S3 := J3.suite he3 hd3 na nL nF
    refine wpAny_handleBy_cons (codeAny_handlers_test ?_) (by intro q; cases q)
    have LT : PySem.W.Looks (model X.prog X.w) h3 (typeOf (.ref a)) cls := fun A Q E s k q => wpAny_typeOf_ref (k _ _ he3) (by rw [hz3.1]; exact q)
    have LM := PySem.W.exm_one (M := model X.prog X.w) J3.kIn LT hb1
    have test : ∀ {Q : Value → Shared → Prop} {E : Value → Shared → Prop}, Q c { s' with heap := h3 } → wpAny (model X.prog X.w) (X.A.mark (some (.ref a))) (eval (.Name x np) X.env) Q E { s' with heap := h3 } := by
      intro Q E q
      obtain ⟨hg, hdbg, hm | ⟨hm, hv, hnn⟩⟩ := hc
      · exact ld_glob (X := X.suite a ((a, oe3) :: (X.pn ++ pins))) S3 hg hm q hdbg
      · exact ld_blt (X := X.suite a ((a, oe3) :: (X.pn ++ pins))) S3 hg hm hv q hnn hdbg
    refine test (LM.here ?_)
    cases b with
    | false =>
      show wpAny _ X.A (handleBy (.ref a) X.env []) _ _ _
      refine wpAny_handleBy_nil ?_
      obtain ⟨k1, k2, k3, oe, vs, T, oT, ts', he, hz, hd, h1, hr⟩ := id fl3
      unfold PySem.passOn
      refine wpAny_bind (wpAny_field he hd h1 ?_)
      rw [if_neg (show ¬ ((Value.ref T == Value.none) = true) from by simp)]
      have fin : wpAny (model X.prog X.w) X.A (setFlight (.ref a) X.env.frame) (fun _ s4 => wpAny (model X.prog X.w) X.A (throw (.ref a) : Sem Flow) (SP X pins D) X.xe s4) X.xe { s' with heap := h3 } := by
        rw [hf]
        refine HandSPX.setFlight_upZ fl3 fun h4 hh4 up4 => wpAny_throw (tk _ _ ?_)
        exact ⟨a, B, sI, pins, σ', H', cls, d, rfl, J, nb, (up.trans up3).trans up4, .inr (.inr (by rw [hs]; exact hh4)), na, os, ag, hno rfl⟩
      first
        | exact wpAny_bind (wpAny_pure (wpAny_bind fin))
        | exact wpAny_bind fin
    | true =>
      refine codeAny_handlers_suite_as ?_
      refine HandSPX.lands_againZ fl3 fun h4 fl4 up4 => ?_
      have J4 : Inv X pins σ' H' { s' with heap := h4 } := J.landed nb fl4.1 ((up.trans up3).trans up4) os ag
      obtain ⟨oe4, vs4, he4, hz4, hd4⟩ := fl4.there
      have S4 := J4.suite he4 hd4 na nL nF
      refine store_ok (X := X.suite a ((a, oe4) :: (X.pn ++ pins))) (v := .ref a) S4 hN hi (.inl hln) rfl (fun s5 S5 => ?_) (.inr hln)
      refine wpAny_mono ((hsu a oe4 cls d (X.pn ++ pins) hz4 ⟨_, hd4⟩).run [] s5 _ H' _ S5 (hyes rfl a na)) (fun f s6 hsp => ?_) (fun _ _ z => False.elim z)
      have behind : ∀ {σ6 : L2.St} {H6 : Hp} {Q : Shared → Prop}, Inv X pins σ6 H6 s6 → (∀ s7, Inv X pins (σ6.set i none) H6 s7 → Q s7) →
          wpAny (model X.prog X.w) X.A (do bindName X.env n .none; unbindBehindTheSuite X.env n pos') (fun _ s7 => Q s7) X.xe s6 := fun {σ6 H6 Q} S6 hq => gone_ok S6 hN hi hln hq
      cases f with
      | next =>
        obtain ⟨σ6, H6, S6, q6⟩ := hsp
        obtain ⟨g1, g2, _⟩ := S6.pin (a, oe4) (List.mem_append_left _ List.mem_cons_self)
        have T6 := track (o := ExK a cls d) (S6.unsuite ok) g1 g2 no0 nL (fun v z => by rw [hd4] at z; cases z) noP (exK_ok g1 hz4 hd4)
        exact behind T6 fun s7 J7 => ⟨_, _, J7, q6⟩
      | brk =>
        obtain ⟨σ6, H6, S6, q6⟩ := hsp
        exact behind (S6.unsuite ok) fun s7 J7 => ⟨_, _, J7, q6⟩
      | cont =>
        obtain ⟨σ6, H6, S6, q6⟩ := hsp
        exact behind (S6.unsuite ok) fun s7 J7 => ⟨_, _, J7, q6⟩
      | ret u =>
        obtain ⟨v6, σ6, H6, S6, r6, q6⟩ := hsp
        exact behind (S6.unsuite ok) fun s7 J7 => ⟨_, _, _, J7, r6, q6⟩
  refine wpAny_mono ((hb _ (X.pn ++ pins) xe caught look).run [] s σ H D (I.toTry _) h) (fun f s1 z => ?_) (fun e s1 he => he)
  cases f with
  | next =>
    obtain ⟨σ', H', J', q⟩ := z
    exact wpAny_execs_nil ⟨σ', H', J'.ofTry ok, q⟩
  | brk =>
    obtain ⟨σ', H', J', q⟩ := z
    exact ⟨σ', H', J'.ofTry ok, q⟩
  | cont =>
    obtain ⟨σ', H', J', q⟩ := z
    exact ⟨σ', H', J'.ofTry ok, q⟩
  | ret u =>
    obtain ⟨v, σ', H', J', r, q⟩ := z
    exact ⟨v, σ', H', J'.ofTry ok, r, q⟩
end
/-! ### isinstance, fields of a kept exception -/
/-- what the class of an exception says -/
structure ExcK (K : PySem.W.Frag) (D : Addr) : Prop where
  hc : (PySem.W.clsIn K D).isSome = true
  hg : PySem.W.findIn K (.ref D) "__getattribute__" = some (some (.builtin "BaseException.__getattribute__"))
  hk : PySem.W.findIn K (.ref D) "__getattr__" = some none
  hs : PySem.W.subIn K (.ref D) (.type "BaseException") = some true
  hd : PySem.W.hasDictIn K D = true
  ha : PySem.W.findIn K (.ref D) "__class__" = some (some (.builtin "object.__class__"))
  hn : PySem.W.specialIn K (.builtin "object.__class__") "__get__" = some (some (.builtin "getset_descriptor.__get__"))
  ht : PySem.W.takesIn K (.builtin "object.__class__") = some true
  hm : PySem.W.mroIn K D (.type "object") = some true
def excKB (K : PySem.W.Frag) (D : Addr) : Bool :=
  (PySem.W.clsIn K D).isSome && decide (PySem.W.findIn K (.ref D) "__getattribute__" = some (some (.builtin "BaseException.__getattribute__"))) && decide (PySem.W.findIn K (.ref D) "__getattr__" = some none) &&
    decide (PySem.W.subIn K (.ref D) (.type "BaseException") = some true) && PySem.W.hasDictIn K D && decide (PySem.W.findIn K (.ref D) "__class__" = some (some (.builtin "object.__class__"))) &&
    decide (PySem.W.specialIn K (.builtin "object.__class__") "__get__" = some (some (.builtin "getset_descriptor.__get__"))) && decide (PySem.W.takesIn K (.builtin "object.__class__") = some true) && decide (PySem.W.mroIn K D (.type "object") = some true)
theorem excKB_ok {K : PySem.W.Frag} {D : Addr} (h : excKB K D = true) : ExcK K D := by
  unfold excKB at h
  simp only [Bool.and_eq_true, decide_eq_true_eq] at h
  obtain ⟨⟨⟨⟨⟨⟨⟨⟨h1, h2⟩, h3⟩, h4⟩, h5⟩, h6⟩, h7⟩, h8⟩, h9⟩ := h
  exact ⟨h1, h2, h3, h4, h5, h6, h7, h8, h9⟩
/-- the exception at a, of the class at D, its dict (if it has one) with the fields fs -/
def Kept (H : Hp) (a D : Addr) (d : Option Addr) (fs : List (Str × V)) : Prop := H a = some (ExK a (.ref D) d) ∧ ((d = none ∧ fs = []) ∨ ∃ dd, d = some dd ∧ H dd = some (.xd fs))
theorem kept_inst {X : Cx} {pins : List (Addr × Obj)} {σ : L2.St} {H : Hp} {s : Shared} {a D : Addr} {d : Option Addr} {fs : List (Str × V)} (I : Inv X pins σ H s) (k : Kept H a D d fs) : ∃ oe od, PySem.W.InstAt s.heap a oe D od := by
  obtain ⟨oe, vs, e, z, q⟩ := exK_at I.hok k.1
  obtain ⟨oc, od0, odt, osl⟩ := oe
  obtain ⟨z1, z2⟩ := z
  dsimp only at z1 z2 q
  subst z1 z2 q
  rcases k.2 with ⟨rfl, _⟩ | ⟨dd, rfl, hd⟩
  · exact ⟨_, none, e, rfl, rfl, trivial⟩
  · have x : ObjOk X.prog X.w H s.heap dd (.xd fs) := I.hok dd _ hd
    obtain ⟨mA, hns, _⟩ := x
    obtain ⟨od, ho, _⟩ := lookIn_ns hns
    exact ⟨_, some od, e, rfl, rfl, ho⟩
section
variable {X : Cx}
theorem call_isK : CallR X (.builtin "isinstance") (fun xs H Q => ∃ (a D : Addr) (d : Option Addr) (fs : List (Str × V)) (c : V) (cv : Value) (b : Bool), xs = [.ref a, c] ∧ Kept H a D d fs ∧ ExcK X.K D ∧ ClsV c cv ∧ PySem.W.kitOne X.K (.ref D) cv = some b ∧ Q (.bl b) H) := by
  intro pins s σ H xs us Q I r h
  obtain ⟨a, D, d, fs, c, cv, b, rfl, k, C, hcv, e, q⟩ := h
  obtain ⟨u1, u2, rfl, r1, r2⟩ := vals2 r
  cases r1
  have e2 := hcv.eq r2
  subst e2
  obtain ⟨oe, od, J⟩ := kept_inst I k
  exact PySem.W.kia_one (PySem.W.kitx_exc C.hc C.hg C.hk C.hs C.ha C.hn C.ht C.hm) I.kIn J e (fun z => nomatch z) fun tk => ⟨.bl b, H, I.tok tk, rfl, q⟩
theorem call_isKT : CallR X (.builtin "isinstance") (fun xs H Q => ∃ (a D : Addr) (d : Option Addr) (fs : List (Str × V)) (tp : Addr) (cs : List V) (us : List Value) (b : Bool), xs = [.ref a, .ref tp] ∧ Kept H a D d fs ∧ ExcK X.K D ∧ H tp = some (.tup cs) ∧ Paired ClsV cs us ∧ PySem.W.kitAny X.K (.ref D) us = some b ∧ Q (.bl b) H) := by
  intro pins s σ H xs us Q I r h
  obtain ⟨a, D, d, fs, tp, cs, us, b, rfl, k, C, ht, hp, e, q⟩ := h
  obtain ⟨u1, u2, rfl, r1, r2⟩ := vals2 r
  cases r1
  cases r2
  obtain ⟨oe, od, J⟩ := kept_inst I k
  have x : ObjOk X.prog X.w H s.heap tp (.tup cs) := I.hok tp _ ht
  obtain ⟨_, its, rv, ob, he, hcl, n, hd⟩ := x
  have ei := ClsV.all hp rv
  subst ei
  obtain ⟨oc, odd, odt, osl⟩ := ob
  dsimp only at hcl hd
  subst hcl hd
  exact PySem.W.kia_tup (PySem.W.kitx_exc C.hc C.hg C.hk C.hs C.ha C.hn C.ht C.hm) I.kIn J he e (fun z => nomatch z) fun tk => ⟨.bl b, H, I.tok tk, rfl, q⟩
/-- e.f -/
def tKf (K : PySem.W.Frag) (f : Str) (te : TE) : TE := fun σ H Q => te σ H fun x H1 => ∃ (a D : Addr) (d : Option Addr) (fs : List (Str × V)) (v : V), x = .ref a ∧ Kept H1 a D d fs ∧ ExcK K D ∧ PySem.W.findIn K (.ref D) f = some none ∧ fs.lookup f = some v ∧ Q v H1
theorem pe_kf {e : Expr} {te : TE} {pos : Pos} {n : Str} (he : PE X e te) (hb : attributeBase e n X.env (eval e X.env) = eval e X.env := by rfl) : PE X (.Attribute e n pos) (tKf X.K n te) := by
  refine ⟨fun pins s σ H Q I h => ?_⟩
  refine attr_of hb (thn (he.run pins s σ H _ I h) fun u s1 hh => ?_)
  obtain ⟨x, H1, I1, rx, a, D, d, fs, v, rfl, k, C, hno, l, q⟩ := hh
  cases rx
  obtain ⟨oe, vs, e1, z, qd⟩ := exK_at I1.hok k.1
  rcases k.2 with ⟨rfl, rfl⟩ | ⟨dd, rfl, hd⟩
  · cases l
  · have hx : ObjOk X.prog X.w H1 s1.heap dd (.xd fs) := I1.hok dd _ hd
    obtain ⟨mA, hns, hr⟩ := hx
    obtain ⟨od, ho, hl⟩ := lookIn_ns hns
    obtain ⟨u, hu, ru⟩ := RelO.some_of (v := v) (o := mA n) (by rw [← l]; exact hr n)
    have J : PySem.W.InstAt s1.heap a oe D (some od) := ⟨e1, z.1, by unfold PySem.W.notCls; rw [qd] <;> rfl, by rw [z.2]; exact ho⟩
    exact HandSPX.exc_get I1.kIn J C.hg C.hk C.hs (PySem.W.findObj_own C.hd hno rfl (by rw [hl, hu])) (handed_of ru) ⟨v, H1, I1.tok _, ru, q⟩
end
end Fw

namespace Fw
open PySem PySem.Spec PyProof.Rows L2
open Builtin.ObjectAttr in
/-- a base class of Python's, straight over own exceptions -/
structure ExB (B newId initId : String) (bm : List Value) : Prop where
  F : ExcBaseFacts B newId initId bm
  ob : bm.contains (.type "object") = true
  pass : ∀ self : Value, refuseLoop self "__setattr__" bm = pure ()
theorem exB_of {B newId initId : String} {bm : List Value} (F : ExcBaseFacts B newId initId bm) (S : StoreFacts B bm "object.__setattr__" "object") : ExB B newId initId bm := ⟨F, S.hasOwner, S.passes⟩
/-- an own class straight over such a base -/
structure OexB (K : PySem.W.Frag) (C : Addr) (newId : String) (bm : List Value) : Prop where
  cls : ∃ nm q N bs sn sub ab col dd k0 k1 k2 k3 k5, K.lookup C = some (excClassObj nm q C N bs bm true sn sub ab col dd k0 k1 k2 k3 k5 newId)
  sa : PySem.W.findIn K (.ref C) "__setattr__" = some (some (.builtin "object.__setattr__"))
  exC : PySem.W.subIn K (.ref C) (.type "BaseException") = some true
  tyC : PySem.W.typeIn K (.ref C) = some (.type "type")
  kC : PySem.W.keepIn K (.ref C) = true
section
open Builtin Builtin.ObjectAttr
variable {prog : Program} {w : World} {A : Around} {R : Result → Shared → Prop} {hp : Heap} {g : Array GenState} {d : Drawn} {t : Nat} {os : OsState} {K : PySem.W.Frag} {name : Str} {tk : Tok} {v : Value} {x C : Addr} {fv : Array Value} {cd : ClassData}
/-- how a store to an exception of an own class goes, up to its own dict -/
theorem osa_any {od : Option Obj} {dx : Option Addr} (X : K.In hp) (I : PySem.W.InstAt hp x { cls := .ref C, dict := dx, data := .fields fv } C od) (hcd : PySem.W.clsIn K C = some cd)
    (m1 : ∀ self : Value, refuseLoop self "__setattr__" cd.mro = pure ()) (m2 : cd.mro.isEmpty = false) (m3 : cd.mro.contains (.type "object") = true) (ha : PySem.W.findIn K (.ref C) name = some none)
    (hq : wpAny (model prog w) A.in1 (storeInOwnDict (.ref x) (.ref C) (.str name tk) name v false) (fun fin s' => match fin with | .done f => R (.ok f) s' | .again c' => c'.quiet = true ∧ codeAny (model prog w) A c' R s') (fun e s' => R (.error e) s') ⟨hp, g, d, t, os⟩) :
    codeAny (model prog w) A (.call (.builtin "object.__setattr__") ⟨[.ref x, .str name tk, v], []⟩) R ⟨hp, g, d, t, os⟩ := by
  have SF := F.store_object
  have sub : PySem.W.Looks (model prog w) hp (isInstance (.ref x) (.type "object")) true := by
    refine I.type.andThen (PySem.W.looks_mroIn X ?_)
    unfold PySem.W.mroIn
    rw [hcd, Option.bind_some, if_neg (by rw [m2]; decide), m3]
  refine codeAny_call_builtin SF.slot.plain SF.entry ?_
  refine @PySem.W.check_slot (model prog w) _ _ ⟨hp, g, d, t, os⟩ "object.__setattr__" "object" "__setattr__" (.ref x) [.str name tk, v] [] _ SF.kind SF.split sub (SF.args (.ref x) (.str name tk) v) ?_
  have hmr : PySem.W.Looks (model prog w) hp (mroOf (.ref C)) cd.mro := (PySem.W.looks_clsIn X hcd).andThen .now
  have none_ : PySem.W.Looks (model prog w) hp (storeTaker? none) none := .now
  rw [PySem.W.osa_eq, refuse_eq]
  refine wpAny_bind (wpAny_bind (I.type.at (wpAny_bind (hmr.at ?_))))
  rw [m1]
  exact wpAny_pure (wpAny_bind (I.type.at (wpAny_bind ((PySem.W.looks_findIn X ha).at (wpAny_bind (none_.at hq))))))
theorem osa_first (X : K.In hp) (hx : hp.get? x = some { cls := .ref C, data := .fields fv }) (hcd : PySem.W.clsIn K C = some cd)
    (m1 : ∀ self : Value, refuseLoop self "__setattr__" cd.mro = pure ()) (m2 : cd.mro.isEmpty = false) (m3 : cd.mro.contains (.type "object") = true) (hh : cd.hasDict = true) (ha : PySem.W.findIn K (.ref C) name = some none)
    (hq : ∀ h' tk' dx, (∀ b o, b ≠ x → hp.get? b = some o → h'.get? b = some o) → hp.objs.size ≤ dx → dx ≠ x → h'.get? x = some { cls := .ref C, dict := some dx, data := .fields fv } →
      h'.Ns1 dx (fun y => if y = name then some v else none) → R (.ok (.ret .none)) ⟨h', g, d, tk', os⟩) :
    codeAny (model prog w) A (.call (.builtin "object.__setattr__") ⟨[.ref x, .str name tk, v], []⟩) R ⟨hp, g, d, t, os⟩ := by
  have I : PySem.W.InstAt hp x { cls := .ref C, data := .fields fv } C none := ⟨hx, rfl, rfl, trivial⟩
  have hxs : x ≠ hp.objs.size := Nat.ne_of_lt (Heap.lt_size hx)
  refine osa_any X I hcd m1 m2 m3 ha ?_
  have hcls : PySem.W.Looks (model prog w) hp (classData C) cd := PySem.W.looks_clsIn X hcd
  obtain ⟨nm, bs, mro, ns, qn, hd, sn, sb, ab, col, del⟩ := cd
  dsimp only at hh
  subst hh
  unfold storeInOwnDict ownDictForStores
  repeat (first | with_reducible refine HandSPX.store_in_new ?_ ?_ | with_reducible refine wpAny_loadPart_at hx ?_ | with_reducible refine hcls.at ?_ | wp_step)
  · exact ⟨_, #[], _, (Heap.get?_update_ne _ _ _ _ hxs.symm).trans (Heap.get?_push_at rfl rfl), rfl, fun e he => absurd he (by simp), fun _ => rfl⟩
  · intro h' tk' hn' hs
    have hx1 : (hp.push { cls := .type "dict", data := .dict #[] }).get? x = some { cls := .ref C, data := .fields fv } := Heap.get?_push_of_some _ hx
    refine hq h' tk' hp.objs.size (fun b o hb ho => ?_) (Nat.le_refl _) hxs.symm ?_ hn'
    · exact (hs.2 b (Nat.ne_of_lt (Heap.lt_size ho))).trans ((Heap.get?_update_ne _ _ _ _ hb).trans (Heap.get?_push_of_some _ ho))
    · exact (hs.2 x hxs).trans (Heap.get?_update_self _ hx1 rfl)
theorem osa_next {dx : Addr} {m0 : Str → Option Value} {nl : List Str} (X : K.In hp) (hx : hp.get? x = some { cls := .ref C, dict := some dx, data := .fields fv }) (hns : hp.Ns1 dx m0) (hw : Within m0 nl) (hz : nl.length ≤ 1000) (hcd : PySem.W.clsIn K C = some cd)
    (m1 : ∀ self : Value, refuseLoop self "__setattr__" cd.mro = pure ()) (m2 : cd.mro.isEmpty = false) (m3 : cd.mro.contains (.type "object") = true) (hh : cd.hasDict = true) (ha : PySem.W.findIn K (.ref C) name = some none)
    (hq : ∀ h' tk', (∀ b o, b ≠ dx → hp.get? b = some o → h'.get? b = some o) → h'.Ns1 dx (fun y => if y = name then some v else m0 y) → R (.ok (.ret .none)) ⟨h', g, d, tk', os⟩) :
    codeAny (model prog w) A (.call (.builtin "object.__setattr__") ⟨[.ref x, .str name tk, v], []⟩) R ⟨hp, g, d, t, os⟩ := by
  obtain ⟨oD, esD, epD, hoD, hdD, _⟩ := hns.count hw
  have I : PySem.W.InstAt hp x { cls := .ref C, dict := some dx, data := .fields fv } C (some oD) := ⟨hx, rfl, rfl, hoD⟩
  refine osa_any X I hcd m1 m2 m3 ha ?_
  have hcls : PySem.W.Looks (model prog w) hp (classData C) cd := PySem.W.looks_clsIn X hcd
  obtain ⟨nm, bs, mro, ns, qn, hd, sn, sb, ab, col, del⟩ := cd
  dsimp only at hh
  subst hh
  unfold storeInOwnDict ownDictForStores
  repeat (first | with_reducible refine PySem.OEX.store_in_old hns hw hz ?_ | with_reducible refine wpAny_loadPart_at hx ?_ | with_reducible refine hcls.at ?_ | wp_step)
  intro h' tk' hn' hs
  exact hq h' tk' (fun b o hb ho => (hs.2 b hb).trans ho) hn'
end
section
variable {X : Cx} {pins : List (Addr × Obj)} {σ : L2.St} {H : Hp} {s : Shared} {a C dx : Addr} {f : Str} {y : V} {u : Value} {fs : List (Str × V)} {E : Value → Shared → Prop} {A : Around} {B newId initId : String} {bm : List Value}
theorem mro_pass (T : ExB B newId initId bm) (C : Addr) (self : Value) : refuseLoop self "__setattr__" (.ref C :: bm) = pure () := by
  rw [refuseLoop_ref]; exact T.pass self
theorem mro_ob (T : ExB B newId initId bm) (C : Addr) : (Value.ref C :: bm).contains (.type "object") = true := by
  rw [List.contains_cons, T.ob, Bool.or_true]
/-- self.f = y, the first store -/
theorem put_first {Q : Unit → Shared → Prop} (T : ExB B newId initId bm) (O : OexB X.K C newId bm) (I : Inv X pins σ H s) (e : H a = some (exo a C none)) (hno : PySem.W.findIn X.K (.ref C) f = some none) (ry : RelV y u)
    (h : ∀ dx s', H dx = none → dx ≠ a → Inv X pins σ (upd (upd H dx (exd dx [(f, y)])) a (exo a C (some dx))) s' → Q () s') : wpAny (model X.prog X.w) A (setAttr (.ref a) f u) Q E s := by
  obtain ⟨nm, q, N, bs, sn, sub, ab, col, dd, k0, k1, k2, k3, k5, hC⟩ := O.cls
  have hcl : PySem.W.clsIn X.K C = some { name := nm, bases := bs, mro := .ref C :: bm, ns := N, qualname := q, hasDict := true, slotNames := sn, subclasses := sub, abstract := ab, collection := col, hasDel := false } := by
    unfold PySem.W.clsIn; rw [hC] <;> rfl
  obtain ⟨t1, ho⟩ := exo_at I.hok e
  obtain ⟨hp, g, dr, tk, os⟩ := s
  refine PySem.W.set_plain I.kIn (ox := { cls := .ref C, dict := none, data := .fields #[.ref t1, .none, .none, .none, .bool false, .none] }) (od := none) ⟨ho, rfl, rfl, trivial⟩ O.sa ?_
  refine osa_first I.kIn ho hcl (mro_pass T C) rfl (mro_ob T C) rfl hno ?_
  intro h' tk' dx k dn dne hx hn
  have hnd : H dx = none := I.hok.fresh dn
  have ndx : ∀ {b : Addr} {o : Obj}, hp.get? b = some o → b ≠ dx := fun {b o} q => Nat.ne_of_lt (Nat.lt_of_lt_of_le (Heap.lt_size q) dn)
  have na : ∀ {b : Addr}, H b = none → b ≠ a := fun {b} n z => by
    rw [z, e] at n; cases n
  have two : ∀ {b : Addr} {o : HO}, H b = some o → o ≠ exo a C none → upd (upd H dx (exd dx [(f, y)])) a (exo a C (some dx)) b = some o := fun {b o} q n => by
    have hb : b ≠ a := fun z => by
      rw [z, e] at q
      exact n (Option.some.inj q).symm
    rw [upd_ne hb, upd_ne (ne_of_none q hnd)]; exact q
  have U : Un X.fs [] H (upd (upd H dx (exd dx [(f, y)])) a (exo a C (some dx))) hp h' := by
    refine ⟨fun b o q n _ _ => k b o (na n) q, fun b o q n _ _ => ⟨o.slots, k b o (na n) q⟩, fun b o q n _ => ?_, fun b o q _ => ?_, fun b xs q => two q (Ne.symm exo_tup), fun b o v q => two q (Ne.symm exo_frz), fun b ps q => ⟨#[], ?_⟩⟩
    · rw [upd_ne (na n), upd_ne (ndx q)]; exact n
    · by_cases hb : b = a
      · exact ⟨_, by rw [hb]; exact hx⟩
      · exact ⟨o, k b o hb q⟩
    · have z := two q (Ne.symm exo_tbl)
      rw [z]; simp
  refine h dx _ hnd dne (I.un (t' := tk') U fun b o q => ?_)
  by_cases hb : b = a
  · subst hb
    rw [upd_same] at q; cases q
    exact exo_ok hx
  · rw [upd_ne hb] at q
    by_cases hd : b = dx
    · subst hd
      rw [upd_same] at q; cases q
      exact exd_ok hn (relO_put (fs := []) ry fun g => True.intro)
    · rw [upd_ne hd] at q
      refine (I.hok b o q).stay (fun c v hc z => k c v ?_ z) (fun c hc => two hc (Ne.symm exo_own)) fun c xs hc => two hc (Ne.symm exo_tup)
      rcases hc with hc | hc
      · rw [hc]; exact hb
      · exact at_ne e hc exo_own
/-- self.f = y, a further store -/
theorem put_next {Q : Unit → Shared → Prop} (T : ExB B newId initId bm) (O : OexB X.K C newId bm) (I : Inv X pins σ H s) (e : H a = some (exo a C (some dx))) (ed : H dx = some (exd dx fs)) (hl : fs.length ≤ 900) (hno : PySem.W.findIn X.K (.ref C) f = some none) (ry : RelV y u)
    (h : ∀ s', Inv X pins σ (upd H dx (exd dx ((f, y) :: fs))) s' → Q () s') : wpAny (model X.prog X.w) A (setAttr (.ref a) f u) Q E s := by
  obtain ⟨nm, q, N, bs, sn, sub, ab, col, dd, k0, k1, k2, k3, k5, hC⟩ := O.cls
  have hcl : PySem.W.clsIn X.K C = some { name := nm, bases := bs, mro := .ref C :: bm, ns := N, qualname := q, hasDict := true, slotNames := sn, subclasses := sub, abstract := ab, collection := col, hasDel := false } := by
    unfold PySem.W.clsIn; rw [hC] <;> rfl
  obtain ⟨t1, ho⟩ := exo_at I.hok e
  obtain ⟨mA, hns, rel⟩ := exd_at I.hok ed
  have hw := within_of rel
  obtain ⟨hp, g, dr, tk, os⟩ := s
  obtain ⟨oD, _, _, hoD, _, _⟩ := hns.count hw
  refine PySem.W.set_plain I.kIn (ox := { cls := .ref C, dict := some dx, data := .fields #[.ref t1, .none, .none, .none, .bool false, .none] }) (od := some oD) ⟨ho, rfl, rfl, hoD⟩ O.sa ?_
  refine osa_next I.kIn ho hns hw (by rw [List.length_map]; omega) hcl (mro_pass T C) rfl (mro_ob T C) rfl hno ?_
  intro h' tk' k hn
  have hd : ∃ o, h'.get? dx = some o := by
    obtain ⟨o, _, _, e', _⟩ := hn
    exact ⟨o, e'⟩
  exact h _ (I.write (t' := tk') (x := dx) (e := dx) (o := exd dx ((f, y) :: fs)) (by rw [ed]; exact True.intro) (.inl rfl) k hd (exd_ok hn (relO_put ry rel)))
/-- B.__init__(self, ..) -/
theorem init_up {us : List Value} {Q : Value → Shared → Prop} (T : ExB B newId initId bm) (O : OexB X.K C newId bm) (I : Inv X pins σ H s) (e : H a = some (exo a C none)) (hl : us.length ≤ sizeLine) (h : ∀ s', Inv X pins σ H s' → Q .none s') :
    wpAny (model X.prog X.w) A (call (.builtin initId) (.ref a :: us)) Q E s := by
  obtain ⟨nm, q, N, bs, sn, sub, ab, col, dd, k0, k1, k2, k3, k5, hC⟩ := O.cls
  obtain ⟨t1, ho⟩ := exo_at I.hok e
  obtain ⟨hp, g, dr, tk, os⟩ := s
  refine wpAny_call (HandSPX.init_base T.F (fun Y => rfl) (I.kIn _ _ hC) ho hl fun h' t2 k hx => ?_)
  have J := I.write (t' := tk) (x := a) (e := a) (o := exo a C none) (by rw [e]; exact True.intro) (.inl rfl) k ⟨_, hx⟩ (exo_ok hx)
  have eu : upd H a (exo a C none) = H := by
    funext b
    by_cases hb : b = a
    · rw [hb, upd_same, e]
    · rw [upd_ne hb]
  rw [eu] at J
  exact h _ J
end
/-- B.__init__(self, ..) -/
def tUp (K : PySem.W.Frag) (newId : String) (bm : List Value) (ta : TA) : TE := fun σ H Q => ta σ H fun vs H1 => ∃ (a C : Addr) (ws : List V), vs = .ref a :: ws ∧ ws.length ≤ 1000 ∧ OexB K C newId bm ∧ H1 a = some (exo a C none) ∧ Q .non H1
/-- self.f = e -/
def tPut (K : PySem.W.Frag) (newId : String) (bm : List Value) (f : Str) (to te : TE) : TS := fun D σ H => te σ H fun y H1 => to σ H1 fun x H2 => ∃ a C : Addr, x = .ref a ∧ OexB K C newId bm ∧ PySem.W.findIn K (.ref C) f = some none ∧
  ((H2 a = some (exo a C none) ∧ ∀ dx, H2 dx = none → dx ≠ a → D.nx σ (upd (upd H2 dx (exd dx [(f, y)])) a (exo a C (some dx)))) ∨
    ∃ (dx : Addr) (fs : List (Str × V)), H2 a = some (exo a C (some dx)) ∧ H2 dx = some (exd dx fs) ∧ fs.length ≤ 900 ∧ D.nx σ (upd H2 dx (exd dx ((f, y) :: fs))))
section
variable {X : Cx} {o e : Expr} {es : List Expr} {to te : TE} {ta : TA} {f : Str} {p p' p1 p2 pos : Pos} {B newId initId : String} {bm : List Value} {bs : Str}
theorem pe_up {pl : Sem Bool} (T : ExB B newId initId bm) (hg : Gl X bs) (hm : X.mg bs = none) (hv : bootBuiltins bs = some (.type B)) (ty : typeOf (.type B) = pure (.type "type"))
    (vV : PySem.W.findCls X.K (.type B) (.type "type") "__init__" = some (.val (.builtin initId))) (ha : PA X (e :: es) ta) (h1 : (bs == ("__debug__" : Str)) = false := by decide) (h2 : bs ≠ "__name__" := by decide)
    (ga : Manifest.isStub B = false := by decide +kernel) (hh : PySem.W.handedIn (.builtin initId) = true := by decide +kernel)
    (hc : eval (.Call (.Attribute (.Name bs p1) "__init__" p2) (e :: es) [] pos) X.env = (do
      let ov ← eval (.Name bs p1) X.env
      standAt p2.atName
      let (f, first) ← holding [ov] (getMethod ov "__init__" pl)
      callWith pos f first (backTo pos (starEach (e :: es) X.env)) (backToKw pos (keywordEach [] X.env))) := by rfl)
    (he : starEach (e :: es) X.env = (false, eval e X.env) :: starEach es X.env := by rfl) (hpl : (backTo pos (starEach es X.env)).any (·.1) = false := by rfl) :
    PE X (.Call (.Attribute (.Name bs p1) "__init__" p2) (e :: es) [] pos) (tUp X.K newId bm ta) := by
  refine ⟨fun pins s σ H Q I h => ?_⟩
  refine PySem.W.methodCall_KW (ld_blt I hg hm hv ?_ h2 h1) hc
  obtain ⟨m, fr⟩ := I.fr
  refine PySem.W.method_type fr I.ok.mod.kin ty ga vV hh ?_
  show wpAny _ _ (callWith pos (Value.builtin initId) [] (backTo pos (starEach (e :: es) X.env)) []) _ _ _
  refine PyProof.Rows.callWith_method1 (thn (ha.run pos pins _ σ H _ (I.tok _) h) fun us s1 z => ?_) he hpl
  obtain ⟨vs, H1, I1, r1, a, C, ws, ev, hl, O, ea, q⟩ := z
  subst ev
  cases r1 with
  | @cons _ u0 _ ur ra rw' =>
    obtain rfl : u0 = Value.ref a := ra
    have hlen : ur.length ≤ sizeLine := by
      rw [← Paired.length rw', sizeLine_eq]
      omega
    exact init_up T O I1 ea hlen fun s' J => ⟨.non, H1, J, rfl, q⟩
theorem ps_put (T : ExB B newId initId bm) (ho : PE X o to) (he : PE X e te) (hs : swapsWith e (some (.Attribute o f p')) pos.line X.env = pure false := by rfl) : PS X (.Assign [.Attribute o f p'] e pos) (tPut X.K newId bm f to te) := by
  refine ⟨fun pins s σ H D I h => ?_⟩
  refine plainObj_wpAny_Assign_Attribute (thn (he.run pins s σ H _ I h) fun v s1 z1 => ?_) hs
  obtain ⟨y, H1, I1, r1, q1⟩ := z1
  refine thn (ho.run pins s1 σ H1 _ I1 q1) fun u s2 z2 => ?_
  obtain ⟨x, H2, I2, r2, a, C, rfl, O, hno, q⟩ := z2
  cases r2
  rcases q with ⟨ea, q⟩ | ⟨dx, fs, ea, ed, hl, q⟩
  · exact put_first T O I2 ea hno r1 fun dx s' n ne J => ⟨σ, _, J, q dx n ne⟩
  · exact put_next T O I2 ea ed hl hno r1 fun s' J => ⟨σ, _, J, q⟩
/-- C(e, ..) of an own exception class whose __init__ keeps sp, to be raised -/
theorem pmk_up {CX : CXT} {x : Str} {C fI : Addr} {k : Nat} {fd : FuncData} {ps : List Str} {sp : Sp} {ds : List Value} {dvs : List V} (T : ExB B newId initId bm) (O : OexB X.K C newId bm) (iC : PySem.W.findIn X.K (.ref C) "__init__" = some (some (.ref fI))) (tI : PySem.W.typeIn X.K (.ref fI) = some (.type "function"))
    (F1 : FnOk X.prog X.w X.K X.mg X.base CX k fI fd ps sp) (hr : Room (k + 1) X.A) (hb : Binds X.K fd ps ds) (hd : Vals dvs ds) (hx : Passes CX X (fun _ _ _ => False)) (hg : Gl X x) (hm : X.mg x = some (.ref C)) (ha : PA X (e :: es) ta)
    (hdb : (x == ("__debug__" : Str)) = false := by decide) (he : starEach (e :: es) X.env = (false, eval e X.env) :: starEach es X.env := by rfl) (hpl : (backTo pos (starEach es X.env)).any (·.1) = false := by rfl) :
    PMk X (.Call (.Name x p) (e :: es) [] pos) (tMkO C sp dvs ta) := by
  intro pins s σ H Q I h
  obtain ⟨nm, q, N, bs, sn, sub, ab, col, dd, k0, k1, k2, k3, k5, hC⟩ := O.cls
  refine wpAny_Call_Name_kw (ld_glob I hg hm ?_ hdb)
  refine PySem.W.callWith_K (h₀ := X.base) I.ok.mod.kin O.kC (thn (ha.run pos pins s σ H _ I h) fun us s1 z => ?_) he hpl
  obtain ⟨vs, H1, I1, r1, hz, q1⟩ := z
  refine ⟨I1.kIn, ?_⟩
  show wpAny _ _ (call (.ref C) us) _ _ _
  obtain ⟨hp, g, dr, tk, os⟩ := s1
  have hsz : hp.objs.size ≤ hp.objs.size + 1 := Nat.le_succ _
  have hq := q1 (hp.objs.size + 1) (I1.hok.fresh hsz)
  generalize hG : (hp.push (PySem.W.kdv_tup us)).push (HandSPX.excO C hp.objs.size) = G
  have kk : ∀ b o, hp.get? b = some o → G.get? b = some o := fun b o e => by rw [← hG]; exact Heap.get?_push_of_some _ (Heap.get?_push_of_some _ e)
  have hget : G.get? (hp.objs.size + 1) = some (HandSPX.excO C hp.objs.size) := by rw [← hG]; heap_get
  have I2 : Inv X pins σ (upd H1 (hp.objs.size + 1) (exo (hp.objs.size + 1) C none)) ⟨G, g, dr, tk, os⟩ :=
    I1.laid (t' := tk) (a := hp.objs.size + 1) (o := exo (hp.objs.size + 1) C none) (h' := G) kk hsz (exo_ok hget)
  have r2 : Vals (V.ref (hp.objs.size + 1) :: (vs ++ dvs)) (Value.ref (hp.objs.size + 1) :: (us ++ ds)) := .cons rfl (r1.append hd)
  have hl : (Value.ref (hp.objs.size + 1) :: us ++ ds).length = ps.length := r2.length.symm.trans (F1.len _ _ _ _ hq)
  have hus : us.length ≤ sizeLine := by
    rw [← Paired.length r1, sizeLine_eq]; omega
  have call := F1.run _ X.stack _ _ ⟨Value.ref (hp.objs.size + 1) :: us, []⟩ (Value.ref (hp.objs.size + 1) :: (us ++ ds)) _ _ (fun _ _ _ => False) (hr.make C us []) (I2.env0.make C us []) (hb _ (Value.ref (hp.objs.size + 1) :: us) I2.kIn hl) r2 hq
  refine wpAny_call (HandSPX.call_own T.F (fun Y => rfl) (I1.kIn _ _ hC) (PySem.W.looks_findIn I1.kIn iC) (fun self => PySem.W.bind_fn I1.kIn self tI) hus ?_)
  rw [hG]
  refine codeAny_mono call fun r s' z => ?_
  rcases r with er | (_ | _ | _ | u)
  · exact hx pins σ _ _ er s' I2 z
  all_goals first | exact False.elim z | skip
  obtain ⟨v, H2, os2, bare2, un2, hok2, rv, ev, d, fs, ea, ed, hd1, q2⟩ := z
  subst ev
  obtain ⟨h2, g2, d2, t2, os'⟩ := s'
  exact ⟨rv, mk_end (raises_own O.exC O.tyC) I1 hsz kk un2 hok2 os2 bare2 ea ed hd1 q2⟩
end
end Fw

namespace Fw
open PySem PySem.Spec PyProof.Rows L2
/-! ### calls of defs that may let an exception out -/
def tCallSd (sp : Sp) (dvs : List V) (E : L2.St → XK) (t : TA) : TE := fun σ H Q => t σ H fun vs H1 => sp (vs ++ dvs) H1 Q (E σ)
def tCallNS (n m : Nat) (sp : Sp) (gV : List V → List V → List V) (E : L2.St → XK) (t tk : TA) : TE := fun σ H Q => t σ H fun vs H1 => tk σ H1 fun zs H2 => vs.length = n ∧ zs.length = m ∧ sp (gV vs zs) H2 Q (E σ)
section
variable {X : Cx} {W : WX} {k n : Nat} {x : Str} {ps : List Str} {dvs : List V} {sp : Sp} {p pos : Pos} {e : Expr} {es : List Expr} {t tk : TA} {ks : List Str} {gV : List V → List V → List V} {kws : List Keyword}
theorem pe_dnS (D : Dn X.prog X.w X.K X.mg X.base (L2.CX X.prog X.w) k x ps dvs sp) (tk : Takes X W) (hr : Room k X.A) (hg : Gl X x) (ha : PA X (e :: es) t)
    (hdb : (x == ("__debug__" : Str)) = false := by decide) (he : starEach (e :: es) X.env = (false, eval e X.env) :: starEach es X.env := by rfl)
    (hpl : (backTo pos (starEach es X.env)).any (·.1) = false := by rfl) : PE X (.Call (.Name x p) (e :: es) [] pos) (tCallSd sp dvs (WE W) t) := by
  obtain ⟨f, fd, ds, F, hm, hk, hb, hd⟩ := D.ex
  refine ⟨fun pins s σ H Q I h => ?_⟩
  refine wpAny_Call_Name_kw (ld_glob I hg hm ?_ hdb)
  refine PySem.W.callWith_K (h₀ := X.base) I.ok.mod.kin hk (thn (ha.run pos pins s σ H _ I h) fun us s1 z => ?_) he hpl
  obtain ⟨vs, H1, I1, r, q⟩ := z
  refine ⟨I1.kIn, ?_⟩
  have r2 : Vals (vs ++ dvs) (us ++ ds) := r.append hd
  have hl : (us ++ ds).length = ps.length := r2.length.symm.trans (F.len _ _ _ _ q)
  refine wpAny_call (codeAny_mono (F.run X.A X.stack s1 H1 ⟨us, []⟩ (us ++ ds) (vs ++ dvs) Q _ hr I1.env0 (hb s1 us I1.kIn hl) r2 q) fun r s' hq => ?_)
  rcases r with er | (_ | _ | _ | u)
  · exact passAt tk σ pins H1 s1 er s' I1 hq
  all_goals first | exact I1.after hq | exact False.elim hq
theorem pe_dkS (D : Dk X.prog X.w X.K X.mg X.base (L2.CX X.prog X.w) k x n ks gV sp) (tkk : Takes X W) (hr : Room k X.A) (hg : Gl X x) (ha : PA X (e :: es) t) (hkw : PK X kws tk)
    (hall : (backToKw pos (keywordEach kws X.env)).all (·.1.isSome) = true := by rfl) (hks : (backToKw pos (keywordEach kws X.env)).filterMap (·.1) = ks := by rfl)
    (hdb : (x == ("__debug__" : Str)) = false := by decide) (he : starEach (e :: es) X.env = (false, eval e X.env) :: starEach es X.env := by rfl)
    (hpl : ((backTo pos (starEach (e :: es) X.env)).any (·.1) || (backToKw pos (keywordEach kws X.env)).any (·.1.isNone)) = false := by rfl) :
    PE X (.Call (.Name x p) (e :: es) kws pos) (tCallNS n ks.length sp gV (WE W) t tk) := by
  obtain ⟨f, fd, ps, g, F, hm, hk, hb⟩ := D.ex
  refine ⟨fun pins s σ H Q I h => ?_⟩
  refine wpAny_Call_Name_kw (ld_glob I hg hm ?_ hdb)
  refine PySem.W.callWith_KW (h₀ := X.base) I.ok.mod.kin hk hall (thn (ha.run pos pins s σ H _ I h) fun us s1 z1 => ?_) hpl he
  obtain ⟨vs, H1, I1, r, q⟩ := z1
  refine thn (hkw.run pos pins s1 σ H1 _ I1 q) fun ws s2 z2 => ?_
  obtain ⟨zs, H2, I2, rz, l1, l2, q2⟩ := z2
  refine ⟨I2.kIn, ?_⟩
  rw [hks]
  have r2 := hb.rel r rz
  refine wpAny_call (codeAny_mono (F.run X.A X.stack s2 H2 ⟨us, ks.zip ws⟩ (g us ws) (gV vs zs) Q _ hr I2.env0 (hb.to s2 us ws I2.kIn (r.length.symm.trans l1) (rz.length.symm.trans l2)) r2 q2) fun r s' hq => ?_)
  rcases r with er | (_ | _ | _ | u)
  · exact passAt tkk σ pins H2 s2 er s' I2 hq
  all_goals first | exact I2.after hq | exact False.elim hq
end
/-! ### own exception classes, raised -/
/-- the class that the module's name x holds is raised by x(e, ..): its __init__ keeps sp -/
structure Rz (P : Program) (w : World) (K : PySem.W.Frag) (mg : Str → Option Value) (base : Heap) (k : Nat) (x : Str) (C : Addr) (sp : Sp) : Prop where
  ex : ∃ (B newId initId : String) (bm : List Value) (fI : Addr) (fd : FuncData) (ps : List Str), ExB B newId initId bm ∧ OexB K C newId bm ∧ PySem.W.findIn K (.ref C) "__init__" = some (some (.ref fI)) ∧ PySem.W.typeIn K (.ref fI) = some (.type "function") ∧
    FnOk P w K mg base CX0 k fI fd ps sp ∧ Binds K fd ps [] ∧ mg x = some (.ref C)
theorem pm_rz {X : Cx} {k : Nat} {x : Str} {C : Addr} {sp : Sp} {e : Expr} {es : List Expr} {ta : TA} {p pos : Pos} (D : Rz X.prog X.w X.K X.mg X.base k x C sp) (hr : Room (k + 1) X.A) (hg : Gl X x) (ha : PA X (e :: es) ta)
    (hdb : (x == ("__debug__" : Str)) = false := by decide) (he : starEach (e :: es) X.env = (false, eval e X.env) :: starEach es X.env := by rfl) (hpl : (backTo pos (starEach es X.env)).any (·.1) = false := by rfl) :
    PMk X (.Call (.Name x p) (e :: es) [] pos) (tMkO C sp [] ta) := by
  obtain ⟨B, newId, initId, bm, fI, fd, ps, T, O, iC, tI, F, hb, hm⟩ := D.ex
  exact pmk_up T O iC tI F hr hb .nil pass0 hg hm ha hdb he hpl
/-- what the class says, as a Bool -/
def oexIn (K : PySem.W.Frag) (C : Addr) (newId : String) (bm : List Value) : Bool := match K.lookup C with
  | some ⟨.type "type", _, .cls cd, sl⟩ => (match cd.mro, sl.toList with
    | .ref C' :: bm', [_, _, _, _, some (.builtin n), _] => C' == C && n == newId && !cd.hasDel && cd.hasDict && decide (bm' = bm)
    | _, _ => false)
  | _ => false
theorem oexIn_ok {K : PySem.W.Frag} {C : Addr} {newId : String} {bm : List Value} (q : oexIn K C newId bm = true) : ∃ nm q N bs sn sub ab col dd k0 k1 k2 k3 k5, K.lookup C = some (excClassObj nm q C N bs bm true sn sub ab col dd k0 k1 k2 k3 k5 newId) := by
  unfold oexIn at q
  split at q
  · rename_i dd cd sl ho
    split at q
    · rename_i C' bm' k0 k1 k2 k3 n k5 hm hs
      simp only [Bool.and_eq_true, beq_iff_eq, Bool.not_eq_true', decide_eq_true_eq] at q
      obtain ⟨⟨⟨⟨rfl, rfl⟩, hdel⟩, hdi⟩, rfl⟩ := q
      obtain ⟨nm, bs, mro, ns, qn, hd, sn, sub, ab, col, del⟩ := cd
      dsimp only at hm hdel hdi
      subst hm hdel hdi
      have hsl : sl = #[k0, k1, k2, k3, some (.builtin n), k5] := by
        obtain ⟨l⟩ := sl
        simp only at hs
        rw [hs]
      subst hsl
      exact ⟨nm, qn, ns, bs, sn, sub, ab, col, dd, k0, k1, k2, k3, k5, ho⟩
    · cases q
  · cases q
def oexB (K : PySem.W.Frag) (C : Addr) (newId : String) (bm : List Value) : Bool :=
  oexIn K C newId bm && decide (PySem.W.findIn K (.ref C) "__setattr__" = some (some (.builtin "object.__setattr__"))) && decide (PySem.W.subIn K (.ref C) (.type "BaseException") = some true) && decide (PySem.W.typeIn K (.ref C) = some (.type "type")) && PySem.W.keepIn K (.ref C)
theorem oexB_ok {K : PySem.W.Frag} {C : Addr} {newId : String} {bm : List Value} (h : oexB K C newId bm = true) : OexB K C newId bm := by
  unfold oexB at h
  simp only [Bool.and_eq_true, decide_eq_true_eq] at h
  obtain ⟨⟨⟨⟨h1, h2⟩, h3⟩, h4⟩, h5⟩ := h
  exact ⟨oexIn_ok h1, h2, h3, h4, h5⟩
/-- an own exception class with an own __init__ at fI that stores the field f: all that is asked, as a Bool -/
def ownB (K : PySem.W.Frag) (C fI : Addr) (B newId initId : String) (bm : List Value) (f : Str) : Bool :=
  oexB K C newId bm && excKB K C && decide (PySem.W.findIn K (.ref C) "__init__" = some (some (.ref fI))) && decide (PySem.W.typeIn K (.ref fI) = some (.type "function")) && decide (PySem.W.findIn K (.ref C) f = some none) &&
    (match PySem.W.findCls K (.type B) (.type "type") "__init__" with | some (.val (.builtin n)) => n == initId | _ => false)
structure Own (K : PySem.W.Frag) (C fI : Addr) (B newId initId : String) (bm : List Value) (f : Str) : Prop where
  O : OexB K C newId bm
  k : ExcK K C
  iC : PySem.W.findIn K (.ref C) "__init__" = some (some (.ref fI))
  tI : PySem.W.typeIn K (.ref fI) = some (.type "function")
  no : PySem.W.findIn K (.ref C) f = some none
  up : PySem.W.findCls K (.type B) (.type "type") "__init__" = some (.val (.builtin initId))
theorem ownB_ok {K : PySem.W.Frag} {C fI : Addr} {B newId initId : String} {bm : List Value} {f : Str} (h : ownB K C fI B newId initId bm f = true) : Own K C fI B newId initId bm f := by
  unfold ownB at h
  simp only [Bool.and_eq_true, decide_eq_true_eq] at h
  obtain ⟨⟨⟨⟨⟨h1, h2⟩, h3⟩, h4⟩, h5⟩, h6⟩ := h
  refine ⟨oexB_ok h1, excKB_ok h2, h3, h4, h5, ?_⟩
  split at h6
  · rename_i n e
    rw [e, eq_of_beq h6]
  · cases h6
/-- __init__ of one field -/
def spIni (C : Addr) (f : Str) : Sp := fun vs H Q _ => ∃ (a : Addr) (v : V), vs = [.ref a, v] ∧ H a = some (exo a C none) ∧ ∀ dx, H dx = none → dx ≠ a → Q .non (upd (upd H dx (exd dx [(f, v)])) a (exo a C (some dx)))
/-- x(e) raised: what is wished of the exception -/
theorem mk_ini {C : Addr} {f : Str} {v : V} {H1 : Hp} {Q : XK} (h : ∀ d H2, H1 d = none → (∀ b o, H1 b = some o → H2 b = some o) → (∀ b, b ≠ d → H2 b = H1 b) → H2 d = some (.xd [(f, v)]) → Q (.ref C) (some d) H2) :
    [v].length ≤ 1000 ∧ ∀ a, H1 a = none → spIni C f (.ref a :: ([v] ++ [])) (upd H1 a (exo a C none))
      (fun u H2 => u = .non ∧ ∃ (d : Addr) (fs : List (Str × V)), H2 a = some (exo a C (some d)) ∧ H2 d = some (exd d fs) ∧ H1 d = none ∧ Q (.ref C) (some d) (upd (del H2 a) d (.xd fs))) (fun _ _ _ => False) := by
  refine ⟨by show 1 ≤ 1000; omega, fun a ha => ⟨a, v, rfl, upd_same, fun dx hd hn => ⟨rfl, dx, [(f, v)], upd_same, ?_, ?_, ?_⟩⟩⟩
  · rw [upd_ne hn, upd_same]
  · rw [upd_ne hn] at hd; exact hd
  · rw [upd_ne hn] at hd
    have far : ∀ b, b ≠ dx → upd (del (upd (upd (upd H1 a (exo a C none)) dx (exd dx [(f, v)])) a (exo a C (some dx))) a) dx (.xd [(f, v)]) b = H1 b := fun b hb => by
      rw [upd_ne hb]
      by_cases c : b = a
      · subst c
        rw [ha]
        exact del_same
      · rw [del_ne c, upd_ne c, upd_ne hb, upd_ne c]
    exact h dx _ hd (fun b o e => by rw [far b (ne_of_none e hd)]; exact e) far upd_same
/-! ### text[::-1] -/
def revS (z : Str) : Str := ⟨z.cps.toList.reverse.toArray⟩
theorem revS_len (z : Str) : (revS z).length = z.length := by
  show (z.cps.toList.reverse.toArray).size = z.cps.size
  simp
theorem pick_rev (z : Str) : ((Builtin.Str.strSliceIndices none none (-1) z.length).filterMap (z.cps[·]?)).toArray = z.cps.toList.reverse.toArray := by
  have e : Builtin.Str.strSliceIndices none none (-1) z.length = (List.range z.cps.size).reverse := by
    show sliceRange ((z.cps.size : Int) - 1) (-1) (-1) = _
    rw [PySem.W.krv_sliceRange, PySem.W.krv_range]
  rw [e, List.filterMap_reverse, PySem.W.krv_all]
def tRevS (te : TE) : TE := fun σ H Q => te σ H fun x H1 => ∃ z, x = .str z ∧ z.length ≤ sizeLine ∧ Q (.str (revS z)) H1
theorem pe_revS {X : Cx} {e : Expr} {te : TE} {k : Nat} {p1 p2 p3 pos : Pos} (he : PE X e te) : PE X (.Subscript e (.Slice none none (some (.UnaryOp .USub (.Constant (.int 1) k p1) p2)) p3) pos) (tRevS te) := by
  refine ⟨fun pins s σ H Q I h => ?_⟩
  refine Subscript_ (thn (he.run pins s σ H _ I h) fun v s1 z1 => ?_)
  obtain ⟨x, H1, I1, r1, z, rfl, hz, q⟩ := z1
  obtain ⟨t, rfl⟩ := r1
  have hst : PO X (some (.UnaryOp .USub (.Constant (.int 1) k p1) p2)) (tPart (tUn (rU fun i => .int (-i)) (tC (.int 1)))) := po_some (pe_un un_neg pe_int)
  refine wpAny_Slice (thn (po_none.run pins s1 σ H1 (fun o H2 => o = none ∧ H2 = H1) I1 ⟨rfl, rfl⟩) fun vl s2 z2 => ?_)
  obtain ⟨l, H2, I2, pl, rfl, rfl⟩ := z2
  refine thn (po_none.run pins s2 σ H2 (fun o H3 => o = none ∧ H3 = H2) I2 ⟨rfl, rfl⟩) fun vu s3 z3 => ?_
  obtain ⟨u, H3, I3, pu, rfl, rfl⟩ := z3
  refine thn (hst.run pins s3 σ H3 (fun o H4 => o = some (-1) ∧ H4 = H3) I3 ⟨1, rfl, -1, rfl, rfl, rfl⟩) fun vs s4 z4 => ?_
  obtain ⟨o, H4, I4, ps, rfl, rfl⟩ := z4
  have I5 : Inv X pins σ H4 { s4 with heap := s4.heap.push { cls := .type "slice", data := .fields #[vl, vu, vs] } } := I4.kept (t' := s4.toks) fun b ob q => Heap.get?_push_of_some _ q
  show wpAny (model X.prog X.w) X.A (subscriptTail e (.Slice none none (some (.UnaryOp .USub (.Constant (.int 1) k p1) p2)) p3) (.str z t) (.ref s4.heap.objs.size)) (EP X pins σ Q) X.xe { s4 with heap := s4.heap.push { cls := .type "slice", data := .fields #[vl, vu, vs] } }
  refine tail_any (ops := [.str z t, .ref s4.heap.objs.size]) (typeIs_str _ _ _) (PySem.F.slot_str_getitem.lookup) ?_ (by with_unfolding_all rfl)
  obtain ⟨l, rfl, el⟩ := IsPart.raw pl
  obtain ⟨u, rfl, eu⟩ := IsPart.raw pu
  obtain ⟨w, rfl, ew⟩ := IsPart.raw ps
  refine wpAny_getItem_str_slice (l := l) (u := u) (st := w) ⟨_, Heap.get?_push_size _ rfl, rfl, rfl⟩ (by rw [ew]; rfl) ?_
  unfold sliceMade slicePicked
  rw [el, eu, ew]
  show Made.post (if ((-1 : Int) == 1 && _) = true then _ else Made.str ⟨((Builtin.Str.strSliceIndices none none (-1) z.length).filterMap (z.cps[·]?)).toArray⟩) _ _
  rw [if_neg (by simp), pick_rev]
  exact ⟨by show (revS z).length ≤ sizeLine; rw [revS_len]; exact hz, .str (revS z), H4, I5.tok _, ⟨_, rfl⟩, q⟩
end Fw
namespace Fw
open PySem PySem.Spec PyProof.Rows L2
/-! ### // of any ints; a def in a slot -/
def CDivA (_ j : Int) : Prop := j ≠ 0 ∧ j.natAbs.log2 < 9000
theorem op_fdivA {X : Cx} : OpR X (binaryOp .FloorDiv) (rI CDivA fun i j => .int (i.fdiv j)) := opI fun _ _ _ _ _ _ _ hc q => floordiv_int hc.1 q (.inl (PyProof.noPylong_of_log2 hc.2))
theorem divP {i j : Int} (h : 0 < j) (hb : j.natAbs.log2 < 9000) : CDivP i j := ⟨h, PyProof.noPylong_of_log2 hb⟩
def tCallR (i : Nat) (S : Addr → Sp → Prop) (t : TA) : TE := fun σ H Q => ∃ f sp, σ[i]? = some (some (.ref f)) ∧ S f sp ∧ t σ H fun vs H1 => sp vs H1 Q (fun _ _ _ => False)
theorem pe_callR {X : Cx} {k i : Nat} {x : Str} {p pos : Pos} {e : Expr} {es : List Expr} {t : TA} {S : Addr → Sp → Prop} (A : ∀ f sp, S f sp → Held X.prog X.w X.K X.mg X.base k f sp) (hr : Room k X.A) (hN : X.N[i]? = some x) (hv : Vis X.env.scope x) (ha : PA X (e :: es) t)
    (hdb : (x == ("__debug__" : Str)) = false := by decide) (hcd : (x == ("__classdict__" : Str)) = false := by decide)
    (he : starEach (e :: es) X.env = (false, eval e X.env) :: starEach es X.env := by rfl) (hpl : (backTo pos (starEach es X.env)).any (·.1) = false := by rfl) : PE X (.Call (.Name x p) (e :: es) [] pos) (tCallR i S t) := by
  refine ⟨fun pins s σ H Q I h => ?_⟩
  obtain ⟨f, sp, hs, hS, ht⟩ := h
  obtain ⟨fd, ps, F, hk, hb⟩ := (A f sp hS).ex
  refine (pe_callL (i := i) (f := f) (sp := sp) (dvs := []) (E := fun _ _ _ => False) F hr hN hv hk hb .nil (fun _ _ _ _ _ _ _ z => z.elim) ha hdb hcd he hpl).run pins s σ H Q I ⟨hs, ?_⟩
  have e0 : (fun (vs : List V) (H1 : Hp) => sp (vs ++ []) H1 Q (fun _ _ _ => False)) = fun vs H1 => sp vs H1 Q (fun _ _ _ => False) := by
    funext vs H1
    rw [List.append_nil]
  show t σ H (fun vs H1 => sp (vs ++ []) H1 Q (fun _ _ _ => False))
  rw [e0]
  exact ht
end Fw
namespace Fw
open PySem PySem.Spec PyProof.Rows L2
/-! ### range(i, j), 0 ≤ i, j to nearly 2 ** 63 -/
theorem small_w {a b : Int} (ha : 0 ≤ a) (ha' : a < 2 ^ 62) (hb : 0 ≤ b) (hb' : b < 2 ^ 63 - 2) : Builtin.Range.small a b 1 = true := by
  unfold Builtin.Range.small
  rw [rangeSize_one]
  simp only [Builtin.Range.rangeFitsLong, Bool.and_eq_true, Bool.or_eq_true, decide_eq_true_eq, beq_iff_eq, show (1 : Int) > 0 by decide, if_true]
  split <;> omega
def iRng2W (ta : TA) : TI := fun σ H R => ta σ H fun vs H1 => ∃ i j : Int, vs = [.int i, .int j] ∧ (0 ≤ i ∧ i < 2 ^ 62 ∧ 0 ≤ j ∧ j < 2 ^ 63 - 2) ∧ R (Itr i (j - i).toNat) H1
/-- the range object -/
def rgO (lo hi : Int) (t u v : Tok) : Obj := { cls := .type "range", data := .fields #[.int lo t, .int hi u, .int 1 v] }
theorem range_itW {X : Cx} {tg : Expr} {pins : List (Addr × Obj)} {σ : L2.St} {H : Hp} {s : Shared} {R : It → Hp → Prop} {E : Value → Shared → Prop} {lo hi : Int} {t u v : Tok} {tk : Nat} (I : Inv X pins σ H s) (h1 : 0 ≤ lo) (h2 : lo < 2 ^ 62) (h3 : 0 ≤ hi) (h4 : hi < 2 ^ 63 - 2)
    (q : R (Itr lo (hi - lo).toNat) H) : wpAny (model X.prog X.w) X.A (pyIter (.ref s.heap.objs.size)) (PIE X pins σ tg R) E { s with heap := s.heap.push (rgO lo hi t u v), toks := tk } := by
  have J := I.kept (h' := s.heap.push (rgO lo hi t u v)) (t' := tk) fun b o e => Heap.get?_push_of_some _ e
  have hz : ((hi - lo).toNat : Int) - 0 = Builtin.Range.rangeSize lo hi 1 := by
    rw [rangeSize_one]
    split <;> omega
  refine wpAny_pyIter_range (IsRange.new ..) (small_w h1 h2 h3 h4) ?_
  generalize hn : (s.heap.push (rgO lo hi t u v)).objs.size = n
  refine ⟨_, [n], _, _, H, rfl, J.kept (t' := tk) (fun b o e => Heap.get?_push_of_some _ e), turn_range n lo (hi - lo).toNat, ?_, ?_, q⟩
  · show IsRangeIter _ n (lo + (0 : Int) * 1) (((hi - lo).toNat : Int) - 0) 1
    rw [hz, Int.zero_mul, Int.add_zero, ← hn]
    exact Heap.get?_push_size _ rfl
  · intro b hb
    rw [List.mem_singleton.mp hb, ← hn]
    exact J.fpOk (Nat.le_refl _) (J.hok.fresh (Nat.le_refl _))
theorem pi_range2W {X : Cx} {tg a b : Expr} {ta : TA} {p pos : Pos} (hg : Gl X "range") (hm : X.mg "range" = none) (ha : PA X [a, b] ta) (hs : starEach [a, b] X.env = (false, eval a X.env) :: starEach [b] X.env := by rfl) (hs2 : starEach [b] X.env = [(false, eval b X.env)] := by rfl) :
    PI X tg (.Call (.Name "range" p) [a, b] [] pos) (iRng2W ta) := by
  refine ⟨fun pins s σ H R I h => ?_⟩
  refine Call_ (ld_blt I hg hm boot_range (PyProof.Rows.callWith_type1 (thn (ha.run pos pins s σ H _ I h) fun us s1 z => ?_) (by rw [hs, hs2]) (by rw [hs2]; rfl)))
  obtain ⟨vs, H1, I1, r1, i, j, rfl, ⟨q1, q2, q3, q4⟩, q⟩ := z
  cases r1 with
  | cons r rr =>
    cases rr with
    | cons r' rr =>
      cases rr
      obtain ⟨t, rfl⟩ := r
      obtain ⟨t', rfl⟩ := r'
      exact call_range_2 (range_itW I1 q1 q2 q3 q4 q)
end Fw

namespace Fw
open PySem PySem.Spec PyProof.Rows L2
section
variable {X : Cx} {C : Addr} {bmB : List Value} {B newId initId : String}
/-- raise X(): an own class without __init__ -/
theorem pmk_own0 {x : Str} {p pos : Pos} (F : ExcBaseFacts B newId initId bmB) (q : PySem.W.excIn X.K C bmB newId = true) (gC : X.mg x = some (.ref C)) (kC : PySem.W.keepIn X.K (.ref C) = true) (r : Raises X (.ref C)) (hg : Gl X x)
    (hdb : (x == ("__debug__" : Str)) = false := by decide) : PMk X (.Call (.Name x p) [] [] pos) (fun _ H Q => Q (.ref C) none H) := by
  intro pins s σ H Q I h
  refine wpAny_Call_Name_kw (ld_glob I hg gC ?_ hdb)
  refine PySem.W.callWith_K0 I.kIn kC ?_
  obtain ⟨hp, g, d, t, os⟩ := s
  obtain ⟨bm, N, nm, qn, bs, hdct, sn, sub, ab, col, dd, k0, k1, k2, k3, k5, mN, hC, hN, hni, T⟩ := exc_obj I.kIn q
  refine wpAny_call_exc_subT F T hC hN hni (fun h' e hm => ?_) (by show 0 ≤ sizeLine; omega)
  exact mk_of I hm r h (I.hok.gone hm.new)
end
/-- the class without __init__ that the module's name x holds, raised by x() -/
structure Rz0 (K : PySem.W.Frag) (mg : Str → Option Value) (x : Str) (C : Addr) : Prop where
  ex : ∃ (B newId initId : String) (bm : List Value), ExcBaseFacts B newId initId bm ∧ PySem.W.excIn K C bm newId = true
  gC : mg x = some (.ref C)
  kC : PySem.W.keepIn K (.ref C) = true
  exC : PySem.W.subIn K (.ref C) (.type "BaseException") = some true
  tyC : PySem.W.typeIn K (.ref C) = some (.type "type")
theorem pm_rz0 {X : Cx} {x : Str} {C : Addr} {p pos : Pos} (D : Rz0 X.K X.mg x C) (hg : Gl X x) (hdb : (x == ("__debug__" : Str)) = false := by decide) : PMk X (.Call (.Name x p) [] [] pos) (fun _ H Q => Q (.ref C) none H) := by
  obtain ⟨B, newId, initId, bm, F, q⟩ := D.ex
  exact pmk_own0 F q D.gC D.kC (raises_own D.exC D.tyC) hg hdb
section
variable {X : Cx} {CX : CXT} {C g : Addr} {n : Nat} {fd : FuncData} {ps : List Str} {sp : Sp} {E : XK}
theorem ty_looks {pins : List (Addr × Obj)} {σ : L2.St} {H : Hp} {s : Shared} {y : V} {u t : Value} (I : Inv X pins σ H s) (ry : RelV y u) (ty : TyX X.K H y t) : PySem.W.Looks (model X.prog X.w) s.heap (typeOf u) t := by
  obtain ⟨P, Z, p, _⟩ := kit_of I ry ty
  exact Z.ty _ _ I.kIn p
/-- x == y, x an instance of the class at C whose own __eq__ is at g -/
def rOwnD (K : PySem.W.Frag) (C : Addr) (sp : Sp) (E : XK) : R2 := fun x y H Q => ∃ (a dx : Addr) (fs : List (Str × V)) (t : Value), x = .ref a ∧ H a = some (.ins C dx fs) ∧ TyX K H y t ∧ PySem.W.notFirst K C t = true ∧ sp [x, y] H Q E
theorem op_eqOwn (hs : PySem.W.findIn X.K (.ref C) "__eq__" = some (some (.ref g))) (hf : PySem.W.isFn X.K (.ref g) = true) (F : FnOk X.prog X.w X.K X.mg X.base CX n g fd ps sp) (hb : Binds X.K fd ps []) (hr : Room n X.A) (hx : Passes CX X E) : OpR X (compareOp .Eq) (rOwnD X.K C sp E) := by
  intro pins s σ H x y v u Q I rx ry h
  obtain ⟨a, dx, fs, t, rfl, ha, ty, hn, q⟩ := h
  cases (show v = Value.ref a from rx)
  have tl := ty_looks I ry ty
  obtain ⟨m, hF⟩ := I.fr
  obtain ⟨mA, O, _⟩ := ins_get I.hok ha
  obtain ⟨od, J, _⟩ := O.look
  show wpAny _ _ (richCompare .Eq (.ref a) u) _ _ _
  refine PySem.W.cmp_K (op := .Eq) (tb := t) hr.units0 hF I.ok.mod.kin J tl hn hs hf ?_
  refine wpAny_mono (run_fn (ds := []) (dvs := []) (us := [.ref a, u]) (vs := [.ref a, y]) F hr hb .nil hx I (.cons rfl (.cons ry .nil)) (by rw [List.append_nil]; exact q)) (fun w s' z => ?_) fun _ _ x => x
  obtain ⟨z', H', I', rz, qz⟩ := z
  exact SlX.cmpback rz ⟨z', H', I', rz, qz⟩
/-- x != y where the class has no own __ne__: by its own __eq__ -/
def rOwnN (K : PySem.W.Frag) (C : Addr) (sp : Sp) (E : XK) : R2 := fun x y H Q => ∃ (a dx : Addr) (fs : List (Str × V)) (t : Value), x = .ref a ∧ H a = some (.ins C dx fs) ∧ TyX K H y t ∧ PySem.W.notFirst K C t = true ∧ sp [x, y] H (fun z H' => ∃ b, z = .bl b ∧ Q (.bl (!b)) H') E
theorem op_neOwn (hs : PySem.W.findIn X.K (.ref C) "__eq__" = some (some (.ref g))) (hne : PySem.W.findIn X.K (.ref C) "__ne__" = some (some (.builtin "object.__ne__"))) (hm : PySem.W.mroIn X.K C (.type "object") = some true)
    (hf : PySem.W.isFn X.K (.ref g) = true) (F : FnOk X.prog X.w X.K X.mg X.base CX n g fd ps sp) (hb : Binds X.K fd ps []) (hr : Room (n + 1) X.A) (hx : Passes CX X E) : OpR X (compareOp .NotEq) (rOwnN X.K C sp E) := by
  intro pins s σ H x y v u Q I rx ry h
  obtain ⟨a, dx, fs, t, rfl, ha, ty, hn, q⟩ := h
  cases (show v = Value.ref a from rx)
  have tl := ty_looks I ry ty
  obtain ⟨mA, O, _⟩ := ins_get I.hok ha
  obtain ⟨od, J, _⟩ := O.look
  have hr1 : Room n X.A.in1 := Room.in1 hr
  -- the def's answer
  have ans : wpAny (model X.prog X.w) X.A.in1 (call (.ref g) [.ref a, u]) (fun w s' => ∃ b, w = .bool b ∧ EP X pins σ Q (.bool (!b)) s') X.xe s := by
    have r2 : Vals [V.ref a, y] [Value.ref a, u] := .cons rfl (.cons ry .nil)
    have hl : [Value.ref a, u].length = ps.length := r2.length.symm.trans (F.len _ _ _ _ q)
    refine wpAny_call (codeAny_mono (F.run X.A.in1 X.stack s H ⟨[.ref a, u], []⟩ [.ref a, u] [.ref a, y] _ E hr1 I.env0.in1 (hb s [.ref a, u] I.kIn (by rw [List.append_nil]; exact hl)) r2 q) fun r s' hq => ?_)
    rcases r with er | (_ | _ | _ | w)
    · exact hx pins σ H s er s' I hq
    all_goals first | exact False.elim hq | skip
    obtain ⟨z', H', I', rz, b, rfl, qz⟩ := I.after hq
    cases (show w = Value.bool b from rz)
    exact ⟨b, rfl, .bl (!b), H', I', rfl, qz⟩
  have ne1 : wpAny (model X.prog X.w) X.A.in1 (Builtin.«object.__ne__» ⟨[.ref a, u], []⟩) (fun fi s' => ∃ b : Bool, fi = .done (.ret (.bool b)) ∧ EP X pins σ Q (.bool b) s') X.xe s := by
    have hu : X.A.in1.units < cLine := hr1.units0
    unfold Builtin.«object.__ne__»
    repeat (first
      | with_reducible refine wpAny_cRoomFor hu ?_
      | (refine wpAny_bind (m := callSpecialIfBound? (.ref a) (Str.ofString "__eq__") [u]) (PySem.W.ifBound_K I.kIn J hs hf (wpAny_mono ans (fun r s' hr => by
          obtain ⟨b, rfl, hq⟩ := hr
          repeat (first | exact ⟨!b, rfl, hq⟩ | exact wpAny_pure ⟨!b, rfl, hq⟩ | exact wpAny_truthy_bool (wpAny_pure ⟨!b, rfl, hq⟩) | (refine wpAny_bind (m := truthy (.bool _)) (wpAny_truthy_bool ?_)) | wp_step)) fun _ _ e => e)))
      | wp_step)
  have one : wpAny (model X.prog X.w) X.A (tryCompare (.ref a) "__ne__" u) (fun r s' => ∃ b : Bool, r = some (.bool b) ∧ EP X pins σ Q (.bool b) s') X.xe s := by
    have cl : wpAny (model X.prog X.w) X.A (call (.builtin "object.__ne__") [.ref a, u]) (fun w s' => ∃ b : Bool, w = .bool b ∧ EP X pins σ Q (.bool b) s') X.xe s := by
      refine wpAny_call (codeAny_call_builtin PySem.F.cmp_object.ne.plain PySem.F.cmpEntry_ne (PySem.W.check_slot PySem.F.cmpKind_ne PySem.F.cmpSplit_ne (J.type.andThen (PySem.W.looks_mroIn I.kIn hm)) (PySem.F.cmpArgs_ne _ _) ?_))
      refine wpAny_mono ne1 (fun fi s' z => ?_) fun _ _ e => e
      obtain ⟨b, rfl, hq⟩ := z
      exact ⟨b, rfl, hq⟩
    have tail : ∀ {Q' : Option Value → Shared → Prop}, (∀ w s', (∃ b : Bool, w = Value.bool b ∧ EP X pins σ Q (.bool b) s') → Q' (some w) s') → wpAny (model X.prog X.w) X.A (callSpecialIfBound? (.ref a) "__ne__" [u]) Q' X.xe s := by
      intro Q' hQ
      have fin : wpAny (model X.prog X.w) X.A (call (.builtin "object.__ne__") ([.ref a] ++ [u]) >>= fun v => pure (some v)) Q' X.xe s :=
        wpAny_bind (wpAny_mono cl (fun w s' z => wpAny_pure (hQ w s' z)) fun _ _ e => e)
      simp only [callSpecialIfBound?, bindSpecialIfBound?]
      refine wpAny_holding (wpAny_bind (wpAny_bind (wpAny_bind (J.type.here ((PySem.W.looks_findIn I.kIn hne).here ?_)))))
      refine wpAny_bind (wpAny_askSetting (wpAny_ite ?_))
      split
      · exact wpAny_bind (wpAny_of_eq (PySem.F.cmp_object.ne.bind _) (wpAny_pure (by exact fin)))
      · exact wpAny_tryCatch (wpAny_bind (wpAny_of_eq (PySem.F.cmp_object.ne.bind _) (wpAny_pure (by exact fin))))
    unfold tryCompare
    refine wpAny_bind (tail fun w s' z => ?_)
    obtain ⟨b, rfl, hq⟩ := z
    exact wpAny_pure ⟨b, rfl, hq⟩
  show wpAny _ _ (richCompare .NotEq (.ref a) u) _ _ _
  have hsub : (t == .ref C) = true ∨ PySem.W.subIn X.K t (.ref C) = some false := by
    rcases Bool.or_eq_true_iff.mp hn with e | e
    · exact .inl e
    · exact .inr (beq_iff_eq.mp e)
  have last : wpAny (model X.prog X.w) X.A (tryCompare (.ref a) "__ne__" u) (fun r s' => ∃ b : Bool, r = some (.bool b) ∧ EP X pins σ Q (.bool b) s') X.xe s := one
  unfold richCompare
  simp only [oneThing_ref, cmpInfo_NotEq]
  refine wpAny_holding (wpAny_bind (wpAny_cRoomFor hr.units0 (wpAny_bind (J.type.here (wpAny_bind (tl.here ?_))))))
  split
  · rename_i c
    have e : PySem.W.subIn X.K t (.ref C) = some false := by
      rcases hsub with z | z
      · rw [beq_iff_eq.mp z] at c; simp at c
      · exact z
    refine wpAny_bind ((PySem.W.looks_subIn I.kIn e).here ?_)
    simp only [Bool.false_eq_true, if_false]
    refine wpAny_bind (wpAny_mono last (fun r s' z => ?_) fun _ _ e => e)
    obtain ⟨b, rfl, hq⟩ := z
    exact wpAny_pure hq
  · refine wpAny_bind (wpAny_pure ?_)
    simp only [Bool.false_eq_true, if_false]
    refine wpAny_bind (wpAny_mono last (fun r s' z => ?_) fun _ _ e => e)
    obtain ⟨b, rfl, hq⟩ := z
    exact wpAny_pure hq
/-- str(x) by an own __str__ -/
def rStrOwn (C : Addr) (sp : Sp) (E : XK) : List V → Hp → VK → Prop := fun xs H Q => ∃ (a dx : Addr) (fs : List (Str × V)), xs = [.ref a] ∧ H a = some (.ins C dx fs) ∧ sp [.ref a] H (fun z H' => ∃ x, z = .str x ∧ Q z H') E
theorem call_strOwn (hs : PySem.W.findIn X.K (.ref C) "__str__" = some (some (.ref g))) (hf : PySem.W.isFn X.K (.ref g) = true) (F : FnOk X.prog X.w X.K X.mg X.base CX n g fd ps sp) (hb : Binds X.K fd ps []) (hr : Room (n + 2) X.A) (hx : Passes CX X E) : CallR X (.type "str") (rStrOwn C sp E) := by
  intro pins s σ H xs us Q I r h
  obtain ⟨a, dx, fs, rfl, ha, q⟩ := h
  obtain ⟨u, rfl, ru⟩ := vals1 r
  cases (show u = Value.ref a from ru)
  obtain ⟨mA, O, _⟩ := ins_get I.hok ha
  obtain ⟨od, J, _⟩ := O.look
  have hr2 : Room n X.A.in1.in1 := (show Room (n + 1) X.A.in1 from Room.in1 hr).in1
  refine PySem.W.kso_call hr2.units0 I.kIn J hs hf ?_
  have r2 : Vals [V.ref a] [Value.ref a] := .cons rfl .nil
  have hl : [Value.ref a].length = ps.length := r2.length.symm.trans (F.len _ _ _ _ q)
  refine wpAny_call (codeAny_mono (F.run X.A.in1.in1 X.stack s H ⟨[.ref a], []⟩ [.ref a] [.ref a] _ E hr2 I.env0.in1.in1 (hb s [.ref a] I.kIn (by rw [List.append_nil]; exact hl)) r2 q) fun r s' hq => ?_)
  rcases r with er | (_ | _ | _ | w)
  · exact hx pins σ H s er s' I hq
  all_goals first | exact False.elim hq | skip
  obtain ⟨z', H', I', rz, x, rfl, qz⟩ := I.after hq
  obtain ⟨t, rfl⟩ := (show ∃ t, w = Value.str x t from rz)
  exact ⟨.str x, H', I', ⟨t, rfl⟩, qz⟩
end
end Fw

/-! ### the data layer: values as trees, defs read without a heap -/
namespace Dw
open PySem PySem.Spec PyProof.Rows L2 Fw
/-- data: what a value is, as a tree -/
inductive D where
  | non | bl (b : Bool) | int (i : Int) | str (s : Str) | tup (l : List D) | lst (l : List D) | obj (C : Addr) (fs : List (Str × D)) | exc (C : Addr) (fs : List (Str × D)) | feed | scr (ns : List Int) | val (v : V)
/-! the feed -/
def fdK (c : Addr) (at_ left : Int) : List (Key × V) := [(.inr "cells", .ref c), (.inr "at", .int at_), (.inr "left", .int left)]
theorem fdK_inj {c c' : Addr} {a a' l l' : Int} (h : HO.dK (fdK c a l) = HO.dK (fdK c' a' l')) : c = c' := by
  have z := congrArg (fun o => match o with | (HO.dK ((_, V.ref c) :: _)) => c | _ => 0) h
  exact z
def Feed (H : Hp) (p : Addr) (n : Nat) : Prop := ∃ (c : Addr) (ns : List Int) (at_ left : Int), H p = some (.dK (fdK c at_ left)) ∧ H c = some (.lst (ns.map V.int)) ∧ 0 ≤ at_ ∧ at_ ≤ n ∧ 0 ≤ left
mutual
/-- v stands for the data d: all that it leads to is in G, which nobody changes -/
inductive Rep (K : PySem.W.Frag) (F : Option Addr) (G : Hp) : V → D → Prop where
  | non : Rep K F G .non .non
  | bl (b : Bool) : Rep K F G (.bl b) (.bl b)
  | int (i : Int) : Rep K F G (.int i) (.int i)
  | str (s : Str) : Rep K F G (.str s) (.str s)
  | tup {a : Addr} {vs : List V} {ds : List D} : SqT K G a vs → RepL K F G vs ds → Rep K F G (.ref a) (.tup ds)
  | lst {a : Addr} {vs : List V} {ds : List D} : G a = some (.lst vs) → RepL K F G vs ds → Rep K F G (.ref a) (.lst ds)
  | obj {a C dx : Addr} {fvs : List (Str × V)} {fs : List (Str × D)} : G a = some (.ins C dx fvs) → RepF K F G fvs fs → Rep K F G (.ref a) (.obj C fs)
  | exc {a C : Addr} {d : Option Addr} {fvs : List (Str × V)} {fs : List (Str × D)} : Kept G a C d fvs → RepF K F G fvs fs → Rep K F G (.ref a) (.exc C fs)
  | feed {p : Addr} : F = some p → Rep K F G (.ref p) .feed
  | scr {a : Addr} {ns : List Int} : SqL K G a (ns.map V.int) → Rep K F G (.ref a) (.scr ns)
  | val (v : V) : Rep K F G v (.val v)
inductive RepL (K : PySem.W.Frag) (F : Option Addr) (G : Hp) : List V → List D → Prop where
  | nil : RepL K F G [] []
  | cons {v : V} {d : D} {vs : List V} {ds : List D} : Rep K F G v d → RepL K F G vs ds → RepL K F G (v :: vs) (d :: ds)
inductive RepF (K : PySem.W.Frag) (F : Option Addr) (G : Hp) : List (Str × V) → List (Str × D) → Prop where
  | nil : RepF K F G [] []
  | cons {f : Str} {v : V} {d : D} {vs : List (Str × V)} {ds : List (Str × D)} : Rep K F G v d → RepF K F G vs ds → RepF K F G ((f, v) :: vs) ((f, d) :: ds)
end
section
variable {K : PySem.W.Frag} {F : Option Addr} {G G' H H' : Hp}
theorem sqT_same {a : Addr} {xs : List V} (e : Same H H') (h : SqT K H a xs) : SqT K H' a xs := by
  rcases h with (h | ⟨o, h⟩) | h
  · exact .inl (.inl (e _ _ h))
  · exact .inl (.inr ⟨o, e _ _ h⟩)
  · exact .inr h
theorem kept_same {a C : Addr} {d : Option Addr} {fs : List (Str × V)} (e : Same H H') (h : Kept H a C d fs) : Kept H' a C d fs := by
  obtain ⟨h1, h2⟩ := h
  refine ⟨e _ _ h1, ?_⟩
  rcases h2 with h2 | ⟨dd, h3, h4⟩
  · exact .inl h2
  · exact .inr ⟨dd, h3, e _ _ h4⟩
mutual
theorem Rep.mono (s : Same G G') : ∀ {v : V} {d : D}, Rep K F G v d → Rep K F G' v d
  | _, _, .non => .non
  | _, _, .bl b => .bl b
  | _, _, .int i => .int i
  | _, _, .str x => .str x
  | _, _, .tup h r => .tup (sqT_same s h) (RepL.mono s r)
  | _, _, .lst h r => .lst (s _ _ h) (RepL.mono s r)
  | _, _, .obj h r => .obj (s _ _ h) (RepF.mono s r)
  | _, _, .exc h r => .exc (kept_same s h) (RepF.mono s r)
  | _, _, .feed h => .feed h
  | _, _, .scr h => .scr (s.seq h)
  | _, _, .val v => .val v
theorem RepL.mono (s : Same G G') : ∀ {vs : List V} {ds : List D}, RepL K F G vs ds → RepL K F G' vs ds
  | _, _, .nil => .nil
  | _, _, .cons h r => .cons (Rep.mono s h) (RepL.mono s r)
theorem RepF.mono (s : Same G G') : ∀ {vs : List (Str × V)} {ds : List (Str × D)}, RepF K F G vs ds → RepF K F G' vs ds
  | _, _, .nil => .nil
  | _, _, .cons h r => .cons (Rep.mono s h) (RepF.mono s r)
end
theorem RepL.length : ∀ {vs : List V} {ds : List D}, RepL K F G vs ds → vs.length = ds.length
  | _, _, .nil => rfl
  | _, _, .cons _ r => by rw [List.length_cons, List.length_cons, RepL.length r]
theorem RepL.get : ∀ {vs : List V} {ds : List D} {i : Nat} {d : D}, RepL K F G vs ds → ds[i]? = some d → ∃ v, vs[i]? = some v ∧ Rep K F G v d
  | _, _, _, _, .nil, e => by simp at e
  | _, _, 0, _, .cons h _, e => by
    simp at e; subst e; exact ⟨_, rfl, h⟩
  | _, _, i + 1, d, .cons _ r, e => by
    obtain ⟨v, h1, h2⟩ := RepL.get (i := i) (d := d) r (by simpa using e)
    exact ⟨v, by simpa using h1, h2⟩
theorem RepL.getV : ∀ {vs : List V} {ds : List D} {i : Nat} {v : V}, RepL K F G vs ds → vs[i]? = some v → ∃ d, ds[i]? = some d ∧ Rep K F G v d
  | _, _, _, _, .nil, e => by simp at e
  | _, _, 0, _, .cons h _, e => by
    simp at e; subst e; exact ⟨_, rfl, h⟩
  | _, _, i + 1, d, .cons _ r, e => by
    obtain ⟨v, h1, h2⟩ := RepL.getV (i := i) (v := d) r (by simpa using e)
    exact ⟨v, by simpa using h1, h2⟩
theorem RepL.append : ∀ {vs ws : List V} {ds es : List D}, RepL K F G vs ds → RepL K F G ws es → RepL K F G (vs ++ ws) (ds ++ es)
  | _, _, _, _, .nil, s => s
  | _, _, _, _, .cons h r, s => .cons h (RepL.append r s)
theorem RepL.set : ∀ {vs : List V} {ds : List D} {v : V} {d : D} (i : Nat), Rep K F G v d → RepL K F G vs ds → RepL K F G (vs.set i v) (ds.set i d)
  | _, _, _, _, _, _, .nil => .nil
  | _, _, _, _, 0, h, .cons _ r => .cons h r
  | _, _, _, _, i + 1, h, .cons q r => .cons q (RepL.set i h r)
theorem RepL.take : ∀ {vs : List V} {ds : List D} (n : Nat), RepL K F G vs ds → RepL K F G (vs.take n) (ds.take n)
  | _, _, 0, _ => .nil
  | _, _, _ + 1, .nil => .nil
  | _, _, n + 1, .cons h r => .cons h (RepL.take n r)
theorem RepL.drop : ∀ {vs : List V} {ds : List D} (n : Nat), RepL K F G vs ds → RepL K F G (vs.drop n) (ds.drop n)
  | _, _, 0, r => r
  | _, _, _ + 1, .nil => .nil
  | _, _, n + 1, .cons _ r => RepL.drop n r
theorem RepL.reverse : ∀ {vs : List V} {ds : List D}, RepL K F G vs ds → RepL K F G vs.reverse ds.reverse
  | _, _, .nil => .nil
  | _, _, .cons h r => by
    rw [List.reverse_cons, List.reverse_cons]
    exact (RepL.reverse r).append (.cons h .nil)
theorem RepF.lookup {f : Str} : ∀ {vs : List (Str × V)} {ds : List (Str × D)} {d : D}, RepF K F G vs ds → ds.lookup f = some d → ∃ v, vs.lookup f = some v ∧ Rep K F G v d
  | _, _, _, .nil, e => by cases e
  | _, _, d, .cons (f := g) (vs := vs) (ds := ds) h r, e => by
    rw [List.lookup_cons] at e ⊢
    cases q : (f == g) with
    | true =>
      rw [q] at e
      cases e
      exact ⟨_, rfl, h⟩
    | false =>
      rw [q] at e
      exact RepF.lookup r e
theorem RepF.none {f : Str} : ∀ {vs : List (Str × V)} {ds : List (Str × D)}, RepF K F G vs ds → ds.lookup f = Option.none → vs.lookup f = Option.none
  | _, _, .nil, e => rfl
  | _, _, .cons (f := g) (vs := vs) (ds := ds) h r, e => by
    rw [List.lookup_cons] at e ⊢
    cases q : (f == g) with
    | true =>
      rw [q] at e
      cases e
    | false =>
      rw [q] at e
      exact RepF.none r e
end
/-- the heap H bears the shared part G, and the feed -/
structure Wd (F : Option Addr) (G H : Hp) (n : Nat) : Prop where
  sub : Same G H
  fd : ∀ p, F = some p → Feed H p n ∧ G p = none
/-- from (G, H) to (G', H'): all but the feed is as it was; what is shared stays so; what was there and not shared isn't shared now -/
structure Ext (F : Option Addr) (G H G' H' : Hp) : Prop where
  to : ∀ b o, H b = some o → F ≠ some b → H' b = some o
  fd : ∀ p c a l, F = some p → H p = some (.dK (fdK c a l)) → ∃ a' l', H' p = some (.dK (fdK c a' l'))
  kp : ∀ b, H b ≠ none → H' b ≠ none
  g : Same G G'
  gx : ∀ b, G b = none → H b ≠ none → G' b = none
section
variable {F : Option Addr} {G H G1 H1 G2 H2 : Hp} {n : Nat}
theorem Ext.refl : Ext F G H G H := ⟨fun _ _ h _ => h, fun _ _ a l _ h => ⟨a, l, h⟩, fun _ h => h, Same.refl _, fun _ h _ => h⟩
theorem Ext.trans (a : Ext F G H G1 H1) (b : Ext F G1 H1 G2 H2) : Ext F G H G2 H2 :=
  ⟨fun c o h f => b.to c o (a.to c o h f) f, fun p c x y f h => by
    obtain ⟨x', y', h'⟩ := a.fd p c x y f h
    exact b.fd p c x' y' f h', fun c h => b.kp c (a.kp c h), a.g.trans b.g, fun c h h' => b.gx c (a.gx c h h') (a.kp c h')⟩
theorem new_to {q : Addr} {o : HO} (h : H q = none) : ∀ b u, H b = some u → upd H q o b = some u := fun b u e => by
  rw [upd_ne (ne_of_none e h)]; exact e
theorem new_kp {q : Addr} {o : HO} : ∀ b, H b ≠ none → upd H q o b ≠ none := fun b e => by
  by_cases c : b = q
  · rw [c, upd_same]; exact fun z => nomatch z
  · rw [upd_ne c]; exact e
theorem Ext.new {q : Addr} {o : HO} (h : H q = none) : Ext F G H G (upd H q o) := ⟨fun b u e _ => new_to h b u e, fun p c a l _ e => ⟨a, l, new_to h _ _ e⟩, new_kp, Same.refl _, fun _ h _ => h⟩
theorem Ext.share {q : Addr} {o : HO} (h : H q = none) (hG : G q = none) : Ext F G H (upd G q o) (upd H q o) := ⟨fun b u e _ => new_to h b u e, fun p c a l _ e => ⟨a, l, new_to h _ _ e⟩, new_kp, new_to hG, fun b h1 h2 => by
  rw [upd_ne (fun z => h2 (by rw [z]; exact h))]; exact h1⟩
theorem Wd.free {q : Addr} (w : Wd F G H n) (h : H q = none) : G q = none := w.sub.free h
theorem feed_new {p q : Addr} {o : HO} (f : Feed H p n) (h : H q = none) : Feed (upd H q o) p n := by
  obtain ⟨c, ns, a, l, h1, h2, h3⟩ := f
  exact ⟨c, ns, a, l, new_to h _ _ h1, new_to h _ _ h2, h3⟩
theorem Wd.new {q : Addr} {o : HO} (w : Wd F G H n) (h : H q = none) : Wd F G (upd H q o) n :=
  ⟨fun b u e => new_to h b u (w.sub b u e), fun p f => ⟨feed_new (w.fd p f).1 h, (w.fd p f).2⟩⟩
theorem Wd.share {q : Addr} {o : HO} (w : Wd F G H n) (h : H q = none) : Wd F (upd G q o) (upd H q o) n := by
  refine ⟨fun b u e => ?_, fun p f => ⟨feed_new (w.fd p f).1 h, ?_⟩⟩
  · by_cases c : b = q
    · subst c; rw [upd_same] at e ⊢; exact e
    · rw [upd_ne c] at e ⊢; exact w.sub b u e
  · obtain ⟨⟨c, ns, a, l, h1, _⟩, g⟩ := w.fd p f
    rw [upd_ne (ne_of_none h1 h)]; exact g
/-- what stands at q in H, not shared, is shared now -/
theorem Wd.freeze {q : Addr} {vs : List V} (w : Wd F G H n) (h : H q = some (.lst vs)) : Wd F (upd G q (.lst vs)) H n := by
  refine ⟨fun b u e => ?_, fun p f => ⟨(w.fd p f).1, ?_⟩⟩
  · by_cases c : b = q
    · subst c; rw [upd_same] at e; cases e; exact h
    · rw [upd_ne c] at e; exact w.sub b u e
  · obtain ⟨⟨c, ns, a, l, h1, _⟩, g⟩ := w.fd p f
    rw [upd_ne (ne_of h1 h (by intro z; cases z))]; exact g
theorem Wd.notfd {q : Addr} {vs : List V} (w : Wd F G H n) (h : H q = some (.lst vs)) : F ≠ some q := fun f => by
  obtain ⟨⟨c, ns, a, l, h1, _⟩, _⟩ := w.fd q f
  rw [h] at h1; cases h1
theorem Ext.freeze {q : Addr} {vs : List V} (x : Ext F G H G1 H1) (h : H q = none) (hg : G1 q = none) : Ext F G H (upd G1 q (.lst vs)) H1 :=
  ⟨x.to, x.fd, x.kp, x.g.trans (new_to hg), fun b h1 h2 => by rw [upd_ne (fun z => h2 (by rw [z]; exact h))]; exact x.gx b h1 h2⟩
end
/-- a slot: data, or a list of one's own -/
inductive Sl where
  | d (x : D) | own (xs : List D)
abbrev Ro := List (Option Sl)
structure Bx where
  F : Option Addr
  G : Hp
  H : Hp
structure EnvC (K : PySem.W.Frag) (B : Bx) (G H : Hp) (σ : L2.St) (ρ : Ro) (n : Nat) : Prop where
  w : Wd B.F G H n
  x : Ext B.F B.G B.H G H
  len : σ.length = ρ.length
  d : ∀ (i : Nat) (x : D), ρ[i]? = some (some (Sl.d x)) → ∃ v, σ[i]? = some (some v) ∧ Rep K B.F G v x
  own : ∀ (i : Nat) (xs : List D), ρ[i]? = some (some (Sl.own xs)) → ∃ q vs, σ[i]? = some (some (V.ref q)) ∧ H q = some (.lst vs) ∧ G q = none ∧ B.H q = none ∧ RepL K B.F G vs xs ∧ ∀ p c a l, B.F = some p → H p = some (.dK (fdK c a l)) → q ≠ c
  dis : ∀ (i j : Nat) (q : Addr) (xs ys : List D), i ≠ j → ρ[i]? = some (some (Sl.own xs)) → ρ[j]? = some (some (Sl.own ys)) → σ[i]? = some (some (V.ref q)) → σ[j]? ≠ some (some (V.ref q))
section
variable {K : PySem.W.Frag} {B : Bx} {G H G1 H1 : Hp} {σ : L2.St} {ρ : Ro} {n m : Nat}
theorem EnvC.ext (e : EnvC K B G H σ ρ n) (x : Ext B.F G H G1 H1) (w : Wd B.F G1 H1 m) : EnvC K B G1 H1 σ ρ m := by
  refine ⟨w, e.x.trans x, e.len, fun i y h => ?_, fun i xs h => ?_, e.dis⟩
  · obtain ⟨v, h1, h2⟩ := e.d i y h
    exact ⟨v, h1, h2.mono x.g⟩
  · obtain ⟨q, vs, h1, h2, h3, h4, h5, h6⟩ := e.own i xs h
    refine ⟨q, vs, h1, x.to _ _ h2 (e.w.notfd h2), x.gx _ h3 (by rw [h2]; exact fun z => nomatch z), h4, h5.mono x.g, fun p c a l f e1 => ?_⟩
    obtain ⟨⟨c0, ns, a0, l0, g1, _⟩, _⟩ := e.w.fd p f
    obtain ⟨a', l', g2⟩ := x.fd p c0 a0 l0 f g1
    rw [g2] at e1
    rw [← fdK_inj (Option.some.inj e1)]
    exact h6 p c0 a0 l0 f g1
/-- a slot gets data -/
theorem EnvC.setD {i : Nat} {v : V} {x : D} (e : EnvC K B G H σ ρ n) (r : Rep K B.F G v x) : EnvC K B G H (σ.set i (some v)) (ρ.set i (some (Sl.d x))) n := by
  have e1 : ∀ (j : Nat) (y : Sl), (ρ.set i (some (Sl.d x)))[j]? = some (some y) → (i = j ∧ y = Sl.d x) ∨ (i ≠ j ∧ ρ[j]? = some (some y)) := fun j y h => by
    by_cases c : i = j
    · subst c
      rw [List.getElem?_set] at h
      simp only [if_true] at h
      split at h
      · exact .inl ⟨rfl, by cases h; rfl⟩
      · cases h
    · rw [List.getElem?_set_ne c] at h
      exact .inr ⟨c, h⟩
  refine ⟨e.w, e.x, by rw [List.length_set, List.length_set]; exact e.len, fun j y h => ?_, fun j xs h => ?_, fun j k q xs ys hjk h1 h2 => ?_⟩
  · rcases e1 j _ h with ⟨rfl, z⟩ | ⟨c, h'⟩
    · cases z
      refine ⟨v, ?_, r⟩
      rw [List.getElem?_set_self]
      have : i < (ρ.set i (some (Sl.d x))).length := (List.getElem?_eq_some_iff.mp h).1
      rw [List.length_set] at this
      rw [e.len]; exact this
    · rw [List.getElem?_set_ne c]; exact e.d j y h'
  · rcases e1 j _ h with ⟨rfl, z⟩ | ⟨c, h'⟩
    · cases z
    · rw [List.getElem?_set_ne c]; exact e.own j xs h'
  · rcases e1 j _ h1 with ⟨rfl, z⟩ | ⟨c, h1'⟩
    · cases z
    · rcases e1 k _ h2 with ⟨rfl, z⟩ | ⟨c', h2'⟩
      · cases z
      · rw [List.getElem?_set_ne c, List.getElem?_set_ne c']; exact e.dis j k q xs ys hjk h1' h2'
/-- a slot gets a list of one's own -/
theorem EnvC.setO {i : Nat} {q : Addr} {vs : List V} {xs : List D} (e : EnvC K B G H σ ρ n) (h1 : H q = some (.lst vs)) (h2 : G q = none) (h3 : B.H q = none) (h4 : RepL K B.F G vs xs) (h5 : ∀ p c a l, B.F = some p → H p = some (.dK (fdK c a l)) → q ≠ c)
    (h6 : ∀ (j : Nat) (ys : List D), j ≠ i → ρ[j]? = some (some (Sl.own ys)) → σ[j]? ≠ some (some (V.ref q))) : EnvC K B G H (σ.set i (some (V.ref q))) (ρ.set i (some (Sl.own xs))) n := by
  have e1 : ∀ (j : Nat) (y : Sl), (ρ.set i (some (Sl.own xs)))[j]? = some (some y) → (i = j ∧ y = Sl.own xs) ∨ (i ≠ j ∧ ρ[j]? = some (some y)) := fun j y h => by
    by_cases c : i = j
    · subst c
      rw [List.getElem?_set] at h
      simp only [if_true] at h
      split at h
      · exact .inl ⟨rfl, by cases h; rfl⟩
      · cases h
    · rw [List.getElem?_set_ne c] at h
      exact .inr ⟨c, h⟩
  refine ⟨e.w, e.x, by rw [List.length_set, List.length_set]; exact e.len, fun j y h => ?_, fun j ys h => ?_, fun j k q' xs' ys hjk k1 k2 k3 => ?_⟩
  · rcases e1 j _ h with ⟨rfl, z⟩ | ⟨c, h'⟩
    · cases z
    · rw [List.getElem?_set_ne c]; exact e.d j y h'
  · rcases e1 j _ h with ⟨rfl, z⟩ | ⟨c, h'⟩
    · cases z
      refine ⟨q, vs, ?_, h1, h2, h3, h4, h5⟩
      rw [List.getElem?_set_self]
      have : i < (ρ.set i (some (Sl.own xs))).length := (List.getElem?_eq_some_iff.mp h).1
      rw [List.length_set] at this
      rw [e.len]; exact this
    · rw [List.getElem?_set_ne c]; exact e.own j ys h'
  · rcases e1 j _ k1 with ⟨rfl, z⟩ | ⟨c, k1'⟩
    · rcases e1 k _ k2 with ⟨rfl, z2⟩ | ⟨c', k2'⟩
      · exact absurd rfl hjk
      · rw [List.getElem?_set_ne c']
        have hl : i < (ρ.set i (some (Sl.own xs))).length := (List.getElem?_eq_some_iff.mp k1).1
        rw [List.length_set, ← e.len] at hl
        rw [List.getElem?_set_self hl] at k3
        cases k3
        exact h6 k ys (Ne.symm c') k2'
    · rcases e1 k _ k2 with ⟨rfl, z2⟩ | ⟨c', k2'⟩
      · rw [List.getElem?_set_ne c] at k3
        have hl : i < (ρ.set i (some (Sl.own xs))).length := (List.getElem?_eq_some_iff.mp k2).1
        rw [List.length_set, ← e.len] at hl
        rw [List.getElem?_set_self hl]
        intro z
        cases z
        exact h6 j xs' (Ne.symm c) k1' k3
      · rw [List.getElem?_set_ne c] at k3
        rw [List.getElem?_set_ne c']
        exact e.dis j k q' xs' ys hjk k1' k2' k3
/-- a list made new: no slot's -/
theorem EnvC.apart {q : Addr} (e : EnvC K B G H σ ρ n) (h : H q = none) : ∀ (j : Nat) (ys : List D), ρ[j]? = some (some (Sl.own ys)) → σ[j]? ≠ some (some (V.ref q)) := fun j ys hj z => by
  obtain ⟨q', vs, h1, h2, _⟩ := e.own j ys hj
  rw [h1] at z
  cases z
  rw [h] at h2; cases h2
theorem EnvC.cells {q : Addr} (e : EnvC K B G H σ ρ n) (x : Ext B.F G H G1 H1) (h : H q = none) : ∀ p c a l, B.F = some p → H1 p = some (.dK (fdK c a l)) → q ≠ c := fun p c a l f e1 z => by
  obtain ⟨⟨c0, ns, a0, l0, g1, g2, _⟩, _⟩ := e.w.fd p f
  obtain ⟨a', l', g3⟩ := x.fd p c0 a0 l0 f g1
  rw [g3] at e1
  have := fdK_inj (Option.some.inj e1)
  rw [z, ← this, g2] at h
  cases h
/-- freeze a slot -/
def fzI (i : Nat) (ρ : Ro) : Ro := match ρ[i]? with
  | some (some (Sl.own xs)) => ρ.set i (some (Sl.d (.lst xs)))
  | _ => ρ
def fzs : List Nat → Ro → Ro
  | [], ρ => ρ
  | i :: r, ρ => fzs r (fzI i ρ)
theorem set_same {α : Type} {l : List α} {i : Nat} {x : α} (h : l[i]? = some x) : l.set i x = l := by
  apply List.ext_getElem?
  intro j
  by_cases c : i = j
  · subst c
    rw [List.getElem?_set_self (List.getElem?_eq_some_iff.mp h).1, h]
  · rw [List.getElem?_set_ne c]
theorem EnvC.freeze1 (e : EnvC K B G H σ ρ n) (i : Nat) : ∃ G1, EnvC K B G1 H σ (Dw.fzI i ρ) n ∧ Same G G1 := by
  unfold Dw.fzI
  split
  · rename_i xs h
    obtain ⟨q, vs, h1, h2, h3, h4, h5, h6⟩ := e.own i xs h
    have s : Same G (upd G q (.lst vs)) := new_to h3
    refine ⟨upd G q (.lst vs), ?_, s⟩
    have r : Rep K B.F (upd G q (.lst vs)) (.ref q) (.lst xs) := .lst upd_same (h5.mono s)
    have e1 : ∀ (j : Nat) (y : Sl), (ρ.set i (some (Sl.d (.lst xs))))[j]? = some (some y) → (i = j ∧ y = Sl.d (.lst xs)) ∨ (i ≠ j ∧ ρ[j]? = some (some y)) := fun j y h => by
      by_cases c : i = j
      · subst c
        rw [List.getElem?_set] at h
        simp only [if_true] at h
        split at h
        · exact .inl ⟨rfl, by cases h; rfl⟩
        · cases h
      · rw [List.getElem?_set_ne c] at h
        exact .inr ⟨c, h⟩
    refine ⟨e.w.freeze h2, e.x.freeze h4 h3, by rw [List.length_set]; exact e.len, fun j y hj => ?_, fun j ys hj => ?_, fun j k q' xs' ys hjk k1 k2 => ?_⟩
    · rcases e1 j _ hj with ⟨rfl, z⟩ | ⟨c, h'⟩
      · cases z
        exact ⟨_, h1, r⟩
      · obtain ⟨v, g1, g2⟩ := e.d j y h'
        exact ⟨v, g1, g2.mono s⟩
    · rcases e1 j _ hj with ⟨rfl, z⟩ | ⟨c, h'⟩
      · cases z
      · obtain ⟨q2, vs2, g1, g2, g3, g4, g5, g6⟩ := e.own j ys h'
        refine ⟨q2, vs2, g1, g2, ?_, g4, g5.mono s, g6⟩
        rw [upd_ne]
        · exact g3
        · intro z
          subst z
          exact e.dis i j q2 xs ys c h h' h1 g1
    · rcases e1 j _ k1 with ⟨rfl, z⟩ | ⟨c, k1'⟩
      · cases z
      · rcases e1 k _ k2 with ⟨rfl, z2⟩ | ⟨c', k2'⟩
        · cases z2
        · exact e.dis j k q' xs' ys hjk k1' k2'
  · exact ⟨G, e, Same.refl _⟩
theorem EnvC.freeze : ∀ (is : List Nat) {ρ : Ro} {G : Hp}, EnvC K B G H σ ρ n → ∃ G1, EnvC K B G1 H σ (fzs is ρ) n ∧ Same G G1
  | [], _, G, e => ⟨G, e, Same.refl _⟩
  | i :: r, _, _, e => by
    obtain ⟨G1, e1, s1⟩ := e.freeze1 i
    obtain ⟨G2, e2, s2⟩ := EnvC.freeze r e1
    exact ⟨G2, e2, s1.trans s2⟩
end
/-! ### exceptions: what is wished of them -/
/-- by the class, the own dict's address, slots and heap; by the class, the fields, the slots' data -/
structure ZX where
  E : WX
  Ed : Value → List (Str × D) → Ro → Nat → Prop
/-- the exception's own dict bears the fields -/
def XR (K : PySem.W.Frag) (F : Option Addr) (G : Hp) (dx : Option Addr) (fs : List (Str × D)) : Prop := (dx = none ∧ fs = []) ∨ ∃ dd fvs, dx = some dd ∧ G dd = some (.xd fvs) ∧ RepF K F G fvs fs
def Zk (K : PySem.W.Frag) (B : Bx) (Z : ZX) : Prop := ∀ c fs dx G H σ ρ n, EnvC K B G H σ ρ n → Z.Ed c fs ρ n → XR K B.F G dx fs → Z.E c dx σ H
structure EnvD (K : PySem.W.Frag) (Z : ZX) (B : Bx) (G H : Hp) (σ : L2.St) (ρ : Ro) (n : Nat) : Prop extends EnvC K B G H σ ρ n where
  z : Zk K B Z
section
variable {K : PySem.W.Frag} {Z : ZX} {B : Bx} {G H G1 H1 : Hp} {σ : L2.St} {ρ : Ro} {n m : Nat}
theorem EnvD.ext (e : EnvD K Z B G H σ ρ n) (x : Ext B.F G H G1 H1) (w : Wd B.F G1 H1 m) : EnvD K Z B G1 H1 σ ρ m := ⟨e.toEnvC.ext x w, e.z⟩
theorem EnvD.setD {i : Nat} {v : V} {x : D} (e : EnvD K Z B G H σ ρ n) (r : Rep K B.F G v x) : EnvD K Z B G H (σ.set i (some v)) (ρ.set i (some (Sl.d x))) n := ⟨e.toEnvC.setD r, e.z⟩
theorem EnvD.setO {i : Nat} {q : Addr} {vs : List V} {xs : List D} (e : EnvD K Z B G H σ ρ n) (h1 : H q = some (.lst vs)) (h2 : G q = none) (h3 : B.H q = none) (h4 : RepL K B.F G vs xs) (h5 : ∀ p c a l, B.F = some p → H p = some (.dK (fdK c a l)) → q ≠ c)
    (h6 : ∀ (j : Nat) (ys : List D), j ≠ i → ρ[j]? = some (some (Sl.own ys)) → σ[j]? ≠ some (some (V.ref q))) : EnvD K Z B G H (σ.set i (some (V.ref q))) (ρ.set i (some (Sl.own xs))) n := ⟨e.toEnvC.setO h1 h2 h3 h4 h5 h6, e.z⟩
theorem EnvD.apart {q : Addr} (e : EnvD K Z B G H σ ρ n) (h : H q = none) : ∀ (j : Nat) (ys : List D), ρ[j]? = some (some (Sl.own ys)) → σ[j]? ≠ some (some (V.ref q)) := e.toEnvC.apart h
theorem EnvD.cells {q : Addr} (e : EnvD K Z B G H σ ρ n) (x : Ext B.F G H G1 H1) (h : H q = none) : ∀ p c a l, B.F = some p → H1 p = some (.dK (fdK c a l)) → q ≠ c := e.toEnvC.cells x h
theorem EnvD.freeze (is : List Nat) {ρ : Ro} {G : Hp} (e : EnvD K Z B G H σ ρ n) : ∃ G1, EnvD K Z B G1 H σ (fzs is ρ) n ∧ Same G G1 := by
  obtain ⟨G1, e1, s⟩ := e.toEnvC.freeze is
  exact ⟨G1, ⟨e1, e.z⟩, s⟩
end
end Dw

/-! ### expressions by data -/
namespace Dw
open PySem PySem.Spec PyProof.Rows L2 Fw
abbrev QD := D → Nat → Prop
abbrev QL := List D → Nat → Prop
abbrev QB := Bool → Nat → Prop
abbrev TD := Ro → Nat → QD → Prop
abbrev TL := Ro → Nat → QL → Prop
abbrev TB := Ro → Nat → QB → Prop
/-- what the caller wishes, as what is wished of the data -/
def KD (K : PySem.W.Frag) (F : Option Addr) (G H : Hp) (Qd : QD) (Q : VK) : Prop := ∀ d n' v H' G', Qd d n' → Ext F G H G' H' → Wd F G' H' n' → Rep K F G' v d → Q v H'
def KL (K : PySem.W.Frag) (F : Option Addr) (G H : Hp) (Qd : QL) (Q : List V → Hp → Prop) : Prop := ∀ ds n' vs H' G', Qd ds n' → Ext F G H G' H' → Wd F G' H' n' → RepL K F G' vs ds → Q vs H'
/-- .. of a list made new, of one's own -/
def KO (K : PySem.W.Frag) (F : Option Addr) (G H : Hp) (Qd : QL) (Q : VK) : Prop := ∀ ds n' q vs H' G', Qd ds n' → Ext F G H G' H' → Wd F G' H' n' → H q = none → H' q = some (.lst vs) → G' q = none → RepL K F G' vs ds → Q (.ref q) H'
def KB (F : Option Addr) (G H : Hp) (Qd : QB) (Q : Bool → Hp → Prop) : Prop := ∀ b n' H', Qd b n' → Ext F G H G H' → Wd F G H' n' → Q b H'
def dl (K : PySem.W.Frag) (Z : ZX) (td : TD) : TE := fun σ H Q => ∃ B G ρ n Qd, EnvD K Z B G H σ ρ n ∧ td ρ n Qd ∧ KD K B.F G H Qd Q
def dla (K : PySem.W.Frag) (Z : ZX) (td : TL) : TA := fun σ H Q => ∃ B G ρ n Qd, EnvD K Z B G H σ ρ n ∧ td ρ n Qd ∧ KL K B.F G H Qd Q
def dlo (K : PySem.W.Frag) (Z : ZX) (td : TL) : TE := fun σ H Q => ∃ B G ρ n Qd, EnvD K Z B G H σ ρ n ∧ td ρ n Qd ∧ KO K B.F G H Qd Q
def dlt (K : PySem.W.Frag) (Z : ZX) (td : TB) : TT := fun σ H Q => ∃ B G ρ n Qd, EnvD K Z B G H σ ρ n ∧ td ρ n Qd ∧ KB B.F G H Qd Q
structure DE (X : Cx) (Z : ZX) (e : Expr) (td : TD) : Prop where
  pe : PE X e (dl X.K Z td)
structure DA (X : Cx) (Z : ZX) (es : List Expr) (td : TL) : Prop where
  pa : PA X es (dla X.K Z td)
structure DO (X : Cx) (Z : ZX) (e : Expr) (td : TL) : Prop where
  pe : PE X e (dlo X.K Z td)
structure DT (X : Cx) (Z : ZX) (e : Expr) (td : TB) : Prop where
  pt : PT X e (dlt X.K Z td)
structure DW (X : Cx) (Z : ZX) (e : Expr) (td : TB) : Prop where
  pw : PW X e (dlt X.K Z td)
section
variable {X : Cx} {Z : ZX} {e : Expr} {es : List Expr}
theorem pe_imp {t t' : TE} (h : PE X e t) (i : ∀ σ H Q, t' σ H Q → t σ H Q) : PE X e t' := ⟨fun pins s σ H Q I q => h.run pins s σ H Q I (i σ H Q q)⟩
theorem pt_imp {t t' : TT} (h : PT X e t) (i : ∀ σ H Q, t' σ H Q → t σ H Q) : PT X e t' := ⟨fun pins s σ H Q I q => h.run pins s σ H Q I (i σ H Q q)⟩
theorem pw_imp {t t' : TT} (h : PW X e t) (i : ∀ σ H Q, t' σ H Q → t σ H Q) : PW X e t' := ⟨fun w pins s σ H Q I q => h.run w pins s σ H Q I (i σ H Q q)⟩
theorem pa_imp {t t' : TA} (h : PA X es t) (i : ∀ σ H Q, t' σ H Q → t σ H Q) : PA X es t' := ⟨fun pos pins s σ H Q I q => h.run pos pins s σ H Q I (i σ H Q q)⟩
end
section
variable {K : PySem.W.Frag} {F : Option Addr} {G H G1 H1 : Hp} {n : Nat} {Qd : QD} {Q : VK}
theorem KD.here {d : D} {v : V} (k : KD K F G H Qd Q) (h : Qd d n) (w : Wd F G H n) (r : Rep K F G v d) : Q v H := k d n v H G h Ext.refl w r
theorem KD.trans (k : KD K F G H Qd Q) (x : Ext F G H G1 H1) : KD K F G1 H1 Qd Q := fun d n v H' G' h x' w r => k d n v H' G' h (x.trans x') w r
/-- a new object that is shared -/
theorem KD.new {d : D} {q : Addr} {o : HO} (k : KD K F G H Qd Q) (h : Qd d n) (w : Wd F G H n) (hq : H q = none) (r : Rep K F (upd G q o) (.ref q) d) : Q (.ref q) (upd H q o) :=
  k d n _ _ _ h (Ext.share hq (w.free hq)) (w.share hq) r
end
/-- two ways -/
def br (b : Bool) (p q : Prop) : Prop := (b = true → p) ∧ (b = false → q)
def dC (d : D) : TD := fun _ n Q => Q d n
def dVar (i : Nat) : TD := fun ρ n Q => match ρ[i]? with
  | some (some (.d x)) => Q x n
  | _ => False
section
variable {X : Cx} {Z : ZX} {e a b c : Expr} {es rest : List Expr} {pos : Pos} {ta tb tc : TD} {tl : TL}
theorem de_c {v : V} {d : D} (h : PE X e (tC v)) (r : ∀ K F G, Rep K F G v d) : DE X Z e (dC d) := ⟨pe_imp h fun σ H Q ⟨B, G, ρ, n, Qd, env, q, k⟩ => k.here q env.w (r _ _ _)⟩
theorem de_int {i : Int} {j pos} : DE X Z (.Constant (.int i) j pos) (dC (.int i)) := de_c pe_int fun _ _ _ => .int i
theorem de_bl {b j pos} : DE X Z (.Constant (.bool b) j pos) (dC (.bl b)) := de_c pe_bl fun _ _ _ => .bl b
theorem de_non {j pos} : DE X Z (.Constant .none j pos) (dC .non) := de_c pe_non fun _ _ _ => .non
theorem de_str {x j pos} : DE X Z (.Constant (.str x) j pos) (dC (.str x)) := de_c pe_str fun _ _ _ => .str x
/-- a name of the module that holds a number, a text; anything else -/
theorem de_gint {x : Str} {pos : Pos} {i : Int} (hg : Gl X x) (hm : ∃ t, X.mg x = some (.int i t)) (hdb : (x == ("__debug__" : Str)) = false := by decide) : DE X Z (.Name x pos) (dC (.int i)) := by
  obtain ⟨t, hm⟩ := hm
  exact de_c (pe_glob (v := .int i) hg hm ⟨t, rfl⟩ hdb) fun _ _ _ => .int i
theorem de_gstr {x : Str} {pos : Pos} {i : Str} (hg : Gl X x) (hm : ∃ t, X.mg x = some (.str i t)) (hdb : (x == ("__debug__" : Str)) = false := by decide) : DE X Z (.Name x pos) (dC (.str i)) := by
  obtain ⟨t, hm⟩ := hm
  exact de_c (pe_glob (v := .str i) hg hm ⟨t, rfl⟩ hdb) fun _ _ _ => .str i
theorem de_gval {x : Str} {pos : Pos} {a : Addr} (hg : Gl X x) (hm : X.mg x = some (.ref a)) (hdb : (x == ("__debug__" : Str)) = false := by decide) : DE X Z (.Name x pos) (dC (.val (.ref a))) :=
  de_c (pe_glob (v := .ref a) hg hm rfl hdb) fun _ _ _ => .val _
theorem de_gty {x : Str} {pos : Pos} {T : String} (hg : Gl X x) (hm : X.mg x = none) (hv : bootBuiltins x = some (.type T)) (hn : x ≠ "__name__" := by decide) (hdb : (x == ("__debug__" : Str)) = false := by decide) : DE X Z (.Name x pos) (dC (.val (.ty T))) :=
  de_c (pe_bltn (v := .ty T) (u := .type T) hg hm hv rfl hn hdb) fun _ _ _ => .val _
theorem dv (i : Nat) {x : Str} {pos : Pos} (hN : X.N[i]? = some x := by rfl) (hv : Vis X.env.scope x := by first | exact Or.inl rfl | exact Or.inr (Or.inl rfl) | exact Or.inr (Or.inr rfl)) (hd : (x == ("__debug__" : Str)) = false := by decide)
    (hcd : (x == ("__classdict__" : Str)) = false := by decide) : DE X Z (.Name x pos) (dVar i) := by
  refine ⟨pe_imp (pv i hN hv hd hcd) fun σ H Q ⟨B, G, ρ, n, Qd, env, q, k⟩ => ?_⟩
  unfold dVar at q
  split at q
  · rename_i y h
    obtain ⟨v, h1, h2⟩ := env.d i y h
    exact ⟨v, h1, k.here q env.w h2⟩
  · exact q.elim
/-! two operands -/
abbrev RD2 := D → D → Nat → QD → Prop
def d2 (rd : RD2) (ta tb : TD) : TD := fun ρ n Q => ta ρ n fun x n1 => tb ρ n1 fun y n2 => rd x y n2 Q
def Cv2 (K : PySem.W.Frag) (r : R2) (rd : RD2) : Prop := ∀ F G H n x y dx dy Qd (Q : VK), Wd F G H n → Rep K F G x dx → Rep K F G y dy → rd dx dy n Qd → KD K F G H Qd Q → r x y H Q
theorem dl2 {K : PySem.W.Frag} {r : R2} {rd : RD2} (cv : Cv2 K r rd) {σ : L2.St} {H : Hp} {Q : VK} (h : dl K Z (d2 rd ta tb) σ H Q) : tOp r (dl K Z ta) (dl K Z tb) σ H Q := by
  obtain ⟨B, G, ρ, n, Qd, env, q, k⟩ := h
  refine ⟨B, G, ρ, n, _, env, q, fun dx n1 v H1 G1 q1 x1 w1 r1 => ?_⟩
  refine ⟨B, G1, ρ, n1, _, env.ext x1 w1, q1, fun dy n2 u H2 G2 q2 x2 w2 r2 => ?_⟩
  exact cv B.F G2 H2 n2 v u dx dy Qd Q w2 (r1.mono x2.g) r2 q2 (k.trans (x1.trans x2))
theorem de_op {op : Operator} {r : R2} {rd : RD2} (ho : OpR X (binaryOp op) r) (cv : Cv2 X.K r rd) (ha : DE X Z a ta) (hb : DE X Z b tb) : DE X Z (.BinOp a op b pos) (d2 rd ta tb) :=
  ⟨pe_imp (pe_op ho ha.pe hb.pe) fun _ _ _ => dl2 cv⟩
theorem de_cmp {op : CmpOp} {r : R2} {rd : RD2} (ho : OpR X (compareOp op) r) (cv : Cv2 X.K r rd) (ha : DE X Z a ta) (hb : DE X Z b tb) (hm : behindInMarks op b = false) : DE X Z (.Compare a [op] [b] pos) (d2 rd ta tb) :=
  ⟨pe_imp (pe_cmpR ho ha.pe hb.pe hm) fun _ _ _ => dl2 cv⟩
theorem Cv2.or {K : PySem.W.Frag} {r r' : R2} {rd rd' rd2 : RD2} (h : Cv2 K r rd) (h' : Cv2 K r' rd') (z : ∀ x y n Q, rd2 x y n Q → rd x y n Q ∨ rd' x y n Q) : Cv2 K (fun x y H Q => r x y H Q ∨ r' x y H Q) rd2 :=
  fun F G H n x y dx dy Qd Q w rx ry q k => (z _ _ _ _ q).elim (fun q => .inl (h F G H n x y dx dy Qd Q w rx ry q k)) fun q => .inr (h' F G H n x y dx dy Qd Q w rx ry q k)
/-! + -/
def dAdd : RD2
  | .int i, .int j, n, Q => Q (.int (i + j)) n
  | .str s, .str t, n, Q => s.length + t.length ≤ sizeLine ∧ Q (.str (s ++ t)) n
  | .lst xs, .lst ys, n, Q => xs.length + ys.length ≤ sizeLine ∧ Q (.lst (xs ++ ys)) n
  | .tup xs, .tup ys, n, Q => xs.length + ys.length ≤ sizeLine ∧ Q (.tup (xs ++ ys)) n
  | _, _, _, _ => False
theorem cv_add {K : PySem.W.Frag} : Cv2 K (fun x y H Q => rI0 (fun i j => .int (i + j)) x y H Q ∨ (∃ i j, x = .str i ∧ y = .str j ∧ i.length + j.length ≤ sizeLine ∧ Q (.str (i ++ j)) H) ∨ rCat x y H Q ∨ rCatA K x y H Q) dAdd := by
  intro F G H n x y dx dy Qd Q w rx ry q k
  unfold dAdd at q
  split at q
  · cases rx; cases ry
    exact .inl ⟨_, _, rfl, rfl, k.here q w (.int _)⟩
  · cases rx; cases ry
    exact .inr (.inl ⟨_, _, rfl, rfl, q.1, k.here q.2 w (.str _)⟩)
  · cases rx with | lst h1 r1 => cases ry with | lst h2 r2 =>
    refine .inr (.inr (.inl ⟨_, _, _, _, rfl, rfl, w.sub _ _ h1, w.sub _ _ h2, by rw [r1.length, r2.length]; exact q.1, fun p hp => k.new q.2 w hp ?_⟩))
    exact .lst upd_same ((r1.append r2).mono (new_to (w.free hp)))
  · cases rx with | tup h1 r1 => cases ry with | tup h2 r2 =>
    refine .inr (.inr (.inr ⟨_, _, _, _, rfl, rfl, sqT_same w.sub h1, sqT_same w.sub h2, by rw [r1.length, r2.length]; exact q.1, fun e => ?_, fun e1 e2 => ?_, fun e1 e2 p hp => ?_⟩))
    · subst e
      cases r1
      exact k.here q.2 w (.tup h2 r2)
    · subst e2
      cases r2
      rw [List.append_nil] at q
      exact k.here q.2 w (.tup h1 r1)
    · exact k.new q.2 w hp (.tup (SqT.of upd_same) ((r1.append r2).mono (new_to (w.free hp))))
  · exact q.elim
theorem de_add (ha : DE X Z a ta) (hb : DE X Z b tb) : DE X Z (.BinOp a .Add b pos) (d2 dAdd ta tb) := de_op (OpR.or op_add (OpR.or op_add_str (OpR.or op_cat op_catA))) cv_add ha hb
/-! - * // % ** -/
def dInt (C : Int → Int → Prop) (f : Int → Int → Int) : RD2
  | .int i, .int j, n, Q => C i j ∧ Q (.int (f i j)) n
  | _, _, _, _ => False
theorem cv_int {K : PySem.W.Frag} {C : Int → Int → Prop} {f : Int → Int → Int} : Cv2 K (rI C fun i j => .int (f i j)) (dInt C f) := by
  intro F G H n x y dx dy Qd Q w rx ry q k
  unfold dInt at q
  split at q
  · cases rx; cases ry
    exact ⟨_, _, rfl, rfl, q.1, k.here q.2 w (.int _)⟩
  · exact q.elim
def dSub : RD2
  | .int i, .int j, n, Q => Q (.int (i - j)) n
  | _, _, _, _ => False
theorem de_sub (ha : DE X Z a ta) (hb : DE X Z b tb) : DE X Z (.BinOp a .Sub b pos) (d2 dSub ta tb) := de_op op_sub (by
  intro F G H n x y dx dy Qd Q w rx ry q k
  unfold dSub at q
  split at q
  · cases rx; cases ry
    exact ⟨_, _, rfl, rfl, k.here q w (.int _)⟩
  · exact q.elim) ha hb
def dFdv : RD2 := dInt CDivA Int.fdiv
def dMod : RD2 := dInt (fun _ j => j ≠ 0) Int.fmod
def dPow : RD2 := dInt CPow fun i j => i ^ j.toNat
theorem de_fdiv (ha : DE X Z a ta) (hb : DE X Z b tb) : DE X Z (.BinOp a .FloorDiv b pos) (d2 dFdv ta tb) := de_op op_fdivA cv_int ha hb
theorem de_mod (ha : DE X Z a ta) (hb : DE X Z b tb) : DE X Z (.BinOp a .Mod b pos) (d2 dMod ta tb) := de_op op_modN cv_int ha hb
theorem de_pow (ha : DE X Z a ta) (hb : DE X Z b tb) : DE X Z (.BinOp a .Pow b pos) (d2 dPow ta tb) := de_op op_pow cv_int ha hb
def dMul : RD2
  | .int i, .int j, n, Q => CMulW i j ∧ Q (.int (i * j)) n
  | .str s, .int j, n, Q => (-(2 ^ 62) ≤ j ∧ j < 2 ^ 62) ∧ j.toNat * s.length ≤ sizeLine ∧ Q (.str (mulS s j)) n
  | .lst xs, .int j, n, Q => -(2 ^ 63) ≤ j ∧ j < 2 ^ 63 ∧ xs.length * j.toNat ≤ sizeLine ∧ Q (.lst (List.replicate j.toNat xs).flatten) n
  | .tup xs, .int j, n, Q => xs ≠ [] ∧ 2 ≤ j ∧ j ≤ 1000 ∧ xs.length ≤ 1000 ∧ Q (.tup (List.replicate j.toNat xs).flatten) n
  | _, _, _, _ => False
theorem RepL.rep {K : PySem.W.Frag} {F : Option Addr} {G : Hp} {vs : List V} {ds : List D} (r : RepL K F G vs ds) : ∀ k : Nat, RepL K F G (List.replicate k vs).flatten (List.replicate k ds).flatten
  | 0 => .nil
  | k + 1 => by
    rw [List.replicate_succ, List.replicate_succ, List.flatten_cons, List.flatten_cons]
    exact r.append (RepL.rep r k)
theorem cv_mul {K : PySem.W.Frag} : Cv2 K (fun x y H Q => rI CMulW (fun i j => .int (i * j)) x y H Q ∨ (∃ (z : Str) (n : Int), x = .str z ∧ y = .int n ∧ (-(2 ^ 62) ≤ n ∧ n < 2 ^ 62) ∧ n.toNat * z.length ≤ sizeLine ∧ Q (.str (mulS z n)) H) ∨ rRep x y H Q ∨ rRepT K x y H Q) dMul := by
  intro F G H n x y dx dy Qd Q w rx ry q k
  unfold dMul at q
  split at q
  · cases rx; cases ry
    exact .inl ⟨_, _, rfl, rfl, q.1, k.here q.2 w (.int _)⟩
  · cases rx; cases ry
    exact .inr (.inl ⟨_, _, rfl, rfl, q.1, q.2.1, k.here q.2.2 w (.str _)⟩)
  · cases rx with | lst h1 r1 => cases ry with | int _ =>
    refine .inr (.inr (.inl ⟨_, _, _, rfl, rfl, w.sub _ _ h1, q.1, q.2.1, by rw [r1.length]; exact q.2.2.1, fun p hp => k.new q.2.2.2 w hp ?_⟩))
    exact .lst upd_same ((r1.rep _).mono (new_to (w.free hp)))
  · cases rx with | tup h1 r1 => cases ry with | int _ =>
    refine .inr (.inr (.inr ⟨_, _, _, rfl, rfl, sqT_same w.sub h1, fun z => ?_, q.2.1, q.2.2.1, by rw [r1.length]; exact q.2.2.2.1, fun p hp => k.new q.2.2.2.2 w hp ?_⟩))
    · subst z
      cases r1
      exact q.1 rfl
    · exact .tup (SqT.of upd_same) ((r1.rep _).mono (new_to (w.free hp)))
  · exact q.elim
theorem de_mul (ha : DE X Z a ta) (hb : DE X Z b tb) : DE X Z (.BinOp a .Mult b pos) (d2 dMul ta tb) := de_op (OpR.or op_mulW (OpR.or op_mul_str (OpR.or op_rep op_repT))) cv_mul ha hb
def dNeg : D → Nat → QD → Prop
  | .int i, n, Q => Q (.int (-i)) n
  | _, _, _ => False
def d1 (rd : D → Nat → QD → Prop) (ta : TD) : TD := fun ρ n Q => ta ρ n fun x n1 => rd x n1 Q
theorem de_neg (ha : DE X Z a ta) : DE X Z (.UnaryOp .USub a pos) (d1 dNeg ta) := ⟨pe_imp (pe_un un_neg ha.pe) fun σ H Q ⟨B, G, ρ, n, Qd, env, q, k⟩ => ⟨B, G, ρ, n, _, env, q, fun d n1 v H1 G1 q1 x1 w1 r1 => by
  unfold dNeg at q1
  split at q1
  · cases r1
    exact ⟨_, rfl, (k.trans x1).here q1 w1 (.int _)⟩
  · exact q1.elim⟩⟩
/-! comparisons -/
def dLess (f : Int → Int → Bool) (g : Str → Str → Bool) : RD2
  | .int i, .int j, n, Q => Q (.bl (f i j)) n
  | .str s, .str t, n, Q => Q (.bl (g s t)) n
  | _, _, _, _ => False
theorem cv_less {K : PySem.W.Frag} {f : Int → Int → Bool} {g : Str → Str → Bool} : Cv2 K (fun x y H Q => rI0 (fun i j => .bl (f i j)) x y H Q ∨ ∃ i j, x = .str i ∧ y = .str j ∧ Q (.bl (g i j)) H) (dLess f g) := by
  intro F G H n x y dx dy Qd Q w rx ry q k
  unfold dLess at q
  split at q
  · cases rx; cases ry
    exact .inl ⟨_, _, rfl, rfl, k.here q w (.bl _)⟩
  · cases rx; cases ry
    exact .inr ⟨_, _, rfl, rfl, k.here q w (.bl _)⟩
  · exact q.elim
abbrev ltS (s t : Str) : Bool := decide (s.cps.toList < t.cps.toList)
def dLt : RD2 := dLess (fun i j => decide (i < j)) fun s t => ltS s t
def dLe : RD2 := dLess (fun i j => decide (i ≤ j)) fun s t => !ltS t s
def dGt : RD2 := dLess (fun i j => decide (j < i)) fun s t => ltS t s
def dGe : RD2 := dLess (fun i j => decide (j ≤ i)) fun s t => !ltS s t
theorem de_lt (ha : DE X Z a ta) (hb : DE X Z b tb) : DE X Z (.Compare a [.Lt] [b] pos) (d2 dLt ta tb) := de_cmp (OpR.or op_lt op_lt_str) cv_less ha hb (nomark _)
theorem de_le (ha : DE X Z a ta) (hb : DE X Z b tb) : DE X Z (.Compare a [.LtE] [b] pos) (d2 dLe ta tb) := de_cmp (OpR.or op_le op_le_str) cv_less ha hb (nomark _)
theorem de_gt (ha : DE X Z a ta) (hb : DE X Z b tb) : DE X Z (.Compare a [.Gt] [b] pos) (d2 dGt ta tb) := de_cmp (OpR.or op_gt op_gt_str) cv_less ha hb (nomark _)
theorem de_ge (ha : DE X Z a ta) (hb : DE X Z b tb) : DE X Z (.Compare a [.GtE] [b] pos) (d2 dGe ta tb) := de_cmp (OpR.or op_ge op_ge_str) cv_less ha hb (nomark _)
/-! a < b < c -/
def dChain (r r' : RD2) (ta tb tc : TD) : TD := fun ρ n Q => ta ρ n fun x n1 => tb ρ n1 fun y n2 => r x y n2 fun z n3 => match z with
  | .bl k => br k (tc ρ n3 fun w n4 => r' y w n4 Q) (Q (.bl false) n3)
  | _ => False
theorem de_chain {op op' : CmpOp} {r r' : R2} {rd rd' : RD2} (ho : OpR X (compareOp op) r) (cv : Cv2 X.K r rd) (ho' : OpR X (compareOp op') r') (cv' : Cv2 X.K r' rd') (ha : DE X Z a ta) (hb : DE X Z b tb) (hc : DE X Z c tc)
    (hm : lastMarks [op, op'] [b, c] = false := by rfl) : DE X Z (.Compare a [op, op'] [b, c] pos) (dChain rd rd' ta tb tc) := ⟨pe_imp (pe_chain ho ho' ha.pe hb.pe hc.pe hm) fun σ H Q ⟨B, G, ρ, n, Qd, env, q, k⟩ => by
  refine ⟨B, G, ρ, n, _, env, q, fun dx n1 v H1 G1 q1 x1 w1 r1 => ?_⟩
  refine ⟨B, G1, ρ, n1, _, env.ext x1 w1, q1, fun dy n2 u H2 G2 q2 x2 w2 r2 => ?_⟩
  refine cv B.F G2 H2 n2 v u dx dy _ _ w2 (r1.mono x2.g) r2 q2 fun dz n3 z H3 G3 q3 x3 w3 r3 => ?_
  split at q3
  · rename_i k0
    cases r3
    cases k0 with
    | false => exact ⟨_, rfl, iteF ((k.trans ((x1.trans x2).trans x3)).here (q3.2 rfl) w3 (.bl _))⟩
    | true =>
    refine ⟨_, rfl, iteT ?_⟩
    replace q3 := q3.1 rfl
    refine ⟨B, G3, ρ, n3, _, ((env.ext x1 w1).ext x2 w2).ext x3 w3, q3, fun dw n4 w' H4 G4 q4 x4 w4 r4 => ?_⟩
    exact cv' B.F G4 H4 n4 u w' dy dw Qd Q w4 ((r2.mono x3.g).mono x4.g) r4 q4 (k.trans (((x1.trans x2).trans x3).trans x4))
  · exact q3.elim⟩
end
end Dw

namespace Dw
open PySem PySem.Spec PyProof.Rows L2 Fw
mutual
/-- plain data -/
def D.py : D → PyData
  | .non => .none | .bl b => .bool b | .int i => .int i | .str s => .str s | .tup l => .tuple (pyL l) | .lst l => .list (pyL l) | _ => .none
def pyL : List D → List PyData
  | [] => [] | d :: r => D.py d :: pyL r
end
mutual
/-- plain data, at most k deep -/
def dpt : Nat → D → Bool
  | _, .non => true | _, .bl _ => true | _, .int _ => true | _, .str s => PyData.strOk s | k + 1, .tup l => dptL k l | k + 1, .lst l => dptL k l | _, _ => false
def dptL : Nat → List D → Bool
  | _, [] => true | k, d :: r => dpt k d && dptL k r
end
theorem dptL_all (k : Nat) : ∀ l : List D, dptL k l = l.all (dpt k)
  | [] => by simp [dptL]
  | d :: r => by rw [dptL, List.all_cons, dptL_all k r]
def eqD (x y : D) : Bool := PyData.eqv x.py y.py
section
variable {K : PySem.W.Frag} {F : Option Addr} {H : Hp}
mutual
theorem Rep.dp : ∀ {v : V} {x : D} {k : Nat}, Rep K F H v x → dpt k x = true → Dp K H v x.py
  | _, _, _, .non, _ => by rw [D.py]; exact .non
  | _, _, _, .bl b, _ => by rw [D.py]; exact .bl b
  | _, _, _, .int i, _ => by rw [D.py]; exact .int i
  | _, _, _, .str s, _ => by rw [D.py]; exact .str s
  | _, _, k + 1, .tup h r, e => by rw [D.py]; rw [dpt] at e; exact .tup h (RepL.dp r e)
  | _, _, 0, .tup h r, e => by simp [dpt] at e
  | _, _, k + 1, .lst h r, e => by rw [D.py]; rw [dpt] at e; exact .lst (SqL.of h) (RepL.dp r e)
  | _, _, 0, .lst h r, e => by simp [dpt] at e
  | _, _, k, .obj _ _, e => by cases k <;> simp [dpt] at e
  | _, _, k, .exc _ _, e => by cases k <;> simp [dpt] at e
  | _, _, k, .feed _, e => by cases k <;> simp [dpt] at e
  | _, _, k, .scr _, e => by cases k <;> simp [dpt] at e
  | _, _, k, .val _, e => by cases k <;> simp [dpt] at e
theorem RepL.dp : ∀ {vs : List V} {xs : List D} {k : Nat}, RepL K F H vs xs → dptL k xs = true → DpAll K H vs (pyL xs)
  | _, _, _, .nil, _ => by rw [pyL]; exact .nil
  | _, _, k, .cons h r, e => by
    rw [dptL, Bool.and_eq_true] at e
    rw [pyL]
    exact .cons (Rep.dp h e.1) (RepL.dp r e.2)
end
end
mutual
theorem dpt_lay : ∀ (k : Nat) (x : D), dpt k x = true → PyData.canLay0 x.py = true ∧ PyData.depth x.py ≤ k
  | k, .non, _ => by rw [D.py]; exact ⟨rfl, Nat.zero_le _⟩
  | k, .bl b, _ => by rw [D.py]; exact ⟨rfl, Nat.zero_le _⟩
  | k, .int i, _ => by rw [D.py]; exact ⟨rfl, Nat.zero_le _⟩
  | k, .str s, e => by
    rw [D.py]
    have e' : PyData.strOk s = true := by cases k <;> simpa [dpt] using e
    exact ⟨e', Nat.zero_le _⟩
  | k + 1, .tup l, e => by
    rw [dpt] at e
    rw [D.py]
    obtain ⟨h1, h2⟩ := dptL_lay k l e
    exact ⟨h1, Nat.succ_le_succ h2⟩
  | 0, .tup l, e => by simp [dpt] at e
  | k + 1, .lst l, e => by
    rw [dpt] at e
    rw [D.py]
    obtain ⟨h1, h2⟩ := dptL_lay k l e
    exact ⟨h1, Nat.succ_le_succ h2⟩
  | 0, .lst l, e => by simp [dpt] at e
  | k, .obj _ _, e => by cases k <;> simp [dpt] at e
  | k, .exc _ _, e => by cases k <;> simp [dpt] at e
  | k, .feed, e => by cases k <;> simp [dpt] at e
  | k, .scr _, e => by cases k <;> simp [dpt] at e
  | k, .val _, e => by cases k <;> simp [dpt] at e
theorem dptL_lay : ∀ (k : Nat) (xs : List D), dptL k xs = true → PyData.canLayAll0 (pyL xs) = true ∧ PyData.depthAll (pyL xs) ≤ k
  | k, [], _ => by rw [pyL]; exact ⟨rfl, Nat.zero_le _⟩
  | k, x :: r, e => by
    rw [dptL, Bool.and_eq_true] at e
    obtain ⟨h1, h2⟩ := dpt_lay k x e.1
    obtain ⟨h3, h4⟩ := dptL_lay k r e.2
    rw [pyL]
    refine ⟨?_, ?_⟩
    · show (PyData.canLay0 x.py && PyData.canLayAll0 (pyL r)) = true
      rw [h1, h3]; rfl
    · show max (PyData.depth x.py) (PyData.depthAll (pyL r)) ≤ k
      omega
end
theorem dpt_shaped {x : D} (h : dpt 60 x = true) : SeqAt.shaped x.py = true := by
  obtain ⟨h1, h2⟩ := dpt_lay 60 x h
  unfold SeqAt.shaped
  rw [h1, decide_eq_true (by omega)]; rfl
section
variable {X : Cx} {Z : ZX} {e a b c : Expr} {es rest : List Expr} {pos : Pos} {ta tb tc : TD} {tl : TL} {K : PySem.W.Frag}
/-! == != -/
def dEqB (f : Bool → Bool) : RD2
  | .int i, .int j, n, Q => Q (.bl (f (decide (i = j)))) n
  | .str s, .str t, n, Q => Q (.bl (f (decide (s = t)))) n
  | .bl a, .bl b, n, Q => Q (.bl (f (decide (a = b)))) n
  | x, y, n, Q => dpt 60 x = true ∧ dpt 60 y = true ∧ Q (.bl (f (eqD x y))) n
def dEq : RD2 := dEqB fun b => b
def dNe : RD2 := dEqB fun b => !b
theorem cv_eq (f : Bool → Bool) : Cv2 K (fun x y H Q => (scal x y = true ∧ Q (.bl (f (decide (x = y)))) H) ∨ ∃ d e, Dp K H x d ∧ Dp K H y e ∧ SeqAt.shaped d = true ∧ SeqAt.shaped e = true ∧ Q (.bl (f (PyData.eqv d e))) H) (dEqB f) := by
  intro F G H n x y dx dy Qd Q w rx ry q k
  unfold dEqB at q
  split at q
  · cases rx; cases ry
    refine .inl ⟨rfl, ?_⟩
    have e : ∀ i j : Int, decide (V.int i = V.int j) = decide (i = j) := fun i j => by rw [dec_int]; by_cases h : i = j <;> simp [h]
    rw [e]
    exact k.here q w (.bl _)
  · cases rx; cases ry
    refine .inl ⟨rfl, ?_⟩
    have e : ∀ i j : Str, decide (V.str i = V.str j) = decide (i = j) := fun i j => by rw [dec_str]; by_cases h : i = j <;> simp [h]
    rw [e]
    exact k.here q w (.bl _)
  · cases rx; cases ry
    refine .inl ⟨rfl, ?_⟩
    have e : ∀ i j : Bool, decide (V.bl i = V.bl j) = decide (i = j) := fun i j => by cases i <;> cases j <;> rfl
    rw [e]
    exact k.here q w (.bl _)
  · exact .inr ⟨_, _, (rx.mono w.sub).dp q.1, (ry.mono w.sub).dp q.2.1, dpt_shaped q.1, dpt_shaped q.2.1, k.here q.2.2 w (.bl _)⟩
theorem de_eq (hu : X.A.units + 64 < cLine) (ha : DE X Z a ta) (hb : DE X Z b tb) : DE X Z (.Compare a [.Eq] [b] pos) (d2 dEq ta tb) := de_cmp (OpR.or op_eq (op_eqD hu)) (cv_eq fun b => b) ha hb (nomark _)
theorem de_ne (hu : X.A.units + 64 < cLine) (ha : DE X Z a ta) (hb : DE X Z b tb) : DE X Z (.Compare a [.NotEq] [b] pos) (d2 dNe ta tb) := de_cmp (OpR.or op_ne (op_neD hu)) (cv_eq fun b => !b) ha hb (nomark _)
/-! is None -/
def dIsB (f : Bool → Bool) : RD2
  | .val _, _, _, _ => False
  | .non, .non, n, Q => Q (.bl (f true)) n
  | _, .non, n, Q => Q (.bl (f false)) n
  | _, _, _, _ => False
def dIs : RD2 := dIsB fun b => b
def dIsnt : RD2 := dIsB fun b => !b
theorem cv_is (f : Bool → Bool) : Cv2 K (fun x y H Q => y = .non ∧ Q (.bl (f (decide (x = .non)))) H) (dIsB f) := by
  intro F G H n x y dx dy Qd Q w rx ry q k
  unfold dIsB at q
  split at q
  · exact q.elim
  · cases rx; cases ry
    exact ⟨rfl, k.here q w (.bl _)⟩
  · rename_i h1 h2
    cases ry
    refine ⟨rfl, ?_⟩
    have e : decide (x = V.non) = false := by
      apply decide_eq_false
      intro z
      subst z
      cases rx with
      | non => exact h2 rfl
      | val => exact h1 _ rfl
    rw [e]
    exact k.here q w (.bl _)
  · exact q.elim
theorem de_is (ha : DE X Z a ta) (hb : DE X Z b tb) : DE X Z (.Compare a [.Is] [b] pos) (d2 dIs ta tb) := de_cmp op_isN (cv_is fun b => b) ha hb (nomark _)
theorem de_isnt (ha : DE X Z a ta) (hb : DE X Z b tb) : DE X Z (.Compare a [.IsNot] [b] pos) (d2 dIsnt ta tb) := de_cmp op_notN (cv_is fun b => !b) ha hb (nomark _)
/-! and, or, not, if: values -/
def dAndV (ta tb : TD) : TD := fun ρ n Q => ta ρ n fun x n1 => match x with
  | .bl k => br k (tb ρ n1 Q) (Q (.bl false) n1)
  | _ => False
def dOrV (ta tb : TD) : TD := fun ρ n Q => ta ρ n fun x n1 => match x with
  | .bl k => br k (Q (.bl true) n1) (tb ρ n1 Q)
  | _ => False
def dNotV (ta : TD) : TD := fun ρ n Q => ta ρ n fun x n1 => match x with
  | .bl b => Q (.bl (!b)) n1
  | _ => False
theorem de_one {op : BoolOp} (ha : DE X Z a ta) : DE X Z (.BoolOp op [a] pos) ta := ⟨pe_one ha.pe⟩
theorem de_and (ha : DE X Z a ta) (hb : DE X Z (.BoolOp .And (b :: rest) pos) tb) : DE X Z (.BoolOp .And (a :: b :: rest) pos) (dAndV ta tb) := ⟨pe_imp (pe_and ha.pe hb.pe) fun σ H Q ⟨B, G, ρ, n, Qd, env, q, k⟩ => by
  refine ⟨B, G, ρ, n, _, env, q, fun dx n1 v H1 G1 q1 x1 w1 r1 => ?_⟩
  split at q1
  · rename_i k0
    cases r1
    cases k0 with
    | true => exact ⟨_, rfl, iteT ⟨B, G1, ρ, n1, _, env.ext x1 w1, q1.1 rfl, k.trans x1⟩⟩
    | false => exact ⟨_, rfl, iteF ((k.trans x1).here (q1.2 rfl) w1 (.bl _))⟩
  · exact q1.elim⟩
theorem de_or (ha : DE X Z a ta) (hb : DE X Z (.BoolOp .Or (b :: rest) pos) tb) : DE X Z (.BoolOp .Or (a :: b :: rest) pos) (dOrV ta tb) := ⟨pe_imp (pe_or ha.pe hb.pe) fun σ H Q ⟨B, G, ρ, n, Qd, env, q, k⟩ => by
  refine ⟨B, G, ρ, n, _, env, q, fun dx n1 v H1 G1 q1 x1 w1 r1 => ?_⟩
  split at q1
  · rename_i k0
    cases r1
    cases k0 with
    | true => exact ⟨_, rfl, iteT ((k.trans x1).here (q1.1 rfl) w1 (.bl _))⟩
    | false => exact ⟨_, rfl, iteF ⟨B, G1, ρ, n1, _, env.ext x1 w1, q1.2 rfl, k.trans x1⟩⟩
  · exact q1.elim⟩
theorem de_not (ha : DE X Z a ta) : DE X Z (.UnaryOp .Not a pos) (dNotV ta) := ⟨pe_imp (pe_not ha.pe) fun σ H Q ⟨B, G, ρ, n, Qd, env, q, k⟩ => by
  refine ⟨B, G, ρ, n, _, env, q, fun dx n1 v H1 G1 q1 x1 w1 r1 => ?_⟩
  split at q1
  · cases r1
    exact ⟨_, rfl, (k.trans x1).here q1 w1 (.bl _)⟩
  · exact q1.elim⟩
/-! tests: all lists of one's own are lent meanwhile -/
def fzA (ρ : Ro) : Ro := ρ.map fun o => match o with
  | some (.own xs) => some (.d (.lst xs))
  | o => o
theorem EnvD.lend {B : Bx} {G H : Hp} {σ : L2.St} {ρ : Ro} {n : Nat} (e : EnvD K Z B G H σ ρ n) : ∃ G1, EnvD K Z B G1 H σ (fzA ρ) n ∧ Same G G1 := by
  have step : ∀ k : Nat, ∃ G1, EnvD K Z B G1 H σ (fzs (List.range k) ρ) n ∧ Same G G1 := fun k => e.freeze _
  have app : ∀ (is js : List Nat) (ρ : Ro), fzs (is ++ js) ρ = fzs js (fzs is ρ) := fun is => by
    induction is with
    | nil => intro js ρ; rfl
    | cons i r ih => intro js ρ; exact ih js _
  have at_ : ∀ (k : Nat) (j : Nat), (fzs (List.range k) ρ)[j]? = if j < k then (fzA ρ)[j]? else ρ[j]? := fun k => by
    induction k with
    | zero => intro j; rw [if_neg (by omega)]; rfl
    | succ k ih =>
      intro j
      rw [List.range_succ, app]
      show (fzI k (fzs (List.range k) ρ))[j]? = _
      have hk := ih k
      rw [if_neg (Nat.lt_irrefl _)] at hk
      unfold fzI
      split
      · rename_i xs h
        rw [hk] at h
        by_cases c : k = j
        · subst c
          rw [if_pos (by omega), List.getElem?_set_self]
          · unfold fzA
            rw [List.getElem?_map, h]; rfl
          · have := (List.getElem?_eq_some_iff.mp (hk.trans h)).1
            exact this
        · rw [List.getElem?_set_ne c, ih j]
          by_cases c2 : j < k
          · rw [if_pos c2, if_pos (by omega)]
          · rw [if_neg c2, if_neg (by omega)]
      · rename_i hno
        rw [ih j]
        by_cases c2 : j < k
        · rw [if_pos c2, if_pos (by omega)]
        · rw [if_neg c2]
          by_cases c : j = k
          · subst c
            rw [if_pos (by omega)]
            unfold fzA
            rw [List.getElem?_map]
            rw [hk] at hno
            cases q : ρ[j]? with
            | none => rfl
            | some o =>
              cases o with
              | none => rfl
              | some s =>
                cases s with
                | d x => rfl
                | own xs => exact absurd q (hno xs)
          · rw [if_neg (by omega)]
  obtain ⟨G1, e1, s⟩ := step ρ.length
  have eq : fzs (List.range ρ.length) ρ = fzA ρ := by
    apply List.ext_getElem?
    intro j
    rw [at_]
    by_cases c : j < ρ.length
    · rw [if_pos c]
    · rw [if_neg c]
      unfold fzA
      rw [List.getElem?_map, List.getElem?_eq_none (by omega)]; rfl
  exact ⟨G1, eq ▸ e1, s⟩
/-- what was lent is one's own again -/
theorem back {F : Option Addr} {G G1 G2 H H1 : Hp} {m : Nat} (s : Same G G1) (x : Ext F G1 H G2 H1) (w : Wd F G2 H1 m) (w0 : ∀ p, F = some p → G p = none) : Ext F G H G H1 ∧ Wd F G H1 m :=
  ⟨⟨x.to, x.fd, x.kp, Same.refl _, fun _ h _ => h⟩, ⟨(s.trans x.g).trans w.sub, fun p f => ⟨(w.fd p f).1, w0 p f⟩⟩⟩
/-- the truth of a value -/
def dTru : D → Nat → QB → Prop
  | .bl b, n, Q => Q b n
  | .non, n, Q => Q false n
  | .int i, n, Q => Q (i != 0) n
  | .str s, n, Q => s.length ≤ sizeLine ∧ Q ((s.length : Int) != 0) n
  | .lst l, n, Q => Q (!l.isEmpty) n
  | .tup l, n, Q => Q (!l.isEmpty) n
  | _, _, _ => False
def dTest (ta : TD) : TB := fun ρ n Q => ta (fzA ρ) n fun x n1 => dTru x n1 Q
theorem dlt_test {σ : L2.St} {H : Hp} {Q : Bool → Hp → Prop} (h : dlt K Z (dTest ta) σ H Q) : dl K Z ta σ H fun x H1 => ∃ k, TruV K x H1 k ∧ Q k H1 := by
  obtain ⟨B, G, ρ, n, Qd, env, q, k⟩ := h
  obtain ⟨G1, env1, s⟩ := env.lend
  refine ⟨B, G1, _, n, _, env1, q, fun dx n1 v H1 G2 q1 x1 w1 r1 => ?_⟩
  have fin : ∀ b, Qd b n1 → Q b H1 := fun b hb => by
    obtain ⟨x2, w2⟩ := back s x1 w1 fun p f => (env.w.fd p f).2
    exact k b n1 H1 hb x2 w2
  unfold dTru at q1
  split at q1
  · cases r1; exact ⟨_, rfl, fin _ q1⟩
  · cases r1; exact ⟨_, rfl, fin _ q1⟩
  · cases r1; exact ⟨_, rfl, fin _ q1⟩
  · cases r1; exact ⟨_, ⟨q1.1, rfl⟩, fin _ q1.2⟩
  · cases r1 with | lst h r =>
    refine ⟨_, .inl ⟨_, SqL.of (w1.sub _ _ h), rfl⟩, ?_⟩
    have e : ∀ {vs : List V} {ds : List D}, RepL K B.F G2 vs ds → vs.isEmpty = ds.isEmpty := fun r => by cases r <;> rfl
    rw [e r]
    exact fin _ q1
  · cases r1 with | tup h r =>
    refine ⟨_, .inr (.inl ⟨_, sqT_same w1.sub h, rfl⟩), ?_⟩
    have e : ∀ {vs : List V} {ds : List D}, RepL K B.F G2 vs ds → vs.isEmpty = ds.isEmpty := fun r => by cases r <;> rfl
    rw [e r]
    exact fin _ q1
  · exact q1.elim
theorem dt_tru (ha : DE X Z a ta) (he : ∀ whole, isTrue a X.env whole = (do let v ← whole; standAt a.pos; holding [v] (truthy v)) := by intro _; rfl) : DT X Z a (dTest ta) := ⟨pt_imp (pt_truth ha.pe he) fun _ _ _ h => dlt_test h⟩
/-- a comparison -/
def dTestB (ta : TD) : TB := fun ρ n Q => ta (fzA ρ) n fun x n1 => match x with
  | .bl b => Q b n1
  | _ => False
theorem dlt_testB {σ : L2.St} {H : Hp} {Q : Bool → Hp → Prop} (h : dlt K Z (dTestB ta) σ H Q) : dl K Z ta σ H fun x H1 => ∃ k, x = .bl k ∧ Q k H1 := by
  obtain ⟨B, G, ρ, n, Qd, env, q, k⟩ := h
  obtain ⟨G1, env1, s⟩ := env.lend
  refine ⟨B, G1, _, n, _, env1, q, fun dx n1 v H1 G2 q1 x1 w1 r1 => ?_⟩
  split at q1
  · cases r1
    obtain ⟨x2, w2⟩ := back s x1 w1 fun p f => (env.w.fd p f).2
    exact ⟨_, rfl, k _ n1 H1 q1 x2 w2⟩
  · exact q1.elim
theorem dl2i {σ : L2.St} {H : Hp} {Q : VK} {r : R2} {rd : RD2} (cv : Cv2 K r rd) (h : dl K Z (d2 rd ta tb) σ H Q) : tOp r (dl K Z ta) (dl K Z tb) σ H Q := dl2 cv h
theorem dt_cmp {op : CmpOp} {r : R2} {rd : RD2} (ho : OpR X (compareOp op) r) (cv : Cv2 X.K r rd) (ha : DE X Z a ta) (hb : DE X Z b tb) (hm : behindInMarks op b = false) : DT X Z (.Compare a [op] [b] pos) (dTestB (d2 rd ta tb)) :=
  ⟨pt_imp (pt_cmpR ho ha.pe hb.pe hm) fun _ _ _ h => dl2 cv (dlt_testB h)⟩
theorem dt_lt (ha : DE X Z a ta) (hb : DE X Z b tb) : DT X Z (.Compare a [.Lt] [b] pos) (dTestB (d2 dLt ta tb)) := dt_cmp (OpR.or op_lt op_lt_str) cv_less ha hb (nomark _)
theorem dt_le (ha : DE X Z a ta) (hb : DE X Z b tb) : DT X Z (.Compare a [.LtE] [b] pos) (dTestB (d2 dLe ta tb)) := dt_cmp (OpR.or op_le op_le_str) cv_less ha hb (nomark _)
theorem dt_gt (ha : DE X Z a ta) (hb : DE X Z b tb) : DT X Z (.Compare a [.Gt] [b] pos) (dTestB (d2 dGt ta tb)) := dt_cmp (OpR.or op_gt op_gt_str) cv_less ha hb (nomark _)
theorem dt_ge (ha : DE X Z a ta) (hb : DE X Z b tb) : DT X Z (.Compare a [.GtE] [b] pos) (dTestB (d2 dGe ta tb)) := dt_cmp (OpR.or op_ge op_ge_str) cv_less ha hb (nomark _)
theorem dt_eq (hu : X.A.units + 64 < cLine) (ha : DE X Z a ta) (hb : DE X Z b tb) : DT X Z (.Compare a [.Eq] [b] pos) (dTestB (d2 dEq ta tb)) := dt_cmp (OpR.or op_eq (op_eqD hu)) (cv_eq fun b => b) ha hb (nomark _)
theorem dt_ne (hu : X.A.units + 64 < cLine) (ha : DE X Z a ta) (hb : DE X Z b tb) : DT X Z (.Compare a [.NotEq] [b] pos) (dTestB (d2 dNe ta tb)) := dt_cmp (OpR.or op_ne (op_neD hu)) (cv_eq fun b => !b) ha hb (nomark _)
theorem dt_is (ha : DE X Z a ta) (hb : DE X Z b tb) : DT X Z (.Compare a [.Is] [b] pos) (dTestB (d2 dIs ta tb)) := dt_cmp op_isN (cv_is fun b => b) ha hb (nomark _)
theorem dt_isnt (ha : DE X Z a ta) (hb : DE X Z b tb) : DT X Z (.Compare a [.IsNot] [b] pos) (dTestB (d2 dIsnt ta tb)) := dt_cmp op_notN (cv_is fun b => !b) ha hb (nomark _)
variable {xa xb : TB}
def dAnd (ta tb : TB) : TB := fun ρ n Q => ta ρ n fun b n1 => br b (tb ρ n1 Q) (Q false n1)
def dOr (ta tb : TB) : TB := fun ρ n Q => ta ρ n fun b n1 => br b (Q true n1) (tb ρ n1 Q)
def dNot (ta : TB) : TB := fun ρ n Q => ta ρ n fun b n1 => Q (!b) n1
theorem KB.trans {F : Option Addr} {G H H1 : Hp} {Qd : QB} {Q : Bool → Hp → Prop} (k : KB F G H Qd Q) (x : Ext F G H G H1) : KB F G H1 Qd Q := fun b n H' h x' w => k b n H' h (x.trans x') w
theorem dw_and (ha : DT X Z a xa) (hb : DW X Z (.BoolOp .And (b :: rest) pos) xb) : DW X Z (.BoolOp .And (a :: b :: rest) pos) (dAnd xa xb) := ⟨pw_imp (pw_and ha.pt hb.pw) fun σ H Q ⟨B, G, ρ, n, Qd, env, q, k⟩ =>
  ⟨B, G, ρ, n, _, env, q, fun c n1 H1 q1 x1 w1 => by
    cases c with
    | true =>
      replace q1 := q1.1 rfl
      exact iteT ⟨B, G, ρ, n1, _, env.ext x1 w1, q1, k.trans x1⟩
    | false =>
      replace q1 := q1.2 rfl
      exact iteF (k false n1 H1 q1 x1 w1)⟩⟩
theorem dw_or (ha : DT X Z a xa) (hb : DW X Z (.BoolOp .Or (b :: rest) pos) xb) : DW X Z (.BoolOp .Or (a :: b :: rest) pos) (dOr xa xb) := ⟨pw_imp (pw_or ha.pt hb.pw) fun σ H Q ⟨B, G, ρ, n, Qd, env, q, k⟩ =>
  ⟨B, G, ρ, n, _, env, q, fun c n1 H1 q1 x1 w1 => by
    cases c with
    | true =>
      replace q1 := q1.1 rfl
      exact iteT (k true n1 H1 q1 x1 w1)
    | false =>
      replace q1 := q1.2 rfl
      exact iteF ⟨B, G, ρ, n1, _, env.ext x1 w1, q1, k.trans x1⟩⟩⟩
theorem dw_and1 (ha : DT X Z a xa) : DW X Z (.BoolOp .And [a] pos) xa := ⟨pw_and1 ha.pt⟩
theorem dw_or1 (ha : DT X Z a xa) : DW X Z (.BoolOp .Or [a] pos) xa := ⟨pw_or1 ha.pt⟩
theorem DW.dt (h : DW X Z a xa) : DT X Z a xa := ⟨h.pw.pt⟩
theorem dt_not (ha : DT X Z a xa) : DT X Z (.UnaryOp .Not a pos) (dNot xa) := ⟨pt_imp (pt_not ha.pt) fun σ H Q ⟨B, G, ρ, n, Qd, env, q, k⟩ => ⟨B, G, ρ, n, _, env, q, fun c n1 H1 q1 x1 w1 => k (!c) n1 H1 q1 x1 w1⟩⟩
def dIfV (tt : TB) (ta tb : TD) : TD := fun ρ n Q => tt ρ n fun b n1 => br b (ta ρ n1 Q) (tb ρ n1 Q)
theorem de_ifExp (hc : DT X Z c xa) (ha : DE X Z a ta) (hb : DE X Z b tb) : DE X Z (.IfExp c a b pos) (dIfV xa ta tb) := ⟨pe_imp (pe_ifExp hc.pt ha.pe hb.pe) fun σ H Q ⟨B, G, ρ, n, Qd, env, q, k⟩ =>
  ⟨B, G, ρ, n, _, env, q, fun c n1 H1 q1 x1 w1 => by
    cases c with
    | true =>
      replace q1 := q1.1 rfl
      exact iteT ⟨B, G, ρ, n1, _, env.ext x1 w1, q1, k.trans x1⟩
    | false =>
      replace q1 := q1.2 rfl
      exact iteF ⟨B, G, ρ, n1, _, env.ext x1 w1, q1, k.trans x1⟩⟩⟩
/-! argument lists, displays -/
def dNil : TL := fun _ n Q => Q [] n
def dCons (ta : TD) (tl : TL) : TL := fun ρ n Q => ta ρ n fun x n1 => tl ρ n1 fun xs n2 => Q (x :: xs) n2
theorem da_nil : DA X Z [] dNil := ⟨pa_imp pa_nil fun σ H Q ⟨B, G, ρ, n, Qd, env, q, k⟩ => k [] n [] H G q Ext.refl env.w .nil⟩
theorem da_cons (ha : DE X Z e ta) (hr : DA X Z es tl) (hs : starEach (e :: es) X.env = (false, eval e X.env) :: starEach es X.env := by rfl) : DA X Z (e :: es) (dCons ta tl) := ⟨pa_imp (pa_cons ha.pe hr.pa hs) fun σ H Q ⟨B, G, ρ, n, Qd, env, q, k⟩ => by
  refine ⟨B, G, ρ, n, _, env, q, fun dx n1 v H1 G1 q1 x1 w1 r1 => ?_⟩
  refine ⟨B, G1, ρ, n1, _, env.ext x1 w1, q1, fun ds n2 vs H2 G2 q2 x2 w2 r2 => ?_⟩
  exact k (dx :: ds) n2 (v :: vs) H2 G2 q2 (x1.trans x2) w2 (.cons (r1.mono x2.g) r2)⟩
def dTup (tl : TL) : TD := fun ρ n Q => tl ρ n fun xs n1 => xs.length ≤ sizeLine ∧ Q (.tup xs) n1
def dLst (tl : TL) : TL := fun ρ n Q => tl ρ n fun xs n1 => xs.length ≤ sizeLine ∧ Q xs n1
theorem de_tup {x1} (h : DA X Z es tl) : DE X Z (.Tuple es x1 pos) (dTup tl) := ⟨pe_imp (pe_tup h.pa) fun σ H Q ⟨B, G, ρ, n, Qd, env, q, k⟩ =>
  ⟨B, G, ρ, n, _, env, q, fun ds n1 vs H1 G1 q1 x1 w1 r1 => ⟨by rw [r1.length]; exact q1.1, fun p hp => (k.trans x1).new q1.2 w1 hp (.tup (SqT.of upd_same) (r1.mono (new_to (w1.free hp))))⟩⟩⟩
theorem do_lst (h : DA X Z es tl) : DO X Z (.List es pos) (dLst tl) := ⟨pe_imp (pe_lst h.pa) fun σ H Q ⟨B, G, ρ, n, Qd, env, q, k⟩ =>
  ⟨B, G, ρ, n, _, env, q, fun ds n1 vs H1 G1 q1 x1 w1 r1 => ⟨by rw [r1.length]; exact q1.1, fun p hp => by
    have h0 : H p = none := by
      cases z : H p with
      | none => rfl
      | some o => exact absurd hp (x1.kp p (by rw [z]; exact fun y => nomatch y))
    exact k ds n1 p vs _ G1 q1.2 (x1.trans (Ext.new hp)) (w1.new hp) h0 upd_same (w1.free hp) r1⟩⟩⟩
/-- a list made new, shared at once -/
def dSh (tl : TL) : TD := fun ρ n Q => tl ρ n fun xs n1 => Q (.lst xs) n1
theorem DO.de (h : DO X Z e tl) : DE X Z e (dSh tl) := ⟨pe_imp h.pe fun σ H Q ⟨B, G, ρ, n, Qd, env, q, k⟩ =>
  ⟨B, G, ρ, n, _, env, q, fun ds n1 p vs H1 G1 q1 x1 w1 h0 h1 h2 r1 => k (.lst ds) n1 _ H1 (upd G1 p (.lst vs)) q1 (x1.freeze h0 h2) (w1.freeze h1) (.lst upd_same (r1.mono (new_to h2)))⟩⟩
end
end Dw

namespace Dw
open PySem PySem.Spec PyProof.Rows L2 Fw
section
variable {X : Cx} {Z : ZX} {e a b c : Expr} {es rest : List Expr} {pos : Pos} {ta tb tc : TD} {tl : TL} {K : PySem.W.Frag}
/-! x[i] -/
def dIx : RD2
  | .lst l, .int i, n, Q => (match atI l i with | some d => Q d n | none => False)
  | .tup l, .int i, n, Q => (match atI l i with | some d => Q d n | none => False)
  | .str s, .int i, n, Q => s.length ≤ sizeLine ∧ (match atI s.cps.toList i with | some c => Q (.str ⟨#[c]⟩) n | none => False)
  | _, _, _, _ => False
theorem RepL.atI {F : Option Addr} {G : Hp} {vs : List V} {ds : List D} {i : Int} {d : D} (r : RepL K F G vs ds) (h : L2.atI ds i = some d) : ∃ v, L2.atI vs i = some v ∧ Rep K F G v d := by
  unfold L2.atI at h ⊢
  rw [r.length]
  cases q : ixN ds.length i with
  | none => rw [q] at h; cases h
  | some j =>
    rw [q] at h
    exact r.get h
theorem cv_ix : Cv2 K (rIx K) dIx := by
  intro F G H n x y dx dy Qd Q w rx ry q k
  unfold dIx at q
  split at q
  · split at q
    · rename_i d h
      cases rx with | lst h1 r1 => cases ry with | int _ =>
      obtain ⟨v, e1, e2⟩ := r1.atI h
      exact .inl ⟨_, _, _, v, rfl, rfl, SqL.of (w.sub _ _ h1), e1, k.here q w e2⟩
    · exact q.elim
  · split at q
    · rename_i d h
      cases rx with | tup h1 r1 => cases ry with | int _ =>
      obtain ⟨v, e1, e2⟩ := r1.atI h
      exact .inr (.inl ⟨_, _, _, v, rfl, rfl, sqT_same w.sub h1, e1, k.here q w e2⟩)
    · exact q.elim
  · obtain ⟨q0, q⟩ := q
    split at q
    · rename_i d h
      cases rx; cases ry
      exact .inr (.inr ⟨_, _, _, rfl, rfl, q0, h, k.here q w (.str _)⟩)
    · exact q.elim
  · exact q.elim
theorem de_ix (ha : DE X Z a ta) (hb : DE X Z b tb) (hs : PlainIx b := by exact fun _ _ => rfl) : DE X Z (.Subscript a b pos) (d2 dIx ta tb) := ⟨pe_imp (pe_ix ix_seq ha.pe hb.pe hs) fun _ _ _ => dl2 cv_ix⟩
/-! x[i:j] -/
def cutD {α : Type} (xs : List α) (lo hi : Option Int) : List α := (xs.drop (HT.sIx xs.length 0 lo)).take (HT.sIx xs.length xs.length hi - HT.sIx xs.length 0 lo)
abbrev TP := Ro → Nat → (Option Int → Nat → Prop) → Prop
def dNoP : TP := fun _ n Q => Q none n
def dPart (ta : TD) : TP := fun ρ n Q => ta ρ n fun x n1 => match x with
  | .int i => Q (some i) n1
  | _ => False
def dlp (K : PySem.W.Frag) (Z : ZX) (tp : TP) : L2.TO := fun σ H Q => ∃ B G ρ n Qd, EnvD K Z B G H σ ρ n ∧ tp ρ n Qd ∧ ∀ o n' H' G', Qd o n' → Ext B.F G H G' H' → Wd B.F G' H' n' → Q o H'
structure DP (X : Cx) (Z : ZX) (e : Option Expr) (tp : TP) : Prop where
  po : PO X e (dlp X.K Z tp)
theorem po_imp {e : Option Expr} {t t' : L2.TO} (h : PO X e t) (i : ∀ σ H Q, t' σ H Q → t σ H Q) : PO X e t' := ⟨fun pins s σ H Q I q => h.run pins s σ H Q I (i σ H Q q)⟩
theorem dp_none : DP X Z none dNoP := ⟨po_imp po_none fun σ H Q ⟨B, G, ρ, n, Qd, env, q, k⟩ => k none n H G q Ext.refl env.w⟩
theorem dp_some (h : DE X Z e ta) : DP X Z (some e) (dPart ta) := ⟨po_imp (po_some h.pe) fun σ H Q ⟨B, G, ρ, n, Qd, env, q, k⟩ => ⟨B, G, ρ, n, _, env, q, fun d n1 v H1 G1 q1 x1 w1 r1 => by
  split at q1
  · cases r1
    exact ⟨_, rfl, k _ n1 H1 G1 q1 x1 w1⟩
  · exact q1.elim⟩⟩
def dCut : D → Option Int → Option Int → Nat → QD → Prop
  | .lst l, lo, hi, n, Q => Q (.lst (cutD l lo hi)) n
  | .tup l, lo, hi, n, Q => Q (.tup (cutD l lo hi)) n
  | .str s, lo, hi, n, Q => s.length ≤ sizeLine ∧ Q (.str (cutS s lo hi)) n
  | .scr l, lo, hi, n, Q => Q (.lst ((cutD l lo hi).map D.int)) n
  | _, _, _, _, _ => False
def dSlc (ta : TD) (tl th : TP) : TD := fun ρ n Q => ta ρ n fun x n1 => tl ρ n1 fun lo n2 => th ρ n2 fun hi n3 => dCut x lo hi n3 Q
theorem RepL.cut {F : Option Addr} {G : Hp} {vs : List V} {ds : List D} (r : RepL K F G vs ds) (lo hi : Option Int) : RepL K F G (cutV vs lo hi) (cutD ds lo hi) := by
  unfold cutV cutD
  rw [r.length]
  exact (r.drop _).take _
theorem cutD_all {α : Type} {xs : List α} {lo hi : Option Int} (h : HT.sIx xs.length 0 lo = 0 ∧ HT.sIx xs.length xs.length hi = xs.length) : cutD xs lo hi = xs := by
  unfold cutD
  rw [h.1, h.2, List.drop_zero, Nat.sub_zero, List.take_length]
theorem SlR.or {r r' : V → Option Int → Option Int → Hp → VK → Prop} (h : SlR X r) (h' : SlR X r') : SlR X (fun x l u H Q => r x l u H Q ∨ r' x l u H Q) := by
  intro pins s σ H x v vl vu lo hi sl Q I rx hs pl pu q
  rcases q with q | q
  · exact h pins s σ H x v vl vu lo hi sl Q I rx hs pl pu q
  · exact h' pins s σ H x v vl vu lo hi sl Q I rx hs pl pu q
theorem repInts {F : Option Addr} {G : Hp} : ∀ ns : List Int, RepL K F G (ns.map V.int) (ns.map D.int)
  | [] => .nil
  | n :: r => .cons (.int n) (repInts r)
theorem repStrs {F : Option Addr} {G : Hp} : ∀ ns : List Str, RepL K F G (ns.map V.str) (ns.map D.str)
  | [] => .nil
  | n :: r => .cons (.str n) (repStrs r)
theorem de_slice {lo hi : Option Expr} {tlo thi : TP} {p2 : Pos} (ha : DE X Z a ta) (hl : DP X Z lo tlo) (hh : DP X Z hi thi) : DE X Z (.Subscript a (.Slice lo hi none p2) pos) (dSlc ta tlo thi) :=
  ⟨pe_imp (pe_slice (SlR.or sl_list (SlR.or sl_tupA sl_str)) ha.pe hl.po hh.po) fun σ H Q ⟨B, G, ρ, n, Qd, env, q, k⟩ => by
  refine ⟨B, G, ρ, n, _, env, q, fun dx n1 v H1 G1 q1 x1 w1 r1 => ?_⟩
  refine ⟨B, G1, ρ, n1, _, env.ext x1 w1, q1, fun lo n2 H2 G2 q2 x2 w2 => ?_⟩
  refine ⟨B, G2, ρ, n2, _, (env.ext x1 w1).ext x2 w2, q2, fun hi n3 H3 G3 q3 x3 w3 => ?_⟩
  have k3 := k.trans ((x1.trans x2).trans x3)
  have r3 := (r1.mono x2.g).mono x3.g
  unfold dCut at q3
  split at q3
  · cases r3 with | lst h1 r =>
    exact .inl ⟨_, _, rfl, SqL.of (w3.sub _ _ h1), fun p hp => k3.new q3 w3 hp (.lst upd_same ((r.cut lo hi).mono (new_to (w3.free hp))))⟩
  · cases r3 with | tup h1 r =>
    refine .inr (.inl ⟨_, _, rfl, sqT_same w3.sub h1, fun z => ?_, fun _ p hp => k3.new q3 w3 hp (.tup (SqT.of upd_same) ((r.cut lo hi).mono (new_to (w3.free hp))))⟩)
    rw [r.length] at z
    rw [cutD_all z] at q3
    exact k3.here q3 w3 (.tup h1 r)
  · cases r3
    exact .inr (.inr ⟨_, rfl, q3.1, k3.here q3.2 w3 (.str _)⟩)
  · cases r3 with | scr h1 =>
    refine .inl ⟨_, _, rfl, w3.sub.seq h1, fun p hp => k3.new q3 w3 hp ?_⟩
    have e : ∀ l : List Int, cutV (l.map V.int) lo hi = (cutD l lo hi).map V.int := fun l => by
      unfold cutV cutD
      rw [List.length_map, ← List.map_drop, ← List.map_take]
    rw [e]
    exact .lst upd_same (repInts _)
  · exact q3.elim⟩
/-! calls of what is known -/
abbrev RDC := List D → Nat → QD → Prop
abbrev RDO := List D → Nat → QL → Prop
def dCb (rd : RDC) (tl : TL) : TD := fun ρ n Q => tl ρ n fun ds n1 => rd ds n1 Q
def dCo (rd : RDO) (tl : TL) : TL := fun ρ n Q => tl ρ n fun ds n1 => rd ds n1 Q
def CvC (K : PySem.W.Frag) (r : List V → Hp → VK → Prop) (rd : RDC) : Prop := ∀ F G H n vs ds Qd (Q : VK), Wd F G H n → RepL K F G vs ds → rd ds n Qd → KD K F G H Qd Q → r vs H Q
def CvO (K : PySem.W.Frag) (r : List V → Hp → VK → Prop) (rd : RDO) : Prop := ∀ F G H n vs ds Qd (Q : VK), Wd F G H n → RepL K F G vs ds → rd ds n Qd → KO K F G H Qd Q → r vs H Q
theorem dlc {r : List V → Hp → VK → Prop} {rd : RDC} (cv : CvC K r rd) {σ : L2.St} {H : Hp} {Q : VK} (h : dl K Z (dCb rd tl) σ H Q) : tCB r (dla K Z tl) σ H Q := by
  obtain ⟨B, G, ρ, n, Qd, env, q, k⟩ := h
  exact ⟨B, G, ρ, n, _, env, q, fun ds n1 vs H1 G1 q1 x1 w1 r1 => cv B.F G1 H1 n1 vs ds Qd Q w1 r1 q1 (k.trans x1)⟩
theorem KO.trans {F : Option Addr} {G H G1 H1 : Hp} {Qd : QL} {Q : VK} (k : KO K F G H Qd Q) (x : Ext F G H G1 H1) : KO K F G1 H1 Qd Q := fun ds n q vs H' G' h x' w h0 h1 h2 r => by
  have e0 : H q = none := by
    cases z : H q with
    | none => rfl
    | some o => exact absurd h0 (x.kp q (by rw [z]; exact fun y => nomatch y))
  exact k ds n q vs H' G' h (x.trans x') w e0 h1 h2 r
theorem KO.new {F : Option Addr} {G H : Hp} {Qd : QL} {Q : VK} {ds : List D} {vs : List V} {n : Nat} {q : Addr} (k : KO K F G H Qd Q) (h : Qd ds n) (w : Wd F G H n) (hq : H q = none) (r : RepL K F G vs ds) : Q (.ref q) (upd H q (.lst vs)) :=
  k ds n q vs _ G h (Ext.new hq) (w.new hq) hq upd_same (w.free hq) r
theorem dlco {r : List V → Hp → VK → Prop} {rd : RDO} (cv : CvO K r rd) {σ : L2.St} {H : Hp} {Q : VK} (h : dlo K Z (dCo rd tl) σ H Q) : tCB r (dla K Z tl) σ H Q := by
  obtain ⟨B, G, ρ, n, Qd, env, q, k⟩ := h
  exact ⟨B, G, ρ, n, _, env, q, fun ds n1 vs H1 G1 q1 x1 w1 r1 => cv B.F G1 H1 n1 vs ds Qd Q w1 r1 q1 (k.trans x1)⟩
theorem de_callB {r : List V → Hp → VK → Prop} {rd : RDC} {x : Str} {id : String} {p : Pos} (hc : CallR X (.builtin id) r) (cv : CvC X.K r rd) (hg : Gl X x) (hm : X.mg x = none) (hv : bootBuiltins x = some (.builtin id)) (ha : DA X Z (e :: es) tl)
    (hn : x ≠ "__name__" := by decide) (hdb : (x == ("__debug__" : Str)) = false := by decide) (he : starEach (e :: es) X.env = (false, eval e X.env) :: starEach es X.env := by rfl)
    (hpl : (backTo pos (starEach es X.env)).any (·.1) = false := by rfl) : DE X Z (.Call (.Name x p) (e :: es) [] pos) (dCb rd tl) := ⟨pe_imp (pe_callB hc hg hm hv ha.pa hn hdb he hpl) fun _ _ _ => dlc cv⟩
theorem de_callTy {r : List V → Hp → VK → Prop} {rd : RDC} {x : Str} {T : String} {p : Pos} (hc : CallR X (.type T) r) (cv : CvC X.K r rd) (hg : Gl X x) (hm : X.mg x = none) (hv : bootBuiltins x = some (.type T)) (ha : DA X Z (e :: es) tl)
    (hn : x ≠ "__name__" := by decide) (hdb : (x == ("__debug__" : Str)) = false := by decide) (he : starEach (e :: es) X.env = (false, eval e X.env) :: starEach es X.env := by rfl)
    (hpl : (backTo pos (starEach es X.env)).any (·.1) = false := by rfl) : DE X Z (.Call (.Name x p) (e :: es) [] pos) (dCb rd tl) := ⟨pe_imp (pe_callTy hc hg hm hv ha.pa hn hdb he hpl) fun _ _ _ => dlc cv⟩
theorem do_callB {r : List V → Hp → VK → Prop} {rd : RDO} {x : Str} {id : String} {p : Pos} (hc : CallR X (.builtin id) r) (cv : CvO X.K r rd) (hg : Gl X x) (hm : X.mg x = none) (hv : bootBuiltins x = some (.builtin id)) (ha : DA X Z (e :: es) tl)
    (hn : x ≠ "__name__" := by decide) (hdb : (x == ("__debug__" : Str)) = false := by decide) (he : starEach (e :: es) X.env = (false, eval e X.env) :: starEach es X.env := by rfl)
    (hpl : (backTo pos (starEach es X.env)).any (·.1) = false := by rfl) : DO X Z (.Call (.Name x p) (e :: es) [] pos) (dCo rd tl) := ⟨pe_imp (pe_callB hc hg hm hv ha.pa hn hdb he hpl) fun _ _ _ => dlco cv⟩
theorem do_callTy {r : List V → Hp → VK → Prop} {rd : RDO} {x : Str} {T : String} {p : Pos} (hc : CallR X (.type T) r) (cv : CvO X.K r rd) (hg : Gl X x) (hm : X.mg x = none) (hv : bootBuiltins x = some (.type T)) (ha : DA X Z (e :: es) tl)
    (hn : x ≠ "__name__" := by decide) (hdb : (x == ("__debug__" : Str)) = false := by decide) (he : starEach (e :: es) X.env = (false, eval e X.env) :: starEach es X.env := by rfl)
    (hpl : (backTo pos (starEach es X.env)).any (·.1) = false := by rfl) : DO X Z (.Call (.Name x p) (e :: es) [] pos) (dCo rd tl) := ⟨pe_imp (pe_callTy hc hg hm hv ha.pa hn hdb he hpl) fun _ _ _ => dlco cv⟩
theorem CallR.or {f : Value} {r r' : List V → Hp → VK → Prop} (h : CallR X f r) (h' : CallR X f r') : CallR X f (fun xs H Q => r xs H Q ∨ r' xs H Q) := by
  intro pins s σ H xs us Q I rv q
  rcases q with q | q
  · exact h pins s σ H xs us Q I rv q
  · exact h' pins s σ H xs us Q I rv q
/-! len -/
def dLen : RDC
  | [.str s], n, Q => s.length ≤ sizeLine ∧ Q (.int s.length) n
  | [.lst l], n, Q => Q (.int l.length) n
  | [.tup l], n, Q => Q (.int l.length) n
  | [.scr l], n, Q => Q (.int l.length) n
  | _, _, _ => False
theorem cv_len : CvC K (fun xs H Q => ∃ x n, xs = [x] ∧ LenV K x H n ∧ Q (.int n) H) dLen := by
  intro F G H n vs ds Qd Q w r q k
  unfold dLen at q
  split at q
  · cases r with | cons h r =>
    cases r; cases h
    exact ⟨_, _, rfl, ⟨q.1, rfl⟩, k.here q.2 w (.int _)⟩
  · cases r with | cons h r => cases r; cases h with | lst h1 r1 =>
    refine ⟨_, _, rfl, .inl ⟨_, SqL.of (w.sub _ _ h1), rfl⟩, ?_⟩
    rw [r1.length]
    exact k.here q w (.int _)
  · cases r with | cons h r => cases r; cases h with | tup h1 r1 =>
    refine ⟨_, _, rfl, .inr ⟨_, sqT_same w.sub h1, rfl⟩, ?_⟩
    rw [r1.length]
    exact k.here q w (.int _)
  · cases r with | cons h r => cases r; cases h with | scr h1 =>
    refine ⟨_, _, rfl, .inl ⟨_, w.sub.seq h1, rfl⟩, ?_⟩
    rw [List.length_map]
    exact k.here q w (.int _)
  · exact q.elim
theorem de_len {p : Pos} (hm : X.mg "len" = none) (ha : DA X Z (e :: es) tl) (hg : Gl X "len" := by rfl) (he : starEach (e :: es) X.env = (false, eval e X.env) :: starEach es X.env := by rfl)
    (hpl : (backTo pos (starEach es X.env)).any (·.1) = false := by rfl) : DE X Z (.Call (.Name "len" p) (e :: es) [] pos) (dCb dLen tl) := de_callB call_len cv_len hg hm (by decide +kernel) ha (by decide) (by decide) he hpl
/-! abs, max, min of two, int, bool, str, ord, chr -/
def dAbs : RDC
  | [.int i], n, Q => Q (.int (if i < 0 then -i else i)) n
  | _, _, _ => False
theorem cv_abs : CvC K (fun xs H Q => ∃ i, xs = [.int i] ∧ Q (.int (if i < 0 then -i else i)) H) dAbs := by
  intro F G H n vs ds Qd Q w r q k
  unfold dAbs at q
  split at q
  · cases r with | cons h r =>
    cases r; cases h
    exact ⟨_, rfl, k.here q w (.int _)⟩
  · exact q.elim
def dMax2 : RDC
  | [.int i, .int j], n, Q => Q (.int (if j > i then j else i)) n
  | _, _, _ => False
def dMin2 : RDC
  | [.int i, .int j], n, Q => Q (.int (if j < i then j else i)) n
  | _, _, _ => False
theorem cv_max2 : CvC K (fun xs H Q => ∃ i j, xs = [.int i, .int j] ∧ Q (.int (if j > i then j else i)) H) dMax2 := by
  intro F G H n vs ds Qd Q w r q k
  unfold dMax2 at q
  split at q
  · cases r with | cons h r => cases r with | cons h' r =>
    cases r; cases h; cases h'
    exact ⟨_, _, rfl, k.here q w (.int _)⟩
  · exact q.elim
theorem cv_min2 : CvC K (fun xs H Q => ∃ i j, xs = [.int i, .int j] ∧ Q (.int (if j < i then j else i)) H) dMin2 := by
  intro F G H n vs ds Qd Q w r q k
  unfold dMin2 at q
  split at q
  · cases r with | cons h r => cases r with | cons h' r =>
    cases r; cases h; cases h'
    exact ⟨_, _, rfl, k.here q w (.int _)⟩
  · exact q.elim
def dIntC : RDC
  | [.int i], n, Q => Q (.int i) n
  | [.bl b], n, Q => Q (.int (if b then 1 else 0)) n
  | _, _, _ => False
theorem cv_intc : CvC K (fun xs H Q => (∃ i, xs = [.int i] ∧ Q (.int i) H) ∨ ∃ k, xs = [.bl k] ∧ Q (.int (if k then 1 else 0)) H) dIntC := by
  intro F G H n vs ds Qd Q w r q k
  unfold dIntC at q
  split at q
  · cases r with | cons h r =>
    cases r; cases h
    exact .inl ⟨_, rfl, k.here q w (.int _)⟩
  · cases r with | cons h r =>
    cases r; cases h
    exact .inr ⟨_, rfl, k.here q w (.int _)⟩
  · exact q.elim
def dStrC : RDC
  | [.int i], n, Q => i.natAbs.log2 < 1920 ∧ Q (.str (toString i)) n
  | [.str s], n, Q => Q (.str s) n
  | _, _, _ => False
theorem cv_strc : CvC K (fun xs H Q => (∃ i, xs = [.int i] ∧ i.natAbs.log2 < 1920 ∧ Q (.str (toString i)) H) ∨ ∃ a, xs = [.str a] ∧ Q (.str a) H) dStrC := by
  intro F G H n vs ds Qd Q w r q k
  unfold dStrC at q
  split at q
  · cases r with | cons h r =>
    cases r; cases h
    exact .inl ⟨_, rfl, q.1, k.here q.2 w (.str _)⟩
  · cases r with | cons h r =>
    cases r; cases h
    exact .inr ⟨_, rfl, k.here q w (.str _)⟩
  · exact q.elim
def dOrd : RDC
  | [.str s], n, Q => s.length = 1 ∧ Q (.int (s.cps.getD 0 0 : Nat)) n
  | _, _, _ => False
theorem cv_ord : CvC K (fun xs H Q => ∃ x, xs = [.str x] ∧ x.length = 1 ∧ Q (.int (x.cps.getD 0 0 : Nat)) H) dOrd := by
  intro F G H n vs ds Qd Q w r q k
  unfold dOrd at q
  split at q
  · cases r with | cons h r =>
    cases r; cases h
    exact ⟨_, rfl, q.1, k.here q.2 w (.int _)⟩
  · exact q.elim
def dChr : RDC
  | [.int i], n, Q => 0 ≤ i ∧ i ≤ 1114111 ∧ Q (.str ⟨#[i.toNat]⟩) n
  | _, _, _ => False
theorem cv_chr : CvC K (fun xs H Q => ∃ i, xs = [.int i] ∧ 0 ≤ i ∧ i ≤ 1114111 ∧ Q (.str ⟨#[i.toNat]⟩) H) dChr := by
  intro F G H n vs ds Qd Q w r q k
  unfold dChr at q
  split at q
  · cases r with | cons h r =>
    cases r; cases h
    exact ⟨_, rfl, q.1, q.2.1, k.here q.2.2 w (.str _)⟩
  · exact q.elim
/-! list(x), tuple(x) -/
def dListC : RDO
  | [.lst l], n, Q => Q l n
  | [.tup l], n, Q => Q l n
  | [.scr l], n, Q => Q (l.map D.int) n
  | _, _, _ => False
theorem cv_listc : CvO K (fun xs H Q => ∃ p ys, xs = [.ref p] ∧ (SqL K H p ys ∨ SqT K H p ys) ∧ ∀ l, H l = none → Q (.ref l) (upd H l (.lst ys))) dListC := by
  intro F G H n vs ds Qd Q w r q k
  unfold dListC at q
  split at q
  · cases r with | cons h r => cases r; cases h with | lst h1 r1 =>
    exact ⟨_, _, rfl, .inl (SqL.of (w.sub _ _ h1)), fun l hl => k.new q w hl r1⟩
  · cases r with | cons h r => cases r; cases h with | tup h1 r1 =>
    exact ⟨_, _, rfl, .inr (sqT_same w.sub h1), fun l hl => k.new q w hl r1⟩
  · cases r with | cons h r => cases r; cases h with | scr h1 =>
    exact ⟨_, _, rfl, .inl (w.sub.seq h1), fun l hl => k.new q w hl (repInts _)⟩
  · exact q.elim
def dTupC : RDC
  | [.lst l], n, Q => Q (.tup l) n
  | [.tup l], n, Q => Q (.tup l) n
  | _, _, _ => False
theorem cv_tupc : CvC K (fun xs H Q => ∃ p ys, xs = [.ref p] ∧ ((SqL K H p ys ∧ ∀ l, H l = none → Q (.ref l) (upd H l (.tup ys))) ∨ (SqT K H p ys ∧ Q (.ref p) H))) dTupC := by
  intro F G H n vs ds Qd Q w r q k
  unfold dTupC at q
  split at q
  · cases r with | cons h r => cases r; cases h with | lst h1 r1 =>
    exact ⟨_, _, rfl, .inl ⟨SqL.of (w.sub _ _ h1), fun l hl => k.new q w hl (.tup (SqT.of upd_same) (r1.mono (new_to (w.free hl))))⟩⟩
  · cases r with | cons h r => cases r; cases h with | tup h1 r1 =>
    exact ⟨_, _, rfl, .inr ⟨sqT_same w.sub h1, k.here q w (.tup h1 r1)⟩⟩
  · exact q.elim
/-! any, all, sum of a list -/
def blsD : List D → Option (List Bool)
  | [] => some []
  | .bl b :: r => (blsD r).map (b :: ·)
  | _ :: _ => none
def intsD : List D → Option (List Int)
  | [] => some []
  | .int i :: r => (intsD r).map (i :: ·)
  | _ :: _ => none
theorem blsD_map : ∀ bs : List Bool, blsD (bs.map D.bl) = some bs
  | [] => rfl
  | b :: r => by rw [List.map_cons, blsD, blsD_map r]; rfl
theorem intsD_map : ∀ bs : List Int, intsD (bs.map D.int) = some bs
  | [] => rfl
  | b :: r => by rw [List.map_cons, intsD, intsD_map r]; rfl
theorem repBls {F : Option Addr} {G : Hp} : ∀ {vs : List V} {ds : List D} {bs : List Bool}, RepL K F G vs ds → blsD ds = some bs → vs = bs.map V.bl
  | _, _, _, .nil, e => by rw [blsD] at e; cases e; rfl
  | _, _, bs, .cons (ds := ds) h r, e => by
    cases h with
    | bl b =>
      rw [blsD] at e
      cases q : blsD ds with
      | none => rw [q] at e; cases e
      | some cs =>
        rw [q] at e
        cases e
        rw [repBls r q]; rfl
    | _ => cases e
theorem repIntsD {F : Option Addr} {G : Hp} : ∀ {vs : List V} {ds : List D} {bs : List Int}, RepL K F G vs ds → intsD ds = some bs → vs = bs.map V.int
  | _, _, _, .nil, e => by rw [intsD] at e; cases e; rfl
  | _, _, bs, .cons (ds := ds) h r, e => by
    cases h with
    | int b =>
      rw [intsD] at e
      cases q : intsD ds with
      | none => rw [q] at e; cases e
      | some cs =>
        rw [q] at e
        cases e
        rw [repIntsD r q]; rfl
    | _ => cases e
def dAny : RDC
  | [.lst l], n, Q => ∃ bs, blsD l = some bs ∧ Q (.bl (bs.any id)) n
  | _, _, _ => False
def dAll : RDC
  | [.lst l], n, Q => ∃ bs, blsD l = some bs ∧ Q (.bl (bs.all id)) n
  | _, _, _ => False
def dSum : RDC
  | [.lst l], n, Q => ∃ bs, intsD l = some bs ∧ Q (.int bs.sum) n
  | _, _, _ => False
theorem cv_any : CvC K (rAny K) dAny := by
  intro F G H n vs ds Qd Q w r q k
  unfold dAny at q
  split at q
  · cases r with | cons h r => cases r; cases h with | lst h1 r1 =>
    obtain ⟨bs, e, q⟩ := q
    have := repBls r1 e
    subst this
    exact ⟨_, bs, rfl, SqL.of (w.sub _ _ h1), k.here q w (.bl _)⟩
  · exact q.elim
theorem cv_all : CvC K (rAll K) dAll := by
  intro F G H n vs ds Qd Q w r q k
  unfold dAll at q
  split at q
  · cases r with | cons h r => cases r; cases h with | lst h1 r1 =>
    obtain ⟨bs, e, q⟩ := q
    have := repBls r1 e
    subst this
    exact ⟨_, bs, rfl, SqL.of (w.sub _ _ h1), k.here q w (.bl _)⟩
  · exact q.elim
theorem cv_sum : CvC K (rSum K) dSum := by
  intro F G H n vs ds Qd Q w r q k
  unfold dSum at q
  split at q
  · cases r with | cons h r => cases r; cases h with | lst h1 r1 =>
    obtain ⟨bs, e, q⟩ := q
    have := repIntsD r1 e
    subst this
    exact ⟨_, bs, rfl, SqL.of (w.sub _ _ h1), k.here q w (.int _)⟩
  · exact q.elim
/-! repr of plain data -/
def dRepr : RDC
  | [x], n, Q => dpt 60 x = true ∧ x.py.showable = true ∧ x.py.shown.length ≤ sizeLine ∧ Q (.str x.py.shown) n
  | _, _, _ => False
mutual
theorem py_nodict : ∀ x : D, x.py.hasDict = false
  | .non => by rw [D.py]; rfl
  | .bl _ => by rw [D.py]; rfl
  | .int _ => by rw [D.py]; rfl
  | .str _ => by rw [D.py]; rfl
  | .tup l => by rw [D.py]; exact pyL_nodict l
  | .lst l => by rw [D.py]; exact pyL_nodict l
  | .obj _ _ => by simp [D.py]; rfl
  | .exc _ _ => by simp [D.py]; rfl
  | .feed => by simp [D.py]; rfl
  | .scr _ => by simp [D.py]; rfl
  | .val _ => by simp [D.py]; rfl
theorem pyL_nodict : ∀ xs : List D, PyData.hasDictAll (pyL xs) = false
  | [] => by rw [pyL]; rfl
  | x :: r => by
    rw [pyL]
    show (PyData.hasDict x.py || PyData.hasDictAll (pyL r)) = false
    rw [py_nodict x, pyL_nodict r]; rfl
end
theorem cv_repr : CvC K (fun xs H Q => ∃ (v : V) (d : PyData), xs = [v] ∧ Dp K H v d ∧ d.showable = true ∧ d.hasDict = false ∧ d.depth ≤ 60 ∧ d.shown.length ≤ sizeLine ∧ Q (.str d.shown) H) dRepr := by
  intro F G H n vs ds Qd Q w r q k
  unfold dRepr at q
  split at q
  · cases r with | cons h r =>
    cases r
    exact ⟨_, _, rfl, (h.mono w.sub).dp q.1, q.2.1, py_nodict _, (dpt_lay _ _ q.1).2, q.2.2.1, k.here q.2.2.2 w (.str _)⟩
  · exact q.elim
/-! fields -/
structure FldOk (K : PySem.W.Frag) (P : Addr → Prop) (f : Str) : Prop where
  ok : ∀ C, P C → Cls K C ∧ NoAttr K C f
def dFld (P : Addr → Prop) (f : Str) (ta : TD) : TD := fun ρ n Q => ta ρ n fun x n1 => match x with
  | .obj C fs => P C ∧ (match fs.lookup f with | some d => Q d n1 | none => False)
  | _ => False
theorem de_fld {P : Addr → Prop} {f : Str} (T : FldOk X.K P f) (he : DE X Z e ta) (hb : attributeBase e f X.env (eval e X.env) = eval e X.env := by rfl) : DE X Z (.Attribute e f pos) (dFld P f ta) := ⟨pe_imp (pe_fld he.pe hb) fun σ H Q ⟨B, G, ρ, n, Qd, env, q, k⟩ =>
  ⟨B, G, ρ, n, _, env, q, fun dx n1 v H1 G1 q1 x1 w1 r1 => by
    split at q1
    · obtain ⟨p, q1⟩ := q1
      split at q1
      · rename_i d h
        cases r1 with | obj h1 r =>
        obtain ⟨v, e1, e2⟩ := r.lookup h
        obtain ⟨t1, t2⟩ := T.ok _ p
        exact ⟨_, _, _, _, v, rfl, w1.sub _ _ h1, t1, t2, e1, (k.trans x1).here q1 w1 e2⟩
      · exact q1.elim
    · exact q1.elim⟩⟩
end
end Dw

/-! ### statements by data -/
namespace Dw
open PySem PySem.Spec PyProof.Rows L2 Fw
structure DEnds where
  nx : Ro → Nat → Prop
  rt : QD
  ro : QL := fun _ _ => False
  bk : Ro → Nat → Prop := fun _ _ => False
  ct : Ro → Nat → Prop := fun _ _ => False
abbrev TZ := DEnds → Ro → Nat → Prop
structure Lnk (K : PySem.W.Frag) (Z : ZX) (B : Bx) (De : DEnds) (D : Ends) : Prop where
  nx : ∀ G H σ ρ n, EnvD K Z B G H σ ρ n → De.nx ρ n → D.nx σ H
  bk : ∀ G H σ ρ n, EnvD K Z B G H σ ρ n → De.bk ρ n → D.bk σ H
  ct : ∀ G H σ ρ n, EnvD K Z B G H σ ρ n → De.ct ρ n → D.ct σ H
  rt : ∀ G H n v d, De.rt d n → Ext B.F B.G B.H G H → Wd B.F G H n → Rep K B.F G v d → D.rt v H
  ro : ∀ G H n q vs ds, De.ro ds n → Ext B.F B.G B.H G H → Wd B.F G H n → B.H q = none → H q = some (.lst vs) → G q = none → RepL K B.F G vs ds → D.rt (.ref q) H
def dls (K : PySem.W.Frag) (Z : ZX) (tz : TZ) : TS := fun D σ H => ∃ B G ρ n De, EnvD K Z B G H σ ρ n ∧ tz De ρ n ∧ Lnk K Z B De D
structure DS (X : Cx) (Z : ZX) (st : Stmt) (tz : TZ) : Prop where
  ps : PS X st (dls X.K Z tz)
structure DSs (X : Cx) (Z : ZX) (st : List Stmt) (tz : TZ) : Prop where
  pss : PSs X st (dls X.K Z tz)
section
variable {X : Cx} {Z : ZX} {st : Stmt} {sts : List Stmt} {rest : List Stmt} {tz tu : TZ} {e : Expr} {td : TD} {tl : TL} {pos : Pos}
theorem ps_imp {t t' : TS} (h : PS X st t) (i : ∀ D σ H, t' D σ H → t D σ H) : PS X st t' := ⟨fun pins s σ H D I q => h.run pins s σ H D I (i D σ H q)⟩
theorem pss_imp {t t' : TS} (h : PSs X sts t) (i : ∀ D σ H, t' D σ H → t D σ H) : PSs X sts t' := ⟨fun pins s σ H D I q => h.run pins s σ H D I (i D σ H q)⟩
theorem DSs.nox (h : DSs X.nox Z sts tz) : DSs X Z sts tz := ⟨h.pss.nox⟩
def dNext : TZ := fun De ρ n => De.nx ρ n
def dSeq (t u : TZ) : TZ := fun De ρ n => t { De with nx := u De } ρ n
theorem Lnk.seq {K : PySem.W.Frag} {B : Bx} {De : DEnds} {D : Ends} {u : TZ} (l : Lnk K Z B De D) : Lnk K Z B { De with nx := u De } { D with nx := dls K Z u D } :=
  ⟨fun G H σ ρ n env h => ⟨B, G, ρ, n, De, env, h, l⟩, l.bk, l.ct, l.rt, l.ro⟩
theorem dss_nil : DSs X Z [] dNext := ⟨pss_imp pss_nil fun D σ H ⟨B, G, ρ, n, De, env, q, l⟩ => l.nx G H σ ρ n env q⟩
theorem dss_one (h : DS X Z st tz) : DSs X Z [st] tz := ⟨pss_one h.ps⟩
theorem dss_cons (h : DS X Z st tz) (hr : DSs X Z rest tu) : DSs X Z (st :: rest) (dSeq tz tu) := ⟨pss_imp (pss_cons h.ps hr.pss) fun D σ H ⟨B, G, ρ, n, De, env, q, l⟩ => ⟨B, G, ρ, n, _, env, q, l.seq⟩⟩
/-- one goes on by what is said between -/
def dCut1 (t u : TZ) : TZ := fun De ρ n => ∃ J : Ro → Nat → Prop, t { De with nx := J } ρ n ∧ ∀ ρ' n', J ρ' n' → u De ρ' n'
theorem dss_cut (h : DS X Z st tz) (hr : DSs X Z rest tu) : DSs X Z (st :: rest) (dCut1 tz tu) := ⟨pss_imp (pss_cons h.ps hr.pss) fun D σ H ⟨B, G, ρ, n, De, env, ⟨J, q, hJ⟩, l⟩ =>
  ⟨B, G, ρ, n, { De with nx := J }, env, q, ⟨fun G H σ ρ n env h => ⟨B, G, ρ, n, De, env, hJ _ _ h, l⟩, l.bk, l.ct, l.rt, l.ro⟩⟩⟩
theorem ds_pass : DS X Z (.Pass pos) dNext := ⟨ps_imp ps_pass fun D σ H ⟨B, G, ρ, n, De, env, q, l⟩ => l.nx G H σ ρ n env q⟩
def dBreak : TZ := fun De ρ n => De.bk ρ n
def dCont : TZ := fun De ρ n => De.ct ρ n
theorem ds_break : DS X Z (.Break pos) dBreak := ⟨ps_imp ps_break fun D σ H ⟨B, G, ρ, n, De, env, q, l⟩ => l.bk G H σ ρ n env q⟩
theorem ds_continue : DS X Z (.Continue pos) dCont := ⟨ps_imp ps_continue fun D σ H ⟨B, G, ρ, n, De, env, q, l⟩ => l.ct G H σ ρ n env q⟩
theorem ds_doc {x j pos pos'} : DS X Z (.Expr (.Constant (.str x) j pos) pos') dNext := ⟨ps_imp ps_doc fun D σ H ⟨B, G, ρ, n, De, env, q, l⟩ => l.nx G H σ ρ n env q⟩
def dNever : TZ := fun _ _ _ => False
theorem ds_never : DS X Z st dNever := ⟨ps_imp ps_never fun D σ H ⟨B, G, ρ, n, De, env, q, l⟩ => q⟩
theorem dss_never : DSs X Z sts dNever := ⟨pss_imp pss_never fun D σ H ⟨B, G, ρ, n, De, env, q, l⟩ => q⟩
/-- numbers, texts, truths, None: they keep nothing of one's own -/
def flatD : D → Bool
  | .non => true | .bl _ => true | .int _ => true | .str _ => true | _ => false
theorem Rep.flat {K : PySem.W.Frag} {F : Option Addr} {G G' : Hp} {v : V} {d : D} (r : Rep K F G v d) (h : flatD d = true) : Rep K F G' v d := by
  cases r <;> first | exact .non | exact .bl _ | exact .int _ | exact .str _ | cases h
def keepO (d : D) (ρ ρ' : Ro) : Ro := if flatD d = true then ρ else ρ'
theorem EnvD.keep {K : PySem.W.Frag} {B : Bx} {G H G1 H1 G2 : Hp} {σ : L2.St} {ρ ρ1 : Ro} {n m : Nat} {v : V} {d : D} (e : EnvD K Z B G H σ ρ n) (e1 : EnvD K Z B G1 H σ ρ1 n) (s : Same G G1) (x : Ext B.F G1 H G2 H1) (w : Wd B.F G2 H1 m) (r : Rep K B.F G2 v d) :
    ∃ G3, EnvD K Z B G3 H1 σ (keepO d ρ ρ1) m ∧ Rep K B.F G3 v d := by
  unfold keepO
  by_cases c : flatD d = true
  · rw [if_pos c]
    obtain ⟨x2, w2⟩ := back s x w fun p f => (e.w.fd p f).2
    exact ⟨G, e.ext x2 w2, r.flat c⟩
  · rw [if_neg c]
    exact ⟨G2, e1.ext x w, r⟩
/-- x = e -/
def dSet (i : Nat) (is : List Nat) (td : TD) : TZ := fun De ρ n => td (fzs is ρ) n fun d n1 => De.nx ((keepO d ρ (fzs is ρ)).set i (some (.d d))) n1
theorem ds_set {i : Nat} (is : List Nat) {x : Str} {pos' : Pos} (hN : X.N.Nodup) (hi : X.N[i]? = some x) (hx : Loc X.env.scope x) (he : DE X Z e td) (hs : swapsWith e (some (.Name x pos')) pos.line X.env = pure false := by rfl) (hf : X.fn x = true ∨ X.env.scope.names.lookup x = some .local := by first | exact .inl rfl | exact .inr rfl | assumption) :
    DS X Z (.Assign [.Name x pos'] e pos) (dSet i is td) := ⟨ps_imp (ps_set hN hi hx he.pe hs hf) fun D σ H ⟨B, G, ρ, n, De, env, q, l⟩ => by
  obtain ⟨G1, env1, s⟩ := env.freeze is
  refine ⟨B, G1, _, n, _, env1, q, fun d n1 v H1 G2 q1 x1 w1 r1 => ?_⟩
  obtain ⟨G3, e3, r3⟩ := env.keep env1 s x1 w1 r1
  exact l.nx G3 H1 _ _ n1 (e3.setD r3) q1⟩
/-- x = a list made new -/
def dSetO (i : Nat) (is : List Nat) (tl : TL) : TZ := fun De ρ n => tl (fzs is ρ) n fun ds n1 => De.nx ((fzs is ρ).set i (some (.own ds))) n1
theorem EnvD.gotO {K : PySem.W.Frag} {B : Bx} {G H G1 H1 : Hp} {σ : L2.St} {ρ : Ro} {n m : Nat} {q : Addr} {vs : List V} {ds : List D} {i : Nat} (e : EnvD K Z B G H σ ρ n) (x : Ext B.F G H G1 H1) (w : Wd B.F G1 H1 m) (h0 : H q = none) (h1 : H1 q = some (.lst vs)) (h2 : G1 q = none) (r : RepL K B.F G1 vs ds) :
    EnvD K Z B G1 H1 (σ.set i (some (.ref q))) (ρ.set i (some (.own ds))) m := by
  refine (e.ext x w).setO h1 h2 ?_ r (e.cells x h0) fun j ys _ => e.apart h0 j ys
  cases z : B.H q with
  | none => rfl
  | some o => exact absurd h0 (e.x.kp q (by rw [z]; exact fun y => nomatch y))
theorem ds_setO {i : Nat} (is : List Nat) {x : Str} {pos' : Pos} (hN : X.N.Nodup) (hi : X.N[i]? = some x) (hx : Loc X.env.scope x) (he : DO X Z e tl) (hs : swapsWith e (some (.Name x pos')) pos.line X.env = pure false := by rfl) (hf : X.fn x = true ∨ X.env.scope.names.lookup x = some .local := by first | exact .inl rfl | exact .inr rfl | assumption) :
    DS X Z (.Assign [.Name x pos'] e pos) (dSetO i is tl) := ⟨ps_imp (ps_set hN hi hx he.pe hs hf) fun D σ H ⟨B, G, ρ, n, De, env, q, l⟩ => by
  obtain ⟨G1, env1, s⟩ := env.freeze is
  exact ⟨B, G1, _, n, _, env1, q, fun ds n1 p vs H1 G2 q1 x1 w1 h0 h1 h2 r1 => l.nx G2 H1 _ _ n1 (env1.gotO x1 w1 h0 h1 h2 r1) q1⟩⟩
def dExpr (is : List Nat) (td : TD) : TZ := fun De ρ n => td (fzs is ρ) n fun _ n1 => De.nx (fzs is ρ) n1
theorem ds_expr (is : List Nat) (he : DE X Z e td) (hs : swapsWith e none pos.line X.env = pure false := by rfl) : DS X Z (.Expr e pos) (dExpr is td) := ⟨ps_imp (ps_expr he.pe hs) fun D σ H ⟨B, G, ρ, n, De, env, q, l⟩ => by
  obtain ⟨G1, env1, s⟩ := env.freeze is
  exact ⟨B, G1, _, n, _, env1, q, fun d n1 v H1 G2 q1 x1 w1 r1 => l.nx G2 H1 _ _ n1 (env1.ext x1 w1) q1⟩⟩
def dRet (td : TD) : TZ := fun De ρ n => td (fzA ρ) n De.rt
theorem ds_ret (he : DE X Z e td) : DS X Z (.Return (some e) pos) (dRet td) := ⟨ps_imp (ps_ret he.pe) fun D σ H ⟨B, G, ρ, n, De, env, q, l⟩ => by
  obtain ⟨G1, env1, s⟩ := env.lend
  exact ⟨B, G1, _, n, _, env1, q, fun d n1 v H1 G2 q1 x1 w1 r1 => l.rt G2 H1 n1 v d q1 (env1.x.trans x1) w1 r1⟩⟩
def dRetO (tl : TL) : TZ := fun De ρ n => tl (fzA ρ) n De.ro
theorem free0 {F : Option Addr} {G H G1 H1 : Hp} {q : Addr} (x : Ext F G H G1 H1) (h : H1 q = none) : H q = none := by
  cases z : H q with
  | none => rfl
  | some o => exact absurd h (x.kp q (by rw [z]; exact fun y => nomatch y))
theorem ds_retO (he : DO X Z e tl) : DS X Z (.Return (some e) pos) (dRetO tl) := ⟨ps_imp (ps_ret he.pe) fun D σ H ⟨B, G, ρ, n, De, env, q, l⟩ => by
  obtain ⟨G1, env1, s⟩ := env.lend
  exact ⟨B, G1, _, n, _, env1, q, fun ds n1 p vs H1 G2 q1 x1 w1 h0 h1 h2 r1 => l.ro G2 H1 n1 p vs ds q1 (env1.x.trans x1) w1 (free0 env1.x h0) h1 h2 r1⟩⟩
/-- return of a list of one's own -/
def dRetS (i : Nat) : TZ := fun De ρ n => match ρ[i]? with
  | some (some (.own xs)) => De.ro xs n
  | _ => False
theorem ds_retS (i : Nat) {x : Str} {pos' : Pos} (hN : X.N[i]? = some x := by rfl) (hv : Vis X.env.scope x := by first | exact Or.inl rfl | exact Or.inr (Or.inl rfl) | exact Or.inr (Or.inr rfl)) (hd : (x == ("__debug__" : Str)) = false := by decide)
    (hcd : (x == ("__classdict__" : Str)) = false := by decide) : DS X Z (.Return (some (.Name x pos')) pos) (dRetS i) := ⟨ps_imp (ps_ret (pv i hN hv hd hcd)) fun D σ H ⟨B, G, ρ, n, De, env, q, l⟩ => by
  unfold dRetS at q
  split at q
  · rename_i xs h
    obtain ⟨p, vs, h1, h2, h3, h4, h5, h6⟩ := env.own i xs h
    exact ⟨_, h1, l.ro G H n p vs xs q env.x env.w h4 h2 h3 h5⟩
  · exact q.elim⟩
def dRetN : TZ := fun De _ n => De.rt .non n
theorem ds_retN : DS X Z (.Return none pos) dRetN := ⟨ps_imp ps_retN fun D σ H ⟨B, G, ρ, n, De, env, q, l⟩ => l.rt G H n .non .non q env.x env.w .non⟩
def dIf (tt : TB) (t u : TZ) : TZ := fun De ρ n => tt ρ n fun b n1 => br b (t De ρ n1) (u De ρ n1)
theorem ds_if {c : Expr} {a b : List Stmt} {tt : TB} (hc : DT X Z c tt) (ha : DSs X Z a tz) (hb : DSs X Z b tu) : DS X Z (.If c a b pos) (dIf tt tz tu) := ⟨ps_imp (ps_if hc.pt ha.pss hb.pss) fun D σ H ⟨B, G, ρ, n, De, env, q, l⟩ =>
  ⟨B, G, ρ, n, _, env, q, fun c n1 H1 q1 x1 w1 => by
    cases c with
    | true =>
      replace q1 := q1.1 rfl
      exact iteT ⟨B, G, ρ, n1, De, env.ext x1 w1, q1, l⟩
    | false =>
      replace q1 := q1.2 rfl
      exact iteF ⟨B, G, ρ, n1, De, env.ext x1 w1, q1, l⟩⟩⟩
structure While (tt : TB) (tb : TZ) (De : DEnds) (ρ : Ro) (n : Nat) : Prop where
  ex : ∃ W : Nat → Ro → Nat → Prop, (∃ m, W m ρ n) ∧ ∀ m ρ n, W m ρ n → tt ρ n fun b n1 =>
  br b (tb { De with nx := fun ρ' n' => ∃ m', m' < m ∧ W m' ρ' n', ct := fun ρ' n' => ∃ m', m' < m ∧ W m' ρ' n', bk := De.nx } ρ n1) (De.nx ρ n1)
def dWhile (tt : TB) (tb : TZ) : TZ := fun De ρ n => While tt tb De ρ n
theorem ds_while {c : Expr} {body : List Stmt} {tt : TB} {tb : TZ} (hp : PassesOwn (model X.prog X.w) X.A X.env X.xe) (hc : DT X Z c tt) (hb : DSs X Z body tb) : DS X Z (.While c body [] pos) (dWhile tt tb) := ⟨ps_imp (ps_while hp hc.pt hb.pss) fun D σ H ⟨B, G, ρ, n, De, env, q, l⟩ => by
  obtain ⟨W, ⟨m, hm⟩, turn⟩ := q.ex
  refine ⟨fun m σ H => ∃ G ρ n, EnvD X.K Z B G H σ ρ n ∧ W m ρ n, ⟨m, G, ρ, n, env, hm⟩, ?_⟩
  rintro m σ H ⟨G, ρ, n, env, hm⟩
  refine ⟨B, G, ρ, n, _, env, turn m ρ n hm, fun b n1 H1 q1 x1 w1 => ?_⟩
  cases b with
  | false =>
    replace q1 := q1.2 rfl
    exact iteF (l.nx G H1 σ ρ n1 (env.ext x1 w1) q1)
  | true =>
    replace q1 := q1.1 rfl
    refine iteT ⟨fun σ' H' => ∃ G ρ n m', EnvD X.K Z B G H' σ' ρ n ∧ m' < m ∧ W m' ρ n, fun σ' H' ⟨G, ρ, n, m', e, h1, h2⟩ => ⟨m', h1, G, ρ, n, e, h2⟩, ?_⟩
    exact ⟨B, G, ρ, n1, _, env.ext x1 w1, q1, ⟨fun G H σ ρ n env ⟨m', h1, h2⟩ => ⟨G, ρ, n, m', env, h1, h2⟩, fun G H σ ρ n env h => l.nx G H σ ρ n env h, fun G H σ ρ n env ⟨m', h1, h2⟩ => ⟨G, ρ, n, m', env, h1, h2⟩, l.rt, l.ro⟩⟩⟩
/-! what is one's own is changed -/
theorem EnvC.put {K : PySem.W.Frag} {B : Bx} {G H : Hp} {σ : L2.St} {ρ : Ro} {n : Nat} {i : Nat} {q : Addr} {vs : List V} {xs xs' : List D} (e : EnvC K B G H σ ρ n) (hi : ρ[i]? = some (some (Sl.own xs))) (hq : σ[i]? = some (some (V.ref q))) (r : RepL K B.F G vs xs') :
    EnvC K B G (upd H q (.lst vs)) σ (ρ.set i (some (.own xs'))) n := by
  obtain ⟨q', vs0, h1, h2, h3, h4, h5, h6⟩ := e.own i xs hi
  rw [hq] at h1
  cases h1
  have far : ∀ b u, H b = some u → b ≠ q → upd H q (.lst vs) b = some u := fun b u hb hn => by rw [upd_ne hn]; exact hb
  have kp : ∀ b, H b ≠ none → upd H q (.lst vs) b ≠ none := new_kp
  have fdH : ∀ p c a l, B.F = some p → H p = some (.dK (fdK c a l)) → upd H q (.lst vs) p = some (.dK (fdK c a l)) := fun p c a l f hb => far p _ hb (ne_of hb h2 (by intro z; cases z))
  have w : Wd B.F G (upd H q (.lst vs)) n := by
    refine ⟨fun b u hb => far b u (e.w.sub b u hb) (ne_of_none hb h3), fun p f => ?_⟩
    obtain ⟨⟨c, ns, a, l, g1, g2, g3⟩, g4⟩ := e.w.fd p f
    exact ⟨⟨c, ns, a, l, fdH p c a l f g1, far _ _ g2 (Ne.symm (h6 p c a l f g1)), g3⟩, g4⟩
  have x : Ext B.F B.G B.H G (upd H q (.lst vs)) := ⟨fun b u hb f => far b u (e.x.to b u hb f) (ne_of_none hb h4), fun p c a l f hb => by
    obtain ⟨a', l', z⟩ := e.x.fd p c a l f hb
    exact ⟨a', l', fdH p c a' l' f z⟩, fun b hb => kp b (e.x.kp b hb), e.x.g, e.x.gx⟩
  have e2 : EnvC K B G (upd H q (.lst vs)) σ (ρ.set i none) n := by
    have e1 : ∀ (j : Nat) (y : Sl), (ρ.set i none)[j]? = some (some y) → i ≠ j ∧ ρ[j]? = some (some y) := fun j y h => by
      by_cases c : i = j
      · subst c
        rw [List.getElem?_set] at h
        simp only [if_true] at h
        split at h <;> cases h
      · rw [List.getElem?_set_ne c] at h
        exact ⟨c, h⟩
    refine ⟨w, x, by rw [List.length_set]; exact e.len, fun j y h => e.d j y (e1 j _ h).2, fun j ys h => ?_, fun j k q2 xs2 ys2 hjk k1 k2 => e.dis j k q2 xs2 ys2 hjk (e1 j _ k1).2 (e1 k _ k2).2⟩
    obtain ⟨c, hj⟩ := e1 j _ h
    obtain ⟨q2, vs2, g1, g2, g3, g4, g5, g6⟩ := e.own j ys hj
    have ne : q2 ≠ q := fun z => by
      subst z
      exact e.dis i j q2 xs ys c hi hj hq g1
    refine ⟨q2, vs2, g1, far _ _ g2 ne, g3, g4, g5, fun p c a l f hb => ?_⟩
    obtain ⟨⟨c0, ns, a0, l0, k1, _⟩, _⟩ := e.w.fd p f
    rw [fdH p c0 a0 l0 f k1] at hb
    rw [← fdK_inj (Option.some.inj hb)]
    exact g6 p c0 a0 l0 f k1
  have e3 := e2.setO (i := i) (q := q) (vs := vs) (xs := xs') upd_same h3 h4 r (fun p c a l f hb => by
    obtain ⟨⟨c0, ns, a0, l0, k1, _⟩, _⟩ := e.w.fd p f
    rw [fdH p c0 a0 l0 f k1] at hb
    rw [← fdK_inj (Option.some.inj hb)]
    exact h6 p c0 a0 l0 f k1) (fun j ys hj hjo => by
      rw [List.getElem?_set_ne (Ne.symm hj)] at hjo
      intro z
      exact e.dis i j q xs ys (Ne.symm hj) hi hjo hq z)
  have es : σ.set i (some (V.ref q)) = σ := set_same hq
  have er : (ρ.set i none).set i (some (Sl.own xs')) = ρ.set i (some (Sl.own xs')) := List.set_set ..
  rw [es, er] at e3
  exact e3
theorem EnvD.put {K : PySem.W.Frag} {B : Bx} {G H : Hp} {σ : L2.St} {ρ : Ro} {n : Nat} {i : Nat} {q : Addr} {vs : List V} {xs xs' : List D} (e : EnvD K Z B G H σ ρ n) (hi : ρ[i]? = some (some (Sl.own xs))) (hq : σ[i]? = some (some (V.ref q))) (r : RepL K B.F G vs xs') :
    EnvD K Z B G (upd H q (.lst vs)) σ (ρ.set i (some (.own xs'))) n := ⟨e.toEnvC.put hi hq r, e.z⟩
theorem fzs_own {i : Nat} {xs : List D} : ∀ (is : List Nat) {ρ : Ro}, (fzs is ρ)[i]? = some (some (Sl.own xs)) → ρ[i]? = some (some (Sl.own xs))
  | [], _, h => h
  | j :: r, ρ, h => by
    have h' : (fzI j ρ)[i]? = some (some (Sl.own xs)) := fzs_own r h
    unfold fzI at h'
    split at h'
    · by_cases c : j = i
      · subst c
        rw [List.getElem?_set] at h'
        simp only [if_true] at h'
        split at h' <;> cases h'
      · rw [List.getElem?_set_ne c] at h'
        exact h'
    · exact h'
/-- x.append(e) -/
def dApp (i : Nat) (is : List Nat) (td : TD) : TZ := fun De ρ n => match (fzs is ρ)[i]? with
  | some (some (.own xs)) => td (fzs is ρ) n fun d n1 => xs.length < sizeLine ∧ De.nx ((keepO d ρ (fzs is ρ)).set i (some (.own (xs ++ [d])))) n1
  | _ => False
/-- x[k] = e -/
def dSetI (i : Nat) (is : List Nat) (tk td : TD) : TZ := fun De ρ n => match (fzs is ρ)[i]? with
  | some (some (.own xs)) => td (fzs is ρ) n fun d n1 => tk (fzs is ρ) n1 fun y n2 => (match y with
    | .int k => (match ixN xs.length k with
      | some j => De.nx ((keepO d ρ (fzs is ρ)).set i (some (.own (xs.set j d)))) n2
      | none => False)
    | _ => False)
  | _ => False
end
end Dw

namespace Dw
open PySem PySem.Spec PyProof.Rows L2 Fw
section
variable {X : Cx} {Z : ZX} {e a : Expr} {td ta tb tk : TD} {tl : TL} {pos : Pos}
theorem keepO_own {d : D} {ρ : Ro} {is : List Nat} {i : Nat} {xs : List D} (h : (fzs is ρ)[i]? = some (some (Sl.own xs))) : (keepO d ρ (fzs is ρ))[i]? = some (some (Sl.own xs)) := by
  unfold keepO
  split
  · exact fzs_own is h
  · exact h
theorem ds_app (i : Nat) (is : List Nat) {x : Str} {p1 p2 p3 : Pos} (he : DE X Z e td) (hN : X.N[i]? = some x := by rfl) (hv : Vis X.env.scope x := by first | exact Or.inl rfl | exact Or.inr (Or.inl rfl) | exact Or.inr (Or.inr rfl)) (hd : (x == ("__debug__" : Str)) = false := by decide)
    (hcd : (x == ("__classdict__" : Str)) = false := by decide) (hs : swapsWith (.Call (.Attribute (.Name x p1) "append" p2) [e] [] p3) none pos.line X.env = pure false := by rfl)
    (hbase : attributeBase (.Name x p1) "append" X.env (eval (.Name x p1) X.env) = eval (.Name x p1) X.env := by rfl)
    (hfew : ((backTo p3 (starEach [e] X.env)).all (fun x => !x.1) && (backToKw p3 (keywordEach [] X.env)).all (fun x => x.1.isSome)
      && decide ([e].length + ([] : List Keyword).length + (if ([] : List Keyword).isEmpty then 0 else 1) < 30)) = true := by rfl)
    (hline : (p2.endLine == p3.line) = true := by rfl) (hst : starEach [e] X.env = (false, eval e X.env) :: starEach [] X.env := by rfl) (hplain : (backTo p3 (starEach [] X.env)).any (·.1) = false := by rfl) :
    DS X Z (.Expr (.Call (.Attribute (.Name x p1) "append" p2) [e] [] p3) pos) (dApp i is td) := by
  refine ⟨ps_imp (ps_expr (pe_bm PySem.F.plainAttrs_list PySem.F.slot_list_append PySem.F.type_list_append mt_append (pv i hN hv hd hcd) (pa_cons he.pe pa_nil hst) hbase hfew hline hst hplain) hs) fun D σ H ⟨B, G, ρ, n, De, env, q, l⟩ => ?_⟩
  obtain ⟨G1, env1, s⟩ := env.freeze is
  unfold dApp at q
  split at q
  · rename_i xs hx
    obtain ⟨p, vs, h1, h2, h3, h4, h5, h6⟩ := env1.own i xs hx
    refine ⟨_, h1, .inl ⟨rfl, _, SqL.of h2⟩, ?_⟩
    refine ⟨B, G1, _, n, _, env1, q, fun d n1 v H1 G2 q1 x1 w1 r1 => ?_⟩
    obtain ⟨G3, e3, r3⟩ := env.keep env1 s x1 w1 r1
    have hk := keepO_own (d := d) hx
    obtain ⟨p', vs', g1, g2, g3, g4, g5, g6⟩ := e3.own i xs hk
    rw [h1] at g1
    cases g1
    refine ⟨p, vs', v, rfl, rfl, g2, by rw [g5.length]; exact q1.1, ?_⟩
    exact l.nx G3 _ σ _ n1 (e3.put hk h1 (g5.append (.cons r3 .nil))) q1.2
  · exact q.elim
theorem ds_seti (i : Nat) (is : List Nat) {x : Str} {p1 p2 : Pos} (hk : DE X Z a tk) (he : DE X Z e td) (hN : X.N[i]? = some x := by rfl) (hv : Vis X.env.scope x := by first | exact Or.inl rfl | exact Or.inr (Or.inl rfl) | exact Or.inr (Or.inr rfl)) (hd : (x == ("__debug__" : Str)) = false := by decide)
    (hcd : (x == ("__classdict__" : Str)) = false := by decide)
    (ha : ∀ v, assign (.Subscript (.Name x p1) a p2) X.env v = (do
      let ov ← holding [v] (eval (.Name x p1) X.env)
      let iv ← holding [v, ov] (eval a X.env)
      standAt p2
      holding [v, ov, iv] (setItem ov iv v)
      release [v, ov, iv] []) := by intro _; rfl)
    (hs : swapsWithSole [.Subscript (.Name x p1) a p2] e pos.line X.env = pure false := by rfl) (hw : swappedStores [.Subscript (.Name x p1) a p2] e X.env = pure none := by rfl)
    (h1 : (assignEach [.Subscript (.Name x p1) a p2] X.env).map (·.2) = [assign (.Subscript (.Name x p1) a p2) X.env] := by rfl) : DS X Z (.Assign [.Subscript (.Name x p1) a p2] e pos) (dSetI i is tk td) := by
  refine ⟨ps_imp (ps_asg he.pe (pg_sub (pv i hN hv hd hcd) hk.pe set_list ha) hs hw h1) fun D σ H ⟨B, G, ρ, n, De, env, q, l⟩ => ?_⟩
  obtain ⟨G1, env1, s⟩ := env.freeze is
  unfold dSetI at q
  split at q
  · rename_i xs hx
    obtain ⟨p, vs, h1, h2, h3, h4, h5, h6⟩ := env1.own i xs hx
    refine ⟨B, G1, _, n, _, env1, q, fun d n1 v H1 G2 q1 x1 w1 r1 => ?_⟩
    refine ⟨_, h1, ?_⟩
    refine ⟨B, G2, _, n1, _, env1.ext x1 w1, q1, fun y n2 u H2 G3 q2 x2 w2 r2 => ?_⟩
    split at q2
    · cases r2
      split at q2
      · rename_i j hj
        obtain ⟨G4, e4, r4⟩ := env.keep env1 s (x1.trans x2) w2 (r1.mono x2.g)
        have hk := keepO_own (d := d) hx
        obtain ⟨p', vs', g1, g2, g3, g4, g5, g6⟩ := e4.own i xs hk
        rw [h1] at g1
        cases g1
        refine ⟨p, vs', _, j, rfl, rfl, g2, by rw [g5.length]; exact hj, ?_⟩
        exact l.nx G4 _ σ _ n2 (e4.put hk h1 (g5.set j r4)) q2
      · exact q2.elim
    · exact q2.elim
  · exact q.elim
/-! ### what is walked -/
def ItR (K : PySem.W.Frag) (F : Option Addr) (G : Hp) (J : It) (ds : List D) : Prop := ∀ G2 H2 n2, Same G G2 → Wd F G2 H2 n2 →
  (∀ (i : Nat) (d : D), ds[i]? = some d → J.go i H2 ∧ ∀ x H3, J.yld i H2 x H3 → ∃ G3, Ext F G2 H2 G3 H3 ∧ Wd F G3 H3 n2 ∧ Rep K F G3 x d) ∧ ∀ i, ds.length ≤ i → J.stop i H2
def dli (K : PySem.W.Frag) (Z : ZX) (ti : TL) : TI := fun σ H R => ∃ B G ρ n Qd, EnvD K Z B G H σ ρ n ∧ ti ρ n Qd ∧ ∀ ds n' J H' G', Qd ds n' → Ext B.F G H G' H' → Wd B.F G' H' n' → ItR K B.F G' J ds → R J H'
structure DI (X : Cx) (Z : ZX) (tg iter : Expr) (ti : TL) : Prop where
  pi : PI X tg iter (dli X.K Z ti)
variable {tg : Expr} {K : PySem.W.Frag} {F : Option Addr} {G : Hp}
theorem pi_imp {iter : Expr} {t t' : TI} (h : PI X tg iter t) (i : ∀ σ H R, t' σ H R → t σ H R) : PI X tg iter t' := ⟨fun pins s σ H R I q => h.run pins s σ H R I (i σ H R q)⟩
/-- a list, a tuple, a text -/
def iAny (K : PySem.W.Frag) (tl : TE) : TI := fun σ H R => tl σ H fun x H1 => (∃ a, x = .ref a ∧ (∃ xs, SqL K H1 a xs) ∧ R (Itl K a) H1) ∨ (∃ a, x = .ref a ∧ (∃ xs, SqT K H1 a xs) ∧ R (Itt K a) H1) ∨ ∃ y, x = .str y ∧ R (Its y) H1
theorem pi_any {l : Expr} {tl : TE} (hl : PE X l tl) : PI X tg l (iAny X.K tl) := by
  refine ⟨fun pins s σ H R I h => ?_⟩
  refine thn (hl.run pins s σ H _ I h) fun v s1 ⟨x, H1, I1, r1, q1⟩ => ?_
  rcases q1 with ⟨a, e, ⟨xs, hq⟩, q⟩ | ⟨a, e, ⟨xs, hq⟩, q⟩ | ⟨y, e, q⟩
  · subst e
    cases r1
    obtain ⟨its, rv, p, hz⟩ := I1.list hq
    refine wpAny_pyIter_list p.isList ?_
    refine ⟨s1.heap.objs.size, [s1.heap.objs.size], _, _, H1, rfl, I1.kept (t' := s1.toks) fun b o e => Heap.get?_push_of_some _ e, turn_list a _, ⟨_, Heap.get?_push_size _ rfl, rfl, rfl⟩, fun b hb => ?_, q⟩
    have e : b = s1.heap.objs.size := by simpa using hb
    subst e
    exact I1.fpOk (Nat.le_refl _) (I1.hok.fresh (Nat.le_refl _))
  · subst e
    cases r1
    obtain ⟨its, rv, p, hz⟩ := I1.tuple hq
    refine wpAny_pyIter_tuple (show s1.heap.IsTuple a its.toArray from p) ?_
    refine ⟨s1.heap.objs.size, [s1.heap.objs.size], _, _, H1, rfl, I1.kept (t' := s1.toks) fun b o e => Heap.get?_push_of_some _ e, turn_tuple a _, ⟨_, Heap.get?_push_size _ rfl, rfl, rfl⟩, fun b hb => ?_, q⟩
    have e : b = s1.heap.objs.size := by simpa using hb
    subst e
    exact I1.fpOk (Nat.le_refl _) (I1.hok.fresh (Nat.le_refl _))
  · subst e
    obtain ⟨t, rfl⟩ := r1
    cases ha : y.cps.all (· < 128)
    · exact wpAny_pyIter_wide ha (pi_one (tk := s1.toks) I1 _ (turn_str _ y t "str_iterator" (.inr rfl)) ⟨_, Heap.get?_push_size _ rfl, rfl, rfl⟩ q)
    · exact wpAny_pyIter_ascii ha (pi_one (tk := s1.toks) I1 _ (turn_str _ y t "str_ascii_iterator" (.inl rfl)) ⟨_, Heap.get?_push_size _ rfl, rfl, rfl⟩ q)
theorem it_list {a : Addr} {vs : List V} {ds : List D} (h : SqL K G a vs) (r : RepL K F G vs ds) : ItR K F G (Itl K a) ds := fun G2 H2 n2 s w => by
  have h2 : SqL K H2 a vs := (s.trans w.sub).seq h
  refine ⟨fun i d hd => ?_, fun i hi => ⟨vs, h2, by rw [r.length]; exact hi⟩⟩
  obtain ⟨v, e1, e2⟩ := r.get hd
  refine ⟨⟨vs, v, h2, e1⟩, fun x H3 y => ?_⟩
  obtain ⟨rfl, hy⟩ := y
  have e3 := hy vs h2
  rw [e1] at e3
  cases e3
  exact ⟨G2, Ext.refl, w, e2.mono s⟩
theorem it_tup {a : Addr} {vs : List V} {ds : List D} (h : SqT K G a vs) (r : RepL K F G vs ds) : ItR K F G (Itt K a) ds := fun G2 H2 n2 s w => by
  have h2 : SqT K H2 a vs := sqT_same (s.trans w.sub) h
  refine ⟨fun i d hd => ?_, fun i hi => ⟨vs, h2, by rw [r.length]; exact hi⟩⟩
  obtain ⟨v, e1, e2⟩ := r.get hd
  refine ⟨⟨vs, v, h2, e1⟩, fun x H3 y => ?_⟩
  obtain ⟨rfl, hy⟩ := y
  have e3 := hy vs h2
  rw [e1] at e3
  cases e3
  exact ⟨G2, Ext.refl, w, e2.mono s⟩
def chars (s : Str) : List D := s.cps.toList.map fun c => .str ⟨#[c]⟩
theorem it_str (y : Str) : ItR K F G (Its y) (chars y) := fun G2 H2 n2 s w => by
  refine ⟨fun i d hd => ?_, fun i hi => by
    have hi' : y.cps.size ≤ i := by simpa [chars] using hi
    exact hi'⟩
  unfold chars at hd
  rw [List.getElem?_map] at hd
  cases q : y.cps.toList[i]? with
  | none => rw [q] at hd; cases hd
  | some c =>
    rw [q] at hd
    cases hd
    have q' : y.cps[i]? = some c := by simpa using q
    have hlt : i < y.cps.size := (Array.getElem?_eq_some_iff.mp q').1
    refine ⟨hlt, fun x H3 z => ?_⟩
    obtain ⟨rfl, c', h1, rfl⟩ := z
    rw [q'] at h1
    cases h1
    exact ⟨G2, Ext.refl, w, .str _⟩
def dItems : D → Nat → QL → Prop
  | .lst l, n, Q => Q l n
  | .tup l, n, Q => Q l n
  | .str s, n, Q => Q (chars s) n
  | .scr l, n, Q => Q (l.map D.int) n
  | _, _, _ => False
def dWalk (td : TD) : TL := fun ρ n Q => td ρ n fun x n1 => dItems x n1 Q
theorem di_any {l : Expr} (hl : DE X Z l td) : DI X Z tg l (dWalk td) := ⟨pi_imp (pi_any hl.pe) fun σ H R ⟨B, G, ρ, n, Qd, env, q, k⟩ =>
  ⟨B, G, ρ, n, _, env, q, fun d n1 v H1 G1 q1 x1 w1 r1 => by
    unfold dItems at q1
    split at q1
    · cases r1 with | lst h r =>
      exact .inl ⟨_, rfl, ⟨_, SqL.of (w1.sub _ _ h)⟩, k _ n1 _ H1 G1 q1 x1 w1 (it_list (SqL.of h) r)⟩
    · cases r1 with | tup h r =>
      exact .inr (.inl ⟨_, rfl, ⟨_, sqT_same w1.sub h⟩, k _ n1 _ H1 G1 q1 x1 w1 (it_tup h r)⟩)
    · cases r1
      exact .inr (.inr ⟨_, rfl, k _ n1 _ H1 G1 q1 x1 w1 (it_str _)⟩)
    · cases r1 with | scr h =>
      exact .inl ⟨_, rfl, ⟨_, w1.sub.seq h⟩, k _ n1 _ H1 G1 q1 x1 w1 (it_list h (repInts _))⟩
    · exact q1.elim⟩⟩
/-! range -/
def rngD (lo : Int) (n : Nat) : List D := (List.range n).map fun i => .int (lo + (i : Nat))
theorem rngD_len (lo : Int) (n : Nat) : (rngD lo n).length = n := by unfold rngD; simp
theorem it_range (lo : Int) (m : Nat) : ItR K F G (Itr lo m) (rngD lo m) := fun G2 H2 n2 s w => by
  refine ⟨fun i d hd => ?_, fun i hi => by rw [rngD_len] at hi; exact hi⟩
  have hlt : i < m := by
    have := (List.getElem?_eq_some_iff.mp hd).1
    rw [rngD_len] at this
    exact this
  refine ⟨hlt, fun x H3 z => ?_⟩
  obtain ⟨rfl, rfl⟩ := z
  have e : (rngD lo m)[i]? = some (.int (lo + (i : Nat))) := by
    unfold rngD
    rw [List.getElem?_map, List.getElem?_range hlt]; rfl
  rw [e] at hd
  cases hd
  exact ⟨G2, Ext.refl, w, .int _⟩
def dRng1 (tl : TL) : TL := fun ρ n Q => tl ρ n fun ds n1 => match ds with
  | [.int j] => -(2 ^ 62) ≤ j ∧ j < 2 ^ 62 ∧ Q (rngD 0 j.toNat) n1
  | _ => False
def dRng2 (tl : TL) : TL := fun ρ n Q => tl ρ n fun ds n1 => match ds with
  | [.int i, .int j] => (-(2 ^ 62) ≤ i ∧ i < 2 ^ 62 ∧ -(2 ^ 62) ≤ j ∧ j < 2 ^ 62) ∧ Q (rngD i (j - i).toNat) n1
  | _ => False
variable {b : Expr} {p : Pos}
theorem di_range1 (hm : X.mg "range" = none) (ha : DA X Z [a] tl) (hg : Gl X "range" := by rfl) (hs : starEach [a] X.env = [(false, eval a X.env)] := by rfl) : DI X Z tg (.Call (.Name "range" p) [a] [] pos) (dRng1 tl) :=
  ⟨pi_imp (pi_range1 hg hm ha.pa hs) fun σ H R ⟨B, G, ρ, n, Qd, env, q, k⟩ => ⟨B, G, ρ, n, _, env, q, fun ds n1 vs H1 G1 q1 x1 w1 r1 => by
    split at q1
    · cases r1 with | cons h r =>
      cases r; cases h
      exact ⟨_, rfl, q1.1, q1.2.1, k _ n1 _ H1 G1 q1.2.2 x1 w1 (it_range _ _)⟩
    · exact q1.elim⟩⟩
theorem di_range2 (hm : X.mg "range" = none) (ha : DA X Z [a, b] tl) (hg : Gl X "range" := by rfl) (hs : starEach [a, b] X.env = [(false, eval a X.env), (false, eval b X.env)] := by rfl) (hs2 : starEach [b] X.env = [(false, eval b X.env)] := by rfl) : DI X Z tg (.Call (.Name "range" p) [a, b] [] pos) (dRng2 tl) :=
  ⟨pi_imp (pi_range2 hg hm ha.pa hs hs2) fun σ H R ⟨B, G, ρ, n, Qd, env, q, k⟩ => ⟨B, G, ρ, n, _, env, q, fun ds n1 vs H1 G1 q1 x1 w1 r1 => by
    split at q1
    · cases r1 with | cons h r => cases r with | cons h' r =>
      cases r; cases h; cases h'
      exact ⟨_, _, rfl, q1.1, k _ n1 _ H1 G1 q1.2 x1 w1 (it_range _ _)⟩
    · exact q1.elim⟩⟩
/-! enumerate, zip, reversed of lists -/
theorem rep_pair {G2 H2 : Hp} {n2 : Nat} {T : Addr} {x y : V} {dx dy : D} (w : Wd F G2 H2 n2) (hT : H2 T = none) (rx : Rep K F G2 x dx) (ry : Rep K F G2 y dy) : ∃ G3, Ext F G2 H2 G3 (upd H2 T (.tup [x, y])) ∧ Wd F G3 (upd H2 T (.tup [x, y])) n2 ∧ Rep K F G3 (.ref T) (.tup [dx, dy]) :=
  ⟨upd G2 T (.tup [x, y]), Ext.share hT (w.free hT), w.share hT, .tup (SqT.of upd_same) (.cons (rx.mono (new_to (w.free hT))) (.cons (ry.mono (new_to (w.free hT))) .nil))⟩
def enumD (l : List D) : List D := l.zipIdx.map fun p => .tup [.int (p.2 : Nat), p.1]
theorem enumD_at {l : List D} {i : Nat} {d : D} (h : (enumD l)[i]? = some d) : ∃ x, l[i]? = some x ∧ d = .tup [.int (i : Nat), x] := by
  unfold enumD at h
  rw [List.getElem?_map, List.getElem?_zipIdx] at h
  cases q : l[i]? with
  | none => rw [q] at h; cases h
  | some x =>
    rw [q] at h
    cases h
    exact ⟨x, rfl, by simp⟩
theorem it_enum {a : Addr} {vs : List V} {ds : List D} (h : SqL K G a vs) (r : RepL K F G vs ds) : ItR K F G (Ite K a) (enumD ds) := fun G2 H2 n2 s w => by
  have h2 : SqL K H2 a vs := (s.trans w.sub).seq h
  refine ⟨fun i d hd => ?_, fun i hi => ⟨vs, h2, by rw [r.length]; simpa [enumD] using hi⟩⟩
  obtain ⟨x, hx, rfl⟩ := enumD_at hd
  obtain ⟨v, e1, e2⟩ := r.get hx
  refine ⟨⟨vs, v, h2, e1⟩, fun y H3 z => ?_⟩
  obtain ⟨T, x', rfl, hT, rfl, hy⟩ := z
  have e3 := hy vs h2
  rw [e1] at e3
  cases e3
  exact rep_pair w hT (.int _) (e2.mono s)
theorem it_enumS (y : Str) : ItR K F G (IteS y) (enumD (chars y)) := fun G2 H2 n2 s w => by
  refine ⟨fun i d hd => ?_, fun i hi => by
    have hi' : y.cps.size ≤ i := by simpa [enumD, chars] using hi
    exact hi'⟩
  obtain ⟨x, hx, rfl⟩ := enumD_at hd
  unfold chars at hx
  rw [List.getElem?_map] at hx
  cases q : y.cps.toList[i]? with
  | none => rw [q] at hx; cases hx
  | some c =>
    rw [q] at hx
    cases hx
    have q' : y.cps[i]? = some c := by simpa using q
    refine ⟨(Array.getElem?_eq_some_iff.mp q').1, fun z H3 hz => ?_⟩
    obtain ⟨T, c', rfl, hT, h1, rfl⟩ := hz
    rw [q'] at h1
    cases h1
    exact rep_pair w hT (.int _) (.str _)
def dEnum (tl : TL) : TL := fun ρ n Q => tl ρ n fun ds n1 => match ds with
  | [.lst l] => Q (enumD l) n1
  | _ => False
def dEnumS (tl : TL) : TL := fun ρ n Q => tl ρ n fun ds n1 => match ds with
  | [.str s] => Q (enumD (chars s)) n1
  | _ => False
variable {elts : List Expr} {kk : Nat} {tpos : Pos} {e2 : Expr}
theorem di_enum (hm : X.mg "enumerate" = none) (ha : DA X Z [e] tl) (hg : Gl X "enumerate" := by rfl) (hs : starEach [e] X.env = [(false, eval e X.env)] := by rfl) : DI X Z (.Tuple elts kk tpos) (.Call (.Name "enumerate" p) [e] [] pos) (dEnum tl) :=
  ⟨pi_imp (pi_enum hg hm ha.pa hs) fun σ H R ⟨B, G, ρ, n, Qd, env, q, k⟩ => ⟨B, G, ρ, n, _, env, q, fun ds n1 vs H1 G1 q1 x1 w1 r1 => by
    split at q1
    · cases r1 with | cons h r =>
      cases r
      cases h with | lst h1 r1 =>
      exact ⟨_, _, rfl, SqL.of (w1.sub _ _ h1), k _ n1 _ H1 G1 q1 x1 w1 (it_enum (SqL.of h1) r1)⟩
    · exact q1.elim⟩⟩
theorem di_enumS (hm : X.mg "enumerate" = none) (ha : DA X Z [e] tl) (hg : Gl X "enumerate" := by rfl) (hs : starEach [e] X.env = [(false, eval e X.env)] := by rfl) : DI X Z (.Tuple elts kk tpos) (.Call (.Name "enumerate" p) [e] [] pos) (dEnumS tl) :=
  ⟨pi_imp (pi_enumS hg hm ha.pa hs) fun σ H R ⟨B, G, ρ, n, Qd, env, q, k⟩ => ⟨B, G, ρ, n, _, env, q, fun ds n1 vs H1 G1 q1 x1 w1 r1 => by
    split at q1
    · cases r1 with | cons h r =>
      cases r; cases h
      exact ⟨_, rfl, k _ n1 _ H1 G1 q1 x1 w1 (it_enumS _)⟩
    · exact q1.elim⟩⟩
def zipD (l m : List D) : List D := (l.zip m).map fun p => .tup [p.1, p.2]
theorem it_zip {a b : Addr} {vs us : List V} {ds es : List D} (h : SqL K G a vs) (h' : SqL K G b us) (r : RepL K F G vs ds) (r' : RepL K F G us es) : ItR K F G (Itz K a b) (zipD ds es) := fun G2 H2 n2 s w => by
  have h2 : SqL K H2 a vs := (s.trans w.sub).seq h
  have h2' : SqL K H2 b us := (s.trans w.sub).seq h'
  refine ⟨fun i d hd => ?_, fun i hi => ⟨vs, us, h2, h2', ?_⟩⟩
  · unfold zipD at hd
    rw [List.getElem?_map] at hd
    cases q : (ds.zip es)[i]? with
    | none => rw [q] at hd; cases hd
    | some pr =>
      rw [q] at hd
      cases hd
      rw [List.getElem?_zip_eq_some] at q
      obtain ⟨v, e1, e2⟩ := r.get q.1
      obtain ⟨u, e3, e4⟩ := r'.get q.2
      refine ⟨⟨vs, us, v, u, h2, h2', e1, e3⟩, fun y H3 z => ?_⟩
      obtain ⟨T, x', y', rfl, hT, rfl, hy, hy'⟩ := z
      have e5 := hy vs h2
      rw [e1] at e5
      cases e5
      have e6 := hy' us h2'
      rw [e3] at e6
      cases e6
      exact rep_pair w hT (e2.mono s) (e4.mono s)
  · unfold zipD at hi
    rw [List.length_map, List.length_zip] at hi
    rw [r.length, r'.length]
    omega
def dZip (tl : TL) : TL := fun ρ n Q => tl ρ n fun ds n1 => match ds with
  | [.lst l, .lst m] => Q (zipD l m) n1
  | _ => False
theorem di_zip (hm : X.mg "zip" = none) (ha : DA X Z [e, e2] tl) (hg : Gl X "zip" := by rfl) (hs : starEach [e, e2] X.env = (false, eval e X.env) :: starEach [e2] X.env := by rfl) (hpl : (backTo pos (starEach [e2] X.env)).any (·.1) = false := by rfl) :
    DI X Z (.Tuple elts kk tpos) (.Call (.Name "zip" p) [e, e2] [] pos) (dZip tl) :=
  ⟨pi_imp (pi_zip hg hm ha.pa hs hpl) fun σ H R ⟨B, G, ρ, n, Qd, env, q, k⟩ => ⟨B, G, ρ, n, _, env, q, fun ds n1 vs H1 G1 q1 x1 w1 r1 => by
    split at q1
    · cases r1 with | cons h r =>
      cases r with | cons h' r =>
      cases r
      cases h with | lst h1 r1 =>
      cases h' with | lst h2 r2 =>
      exact ⟨_, _, _, _, rfl, SqL.of (w1.sub _ _ h1), SqL.of (w1.sub _ _ h2), k _ n1 _ H1 G1 q1 x1 w1 (it_zip (SqL.of h1) (SqL.of h2) r1 r2)⟩
    · exact q1.elim⟩⟩
theorem it_rev {a : Addr} {vs : List V} {ds : List D} (h : SqL K G a vs) (r : RepL K F G vs ds) : ItR K F G (Itv K a vs.length) ds.reverse := fun G2 H2 n2 s w => by
  have h2 : SqL K H2 a vs := (s.trans w.sub).seq h
  refine ⟨fun i d hd => ?_, fun i hi => by
    have : vs.length ≤ i := by rw [r.length]; simpa using hi
    exact this⟩
  have hlt : i < ds.length := by
    have := (List.getElem?_eq_some_iff.mp hd).1
    simpa using this
  rw [List.getElem?_reverse hlt] at hd
  obtain ⟨v, e1, e2⟩ := r.get hd
  rw [← r.length] at e1 hlt
  refine ⟨⟨hlt, vs, v, h2, e1⟩, fun x H3 z => ?_⟩
  obtain ⟨rfl, hy⟩ := z
  have e3 := hy vs h2
  rw [e1] at e3
  cases e3
  exact ⟨G2, Ext.refl, w, e2.mono s⟩
def dRev (tl : TL) : TL := fun ρ n Q => tl ρ n fun ds n1 => match ds with
  | [.lst l] => Q l.reverse n1
  | _ => False
theorem di_rev (hm : X.mg "reversed" = none) (ha : DA X Z [e] tl) (hg : Gl X "reversed" := by rfl) (hs : starEach [e] X.env = [(false, eval e X.env)] := by rfl) : DI X Z tg (.Call (.Name "reversed" p) [e] [] pos) (dRev tl) :=
  ⟨pi_imp (pi_reversed hg hm ha.pa hs) fun σ H R ⟨B, G, ρ, n, Qd, env, q, k⟩ => ⟨B, G, ρ, n, _, env, q, fun ds n1 vs H1 G1 q1 x1 w1 r1 => by
    split at q1
    · cases r1 with | cons h r =>
      cases r
      cases h with | lst h1 r1 =>
      exact ⟨_, _, rfl, SqL.of (w1.sub _ _ h1), k _ n1 _ H1 G1 q1 x1 w1 (it_rev (SqL.of h1) r1)⟩
    · exact q1.elim⟩⟩
/-! ### targets -/
abbrev TGd := D → Ro → Nat → (Ro → Nat → Prop) → Prop
abbrev TGsd := List D → Ro → Nat → (Ro → Nat → Prop) → Prop
/-- all slots but vs are as they were -/
def Eqo (vs : List Nat) (σ σ' : L2.St) : Prop := σ'.length = σ.length ∧ ∀ j : Nat, j ∉ vs → σ'[j]? = σ[j]?
theorem Eqo.refl {vs : List Nat} {σ : L2.St} : Eqo vs σ σ := ⟨rfl, fun _ _ => rfl⟩
theorem Eqo.trans {vs us : List Nat} {σ σ1 σ2 : L2.St} (a : Eqo vs σ σ1) (b : Eqo us σ1 σ2) : Eqo (vs ++ us) σ σ2 :=
  ⟨b.1.trans a.1, fun j hj => by
    rw [List.mem_append, not_or] at hj
    rw [b.2 j hj.2, a.2 j hj.1]⟩
def dlg (K : PySem.W.Frag) (Z : ZX) (us : List Nat) (g : TGd) : TG := fun v σ H Q => ∃ B G ρ n d Qd, EnvD K Z B G H σ ρ n ∧ Rep K B.F G v d ∧ g d ρ n Qd ∧ ∀ ρ' n' σ' , Qd ρ' n' → EnvD K Z B G H σ' ρ' n' → (n' = n) → Eqo us σ σ' → Q σ' H
def dlgs (K : PySem.W.Frag) (Z : ZX) (us : List Nat) (g : TGsd) : TGs := fun vs σ H Q => ∃ B G ρ n ds Qd, EnvD K Z B G H σ ρ n ∧ RepL K B.F G vs ds ∧ g ds ρ n Qd ∧ ∀ ρ' n' σ', Qd ρ' n' → EnvD K Z B G H σ' ρ' n' → (n' = n) → Eqo us σ σ' → Q σ' H
structure DG (X : Cx) (Z : ZX) (tg : Expr) (us : List Nat) (g : TGd) : Prop where
  pg : PG X tg (dlg X.K Z us g)
structure DGs (X : Cx) (Z : ZX) (tgs : List Expr) (us : List Nat) (g : TGsd) : Prop where
  pgs : PGs X tgs (dlgs X.K Z us g)
def dgName (i : Nat) : TGd := fun d ρ n Q => Q (ρ.set i (some (.d d))) n
def dgNil : TGsd := fun ds ρ n Q => match ds with
  | [] => Q ρ n
  | _ => False
def dgCons (g : TGd) (gs : TGsd) : TGsd := fun ds ρ n Q => match ds with
  | d :: r => g d ρ n fun ρ' n' => gs r ρ' n' Q
  | _ => False
def dgTup (k : Nat) (gs : TGsd) : TGd := fun d ρ n Q => match d with
  | .tup l => l.length = k ∧ gs l ρ n Q
  | _ => False
theorem dg_name {i : Nat} {x : Str} (hN : X.N.Nodup) (hi : X.N[i]? = some x) (hx : Loc X.env.scope x) (hf : X.fn x = true ∨ X.env.scope.names.lookup x = some .local := by first | exact .inl rfl | exact .inr rfl | assumption) : DG X Z (.Name x pos) [i] (dgName i) :=
  ⟨⟨fun pins s σ H v u Q I r ⟨B, G, ρ, n, d, Qd, env, rv, q, k⟩ => (pg_name hN hi hx hf).run pins s σ H v u Q I r (k _ n _ q (env.setD rv) rfl ⟨List.length_set .., fun j hj => List.getElem?_set_ne (fun z => hj (by simp [z]))⟩)⟩⟩
theorem dgs_nil : DGs X Z [] [] dgNil := ⟨⟨fun pins s σ H vs us Q I r ⟨B, G, ρ, n, ds, Qd, env, rv, q, k⟩ => pgs_nil.run pins s σ H vs us Q I r (by
  cases rv with
  | nil => exact ⟨rfl, k ρ n σ q env rfl Eqo.refl⟩
  | cons _ _ => exact q.elim)⟩⟩
theorem dgs_cons {es : List Expr} {g : TGd} {gs : TGsd} {us ws : List Nat} (h1 : DG X Z e us g) (h2 : DGs X Z es ws gs) (hs : (assignEach (e :: es) X.env).map (·.2) = assign e X.env :: (assignEach es X.env).map (·.2) := by rfl) : DGs X Z (e :: es) (us ++ ws) (dgCons g gs) :=
  ⟨⟨fun pins s σ H vs us Q I r ⟨B, G, ρ, n, ds, Qd, env, rv, q, k⟩ => (pgs_cons h1.pg h2.pgs hs).run pins s σ H vs us Q I r (by
    cases rv with
    | nil => exact q.elim
    | cons hv hr => exact ⟨_, _, rfl, B, G, ρ, n, _, _, env, hv, q, fun ρ' n' σ' q' env' e0 o1 => ⟨B, G, ρ', n', _, Qd, env', hr, q', fun ρ2 n2 σ2 q2 env2 e2 o2 => k ρ2 n2 σ2 q2 env2 (e2.trans e0) (o1.trans o2)⟩⟩)⟩⟩
theorem dg_tup {es : List Expr} {k : Nat} {g : TGsd} {m : Nat} {us : List Nat} (hc : X.calm = true) (h : DGs X Z es us g) (hn : (assignEach es X.env).length = m := by rfl) (hst : (assignEach es X.env).findIdx? (·.1) = none := by rfl) : DG X Z (.Tuple es k pos) us (dgTup m g) :=
  ⟨⟨fun pins s σ H v u Q I r ⟨B, G, ρ, n, d, Qd, env, rv, q, kk⟩ => (pg_tup hc h.pgs hn hst).run pins s σ H v u Q I r (by
    unfold dgTup at q
    split at q
    · cases rv with | tup h1 r1 =>
      exact ⟨_, _, rfl, sqT_same env.w.sub h1, by rw [r1.length]; exact q.1, B, G, ρ, n, _, Qd, env, r1, q.2, kk⟩
    · exact q.elim)⟩⟩
/-- target = e -/
def dAsg (is : List Nat) (td : TD) (g : TGd) : TZ := fun De ρ n => td (fzs is ρ) n fun d n1 => g d (fzs is ρ) n1 De.nx
theorem ds_asg {tgt : Expr} {g : TGd} {us : List Nat} (is : List Nat) (he : DE X Z e td) (hg : DG X Z tgt us g) (hs : swapsWithSole [tgt] e pos.line X.env = pure false := by rfl) (hw : swappedStores [tgt] e X.env = pure none := by rfl)
    (h1 : (assignEach [tgt] X.env).map (·.2) = [assign tgt X.env] := by rfl) : DS X Z (.Assign [tgt] e pos) (dAsg is td g) := ⟨ps_imp (ps_asg he.pe hg.pg hs hw h1) fun D σ H ⟨B, G, ρ, n, De, env, q, l⟩ => by
  obtain ⟨G1, env1, s⟩ := env.freeze is
  exact ⟨B, G1, _, n, _, env1, q, fun d n1 v H1 G2 q1 x1 w1 r1 => ⟨B, G2, _, n1, d, _, env1.ext x1 w1, r1, q1, fun ρ' n' σ' q' env' _ _ => l.nx G2 H1 σ' ρ' n' env' q'⟩⟩⟩
/-- a, b = e1, e2 -/
def dPar (i j : Nat) (is : List Nat) (tl : TL) : TZ := fun De ρ n => tl (fzs is ρ) n fun ds n1 => match ds with
  | [d, d'] => De.nx (((fzs is ρ).set i (some (.d d))).set j (some (.d d'))) n1
  | _ => False
theorem ds_par {i j : Nat} (is : List Nat) {x y : Str} {px py pt : Pos} {kt k2 pt2} (hc : X.calm = true) (hN : X.N.Nodup) (hi : X.N[i]? = some x) (hj : X.N[j]? = some y) (hij : i ≠ j)
    (hx : X.env.scope.names.lookup x = some .local) (hy : X.env.scope.names.lookup y = some .local) (ha : DA X Z [a, b] tl)
    (hw : swappedStores [.Tuple [.Name x px, .Name y py] kt pt] (.Tuple [a, b] k2 pt2) X.env = pure (some [x, y]))
    (hs : swapsWithSole [.Tuple [.Name x px, .Name y py] kt pt] (.Tuple [a, b] k2 pt2) pos.line X.env = pure false := by rfl) :
    DS X Z (.Assign [.Tuple [.Name x px, .Name y py] kt pt] (.Tuple [a, b] k2 pt2) pos) (dPar i j is tl) := ⟨ps_imp (ps_par hc hN hi hj hij hx hy ha.pa hw hs) fun D σ H ⟨B, G, ρ, n, De, env, q, l⟩ => by
  obtain ⟨G1, env1, s⟩ := env.freeze is
  refine ⟨B, G1, _, n, _, env1, q, fun ds n1 vs H1 G2 q1 x1 w1 r1 => ?_⟩
  split at q1
  · cases r1 with | cons h r =>
    cases r with | cons h' r =>
    cases r
    exact ⟨_, _, rfl, l.nx G2 H1 _ _ n1 (((env1.ext x1 w1).setD h).setD h') q1⟩
  · exact q1.elim⟩
/-! ### for -/
theorem EnvC.rebase {B : Bx} {G H : Hp} {σ : L2.St} {ρ : Ro} {n : Nat} (e : EnvC K B G H σ ρ n) : EnvC K ⟨B.F, G, B.H⟩ G H σ ρ n :=
  ⟨e.w, ⟨e.x.to, e.x.fd, e.x.kp, Same.refl _, fun b h _ => h⟩, e.len, e.d, e.own, e.dis⟩
theorem EnvC.unbase {B : Bx} {G1 H1 G H : Hp} {σ : L2.St} {ρ : Ro} {n : Nat} (x : Ext B.F B.G B.H G1 H1) (e : EnvC K ⟨B.F, G1, B.H⟩ G H σ ρ n) : EnvC K B G H σ ρ n :=
  ⟨e.w, ⟨e.x.to, e.x.fd, e.x.kp, x.g.trans e.x.g, fun b h h' => e.x.gx b (x.gx b h h') h'⟩, e.len, e.d, e.own, e.dis⟩
theorem EnvD.rebase {B : Bx} {G H : Hp} {σ : L2.St} {ρ : Ro} {n : Nat} (e : EnvD K Z B G H σ ρ n) : EnvD K Z ⟨B.F, G, B.H⟩ G H σ ρ n :=
  ⟨e.toEnvC.rebase, fun c fs dx G' H' σ' ρ' n' e' h r => e.z c fs dx G' H' σ' ρ' n' (e'.unbase e.x) h r⟩
theorem EnvD.unbase {B : Bx} {G1 H1 G H : Hp} {σ : L2.St} {ρ : Ro} {n : Nat} (x : Ext B.F B.G B.H G1 H1) (z : Zk K B Z) (e : EnvD K Z ⟨B.F, G1, B.H⟩ G H σ ρ n) : EnvD K Z B G H σ ρ n := ⟨e.toEnvC.unbase x, z⟩
theorem Lnk.rebase {B : Bx} {G1 H1 : Hp} {De : DEnds} {D : Ends} (x : Ext B.F B.G B.H G1 H1) (z : Zk K B Z) (l : Lnk K Z B De D) : Lnk K Z ⟨B.F, G1, B.H⟩ De D := by
  have up : ∀ {G H : Hp}, Ext B.F G1 B.H G H → Ext B.F B.G B.H G H := fun y => ⟨y.to, y.fd, y.kp, x.g.trans y.g, fun b h h' => y.gx b (x.gx b h h') h'⟩
  exact ⟨fun G H σ ρ n env h => l.nx G H σ ρ n (env.unbase x z) h, fun G H σ ρ n env h => l.bk G H σ ρ n (env.unbase x z) h, fun G H σ ρ n env h => l.ct G H σ ρ n (env.unbase x z) h,
    fun G H n v d h y w r => l.rt G H n v d h (up y) w r, fun G H n q vs ds h y w h0 h1 h2 r => l.ro G H n q vs ds h (up y) w h0 h1 h2 r⟩
/-- by what holds behind i turns -/
structure Loop (g : TGd) (tb : TZ) (De : DEnds) (ds : List D) (ρ : Ro) (n : Nat) : Prop where
  ex : ∃ J : Nat → Ro → Nat → Prop, J 0 ρ n ∧
  (∀ (i : Nat) (d : D) (ρ : Ro) (n : Nat), ds[i]? = some d → J i ρ n → g d ρ n fun ρ' n' => tb { De with nx := J (i + 1), ct := J (i + 1), bk := De.nx } ρ' n') ∧ ∀ ρ n, J ds.length ρ n → De.nx ρ n
/-- turn by turn -/
def dLoop (g : TGd) (tb : TZ) (De : DEnds) : List D → Ro → Nat → Prop
  | [], ρ, n => De.nx ρ n
  | d :: r, ρ, n => g d ρ n fun ρ' n' => tb { De with nx := dLoop g tb De r, ct := dLoop g tb De r, bk := De.nx } ρ' n'
theorem Loop.all {g : TGd} {tb : TZ} {De : DEnds} {ds : List D} {ρ : Ro} {n : Nat} (h : dLoop g tb De ds ρ n) : Loop g tb De ds ρ n := by
  refine ⟨fun i => dLoop g tb De (ds.drop i), h, fun i d ρ n hd q => ?_, fun ρ n q => ?_⟩
  · have c := (List.getElem?_eq_some_iff.mp hd).1
    have e : ds[i] = d := by
      rw [List.getElem?_eq_getElem c] at hd
      exact Option.some.inj hd
    dsimp only at q
    rw [List.drop_eq_getElem_cons c, e] at q
    exact q
  · dsimp only at q
    rw [List.drop_length] at q
    exact q
def dFor (is : List Nat) (ti : TL) (g : TGd) (tb : TZ) : TZ := fun De ρ n => ti (fzs is ρ) n fun ds n1 => Loop g tb De ds (fzs is ρ) n1
theorem ds_for {iter : Expr} {body : List Stmt} {ti : TL} {g : TGd} {tz : TZ} {us : List Nat} (is : List Nat) (hp : PassesOwn (model X.prog X.w) X.A X.env X.xe) (hc : X.calm = true) (hi : DI X Z tg iter ti) (hg : DG X Z tg us g) (hb : DSs X Z body tz)
    (hs : ∀ x, foldedSetIterable iter X.env x = pure x := by intro _; rfl) : DS X Z (.For tg iter body [] pos) (dFor is ti g tz) := ⟨ps_imp (ps_for hp hc hi.pi hg.pg hb.pss hs) fun D σ H ⟨B, G, ρ, n, De, env, q, l⟩ => by
  obtain ⟨G1, env1, s⟩ := env.freeze is
  refine ⟨B, G1, _, n, _, env1, q, fun ds n1 J H1 G2 q1 x1 w1 it => ?_⟩
  obtain ⟨Jv, j0, js, jd⟩ := q1.ex
  have env2 := (env1.ext x1 w1)
  have xb := env2.x
  have l2 := l.rebase xb env.z
  refine ⟨fun i m σ H => m = ds.length - i ∧ i ≤ ds.length ∧ ∃ G ρ n, EnvD X.K Z ⟨B.F, G2, B.H⟩ G H σ ρ n ∧ Jv i ρ n, ⟨_, rfl, Nat.zero_le _, G2, _, n1, env2.rebase, j0⟩, ?_⟩
  rintro i m σ3 H3 ⟨rfl, hi, G3, ρ3, n3, env3, q3⟩
  obtain ⟨it1, it2⟩ := it G3 H3 n3 env3.x.g env3.w
  by_cases c : i < ds.length
  · have hd : ds[i]? = some ds[i] := List.getElem?_eq_getElem c
    obtain ⟨go, step⟩ := it1 i _ hd
    refine .inr ⟨go, fun σ' H' => i + 1 ≤ ds.length ∧ ∃ G ρ n, EnvD X.K Z ⟨B.F, G2, B.H⟩ G H' σ' ρ n ∧ Jv (i + 1) ρ n, fun σ' H' ⟨h1, h2⟩ => ⟨_, by omega, rfl, h1, h2⟩, fun x H' y => ?_⟩
    obtain ⟨G4, x4, w4, r4⟩ := step x H' y
    refine ⟨⟨B.F, G2, B.H⟩, G4, ρ3, n3, _, _, env3.ext x4 w4, r4, js i _ ρ3 n3 hd q3, fun ρ' n' σ' q' env' _ _ => ?_⟩
    exact ⟨_, G4, ρ', n', _, env', q', ⟨fun G H σ ρ n env h => ⟨c, G, ρ, n, env, h⟩, fun G H σ ρ n env h => l2.nx G H σ ρ n env h, fun G H σ ρ n env h => ⟨c, G, ρ, n, env, h⟩, l2.rt, l2.ro⟩⟩
  · have e : i = ds.length := by omega
    subst e
    exact .inl ⟨it2 _ (Nat.le_refl _), l2.nx G3 H3 σ3 ρ3 n3 env3 (jd _ _ q3)⟩⟩
/-! ### comprehensions -/
def wipeD (ρ : Ro) : List Nat → Ro
  | [] => ρ
  | v :: vs => (wipeD ρ vs).set v none
theorem EnvC.unset {B : Bx} {G H : Hp} {σ : L2.St} {ρ : Ro} {n : Nat} (e : EnvC K B G H σ ρ n) (i : Nat) : EnvC K B G H (σ.set i none) (ρ.set i none) n := by
  have e1 : ∀ (j : Nat) (y : Sl), (ρ.set i none)[j]? = some (some y) → i ≠ j ∧ ρ[j]? = some (some y) := fun j y h => by
    by_cases c : i = j
    · subst c
      rw [List.getElem?_set] at h
      simp only [if_true] at h
      split at h <;> cases h
    · rw [List.getElem?_set_ne c] at h
      exact ⟨c, h⟩
  refine ⟨e.w, e.x, by rw [List.length_set, List.length_set]; exact e.len, fun j y h => ?_, fun j ys h => ?_, fun j k q xs ys hjk k1 k2 => ?_⟩
  · obtain ⟨c, h'⟩ := e1 j _ h
    rw [List.getElem?_set_ne c]; exact e.d j y h'
  · obtain ⟨c, h'⟩ := e1 j _ h
    rw [List.getElem?_set_ne c]; exact e.own j ys h'
  · obtain ⟨c, h1⟩ := e1 j _ k1
    obtain ⟨c', h2⟩ := e1 k _ k2
    rw [List.getElem?_set_ne c, List.getElem?_set_ne c']
    exact e.dis j k q xs ys hjk h1 h2
theorem EnvD.unset {B : Bx} {G H : Hp} {σ : L2.St} {ρ : Ro} {n : Nat} (e : EnvD K Z B G H σ ρ n) (i : Nat) : EnvD K Z B G H (σ.set i none) (ρ.set i none) n := ⟨e.toEnvC.unset i, e.z⟩
theorem EnvD.wipe {B : Bx} {G H : Hp} {σ : L2.St} {ρ : Ro} {n : Nat} (e : EnvD K Z B G H σ ρ n) : ∀ vs : List Nat, EnvD K Z B G H (L2.wipe σ vs) (wipeD ρ vs) n
  | [] => e
  | v :: vs => (EnvD.wipe e vs).unset v
theorem wipe_at (σ : L2.St) : ∀ (vs : List Nat) (j : Nat), (L2.wipe σ vs)[j]? = if j ∈ vs then (if j < σ.length then some none else none) else σ[j]?
  | [], j => by simp [L2.wipe]
  | v :: vs, j => by
    show ((L2.wipe σ vs).set v none)[j]? = _
    by_cases c : v = j
    · subst c
      rw [if_pos (by simp), List.getElem?_set]
      simp only [if_true]
      rw [wipe_length]
    · rw [List.getElem?_set_ne c, wipe_at σ vs j]
      have : (j ∈ v :: vs) ↔ j ∈ vs := by simp [Ne.symm c]
      simp only [this]
theorem wipe_eqo {us vs : List Nat} {σ σ' : L2.St} (h : Eqo us (L2.wipe σ vs) σ') (hu : ∀ j ∈ us, j ∈ vs) : L2.wipe σ' vs = L2.wipe σ vs := by
  apply List.ext_getElem?
  intro j
  have hl : σ'.length = σ.length := by rw [h.1, wipe_length]
  rw [wipe_at, wipe_at, hl]
  by_cases c : j ∈ vs
  · rw [if_pos c, if_pos c]
  · rw [if_neg c, if_neg c, h.2 j (fun z => c (hu j z)), wipe_at, if_neg c]
structure DTs (X : Cx) (Z : ZX) (ifs : List Expr) (tt : TB) : Prop where
  pts : PTs X ifs (dlt X.K Z tt)
def dYes : TB := fun _ n Q => Q true n
theorem dts_nil : DTs X Z [] dYes := ⟨⟨fun pins s σ H Q I ⟨B, G, ρ, n, Qd, env, q, k⟩ => pts_nil.run pins s σ H Q I (k true n H q Ext.refl env.w)⟩⟩
theorem dts_one {c : Expr} {tt : TB} (h : DT X Z c tt) : DTs X Z [c] tt := ⟨pts_one h.pt⟩
/-- what is made, by what holds behind i turns -/
structure Comp (g : TGd) (tt : TB) (te : TD) (ds : List D) (ρ : Ro) (n : Nat) (Q : QL) : Prop where
  ex : ∃ J : Nat → List D → Nat → Prop, J 0 [] n ∧
  (∀ (i : Nat) (d : D) (acc : List D) (n : Nat), ds[i]? = some d → J i acc n → g d ρ n fun ρ' n' => tt ρ' n' fun b n2 => br b (te ρ' n2 fun y n3 => J (i + 1) (acc ++ [y]) n3) (J (i + 1) acc n2)) ∧ ∀ acc n, J ds.length acc n → Q acc n
def dLc (ti : TL) (g : TGd) (tt : TB) (te : TD) (vs : List Nat) : TL := fun ρ n Q => ti ρ n fun ds n1 => ds.length ≤ sizeLine ∧ Comp g tt te ds (wipeD ρ vs) n1 Q
theorem dlo_lc {ti : TL} {g : TGd} {tt : TB} {te : TD} {us vs : List Nat} (hu : ∀ j ∈ us, j ∈ vs) {σ : L2.St} {H : Hp} {Q : VK} (h : dlo K Z (dLc ti g tt te vs) σ H Q) : tLc (dli K Z ti) (dlg K Z us g) (dlt K Z tt) (dl K Z te) vs σ H Q := by
  obtain ⟨B, G, ρ, n, Qd, env, q, k⟩ := h
  refine ⟨B, G, ρ, n, _, env, q, fun ds n1 J H1 G1 q1 x1 w1 it D hD => ?_⟩
  obtain ⟨hz, ⟨Jv, j0, js, jd⟩⟩ := q1
  have hD0 : H D = none := free0 x1 hD
  have hG1 : G1 D = none := w1.free hD
  refine ⟨fun i m H2 => m = ds.length - i ∧ i ≤ ds.length ∧ ∃ G2 n2 us acc, Ext B.F G1 H1 G2 H2 ∧ Wd B.F G2 H2 n2 ∧ H2 D = some (.lst us) ∧ G2 D = none ∧ RepL K B.F G2 us acc ∧ acc.length ≤ i ∧ Jv i acc n2,
    ⟨_, rfl, Nat.zero_le _, G1, n1, [], [], Ext.new hD, w1.new hD, upd_same, hG1, .nil, Nat.le_refl _, j0⟩, ?_⟩
  rintro i m H2 ⟨rfl, hi, G2, n2, vs2, acc, x2, w2, hD2, hG2, r2, hl, j2⟩
  obtain ⟨it1, it2⟩ := it G2 H2 n2 x2.g w2
  by_cases c : i < ds.length
  · have hd : ds[i]? = some ds[i] := List.getElem?_eq_getElem c
    obtain ⟨go, step⟩ := it1 i _ hd
    refine .inr ⟨go, fun H3 => i + 1 ≤ ds.length ∧ ∃ G3 n3 us acc, Ext B.F G1 H1 G3 H3 ∧ Wd B.F G3 H3 n3 ∧ H3 D = some (.lst us) ∧ G3 D = none ∧ RepL K B.F G3 us acc ∧ acc.length ≤ i + 1 ∧ Jv (i + 1) acc n3, fun H3 ⟨h1, h2⟩ => ⟨_, by omega, rfl, h1, h2⟩, fun x H3 y => ?_⟩
    obtain ⟨G3, x3, w3, r3⟩ := step x H3 y
    have env3 := ((env.ext x1 w1).ext x2 w2).ext x3 w3
    have ne : ∀ {G3 H3 n3}, Wd B.F G3 H3 n3 → H3 D = some (.lst vs2) → B.F ≠ some D := fun w h => w.notfd h
    have keep : ∀ {G4 H4 : Hp}, Ext B.F G2 H2 G4 H4 → H4 D = some (.lst vs2) ∧ G4 D = none := fun x4 => ⟨x4.to _ _ hD2 (ne w2 hD2), x4.gx _ hG2 (by rw [hD2]; exact fun z => nomatch z)⟩
    refine ⟨B, G3, _, n2, _, _, env3.wipe vs, r3, js i _ acc n2 hd j2, fun ρ4 n4 σ4 q4 env4 e4 o4 => ⟨wipe_eqo o4 hu, ?_⟩⟩
    refine ⟨B, G3, ρ4, n4, _, env4, q4, fun b n5 H5 q5 x5 w5 => ?_⟩
    cases b with
    | true =>
      replace q5 := q5.1 rfl
      refine iteT ⟨B, G3, ρ4, n5, _, env4.ext x5 w5, q5, fun dy n6 v H6 G6 q6 x6 w6 r6 => ?_⟩
      have xx := (x3.trans x5).trans x6
      obtain ⟨k1, k2⟩ := keep xx
      have hne : D ≠ D → False := fun z => z rfl
      have up : ∀ b u, H6 b = some u → b ≠ D → upd H6 D (.lst (vs2 ++ [v])) b = some u := fun b u h hn => by rw [upd_ne hn]; exact h
      have fdH : ∀ p c a l, B.F = some p → H6 p = some (.dK (fdK c a l)) → upd H6 D (.lst (vs2 ++ [v])) p = some (.dK (fdK c a l)) := fun p c a l f h => up p _ h (ne_of h k1 (by intro z; cases z))
      have cne : ∀ p c a l, B.F = some p → H6 p = some (.dK (fdK c a l)) → c ≠ D := fun p c a l f h => Ne.symm (env.cells (x1.trans (x2.trans xx)) hD0 p c a l f h)
      refine ⟨vs2, k1, by rw [r2.length]; omega, c, G6, n6, _, _, ?_, ?_, upd_same, k2, (r2.mono xx.g).append (.cons r6 .nil), by rw [List.length_append]; exact Nat.add_le_add hl (Nat.le_refl 1), q6⟩
      · have y := x2.trans xx
        exact ⟨fun b u h f => up b u (y.to b u h f) (ne_of_none h hD), fun p c a l f h => by
          obtain ⟨a', l', z⟩ := y.fd p c a l f h
          exact ⟨a', l', fdH p c a' l' f z⟩, fun b h => new_kp b (y.kp b h), y.g, y.gx⟩
      · refine ⟨fun b u h => up b u (w6.sub b u h) (ne_of_none h k2), fun p f => ?_⟩
        obtain ⟨⟨c', ns, a, l, g1, g2, g3⟩, g4⟩ := w6.fd p f
        exact ⟨⟨c', ns, a, l, fdH p c' a l f g1, up _ _ g2 (cne p c' a l f g1), g3⟩, g4⟩
    | false =>
      replace q5 := q5.2 rfl
      have xx := x3.trans x5
      obtain ⟨k1, k2⟩ := keep xx
      exact iteF ⟨c, G3, n5, vs2, acc, x2.trans xx, w5, k1, k2, r2.mono xx.g, Nat.le_succ_of_le hl, q5⟩
  · have e : i = ds.length := by omega
    subst e
    exact .inl ⟨it2 _ (Nat.le_refl _), k acc n2 D vs2 H2 G2 (jd _ _ j2) (x1.trans x2) w2 hD0 hD2 hG2 r2⟩
variable {elt iter : Expr} {ifs : List Expr} {scope : Scope} {own : List (Str × Nat)} {ti : TL} {g : TGd} {tt : TB} {te : TD} {us : List Nat}
theorem do_lc (hc : X.calm = true) (hN : X.N.Nodup) (hi : DI X Z tg iter ti) (ok : BlkOk X.N X.env.scope scope own)
    (hg : ∀ (s : Shared) (H : Hp) (C : Addr) (cl : List (Str × Addr)) (fp : List Addr), DG (X.blk s H scope (compEnvC scope cl C X.env) fp) Z tg us g) (ht : ∀ (s : Shared) (H : Hp) (C : Addr) (cl : List (Str × Addr)) (fp : List Addr), DTs (X.blk s H scope (compEnvC scope cl C X.env) fp) Z ifs tt)
    (he : ∀ (s : Shared) (H : Hp) (C : Addr) (cl : List (Str × Addr)) (fp : List Addr), DE (X.blk s H scope (compEnvC scope cl C X.env) fp) Z elt te) (hu : ∀ j ∈ us, j ∈ own.map (·.2) := by decide) (hs : ∀ x, foldedSetIterable iter X.env x = pure x := by intro _; rfl) :
    DO X Z (.ListComp elt [⟨tg, iter, ifs, 0⟩] scope pos) (dLc ti g tt te (own.map (·.2))) :=
  ⟨pe_imp (pe_lc hc hN hi.pi ok (fun s H C cl fp => (hg s H C cl fp).pg) (fun s H C cl fp => (ht s H C cl fp).pts) (fun s H C cl fp => (he s H C cl fp).pe) hs) fun _ _ _ h => dlo_lc hu h⟩
theorem ds_setLc {i : Nat} (is : List Nat) {y : Str} {py spos : Pos} (hc : X.calm = true) (hN : X.N.Nodup) (hy : X.N[i]? = some y) (hyl : X.env.scope.names.lookup y = some .local)
    (hsw : swapsWith (.ListComp elt [⟨tg, iter, ifs, 0⟩] scope pos) (some (.Name y py)) spos.line X.env = pure true) (hi : DI X Z tg iter ti) (ok : BlkOk X.N X.env.scope scope own)
    (hg : ∀ (s : Shared) (H : Hp) (C : Addr) (cl : List (Str × Addr)) (fp : List Addr), DG (X.blk s H scope (compEnvC scope cl C X.env) fp) Z tg us g) (ht : ∀ (s : Shared) (H : Hp) (C : Addr) (cl : List (Str × Addr)) (fp : List Addr), DTs (X.blk s H scope (compEnvC scope cl C X.env) fp) Z ifs tt)
    (he : ∀ (s : Shared) (H : Hp) (C : Addr) (cl : List (Str × Addr)) (fp : List Addr), DE (X.blk s H scope (compEnvC scope cl C X.env) fp) Z elt te) (hu : ∀ j ∈ us, j ∈ own.map (·.2) := by decide) (hs : ∀ x, foldedSetIterable iter X.env x = pure x := by intro _; rfl) :
    DS X Z (.Assign [.Name y py] (.ListComp elt [⟨tg, iter, ifs, 0⟩] scope pos) spos) (dSetO i is (dLc ti g tt te (own.map (·.2)))) :=
  ⟨ps_imp (ps_setLc hc hN hy hyl hsw hi.pi ok (fun s H C cl fp => (hg s H C cl fp).pg) (fun s H C cl fp => (ht s H C cl fp).pts) (fun s H C cl fp => (he s H C cl fp).pe) hs) fun D σ H ⟨B, G, ρ, n, De, env, q, l⟩ => by
    obtain ⟨G1, env1, s⟩ := env.freeze is
    exact dlo_lc hu ⟨B, G1, _, n, _, env1, q, fun ds n1 p vs H1 G2 q1 x1 w1 h0 h1 h2 r1 => l.nx G2 H1 _ _ n1 (env1.gotO x1 w1 h0 h1 h2 r1) q1⟩⟩
/-- a comprehension whose parts are functions -/
theorem Comp.pure {ds : List D} {ρ : Ro} {n : Nat} {Q : QL} (p : D → Bool) (f : D → D)
    (h : ∀ d ∈ ds, ∀ (R : QL), ∀ acc, (p d = true → R (acc ++ [f d]) n) → (p d = false → R acc n) → g d ρ n fun ρ' n' => tt ρ' n' fun b n2 => br b (te ρ' n2 fun y n3 => R (acc ++ [y]) n3) (R acc n2))
    (q : Q ((ds.filter p).map f) n) : Comp g tt te ds ρ n Q := by
  refine ⟨fun i acc m => m = n ∧ acc = ((ds.take i).filter p).map f, ⟨rfl, rfl⟩, ?_, ?_⟩
  · rintro i d acc m hd ⟨rfl, rfl⟩
    have hm : d ∈ ds := List.mem_of_getElem? hd
    have e : ds.take (i + 1) = ds.take i ++ [d] := by rw [List.take_succ, hd]; rfl
    refine h d hm (fun acc' m' => m' = m ∧ acc' = ((ds.take (i + 1)).filter p).map f) _ (fun c => ⟨rfl, ?_⟩) (fun c => ⟨rfl, ?_⟩)
    · rw [e, List.filter_append, List.filter_cons_of_pos c, List.map_append]; rfl
    · rw [e, List.filter_append, List.filter_cons_of_neg (by rw [c]; decide), List.map_append]; simp
  · rintro acc m ⟨rfl, rfl⟩
    rw [List.take_length]
    exact q
end
end Dw

/-! ### defs and calls by data -/
namespace Dw
open PySem PySem.Spec PyProof.Rows L2 Fw
def Gd (g : Bool) (A : Around) : Prop := g = true → A.guards = some []
/-- FnOk; g: where no repr is under way -/
structure FnX (g : Bool) (P : Program) (w : World) (K : PySem.W.Frag) (mg : Str → Option Value) (base : Heap) (CX : CXT) (k : Nat) (f : Addr) (fd : FuncData) (ps : List Str) (sp : Sp) : Prop where
  len : ∀ vs H Q E, sp vs H Q E → vs.length = ps.length
  run : ∀ (A : Around) (outer : List PySem.Env) (s : Shared) (H : Hp) (args : Args) (us : List Value) (vs : List V) (Q : VK) (E : XK), Gd g A → Room k A → Env0 P w K mg base A outer s H →
    BindsTo s fd args (ps.zip us) → Vals vs us → sp vs H Q E → codeAny (model P w) A (.call (.ref f) args) (CR CX outer P w H s Q E) s
section
variable {g : Bool} {P : Program} {w : World} {K : PySem.W.Frag} {mg : Str → Option Value} {base : Heap} {CX : CXT} {k : Nat} {f : Addr} {fd : FuncData} {ps : List Str} {sp : Sp}
theorem FnX.of (F : FnOk P w K mg base CX k f fd ps sp) : FnX g P w K mg base CX k f fd ps sp := ⟨F.len, fun A outer s H args us vs Q E _ => F.run A outer s H args us vs Q E⟩
theorem FnX.ok (F : FnX false P w K mg base CX k f fd ps sp) : FnOk P w K mg base CX k f fd ps sp := ⟨F.len, fun A outer s H args us vs Q E => F.run A outer s H args us vs Q E (fun z => nomatch z)⟩
theorem FnX.toG (F : FnX true P w K mg base CX k f fd ps sp) : FnG P w K mg base CX k f fd ps sp := ⟨F.len, fun A outer s H args us vs Q E h => F.run A outer s H args us vs Q E (fun _ => h)⟩
theorem FnX.mono {j : Nat} (F : FnX g P w K mg base CX j f fd ps sp) (h : j ≤ k) : FnX g P w K mg base CX k f fd ps sp :=
  ⟨F.len, fun A outer s H args us vs Q E g hr => F.run A outer s H args us vs Q E g (hr.mono h)⟩
theorem FnX.imp {sp' : Sp} (F : FnX g P w K mg base CX k f fd ps sp) (h : ∀ vs H Q E, sp' vs H Q E → sp vs H Q E) : FnX g P w K mg base CX k f fd ps sp' :=
  ⟨fun vs H Q E q => F.len vs H Q E (h _ _ _ _ q), fun A outer s H args us vs Q E hg hr he hb hv hs => F.run A outer s H args us vs Q E hg hr he hb hv (h _ _ _ _ hs)⟩
theorem fnX {x qual : Str} {params : Arguments} {body : List Stmt} {scope : Scope} {dvs : List V} {kws : List (Str × V)} {N : List Str} (F : FunD K x qual params body scope dvs kws f fd) (S : FnScope N ps scope)
    (len : ∀ vs H Q E, sp vs H Q E → vs.length = ps.length)
    (hb : ∀ (cdv : Value) (A : Around) (outer : List PySem.Env) (s : Shared) (H : Hp) (vs : List V) (Q : VK) (E : XK), Gd g A → Room k (A.deeper (envOfC qual scope s.heap.objs.size f cdv)) → sp vs H Q E →
      ∃ t, PSs (cxOf CX P w K mg base N qual scope f cdv A outer s H E) body t ∧ t { nx := fun _ H' => Q .non H', rt := Q } (start N vs) H) : FnX g P w K mg base CX (k + 1) f fd ps sp := by
  obtain ⟨oc, od, dV, kV, doc, pm, an, cdv, ct, osl, rfl, lk, hcd, _, _⟩ := F.ex
  refine ⟨len, ?_⟩
  intro A outer s H args us vs Q E hg hr e0 bt rv hsp
  have stay : ∀ b o, base.get? b = some o → s.heap.get? b = some o := fun b o e => (e0.bs b o e).1
  have KX : K.In s.heap := e0.mod.kin.keeps stay
  have lim : s.heap.NoLimit := e0.mod.nolimit.keeps stay
  refine codeAny_call_function hr.depth (KX _ _ lk) rfl S.co S.gen rfl (PySem.W.codeRec_of KX hcd) (bt _ _ _ _ ?_)
  refine wpAny_newFunctionEnv_cells S.kind (fun y hy => ?_) fun env he s1 ic => ?_
  · rcases S.par y.1 (List.of_mem_zip hy).1 with q | q
    · exact Or.inl q
    · exact Or.inr ⟨q, PySem.W.cellsFrom_some _ _ _ (Or.inl q)⟩
  subst he
  refine ⟨lim.keeps ic.toInCall.keep, codeAny_func ?_⟩
  obtain ⟨t, ht, hq⟩ := hb cdv A outer s H vs Q E hg (hr.deeper _) hsp
  have J := inv_start (CX := CX) (N := N) (qual := qual) (f := f) (cd := cdv) (E := E) S hr.hd e0 (len _ _ _ _ hsp) rv ic
  refine wpAny_mono (ht.run [] s1 (start N vs) H _ J hq) (fun fl s' z => ?_) fun _ _ z => z
  cases fl with
  | ret u =>
    obtain ⟨v, _, H', J', r', q'⟩ := z
    exact ⟨v, H', J'.os, J'.bare, J'.base, J'.hok, r', q'⟩
  | next =>
    obtain ⟨_, H', J', q'⟩ := z
    exact ⟨.non, H', J'.os, J'.bare, J'.base, J'.hok, rfl, q'⟩
  | brk =>
    obtain ⟨_, _, _, q'⟩ := z
    exact q'.elim
  | cont =>
    obtain ⟨_, _, _, q'⟩ := z
    exact q'.elim
end
abbrev XD := Value → List (Str × D) → Nat → Prop
abbrev SpD := List D → Nat → QD → XD → Prop
abbrev SpO := List D → Nat → QL → XD → Prop
def KX (K : PySem.W.Frag) (F : Option Addr) (G H : Hp) (Ed : XD) (E : XK) : Prop := ∀ c fs n' dx H' G', Ed c fs n' → Ext F G H G' H' → Wd F G' H' n' → XR K F G' dx fs → E c dx H'
/-- a promise by data -/
def liftSp (K : PySem.W.Frag) (spd : SpD) : Sp := fun vs H Q E => ∃ F G n ds Qd Ed, Wd F G H n ∧ RepL K F G vs ds ∧ spd ds n Qd Ed ∧ KD K F G H Qd Q ∧ KX K F G H Ed E
/-- .. of a list made new -/
def liftSpO (K : PySem.W.Frag) (spd : SpO) : Sp := fun vs H Q E => ∃ F G n ds Qd Ed, Wd F G H n ∧ RepL K F G vs ds ∧ spd ds n Qd Ed ∧ KO K F G H Qd Q ∧ KX K F G H Ed E
def startD (N : List Str) (ds : List D) : Ro := ds.map (fun d => some (Sl.d d)) ++ List.replicate (N.length - ds.length) none
def zOf (E : XK) (Ed : XD) : ZX := ⟨fun c dx _ H => E c dx H, fun c fs _ n => Ed c fs n⟩
theorem start_env {K : PySem.W.Frag} {F : Option Addr} {G H : Hp} {n : Nat} {vs : List V} {ds : List D} {E : XK} {Ed : XD} (N : List Str) (w : Wd F G H n) (r : RepL K F G vs ds) (k : KX K F G H Ed E) : EnvD K (zOf E Ed) ⟨F, G, H⟩ G H (start N vs) (startD N ds) n := by
  have at_ : ∀ (i : Nat) (y : Sl), (startD N ds)[i]? = some (some y) → ∃ x, ds[i]? = some x ∧ y = .d x := fun i y h => by
    unfold startD at h
    by_cases c : i < ds.length
    · rw [List.getElem?_append_left (by rw [List.length_map]; exact c), List.getElem?_map, List.getElem?_eq_getElem c] at h
      exact ⟨ds[i], List.getElem?_eq_getElem c, by cases h; rfl⟩
    · rw [List.getElem?_append_right (by rw [List.length_map]; omega), List.getElem?_replicate] at h
      split at h <;> cases h
  refine ⟨⟨w, Ext.refl, ?_, fun i x h => ?_, fun i xs h => ?_, fun i j q xs ys _ h => ?_⟩, fun c fs dx G' H' σ ρ n' e h r => k c fs n' dx H' G' h e.x e.w r⟩
  · unfold L2.start startD
    rw [List.length_append, List.length_append, List.length_map, List.length_map, List.length_replicate, List.length_replicate, r.length]
  · obtain ⟨x', h1, h2⟩ := at_ i _ h
    cases h2
    obtain ⟨v, e1, e2⟩ := r.get h1
    refine ⟨v, ?_, e2⟩
    unfold L2.start
    have c : i < vs.length := (List.getElem?_eq_some_iff.mp e1).1
    rw [List.getElem?_append_left (by rw [List.length_map]; exact c), List.getElem?_map, e1]; rfl
  · obtain ⟨x', h1, h2⟩ := at_ i _ h
    cases h2
  · obtain ⟨x', h1, h2⟩ := at_ i _ h
    cases h2
section
variable {g : Bool} {P : Program} {w : World} {K : PySem.W.Frag} {mg : Str → Option Value} {base : Heap} {CX : CXT} {k : Nat} {f : Addr} {fd : FuncData} {ps N : List Str} {spd : SpD} {spo : SpO}
  {x qual : Str} {params : Arguments} {body : List Stmt} {scope : Scope} {dvs : List V} {kws : List (Str × V)}
theorem fnD (F : FunD K x qual params body scope dvs kws f fd) (S : FnScope N ps scope) (len : ∀ ds n Qd Ed, spd ds n Qd Ed → ds.length = ps.length)
    (hb : ∀ (cdv : Value) (A : Around) (outer : List PySem.Env) (s : Shared) (H : Hp) (E : XK) (Ed : XD), Gd g A → Room k (A.deeper (envOfC qual scope s.heap.objs.size f cdv)) →
      ∃ tz, DSs (cxOf CX P w K mg base N qual scope f cdv A outer s H E) (zOf E Ed) body tz ∧ ∀ ds n Qd, spd ds n Qd Ed → tz { nx := fun _ n' => Qd .non n', rt := Qd } (startD N ds) n) :
    FnX g P w K mg base CX (k + 1) f fd ps (liftSp K spd) := by
  refine fnX F S (fun vs H Q E h => ?_) fun cdv A outer s H vs Q E hg hr h => ?_
  · obtain ⟨F, G, n, ds, Qd, Ed, w, r, q, _⟩ := h
    rw [r.length]; exact len ds n Qd Ed q
  · obtain ⟨F', G, n, ds, Qd, Ed, w, r, q, kd, kx⟩ := h
    obtain ⟨tz, h1, h2⟩ := hb cdv A outer s H E Ed hg hr
    refine ⟨_, h1.pss, ⟨F', G, H⟩, G, _, n, _, start_env N w r kx, h2 ds n Qd q, ⟨fun G' H' σ ρ n' env h => kd .non n' .non H' G' h env.x env.w .non, fun _ _ _ _ _ _ h => h.elim, fun _ _ _ _ _ _ h => h.elim, fun G' H' n' v d h x w r => kd d n' v H' G' h x w r, fun _ _ _ _ _ _ h => h.elim⟩⟩
theorem fnO (F : FunD K x qual params body scope dvs kws f fd) (S : FnScope N ps scope) (len : ∀ ds n Qd Ed, spo ds n Qd Ed → ds.length = ps.length)
    (hb : ∀ (cdv : Value) (A : Around) (outer : List PySem.Env) (s : Shared) (H : Hp) (E : XK) (Ed : XD), Gd g A → Room k (A.deeper (envOfC qual scope s.heap.objs.size f cdv)) →
      ∃ tz, DSs (cxOf CX P w K mg base N qual scope f cdv A outer s H E) (zOf E Ed) body tz ∧ ∀ ds n Qd, spo ds n Qd Ed → tz { nx := fun _ _ => False, rt := fun _ _ => False, ro := Qd } (startD N ds) n) :
    FnX g P w K mg base CX (k + 1) f fd ps (liftSpO K spo) := by
  refine fnX F S (fun vs H Q E h => ?_) fun cdv A outer s H vs Q E hg hr h => ?_
  · obtain ⟨F, G, n, ds, Qd, Ed, w, r, q, _⟩ := h
    rw [r.length]; exact len ds n Qd Ed q
  · obtain ⟨F', G, n, ds, Qd, Ed, w, r, q, kd, kx⟩ := h
    obtain ⟨tz, h1, h2⟩ := hb cdv A outer s H E Ed hg hr
    refine ⟨_, h1.pss, ⟨F', G, H⟩, G, _, n, _, start_env N w r kx, h2 ds n Qd q, ⟨fun _ _ _ _ _ _ h => h.elim, fun _ _ _ _ _ _ h => h.elim, fun _ _ _ _ _ _ h => h.elim, fun _ _ _ _ _ h => h.elim, fun G' H' n' q vs ds h x w h0 h1 h2 r => kd ds n' q vs H' G' h x w h0 h1 h2 r⟩⟩
/-- a promise of a list made new is one of data -/
theorem FnX.shut (F : FnX g P w K mg base CX k f fd ps (liftSpO K spo)) : FnX g P w K mg base CX k f fd ps (liftSp K fun ds n Q E => spo ds n (fun l m => Q (.lst l) m) E) :=
  F.imp fun vs H Q E ⟨F', G, n, ds, Qd, Ed, w, r, q, kd, kx⟩ => ⟨F', G, n, ds, _, Ed, w, r, q, fun ds n1 p vs H1 G1 q1 x1 w1 h0 h1 h2 r1 => kd (.lst ds) n1 _ H1 (upd G1 p (.lst vs)) q1 (x1.freeze h0 h2) (w1.freeze h1) (.lst upd_same (r1.mono (new_to h2))), kx⟩
end
/-! ### calls -/
structure DK (X : Cx) (Z : ZX) (kws : List Keyword) (td : TL) : Prop where
  pk : PK X kws (dla X.K Z td)
section
variable {X : Cx} {Z : ZX} {e : Expr} {es : List Expr} {kws : List Keyword} {ta : TD} {tl tk : TL} {pos kpos : Pos} {nm : Option Str}
theorem pk_imp {t t' : TA} (h : PK X kws t) (i : ∀ σ H Q, t' σ H Q → t σ H Q) : PK X kws t' := ⟨fun pos pins s σ H Q I q => h.run pos pins s σ H Q I (i σ H Q q)⟩
theorem dk_nil : DK X Z [] dNil := ⟨pk_imp pk_nil fun σ H Q ⟨B, G, ρ, n, Qd, env, q, k⟩ => k [] n [] H G q Ext.refl env.w .nil⟩
theorem dk_cons (ha : DE X Z e ta) (hr : DK X Z kws tl) : DK X Z (⟨nm, e, kpos⟩ :: kws) (dCons ta tl) := ⟨pk_imp (pk_cons ha.pe hr.pk) fun σ H Q ⟨B, G, ρ, n, Qd, env, q, k⟩ => by
  refine ⟨B, G, ρ, n, _, env, q, fun dx n1 v H1 G1 q1 x1 w1 r1 => ?_⟩
  refine ⟨B, G1, ρ, n1, _, env.ext x1 w1, q1, fun ds n2 vs H2 G2 q2 x2 w2 r2 => ?_⟩
  exact k (dx :: ds) n2 (v :: vs) H2 G2 q2 (x1.trans x2) w2 (.cons (r1.mono x2.g) r2)⟩
end
/-- what is called by the module's name x with n values and the keywords ks -/
structure Cal (X : Cx) (Z : ZX) (x : Str) (n : Nat) (ks : List Str) (sd : List D → List D → Nat → Ro → QD → Prop) : Prop where
  ex : ∃ a : Addr, X.mg x = some (.ref a) ∧ PySem.W.keepIn X.K (.ref a) = true ∧ ∀ (pins : List (Addr × Obj)) (s : Shared) (σ : L2.St) (H : Hp) (us ws : List Value) (vs zs : List V) (Q : VK) B G ρ m ds es Qd, Inv X pins σ H s → Vals vs us → Vals zs ws → vs.length = n → zs.length = ks.length →
    EnvD X.K Z B G H σ ρ m → RepL X.K B.F G vs ds → RepL X.K B.F G zs es → sd ds es m ρ Qd → KD X.K B.F G H Qd Q → wpAny (model X.prog X.w) X.A (call (.ref a) us (ks.zip ws)) (EP X pins σ Q) X.xe s
structure CalO (X : Cx) (Z : ZX) (x : Str) (n : Nat) (ks : List Str) (sd : List D → List D → Nat → Ro → QL → Prop) : Prop where
  ex : ∃ a : Addr, X.mg x = some (.ref a) ∧ PySem.W.keepIn X.K (.ref a) = true ∧ ∀ (pins : List (Addr × Obj)) (s : Shared) (σ : L2.St) (H : Hp) (us ws : List Value) (vs zs : List V) (Q : VK) B G ρ m ds es Qd, Inv X pins σ H s → Vals vs us → Vals zs ws → vs.length = n → zs.length = ks.length →
    EnvD X.K Z B G H σ ρ m → RepL X.K B.F G vs ds → RepL X.K B.F G zs es → sd ds es m ρ Qd → KO X.K B.F G H Qd Q → wpAny (model X.prog X.w) X.A (call (.ref a) us (ks.zip ws)) (EP X pins σ Q) X.xe s
def dCall {α : Type} (n m : Nat) (sd : List D → List D → Nat → Ro → (α → Nat → Prop) → Prop) (tl tk : TL) : Ro → Nat → (α → Nat → Prop) → Prop := fun ρ k Q => tl ρ k fun ds n1 => tk ρ n1 fun es n2 => ds.length = n ∧ es.length = m ∧ sd ds es n2 ρ Q
section
variable {X : Cx} {Z : ZX} {x : Str} {n : Nat} {ks : List Str} {sd : List D → List D → Nat → Ro → QD → Prop} {so : List D → List D → Nat → Ro → QL → Prop} {e : Expr} {es : List Expr} {kws : List Keyword} {tl tk : TL} {p pos : Pos}
theorem de_call (c : Cal X Z x n [] sd) (hg : Gl X x) (ha : DA X Z (e :: es) tl) (hdb : (x == ("__debug__" : Str)) = false := by decide) (he : starEach (e :: es) X.env = (false, eval e X.env) :: starEach es X.env := by rfl)
    (hpl : (backTo pos (starEach es X.env)).any (·.1) = false := by rfl) : DE X Z (.Call (.Name x p) (e :: es) [] pos) (dCall n 0 sd tl dNil) := by
  obtain ⟨a, hm, hk, run⟩ := c.ex
  refine ⟨⟨fun pins s σ H Q I ⟨B, G, ρ, m, Qd, env, q, k⟩ => wpAny_Call_Name_kw (ld_glob I hg hm ?_ hdb)⟩⟩
  refine PySem.W.callWith_K (h₀ := X.base) I.ok.mod.kin hk (thn (ha.pa.run pos pins s σ H (fun vs H1 => ∃ n1 ds G1, (ds.length = n ∧ ([] : List D).length = 0 ∧ sd ds [] n1 ρ Qd) ∧ Ext B.F G H G1 H1 ∧ Wd B.F G1 H1 n1 ∧ RepL X.K B.F G1 vs ds) I ⟨B, G, ρ, m, _, env, q, fun ds n1 vs H1 G1 q1 x1 w1 r1 => by
    have q2 : ds.length = n ∧ ([] : List D).length = 0 ∧ sd ds [] n1 ρ Qd := q1
    exact ⟨n1, ds, G1, q2, x1, w1, r1⟩⟩) fun us s1 z => ?_) he hpl
  obtain ⟨vs, H1, I1, r, n1, ds, G1, ⟨l1, _, q1⟩, x1, w1, r1⟩ := z
  exact ⟨I1.kIn, run pins s1 σ H1 us [] vs [] Q B G1 ρ n1 ds [] Qd I1 r .nil (by rw [r1.length]; exact l1) rfl (env.ext x1 w1) r1 .nil q1 (k.trans x1)⟩
theorem de_callK (c : Cal X Z x n ks sd) (hg : Gl X x) (ha : DA X Z (e :: es) tl) (hkw : DK X Z kws tk)
    (hall : (backToKw pos (keywordEach kws X.env)).all (·.1.isSome) = true := by rfl) (hks : (backToKw pos (keywordEach kws X.env)).filterMap (·.1) = ks := by rfl)
    (hdb : (x == ("__debug__" : Str)) = false := by decide) (he : starEach (e :: es) X.env = (false, eval e X.env) :: starEach es X.env := by rfl)
    (hpl : ((backTo pos (starEach (e :: es) X.env)).any (·.1) || (backToKw pos (keywordEach kws X.env)).any (·.1.isNone)) = false := by rfl) : DE X Z (.Call (.Name x p) (e :: es) kws pos) (dCall n ks.length sd tl tk) := by
  obtain ⟨a, hm, hk, run⟩ := c.ex
  refine ⟨⟨fun pins s σ H Q I ⟨B, G, ρ, m, Qd, env, q, k⟩ => wpAny_Call_Name_kw (ld_glob I hg hm ?_ hdb)⟩⟩
  refine PySem.W.callWith_KW (h₀ := X.base) I.ok.mod.kin hk hall (thn (ha.pa.run pos pins s σ H (fun vs H1 => ∃ n1 ds G1, (tk ρ n1 fun es n2 => ds.length = n ∧ es.length = ks.length ∧ sd ds es n2 ρ Qd) ∧ Ext B.F G H G1 H1 ∧ Wd B.F G1 H1 n1 ∧ RepL X.K B.F G1 vs ds) I ⟨B, G, ρ, m, _, env, q, fun ds n1 vs H1 G1 q1 x1 w1 r1 => ⟨n1, ds, G1, q1, x1, w1, r1⟩⟩) fun us s1 z => ?_) hpl he
  obtain ⟨vs, H1, I1, r, n1, ds, G1, q1, x1, w1, r1⟩ := z
  refine thn (hkw.pk.run pos pins s1 σ H1 (fun zs H2 => ∃ n2 es G2, (ds.length = n ∧ es.length = ks.length ∧ sd ds es n2 ρ Qd) ∧ Ext B.F G1 H1 G2 H2 ∧ Wd B.F G2 H2 n2 ∧ RepL X.K B.F G2 zs es) I1 ⟨B, G1, ρ, n1, _, env.ext x1 w1, q1, fun es n2 zs H2 G2 q2 x2 w2 r2 => ⟨n2, es, G2, q2, x2, w2, r2⟩⟩) fun ws s2 z2 => ?_
  obtain ⟨zs, H2, I2, rz, n2, es', G2, ⟨l1, l2, q2⟩, x2, w2, r2⟩ := z2
  refine ⟨I2.kIn, ?_⟩
  rw [hks]
  exact run pins s2 σ H2 us ws vs zs Q B G2 ρ n2 ds es' Qd I2 r rz (by rw [r1.length]; exact l1) (by rw [r2.length]; exact l2) ((env.ext x1 w1).ext x2 w2) (r1.mono x2.g) r2 q2 (k.trans (x1.trans x2))
theorem de_call0 (c : Cal X Z x 0 [] sd) (hg : Gl X x) (hdb : (x == ("__debug__" : Str)) = false := by decide) : DE X Z (.Call (.Name x p) [] [] pos) (dCall 0 0 sd dNil dNil) := by
  obtain ⟨a, hm, hk, run⟩ := c.ex
  refine ⟨⟨fun pins s σ H Q I ⟨B, G, ρ, m, Qd, env, q, k⟩ => wpAny_Call_Name_kw (ld_glob I hg hm ?_ hdb)⟩⟩
  exact PySem.W.callWith_K0 I.kIn hk (run pins s σ H [] [] [] [] Q B G ρ m [] [] Qd I .nil .nil rfl rfl env .nil .nil q.2.2 k)
theorem do_call (c : CalO X Z x n [] so) (hg : Gl X x) (ha : DA X Z (e :: es) tl) (hdb : (x == ("__debug__" : Str)) = false := by decide) (he : starEach (e :: es) X.env = (false, eval e X.env) :: starEach es X.env := by rfl)
    (hpl : (backTo pos (starEach es X.env)).any (·.1) = false := by rfl) : DO X Z (.Call (.Name x p) (e :: es) [] pos) (dCall n 0 so tl dNil) := by
  obtain ⟨a, hm, hk, run⟩ := c.ex
  refine ⟨⟨fun pins s σ H Q I ⟨B, G, ρ, m, Qd, env, q, k⟩ => wpAny_Call_Name_kw (ld_glob I hg hm ?_ hdb)⟩⟩
  refine PySem.W.callWith_K (h₀ := X.base) I.ok.mod.kin hk (thn (ha.pa.run pos pins s σ H (fun vs H1 => ∃ n1 ds G1, (ds.length = n ∧ ([] : List D).length = 0 ∧ so ds [] n1 ρ Qd) ∧ Ext B.F G H G1 H1 ∧ Wd B.F G1 H1 n1 ∧ RepL X.K B.F G1 vs ds) I ⟨B, G, ρ, m, _, env, q, fun ds n1 vs H1 G1 q1 x1 w1 r1 => by
    have q2 : ds.length = n ∧ ([] : List D).length = 0 ∧ so ds [] n1 ρ Qd := q1
    exact ⟨n1, ds, G1, q2, x1, w1, r1⟩⟩) fun us s1 z => ?_) he hpl
  obtain ⟨vs, H1, I1, r, n1, ds, G1, ⟨l1, _, q1⟩, x1, w1, r1⟩ := z
  exact ⟨I1.kIn, run pins s1 σ H1 us [] vs [] Q B G1 ρ n1 ds [] Qd I1 r .nil (by rw [r1.length]; exact l1) rfl (env.ext x1 w1) r1 .nil q1 (k.trans x1)⟩
end
/-- the def that the module's name x holds, called with n values and the keywords ks; gD: the arguments in the parameters' order -/
structure Fb (g : Bool) (P : Program) (w : World) (K : PySem.W.Frag) (mg : Str → Option Value) (base : Heap) (CX : CXT) (k : Nat) (x : Str) (n : Nat) (ks : List Str) (gD : List D → List D → List D) (sp : Sp) : Prop where
  ex : ∃ (f : Addr) (fd : FuncData) (ps : List Str) (g' : List Value → List Value → List Value) (gV : List V → List V → List V), FnX g P w K mg base CX k f fd ps sp ∧ mg x = some (.ref f) ∧ PySem.W.keepIn K (.ref f) = true ∧ KBn K fd ps n ks g' gV ∧
    ∀ F G vs ds zs es, vs.length = n → zs.length = ks.length → RepL K F G vs ds → RepL K F G zs es → RepL K F G (gV vs zs) (gD ds es)
def sdOf (gD : List D → List D → List D) (spd : SpD) : List D → List D → Nat → Ro → QD → Prop := fun ds es n _ Q => spd (gD ds es) n Q fun _ _ _ => False
def sdOfX (Ed : Value → List (Str × D) → Ro → Nat → Prop) (gD : List D → List D → List D) (spd : SpD) : List D → List D → Nat → Ro → QD → Prop := fun ds es n ρ Q => spd (gD ds es) n Q fun c fs n' => Ed c fs ρ n'
def soOf (gD : List D → List D → List D) (spd : SpO) : List D → List D → Nat → Ro → QL → Prop := fun ds es n _ Q => spd (gD ds es) n Q fun _ _ _ => False
section
variable {g : Bool} {X : Cx} {Z : ZX} {x : Str} {n k : Nat} {ks : List Str} {gD : List D → List D → List D} {spd : SpD} {spo : SpO}
theorem Fb.cal (D : Fb g X.prog X.w X.K X.mg X.base CX0 k x n ks gD (liftSp X.K spd)) (gd : Gd g X.A) (hr : Room k X.A) : Cal X Z x n ks (sdOf gD spd) := by
  obtain ⟨f, fd, ps, g', gV, F, hm, hk, hb, rel⟩ := D.ex
  refine ⟨f, hm, hk, fun pins s σ H us ws vs zs Q B G ρ m ds es Qd I r rz l1 l2 env rd re q k' => ?_⟩
  refine wpAny_call (codeAny_mono (F.run X.A X.stack s H ⟨us, ks.zip ws⟩ (g' us ws) (gV vs zs) Q E0 gd hr I.env0 (hb.to s us ws I.kIn (r.length.symm.trans l1) (rz.length.symm.trans l2)) (hb.rel r rz)
    ⟨B.F, G, m, _, Qd, _, env.w, rel _ _ _ _ _ _ l1 l2 rd re, q, k', fun _ _ _ _ _ _ h => h.elim⟩) fun r s' hq => ?_)
  rcases r with er | (_ | _ | _ | u)
  · exact hq.elim
  all_goals first | exact I.after hq | exact False.elim hq
theorem Fb.calX (D : Fb g X.prog X.w X.K X.mg X.base (L2.CX X.prog X.w) k x n ks gD (liftSp X.K spd)) (tk : Takes X Z.E) (gd : Gd g X.A) (hr : Room k X.A) : Cal X Z x n ks (sdOfX Z.Ed gD spd) := by
  obtain ⟨f, fd, ps, g', gV, F, hm, hk, hb, rel⟩ := D.ex
  refine ⟨f, hm, hk, fun pins s σ H us ws vs zs Q B G ρ m ds es Qd I r rz l1 l2 env rd re q k' => ?_⟩
  refine wpAny_call (codeAny_mono (F.run X.A X.stack s H ⟨us, ks.zip ws⟩ (g' us ws) (gV vs zs) Q (WE Z.E σ) gd hr I.env0 (hb.to s us ws I.kIn (r.length.symm.trans l1) (rz.length.symm.trans l2)) (hb.rel r rz)
    ⟨B.F, G, m, _, Qd, _, env.w, rel _ _ _ _ _ _ l1 l2 rd re, q, k', fun c fs n' dx H' G' h x w xr => env.z c fs dx G' H' σ ρ n' (env.ext x w).toEnvC h xr⟩) fun r s' hq => ?_)
  rcases r with er | (_ | _ | _ | u)
  · exact passAt tk σ pins H s er s' I hq
  all_goals first | exact I.after hq | exact False.elim hq
theorem Fb.calT {W : WX} {Ed : Value → List (Str × D) → Ro → Nat → Prop} (D : Fb g X.prog X.w X.K X.mg X.base (L2.CX X.prog X.w) k x n ks gD (liftSp X.K spd)) (tk : Takes X W) (gd : Gd g X.A) (hr : Room k X.A) : Cal X ⟨W, Ed⟩ x n ks (sdOfX Ed gD spd) := Fb.calX (Z := ⟨W, Ed⟩) D tk gd hr
theorem Fb.calO (D : Fb g X.prog X.w X.K X.mg X.base CX0 k x n ks gD (liftSpO X.K spo)) (gd : Gd g X.A) (hr : Room k X.A) : CalO X Z x n ks (soOf gD spo) := by
  obtain ⟨f, fd, ps, g', gV, F, hm, hk, hb, rel⟩ := D.ex
  refine ⟨f, hm, hk, fun pins s σ H us ws vs zs Q B G ρ m ds es Qd I r rz l1 l2 env rd re q k' => ?_⟩
  refine wpAny_call (codeAny_mono (F.run X.A X.stack s H ⟨us, ks.zip ws⟩ (g' us ws) (gV vs zs) Q E0 gd hr I.env0 (hb.to s us ws I.kIn (r.length.symm.trans l1) (rz.length.symm.trans l2)) (hb.rel r rz)
    ⟨B.F, G, m, _, Qd, _, env.w, rel _ _ _ _ _ _ l1 l2 rd re, q, k', fun _ _ _ _ _ _ h => h.elim⟩) fun r s' hq => ?_)
  rcases r with er | (_ | _ | _ | u)
  · exact hq.elim
  all_goals first | exact I.after hq | exact False.elim hq
/-- called with all its parameters' values -/
theorem fb_all {P : Program} {w : World} {K : PySem.W.Frag} {mg : Str → Option Value} {base : Heap} {CX : CXT} {f : Addr} {fd : FuncData} {ps : List Str} {sp : Sp} (F : FnX g P w K mg base CX k f fd ps sp) (hm : mg x = some (.ref f)) (hk : PySem.W.keepIn K (.ref f) = true) (hb : Binds K fd ps []) :
    Fb g P w K mg base CX k x ps.length [] (fun ds _ => ds) sp :=
  ⟨f, fd, ps, fun us _ => us, fun vs _ => vs, F, hm, hk, ⟨fun s us ws X l1 l2 => by
    have h := hb s us X (by rw [List.append_nil]; exact l1)
    rw [List.append_nil] at h
    rw [List.zip_nil_left]
    exact h, fun r1 _ => r1⟩, fun _ _ _ _ _ _ _ _ r _ => r⟩
/-- .. defaults fill up -/
theorem fb_dfl {P : Program} {w : World} {K : PySem.W.Frag} {mg : Str → Option Value} {base : Heap} {CX : CXT} {f : Addr} {fd : FuncData} {ps : List Str} {sp : Sp} {vs : List V} {us : List Value} (ds : List D) (F : FnX g P w K mg base CX k f fd ps sp) (hm : mg x = some (.ref f)) (hk : PySem.W.keepIn K (.ref f) = true) (hb : Binds K fd ps us) (hv : Vals vs us)
    (hn : n + us.length = ps.length) (hr : ∀ F G, RepL K F G vs ds) : Fb g P w K mg base CX k x n [] (fun es _ => es ++ ds) sp :=
  ⟨f, fd, ps, fun ws _ => ws ++ us, fun ws _ => ws ++ vs, F, hm, hk, ⟨fun s ws zs X l1 l2 => by
    have h := hb s ws X (by rw [List.length_append, l1]; exact hn)
    rw [List.zip_nil_left]
    exact h, fun r1 _ => r1.append hv⟩, fun _ _ _ _ _ _ _ _ r _ => r.append (hr _ _)⟩
end
end Dw

namespace Dw
open PySem PySem.Spec PyProof.Rows L2 Fw
section
variable {X : Cx} {Z : ZX} {e a b : Expr} {es : List Expr} {pos p : Pos} {ta tb td : TD} {tl : TL} {K : PySem.W.Frag}
/-! list + list, list * k, of one's own -/
def d2o (rd : D → D → Nat → QL → Prop) (ta tb : TD) : TL := fun ρ n Q => ta ρ n fun x n1 => tb ρ n1 fun y n2 => rd x y n2 Q
def dCat : D → D → Nat → QL → Prop
  | .lst xs, .lst ys, n, Q => xs.length + ys.length ≤ sizeLine ∧ Q (xs ++ ys) n
  | _, _, _, _ => False
def dRepL : D → D → Nat → QL → Prop
  | .lst xs, .int j, n, Q => -(2 ^ 63) ≤ j ∧ j < 2 ^ 63 ∧ xs.length * j.toNat ≤ sizeLine ∧ Q (List.replicate j.toNat xs).flatten n
  | _, _, _, _ => False
theorem do_add (ha : DE X Z a ta) (hb : DE X Z b tb) : DO X Z (.BinOp a .Add b pos) (d2o dCat ta tb) := ⟨pe_imp (pe_op op_cat ha.pe hb.pe) fun σ H Q ⟨B, G, ρ, n, Qd, env, q, k⟩ => by
  refine ⟨B, G, ρ, n, _, env, q, fun dx n1 v H1 G1 q1 x1 w1 r1 => ?_⟩
  refine ⟨B, G1, ρ, n1, _, env.ext x1 w1, q1, fun dy n2 u H2 G2 q2 x2 w2 r2 => ?_⟩
  unfold dCat at q2
  split at q2
  · cases r1 with | lst h1 r1 => cases r2 with | lst h2 r2 =>
    exact ⟨_, _, _, _, rfl, rfl, w2.sub _ _ (x2.g _ _ h1), w2.sub _ _ h2, by rw [r1.length, r2.length]; exact q2.1, fun p hp => (k.trans (x1.trans x2)).new q2.2 w2 hp ((r1.mono x2.g).append r2)⟩
  · exact q2.elim⟩
theorem do_rep (ha : DE X Z a ta) (hb : DE X Z b tb) : DO X Z (.BinOp a .Mult b pos) (d2o dRepL ta tb) := ⟨pe_imp (pe_op op_rep ha.pe hb.pe) fun σ H Q ⟨B, G, ρ, n, Qd, env, q, k⟩ => by
  refine ⟨B, G, ρ, n, _, env, q, fun dx n1 v H1 G1 q1 x1 w1 r1 => ?_⟩
  refine ⟨B, G1, ρ, n1, _, env.ext x1 w1, q1, fun dy n2 u H2 G2 q2 x2 w2 r2 => ?_⟩
  unfold dRepL at q2
  split at q2
  · cases r1 with | lst h1 r1 => cases r2 with | int _ =>
    exact ⟨_, _, _, rfl, rfl, w2.sub _ _ (x2.g _ _ h1), q2.1, q2.2.1, by rw [r1.length]; exact q2.2.2.1, fun p hp => (k.trans (x1.trans x2)).new q2.2.2.2 w2 hp ((r1.mono x2.g).rep _)⟩
  · exact q2.elim⟩
/-! f'..' -/
def dFmt : D → Nat → QD → Prop
  | .str s, n, Q => s.length ≤ sizeLine ∧ Q (.str s) n
  | .int i, n, Q => i.natAbs.log2 < 1920 ∧ Q (.str (toString i)) n
  | _, _, _ => False
theorem de_fmt (he : DE X Z e ta) : DE X Z (.FormattedValue e (-1) none pos) (d1 dFmt ta) := ⟨pe_imp (pe_fmt he.pe) fun σ H Q ⟨B, G, ρ, n, Qd, env, q, k⟩ => ⟨B, G, ρ, n, _, env, q, fun d n1 v H1 G1 q1 x1 w1 r1 => by
  unfold dFmt at q1
  split at q1
  · cases r1
    exact .inl ⟨_, rfl, q1.1, (k.trans x1).here q1.2 w1 (.str _)⟩
  · cases r1
    exact .inr ⟨_, rfl, q1.1, (k.trans x1).here q1.2 w1 (.str _)⟩
  · exact q1.elim⟩⟩
theorem de_joined1 (he : DE X Z e ta) : DE X Z (.JoinedStr [e] pos) ta := ⟨pe_joined1 he.pe⟩
abbrev TJ := Str → Ro → Nat → (Str → Nat → Prop) → Prop
def djNil : TJ := fun acc _ n Q => Q acc n
def djCons (ta : TD) (tj : TJ) : TJ := fun acc ρ n Q => ta ρ n fun x n1 => match x with
  | .str y => (acc ++ y).length ≤ sizeLine ∧ tj (acc ++ y) ρ n1 Q
  | _ => False
structure DJ (X : Cx) (Z : ZX) (es : List Expr) (tj : TJ) : Prop where
  ex : ∃ ts : List TE, PJ X es ts ∧ ∀ (acc : Str) σ H (Q : Str → Hp → Prop) B G ρ n Qd, EnvD X.K Z B G H σ ρ n → tj acc ρ n Qd → (∀ out n' H' G', Qd out n' → Ext B.F G H G' H' → Wd B.F G' H' n' → Q out H') → tJs ts acc σ H Q
theorem dj_nil : DJ X Z [] djNil := ⟨[], .nil, fun acc σ H Q B G ρ n Qd env q k => k acc n H G q Ext.refl env.w⟩
theorem dj_cons {tj : TJ} (he : DE X Z e ta) (hr : DJ X Z es tj) : DJ X Z (e :: es) (djCons ta tj) := by
  obtain ⟨ts, h1, h2⟩ := hr.ex
  refine ⟨_ :: ts, .cons he.pe h1, fun acc σ H Q B G ρ n Qd env q k => ?_⟩
  refine ⟨B, G, ρ, n, _, env, q, fun d n1 v H1 G1 q1 x1 w1 r1 => ?_⟩
  split at q1
  · cases r1
    exact ⟨_, rfl, q1.1, h2 _ σ H1 Q B G1 ρ n1 Qd (env.ext x1 w1) q1.2 fun out n' H' G' h x w => k out n' H' G' h (x1.trans x) w⟩
  · exact q1.elim
def dJoined (tj : TJ) : TD := fun ρ n Q => tj Str.empty ρ n fun out n' => Q (.str out) n'
theorem de_joined {v1 v2 : Expr} {rest : List Expr} {tj : TJ} (h : DJ X Z (v1 :: v2 :: rest) tj) : DE X Z (.JoinedStr (v1 :: v2 :: rest) pos) (dJoined tj) := by
  obtain ⟨ts, h1, h2⟩ := h.ex
  exact ⟨pe_imp (pe_joined h1) fun σ H Q ⟨B, G, ρ, n, Qd, env, q, k⟩ => h2 Str.empty σ H _ B G ρ n _ env q fun out n' H' G' h x w => (k.trans x).here h w (.str _)⟩
/-! sep.join(list) -/
def strsD : List D → Option (List Str)
  | [] => some []
  | .str b :: r => (strsD r).map (b :: ·)
  | _ :: _ => none
theorem strsD_map : ∀ bs : List Str, strsD (bs.map D.str) = some bs
  | [] => rfl
  | b :: r => by rw [List.map_cons, strsD, strsD_map r]; rfl
theorem repStrsD {F : Option Addr} {G : Hp} : ∀ {vs : List V} {ds : List D} {bs : List Str}, RepL K F G vs ds → strsD ds = some bs → vs = bs.map V.str
  | _, _, _, .nil, e => by rw [strsD] at e; cases e; rfl
  | _, _, bs, .cons (ds := ds) h r, e => by
    cases h with
    | str b =>
      rw [strsD] at e
      cases q : strsD ds with
      | none => rw [q] at e; cases e
      | some cs =>
        rw [q] at e
        cases e
        rw [repStrsD r q]; rfl
    | _ => cases e
/-- a text's method of one value, of none -/
def dM1 (rd : Str → D → Nat → QD → Prop) (ta tb : TD) : TD := fun ρ n Q => ta ρ n fun x n1 => match x with
  | .str s => tb ρ n1 fun y n2 => rd s y n2 Q
  | _ => False
def dM0 (rd : Str → Nat → QD → Prop) (ta : TD) : TD := fun ρ n Q => ta ρ n fun x n1 => match x with
  | .str s => rd s n1 Q
  | _ => False
theorem dl_m1 {r : V → List V → Hp → VK → Prop} {rd : Str → D → Nat → QD → Prop} (cv : ∀ F G H n s y dy Qd (Q : VK), Wd F G H n → Rep K F G y dy → rd s dy n Qd → KD K F G H Qd Q → r (.str s) [y] H Q) {σ : L2.St} {H : Hp} {Q : VK} (h : dl K Z (dM1 rd ta tb) σ H Q) : tM1 r (dl K Z ta) (dl K Z tb) σ H Q := by
  obtain ⟨B, G, ρ, n, Qd, env, q, k⟩ := h
  refine ⟨B, G, ρ, n, _, env, q, fun dx n1 v H1 G1 q1 x1 w1 r1 => ?_⟩
  split at q1
  · cases r1
    exact ⟨⟨_, rfl⟩, B, G1, ρ, n1, _, env.ext x1 w1, q1, fun dy n2 u H2 G2 q2 x2 w2 r2 => cv B.F G2 H2 n2 _ u dy Qd Q w2 r2 q2 (k.trans (x1.trans x2))⟩
  · exact q1.elim
theorem dl_m0 {r : V → List V → Hp → VK → Prop} {rd : Str → Nat → QD → Prop} (cv : ∀ F G H n s Qd (Q : VK), Wd F G H n → rd s n Qd → KD K F G H Qd Q → r (.str s) [] H Q) {σ : L2.St} {H : Hp} {Q : VK} (h : dl K Z (dM0 rd ta) σ H Q) : tM0 r (dl K Z ta) σ H Q := by
  obtain ⟨B, G, ρ, n, Qd, env, q, k⟩ := h
  refine ⟨B, G, ρ, n, _, env, q, fun dx n1 v H1 G1 q1 x1 w1 r1 => ?_⟩
  split at q1
  · cases r1
    exact ⟨⟨_, rfl⟩, cv B.F G1 H1 n1 _ Qd Q w1 q1 (k.trans x1)⟩
  · exact q1.elim
def dJoin : Str → D → Nat → QD → Prop
  | a, .lst l, n, Q => ∃ ys, strsD l = some ys ∧ (ys.map (·.length)).sum + ys.length * a.length ≤ 16777216 ∧ Q (.str (Txt.join a ys)) n
  | a, .tup l, n, Q => ∃ ys, strsD l = some ys ∧ (ys.map (·.length)).sum + ys.length * a.length ≤ 16777216 ∧ Q (.str (Txt.join a ys)) n
  | _, _, _, _ => False
variable {apos : Pos}
theorem de_join (ha : DE X Z a ta) (hb : DE X Z b tb) (hs : starEach [b] X.env = [(false, eval b X.env)] := by rfl) (hbase : attributeBase a "join" X.env (eval a X.env) = eval a X.env := by rfl) (hline : (apos.endLine == pos.line) = true := by rfl) :
    DE X Z (.Call (.Attribute a "join" apos) [b] [] pos) (dM1 dJoin ta tb) := ⟨pe_imp (pe_join ha.pe hb.pe hs hbase hline) fun _ _ _ h => dl_m1 (fun F G H n s y dy Qd Q w r q k => by
  unfold dJoin at q
  split at q
  · cases r with | lst h1 r1 =>
    obtain ⟨ys, e, hz, q⟩ := q
    have := repStrsD r1 e
    subst this
    exact ⟨_, _, ys, rfl, rfl, .inl (SqL.of (w.sub _ _ h1)), hz, k.here q w (.str _)⟩
  · cases r with | tup h1 r1 =>
    obtain ⟨ys, e, hz, q⟩ := q
    have := repStrsD r1 e
    subst this
    exact ⟨_, _, ys, rfl, rfl, .inr (sqT_same w.sub h1), hz, k.here q w (.str _)⟩
  · exact q.elim) h⟩
def dStr1 (f : Str → Str → D) : Str → D → Nat → QD → Prop
  | a, .str b, n, Q => Q (f a b) n
  | _, _, _, _ => False
theorem de_startswith (ha : DE X Z a ta) (hb : DE X Z b tb) (hs : starEach [b] X.env = [(false, eval b X.env)] := by rfl) (hbase : attributeBase a "startswith" X.env (eval a X.env) = eval a X.env := by rfl) (hline : (apos.endLine == pos.line) = true := by rfl) :
    DE X Z (.Call (.Attribute a "startswith" apos) [b] [] pos) (dM1 (dStr1 fun a b => .bl (Txt.startswith a b)) ta tb) := ⟨pe_imp (pe_m1 PySem.F.slot_str_startswith PySem.F.type_str_startswith mt_startswith ha.pe hb.pe hs hbase hline) fun _ _ _ h => dl_m1 (fun F G H n s y dy Qd Q w r q k => by
  unfold dStr1 at q
  split at q
  · cases r
    exact ⟨_, _, rfl, rfl, k.here q w (.bl _)⟩
  · exact q.elim) h⟩
theorem de_endswith (ha : DE X Z a ta) (hb : DE X Z b tb) (hs : starEach [b] X.env = [(false, eval b X.env)] := by rfl) (hbase : attributeBase a "endswith" X.env (eval a X.env) = eval a X.env := by rfl) (hline : (apos.endLine == pos.line) = true := by rfl) :
    DE X Z (.Call (.Attribute a "endswith" apos) [b] [] pos) (dM1 (dStr1 fun a b => .bl (Txt.endswith a b)) ta tb) := ⟨pe_imp (pe_m1 PySem.F.slot_str_endswith PySem.F.type_str_endswith mt_endswith ha.pe hb.pe hs hbase hline) fun _ _ _ h => dl_m1 (fun F G H n s y dy Qd Q w r q k => by
  unfold dStr1 at q
  split at q
  · cases r
    exact ⟨_, _, rfl, rfl, k.here q w (.bl _)⟩
  · exact q.elim) h⟩
theorem de_find (ha : DE X Z a ta) (hb : DE X Z b tb) (hs : starEach [b] X.env = [(false, eval b X.env)] := by rfl) (hbase : attributeBase a "find" X.env (eval a X.env) = eval a X.env := by rfl) (hline : (apos.endLine == pos.line) = true := by rfl) :
    DE X Z (.Call (.Attribute a "find" apos) [b] [] pos) (dM1 (dStr1 fun a b => .int (Txt.find a b)) ta tb) := ⟨pe_imp (pe_m1 PySem.F.slot_str_find PySem.F.type_str_find mt_find ha.pe hb.pe hs hbase hline) fun _ _ _ h => dl_m1 (fun F G H n s y dy Qd Q w r q k => by
  unfold dStr1 at q
  split at q
  · cases r
    exact ⟨_, _, rfl, rfl, k.here q w (.int _)⟩
  · exact q.elim) h⟩
theorem de_count (ha : DE X Z a ta) (hb : DE X Z b tb) (hs : starEach [b] X.env = [(false, eval b X.env)] := by rfl) (hbase : attributeBase a "count" X.env (eval a X.env) = eval a X.env := by rfl) (hline : (apos.endLine == pos.line) = true := by rfl) :
    DE X Z (.Call (.Attribute a "count" apos) [b] [] pos) (dM1 (dStr1 fun a b => .int (Txt.count a b)) ta tb) := ⟨pe_imp (pe_m1 PySem.F.slot_str_count PySem.F.type_str_count mt_count ha.pe hb.pe hs hbase hline) fun _ _ _ h => dl_m1 (fun F G H n s y dy Qd Q w r q k => by
  unfold dStr1 at q
  split at q
  · cases r
    exact ⟨_, _, rfl, rfl, k.here q w (.int _)⟩
  · exact q.elim) h⟩
/-! x in y -/
theorem eqV_eqD {F : Option Addr} {G : Hp} {v u : V} {x y : D} (r : Rep K F G v x) (r' : Rep K F G u y) (h : flatD x = true) (h' : flatD y = true) : flatV v = true ∧ eqV v u = eqD x y := by
  cases r <;> cases h <;> cases r' <;> cases h' <;> exact ⟨rfl, rfl⟩
theorem any_eqD {F : Option Addr} {G : Hp} {u : V} {y : D} (r' : Rep K F G u y) (h' : flatD y = true) : ∀ {vs : List V} {l : List D}, RepL K F G vs l → l.all flatD = true → vs.all flatV = true ∧ vs.any (fun z => eqV z u) = l.any fun z => eqD z y
  | _, _, .nil, _ => ⟨rfl, rfl⟩
  | _, _, .cons h r, e => by
    rw [List.all_cons, Bool.and_eq_true] at e
    obtain ⟨a1, a2⟩ := eqV_eqD h r' e.1 h'
    obtain ⟨b1, b2⟩ := any_eqD r' h' r e.2
    rw [List.all_cons, List.any_cons, List.any_cons, a1, a2, b1, b2]
    exact ⟨rfl, rfl⟩
theorem flatV_of {F : Option Addr} {G : Hp} {v : V} {x : D} (r : Rep K F G v x) (h : flatD x = true) : flatV v = true := by
  cases r <;> cases h <;> rfl
def dInB (f : Bool → Bool) : RD2
  | .str s, .str t, n, Q => (match s.cps.toList with
    | [c] => Q (.bl (f (decide (c ∈ t.cps.toList)))) n
    | _ => False)
  | x, .lst l, n, Q => (flatD x = true ∧ l.all flatD = true ∧ Q (.bl (f (l.any fun z => eqD z x))) n) ∨ (dpt 60 x = true ∧ dpt 60 (.lst l) = true ∧ Q (.bl (f (l.any fun z => eqD z x))) n)
  | x, .tup l, n, Q => flatD x = true ∧ l.all flatD = true ∧ Q (.bl (f (l.any fun z => eqD z x))) n
  | _, _, _, _ => False
def dIn : RD2 := dInB fun b => b
def dNotin : RD2 := dInB fun b => !b
theorem pyL_any (x : D) : ∀ l : List D, ((pyL l).any fun z => PyData.eqv z x.py) = l.any fun z => eqD z x
  | [] => by rw [pyL]; rfl
  | d :: r => by rw [pyL, List.any_cons, List.any_cons, pyL_any x r]; rfl
theorem cv_in (f : Bool → Bool) : Cv2 K (fun x y H Q => (∃ (c : Nat) (z : Str), x = .str ⟨#[c]⟩ ∧ y = .str z ∧ Q (.bl (f (decide (c ∈ z.cps.toList)))) H) ∨ (∃ p xs, y = .ref p ∧ (SqL K H p xs ∨ SqT K H p xs) ∧ flatV x = true ∧ xs.all flatV = true ∧ Q (.bl (f (inV x xs))) H) ∨
    ∃ d ds, Dp K H x d ∧ Dp K H y (.list ds) ∧ SeqAt.shaped d = true ∧ SeqAt.shaped (.list ds) = true ∧ Q (.bl (f (ds.any fun z => PyData.eqv z d))) H) (dInB f) := by
  intro F G H n x y dx dy Qd Q w rx ry q k
  unfold dInB at q
  split at q
  · cases rx; cases ry
    split at q
    · rename_i s t l0 c e
      obtain ⟨⟨l⟩⟩ := s
      have e' : l = [c] := e
      subst e'
      exact .inl ⟨c, t, rfl, rfl, k.here q w (.bl _)⟩
    · exact q.elim
  · cases ry with | lst h1 r1 =>
    rcases q with ⟨h2, h3, q⟩ | ⟨h2, h3, q⟩
    · obtain ⟨a1, a2⟩ := any_eqD rx h2 r1 h3
      refine .inr (.inl ⟨_, _, rfl, .inl (SqL.of (w.sub _ _ h1)), flatV_of rx h2, a1, ?_⟩)
      unfold inV
      rw [a2]
      exact k.here q w (.bl _)
    · have hd := ((Rep.lst h1 r1).mono w.sub).dp h3
      have hs := dpt_shaped h3
      rw [D.py] at hd hs
      refine .inr (.inr ⟨_, _, (rx.mono w.sub).dp h2, hd, dpt_shaped h2, hs, ?_⟩)
      rw [pyL_any]
      exact k.here q w (.bl _)
  · cases ry with | tup h1 r1 =>
    obtain ⟨h2, h3, q⟩ := q
    obtain ⟨a1, a2⟩ := any_eqD rx h2 r1 h3
    refine .inr (.inl ⟨_, _, rfl, .inr (sqT_same w.sub h1), flatV_of rx h2, a1, ?_⟩)
    unfold inV
    rw [a2]
    exact k.here q w (.bl _)
  · exact q.elim
theorem opr_imp {f : Value → Value → Sem Value} {r r' : R2} (h : OpR X f r) (i : ∀ x y H Q, r' x y H Q → r x y H Q) : OpR X f r' := fun pins s σ H x y v u Q I rx ry q => h pins s σ H x y v u Q I rx ry (i _ _ _ _ q)
theorem op_in_all (hu : X.A.units + 65 < cLine) : OpR X (compareOp .In) (fun x y H Q => (∃ (c : Nat) (z : Str), x = .str ⟨#[c]⟩ ∧ y = .str z ∧ Q (.bl ((fun b => b) (decide (c ∈ z.cps.toList)))) H) ∨ (∃ p xs, y = .ref p ∧ (SqL X.K H p xs ∨ SqT X.K H p xs) ∧ flatV x = true ∧ xs.all flatV = true ∧ Q (.bl ((fun b => b) (inV x xs))) H) ∨
    ∃ d ds, Dp X.K H x d ∧ Dp X.K H y (.list ds) ∧ SeqAt.shaped d = true ∧ SeqAt.shaped (.list ds) = true ∧ Q (.bl ((fun b => b) (ds.any fun z => PyData.eqv z d))) H) :=
  OpR.or op_in_sign (OpR.or (opr_imp op_in_seq fun x y H Q ⟨p, xs, h1, h2, h3, h4, q⟩ => ⟨p, xs, h1, h2, h3, h4, q⟩) (op_inD hu))
theorem op_notin_all (hu : X.A.units + 65 < cLine) : OpR X (compareOp .NotIn) (fun x y H Q => (∃ (c : Nat) (z : Str), x = .str ⟨#[c]⟩ ∧ y = .str z ∧ Q (.bl ((fun b => !b) (decide (c ∈ z.cps.toList)))) H) ∨ (∃ p xs, y = .ref p ∧ (SqL X.K H p xs ∨ SqT X.K H p xs) ∧ flatV x = true ∧ xs.all flatV = true ∧ Q (.bl ((fun b => !b) (inV x xs))) H) ∨
    ∃ d ds, Dp X.K H x d ∧ Dp X.K H y (.list ds) ∧ SeqAt.shaped d = true ∧ SeqAt.shaped (.list ds) = true ∧ Q (.bl ((fun b => !b) (ds.any fun z => PyData.eqv z d))) H) :=
  OpR.or op_notIn_sign (OpR.or (opr_imp op_notIn_seq fun x y H Q ⟨p, xs, h1, h2, h3, h4, q⟩ => ⟨p, xs, h1, h2, h3, h4, q⟩) (op_notInD hu))
theorem units65 {k : Nat} {A : Around} (hr : Room k A) : A.units + 65 < cLine := by have := hr.un; omega
theorem de_in {k : Nat} (hr : Room k X.A) (ha : DE X Z a ta) (hb : DE X Z b tb) (hm : behindInMarks .In b = false := by rfl) : DE X Z (.Compare a [.In] [b] pos) (d2 dIn ta tb) := de_cmp (op_in_all (units65 hr)) (cv_in fun b => b) ha hb hm
theorem de_notin {k : Nat} (hr : Room k X.A) (ha : DE X Z a ta) (hb : DE X Z b tb) (hm : behindInMarks .NotIn b = false := by rfl) : DE X Z (.Compare a [.NotIn] [b] pos) (d2 dNotin ta tb) := de_cmp (op_notin_all (units65 hr)) (cv_in fun b => !b) ha hb hm
theorem dt_in {k : Nat} (hr : Room k X.A) (ha : DE X Z a ta) (hb : DE X Z b tb) (hm : behindInMarks .In b = false := by rfl) : DT X Z (.Compare a [.In] [b] pos) (dTestB (d2 dIn ta tb)) := dt_cmp (op_in_all (units65 hr)) (cv_in fun b => b) ha hb hm
theorem dt_notin {k : Nat} (hr : Room k X.A) (ha : DE X Z a ta) (hb : DE X Z b tb) (hm : behindInMarks .NotIn b = false := by rfl) : DT X Z (.Compare a [.NotIn] [b] pos) (dTestB (d2 dNotin ta tb)) := dt_cmp (op_notin_all (units65 hr)) (cv_in fun b => !b) ha hb hm
theorem dt_chain {c : Expr} {tc : TD} {op op' : CmpOp} {r r' : R2} {rd rd' : RD2} (ho : OpR X (compareOp op) r) (cv : Cv2 X.K r rd) (ho' : OpR X (compareOp op') r') (cv' : Cv2 X.K r' rd') (ha : DE X Z a ta) (hb : DE X Z b tb) (hc : DE X Z c tc)
    (hm : lastMarks [op, op'] [b, c] = false := by rfl) : DT X Z (.Compare a [op, op'] [b, c] pos) (dTestB (dChain rd rd' ta tb tc)) := ⟨pt_imp (pt_chain ho ho' ha.pe hb.pe hc.pe hm) fun σ H Q h => by
  obtain ⟨B, G, ρ, n, Qd, env, q, k⟩ := dlt_testB h
  refine ⟨B, G, ρ, n, _, env, q, fun dx n1 v H1 G1 q1 x1 w1 r1 => ?_⟩
  refine ⟨B, G1, ρ, n1, _, env.ext x1 w1, q1, fun dy n2 u H2 G2 q2 x2 w2 r2 => ?_⟩
  refine cv B.F G2 H2 n2 v u dx dy _ _ w2 (r1.mono x2.g) r2 q2 fun dz n3 z H3 G3 q3 x3 w3 r3 => ?_
  split at q3
  · rename_i k0
    cases r3
    cases k0 with
    | false =>
      obtain ⟨k1, e1, e2⟩ := (k.trans ((x1.trans x2).trans x3)).here (q3.2 rfl) w3 (.bl _)
      cases e1
      exact ⟨_, rfl, iteF ⟨_, rfl, e2⟩⟩
    | true =>
    refine ⟨_, rfl, iteT ?_⟩
    replace q3 := q3.1 rfl
    refine ⟨B, G3, ρ, n3, _, ((env.ext x1 w1).ext x2 w2).ext x3 w3, q3, fun dw n4 w' H4 G4 q4 x4 w4 r4 => ?_⟩
    exact cv' B.F G4 H4 n4 u w' dy dw Qd _ w4 ((r2.mono x3.g).mono x4.g) r4 q4 (k.trans (((x1.trans x2).trans x3).trans x4))
  · exact q3.elim⟩
/-! sorted -/
def dSortI : RDO
  | [.lst l], n, Q => ∃ ns, intsD l = some ns ∧ ns.length < 64 ∧ ∀ ns' : List Int, ns'.Perm ns → ns'.Pairwise (· ≤ ·) → Q (ns'.map D.int) n
  | _, _, _ => False
def dSortS : RDO
  | [.lst l], n, Q => ∃ ns, strsD l = some ns ∧ ns.length < 64 ∧ ∀ ns' : List Str, ns'.Perm ns → sortedS ns' = true → Q (ns'.map D.str) n
  | _, _, _ => False
theorem cv_sorted : CvO K (rSorted K) dSortI := by
  intro F G H n vs ds Qd Q w r q k
  unfold dSortI at q
  split at q
  · cases r with | cons h r =>
    cases r
    cases h with | lst h1 r1 =>
    obtain ⟨ns, e, hl, q⟩ := q
    have := repIntsD r1 e
    subst this
    exact ⟨_, ns, rfl, SqL.of (w.sub _ _ h1), hl, fun ns' p hp hs hn => k.new (q ns' hp hs) w hn (repInts ns')⟩
  · exact q.elim
theorem cv_sortedS : CvO K (rSortedS K) dSortS := by
  intro F G H n vs ds Qd Q w r q k
  unfold dSortS at q
  split at q
  · cases r with | cons h r =>
    cases r
    cases h with | lst h1 r1 =>
    obtain ⟨ns, e, hl, q⟩ := q
    have := repStrsD r1 e
    subst this
    exact ⟨_, ns, rfl, SqL.of (w.sub _ _ h1), hl, fun ns' p hp hs hn => k.new (q ns' hp hs) w hn (repStrs ns')⟩
  · exact q.elim
/-! isinstance -/
/-- what isinstance asks of an own class -/
structure IsK (K : PySem.W.Frag) (C : Addr) : Prop where
  cl : Cls K C
  ca : PySem.W.findIn K (.ref C) "__class__" = some (some (.builtin "object.__class__"))
  cn : PySem.W.specialIn K (.builtin "object.__class__") "__get__" = some (some (.builtin "getset_descriptor.__get__"))
  ct : PySem.W.takesIn K (.builtin "object.__class__") = some true
  cm : PySem.W.mroIn K C (.type "object") = some true
inductive TyD (K : PySem.W.Frag) : D → Value → Prop where
  | non : TyD K .non (.type "NoneType")
  | bl (b : Bool) : TyD K (.bl b) (.type "bool")
  | int (i : Int) : TyD K (.int i) (.type "int")
  | str (s : Str) : TyD K (.str s) (.type "str")
  | tup (l : List D) : TyD K (.tup l) (.type "tuple")
  | lst (l : List D) : TyD K (.lst l) (.type "list")
  | obj {C : Addr} (fs : List (Str × D)) : IsK K C → TyD K (.obj C fs) (.ref C)
theorem tyx_of {F : Option Addr} {H : Hp} {v : V} {x : D} {t : Value} (r : Rep K F H v x) (h : TyD K x t) : TyX K H v t := by
  cases h with
  | non => cases r; exact .base .non
  | bl b => cases r; exact .base (.bl b)
  | int i => cases r; exact .base (.int i)
  | str s => cases r; exact .base (.str s)
  | tup l =>
    cases r with | tup h _ =>
    rcases h with (h | ⟨o, h⟩) | ⟨o, its, n, h, hc, _⟩
    · exact .base (.tup h)
    · exact .fTuple h
    · exact .kTuple h hc
  | lst l =>
    cases r with | lst h _ =>
    exact .base (.lst h)
  | obj fs I =>
    cases r with | obj h _ =>
    exact .base (.ins h I.cl I.ca I.cn I.ct I.cm)
def clsD : V → Option Value
  | .ty n => some (.type n)
  | .ref C => some (.ref C)
  | _ => none
theorem clsD_ok {c : V} {u : Value} (h : clsD c = some u) : ClsV c u := by
  cases c <;> cases h
  · exact .own _
  · exact .ty _
/-- isinstance(x, c): data, or an exception that was kept -/
def dIsi (K : PySem.W.Frag) : RDC
  | [.exc C fs, .val c], n, Q => ∃ u b, clsD c = some u ∧ ExcK K C ∧ PySem.W.kitOne K (.ref C) u = some b ∧ Q (.bl b) n
  | [x, .val c], n, Q => ∃ t u b, TyD K x t ∧ clsD c = some u ∧ PySem.W.kitOne K t u = some b ∧ Q (.bl b) n
  | _, _, _ => False
theorem cv_isi : CvC K (fun xs H Q => rIsi K xs H Q ∨ ∃ (a D : Addr) (d : Option Addr) (fs : List (Str × V)) (c : V) (cv : Value) (b : Bool), xs = [.ref a, c] ∧ Kept H a D d fs ∧ ExcK K D ∧ ClsV c cv ∧ PySem.W.kitOne K (.ref D) cv = some b ∧ Q (.bl b) H) (dIsi K) := by
  intro F G H n vs ds Qd Q w r q k
  unfold dIsi at q
  split at q
  · cases r with | cons h r => cases r with | cons h' r =>
    cases r
    cases h' with | val _ =>
    cases h with | exc h1 r1 =>
    obtain ⟨u, b, e1, e2, e3, q⟩ := q
    exact .inr ⟨_, _, _, _, _, u, b, rfl, kept_same w.sub h1, e2, clsD_ok e1, e3, k.here q w (.bl _)⟩
  · cases r with | cons h r => cases r with | cons h' r =>
    cases r
    cases h' with | val _ =>
    obtain ⟨t, u, b, e1, e2, e3, q⟩ := q
    exact .inl ⟨_, _, t, u, b, rfl, clsD_ok e2, tyx_of (h.mono w.sub) e1, e3, k.here q w (.bl _)⟩
  · exact q.elim
theorem de_isi (hm : X.mg "isinstance" = none) (ha : DA X Z (e :: es) tl) (hg : Gl X "isinstance" := by rfl) (he : starEach (e :: es) X.env = (false, eval e X.env) :: starEach es X.env := by rfl)
    (hpl : (backTo pos (starEach es X.env)).any (·.1) = false := by rfl) : DE X Z (.Call (.Name "isinstance" p) (e :: es) [] pos) (dCb (dIsi X.K) tl) := de_callB (CallR.or call_isi call_isK) cv_isi hg hm (by decide +kernel) ha (by decide) (by decide) he hpl
def clsL : List D → Option (List Value)
  | [] => some []
  | .val c :: r => match clsD c, clsL r with
    | some u, some us => some (u :: us)
    | _, _ => none
  | _ :: _ => none
theorem clsL_ok {F : Option Addr} {G : Hp} : ∀ {vs : List V} {ds : List D} {us : List Value}, RepL K F G vs ds → clsL ds = some us → Paired ClsV vs us
  | _, _, _, .nil, e => by rw [clsL] at e; cases e; exact .nil
  | _, _, us, .cons (ds := ds) h r, e => by
    cases h with
    | val c =>
      rw [clsL] at e
      split at e
      · rename_i u us h1 h2
        cases e
        exact .cons (clsD_ok h1) (clsL_ok r h2)
      · cases e
    | _ => cases e
/-- isinstance(x, (c1, c2, ..)), the tuple written there -/
def dIsiT (K : PySem.W.Frag) (td : TD) (tl : TL) : TD := fun ρ n Q => td ρ n fun x n1 => tl ρ n1 fun cs n2 => cs.length ≤ sizeLine ∧ ∃ us, clsL cs = some us ∧ (match x with
  | .exc C fs => ∃ b, ExcK K C ∧ PySem.W.kitAny K (.ref C) us = some b ∧ Q (.bl b) n2
  | x => ∃ t b, TyD K x t ∧ PySem.W.kitAny K t us = some b ∧ Q (.bl b) n2)
theorem de_isiT {x1} {p2 : Pos} (hm : X.mg "isinstance" = none) (he : DE X Z e td) (hes : DA X Z es tl) (hg : Gl X "isinstance" := by rfl) (hst : starEach [e, .Tuple es x1 p2] X.env = (false, eval e X.env) :: starEach [.Tuple es x1 p2] X.env := by rfl)
    (hst2 : starEach [.Tuple es x1 p2] X.env = (false, eval (.Tuple es x1 p2) X.env) :: starEach [] X.env := by rfl)
    (hpl : (backTo pos (starEach [.Tuple es x1 p2] X.env)).any (·.1) = false := by rfl) : DE X Z (.Call (.Name "isinstance" p) [e, .Tuple es x1 p2] [] pos) (dIsiT X.K td tl) :=
  ⟨pe_imp (pe_callB (CallR.or call_isiT call_isKT) hg hm (by decide +kernel) (pa_cons he.pe (pa_cons (pe_tup hes.pa) pa_nil hst2) hst) (by decide) (by decide) hst hpl) fun σ H Q ⟨B, G, ρ, n, Qd, env, q, k⟩ => by
  refine ⟨B, G, ρ, n, _, env, q, fun dx n1 v H1 G1 q1 x1 w1 r1 => ?_⟩
  refine ⟨B, G1, ρ, n1, _, env.ext x1 w1, q1, fun cs n2 vs H2 G2 q2 x2 w2 r2 => ⟨by rw [r2.length]; exact q2.1, fun t ht => ?_⟩⟩
  obtain ⟨_, us, e1, q2⟩ := q2
  have pr := clsL_ok r2 e1
  have s3 : Same G2 (upd H2 t (.tup vs)) := w2.sub.trans (new_to ht)
  have w3 := w2.new (o := .tup vs) ht
  have k3 := (k.trans (x1.trans x2)).trans (Ext.new (o := .tup vs) ht)
  split at q2
  · obtain ⟨b, e2, e3, q2⟩ := q2
    cases r1 with | exc h1 _ =>
    exact .inr ⟨_, _, _, _, t, vs, us, b, rfl, kept_same (x2.g.trans s3) h1, e2, upd_same, pr, e3, k3.here q2 w3 (.bl _)⟩
  · obtain ⟨t', b, e2, e3, q2⟩ := q2
    exact .inl ⟨_, t, vs, t', us, b, rfl, upd_same, pr, tyx_of ((r1.mono x2.g).mono s3) e2, e3, k3.here q2 w3 (.bl _)⟩⟩
/-! e.f of an exception that was kept -/
def dKf (K : PySem.W.Frag) (f : Str) (td : TD) : TD := fun ρ n Q => td ρ n fun x n1 => match x with
  | .exc C fs => ExcK K C ∧ PySem.W.findIn K (.ref C) f = some none ∧ (match fs.lookup f with | some d => Q d n1 | none => False)
  | _ => False
theorem de_kf {f : Str} (he : DE X Z e td) (hb : attributeBase e f X.env (eval e X.env) = eval e X.env := by rfl) : DE X Z (.Attribute e f pos) (dKf X.K f td) := ⟨pe_imp (pe_kf he.pe hb) fun σ H Q ⟨B, G, ρ, n, Qd, env, q, k⟩ =>
  ⟨B, G, ρ, n, _, env, q, fun dx n1 v H1 G1 q1 x1 w1 r1 => by
    split at q1
    · obtain ⟨e1, e2, q1⟩ := q1
      split at q1
      · rename_i d h
        cases r1 with | exc h1 r =>
        obtain ⟨v, g1, g2⟩ := r.lookup h
        exact ⟨_, _, _, _, v, rfl, kept_same w1.sub h1, e1, e2, g1, (k.trans x1).here q1 w1 g2⟩
      · exact q1.elim
    · exact q1.elim⟩⟩
/-! raise -/
def dRaise0 (Z : ZX) (C : Addr) : TZ := fun _ ρ n => Z.Ed (.ref C) [] ρ n
theorem ds_raise0 {x : Str} {C : Addr} {p2 : Pos} (tk : Takes X Z.E) (R : Rz0 X.K X.mg x C) (hc : X.calm = true := by rfl) (hg : Gl X x := by rfl) (hdb : (x == ("__debug__" : Str)) = false := by decide) : DS X Z (.Raise (some (.Call (.Name x p) [] [] p2)) none pos) (dRaise0 Z C) :=
  ⟨ps_imp (ps_raise hc tk (pm_rz0 R hg hdb)) fun D σ H ⟨B, G, ρ, n, De, env, q, l⟩ => env.z _ _ none G H σ ρ n env.toEnvC q (.inl ⟨rfl, rfl⟩)⟩
def dRaise1 (Z : ZX) (C : Addr) (f : Str) (tl : TL) : TZ := fun _ ρ n => tl ρ n fun ds n1 => match ds with
  | [d] => Z.Ed (.ref C) [(f, d)] ρ n1
  | _ => False
theorem ds_raise {k : Nat} {x f : Str} {C : Addr} {p2 : Pos} (tk : Takes X Z.E) (hr : Room (k + 1) X.A) (R : Rz X.prog X.w X.K X.mg X.base k x C (spIni C f)) (ha : DA X Z (e :: es) tl) (hc : X.calm = true := by rfl) (hg : Gl X x := by rfl) (hdb : (x == ("__debug__" : Str)) = false := by decide)
    (he : starEach (e :: es) X.env = (false, eval e X.env) :: starEach es X.env := by rfl) (hpl : (backTo p2 (starEach es X.env)).any (·.1) = false := by rfl) : DS X Z (.Raise (some (.Call (.Name x p) (e :: es) [] p2)) none pos) (dRaise1 Z C f tl) :=
  ⟨ps_imp (ps_raise hc tk (pm_rz R hr hg ha.pa hdb he hpl)) fun D σ H ⟨B, G, ρ, n, De, env, q, l⟩ => by
    refine ⟨B, G, ρ, n, _, env, q, fun ds n1 vs H1 G1 q1 x1 w1 r1 => ?_⟩
    split at q1
    · cases r1 with | @cons v0 d0 _ _ h r =>
      cases r
      refine mk_ini (Q := fun cls d H' => Z.E cls d σ H') fun d H2 hd k1 k2 hx => ?_
      have e0 : H2 = upd H1 d (.xd [(f, v0)]) := by
        funext b
        by_cases c : b = d
        · subst c; rw [upd_same]; exact hx
        · rw [upd_ne c]; exact k2 b c
      subst e0
      refine env.z _ _ (some d) (upd G1 d (.xd [(f, v0)])) _ σ ρ n1 (env.ext (x1.trans (Ext.share hd (w1.free hd))) (w1.share hd)).toEnvC q1 (.inr ⟨d, _, rfl, upd_same, .cons (h.mono (new_to (w1.free hd))) .nil⟩)
    · exact q1.elim⟩
/-! try: .. except x as n: y = n -/
def edTry (K : PySem.W.Frag) (Z : ZX) (c : Value) (i j : Nat) (De : DEnds) : Value → List (Str × D) → Ro → Nat → Prop := fun cls fs ρ n =>
  ∃ b, PySem.W.exmOne K cls c = some b ∧ (b = true → ∃ D, cls = .ref D ∧ i < ρ.length ∧ De.nx ((ρ.set j (some (.d (.exc D fs)))).set i none) n) ∧ (b = false → Z.Ed cls fs ρ n)
theorem ds_try {x nn y : Str} {c : Value} {i j : Nat} {body : List Stmt} {np yp np2 spos pos' : Pos} {tb : (Value → List (Str × D) → Ro → Nat → Prop) → TZ} (hs : X.stack = X.env :: X.outer) (hf : X.env.frame = some X.env.locals) (hex : X.ex = []) (hN : X.N.Nodup) (hi : X.N[i]? = some nn) (hj : X.N[j]? = some y) (hij : i ≠ j)
    (hln : X.env.kindOf nn = some .local) (hly : Loc X.env.scope y) (hc : Names X x c) (tk : Takes X Z.E)
    (hb : ∀ (W : WX) (Ed : Value → List (Str × D) → Ro → Nat → Prop) (pn : List (Addr × Obj)) (xe : Value → Shared → Prop), Takes (X.tr pn xe) W → PassesOwn (model X.prog X.w) X.A X.env xe → DSs (X.tr pn xe) ⟨W, Ed⟩ body (tb Ed))
    (hv : Vis X.env.scope nn := by first | exact Or.inl rfl | exact Or.inr (Or.inl rfl) | exact Or.inr (Or.inr rfl)) (hd : (nn == ("__debug__" : Str)) = false := by decide) (hcd : (nn == ("__classdict__" : Str)) = false := by decide)
    (hsw : swapsWith (.Name nn np2) (some (.Name y yp)) spos.line X.env = pure false := by rfl) (hfy : X.fn y = true ∨ X.env.scope.names.lookup y = some .local := by first | exact .inl rfl | exact .inr rfl | assumption) :
    DS X Z (.Try body [.ExceptHandler (some (.Name x np)) (some nn) [.Assign [.Name y yp] (.Name nn np2) spos] pos'] [] [] pos) (fun De ρ n => tb (edTry X.K Z c i j De) De ρ n) := by
  have su : ∀ (a : Addr) (oe : Obj) (cls : Value) (d : Option Addr) (pn : List (Addr × Obj)), Zc cls d oe → (∃ vs, oe.data = .fields vs) → PSs (X.suite a ((a, oe) :: pn)) [.Assign [.Name y yp] (.Name nn np2) spos] (tAsg (tVar i) (gName j)) :=
    fun a oe cls d pn _ _ => pss_one (ps_set (X := X.suite a ((a, oe) :: pn)) hN hj hly (pe_var hi hv hd hcd) hsw hfy)
  refine ⟨ps_imp (ps_try_keep (tb := fun W D σ H => ∃ Ed, dls X.K ⟨W, Ed⟩ (tb Ed) D σ H) hs hf hex hN hi hln hc tk (fun W pn xe tk' po => ⟨fun pins s σ H D I ⟨Ed, q⟩ => (hb W Ed pn xe tk' po).pss.run pins s σ H D I q⟩) su) fun D σ H ⟨B, G, ρ, n, De, env, q, l⟩ => ?_⟩
  refine ⟨edTry X.K Z c i j De, B, G, ρ, n, De, ⟨env.toEnvC, fun cls fs dx G' H' σ' ρ' n' e h xr => ?_⟩, q, ⟨fun G H σ ρ n e h => l.nx G H σ ρ n ⟨e.toEnvC, env.z⟩ h, fun G H σ ρ n e h => l.bk G H σ ρ n ⟨e.toEnvC, env.z⟩ h, fun G H σ ρ n e h => l.ct G H σ ρ n ⟨e.toEnvC, env.z⟩ h, l.rt, l.ro⟩⟩
  obtain ⟨b, h1, h2, h3⟩ := h
  refine ⟨b, h1, fun hbt a ha => ?_, fun hbf => env.z cls fs dx G' H' σ' ρ' n' e (h3 hbf) xr⟩
  obtain ⟨C, rfl, hil, q2⟩ := h2 hbt
  have hilt : i < σ'.length := by rw [e.len]; exact hil
  refine ⟨.ref a, by rw [List.getElem?_set_self hilt], ?_⟩
  have hG : G' a = none := e.w.free ha
  have sh : Same G' (upd G' a (ExK a (.ref C) dx)) := new_to hG
  have e2 := (e.ext (Ext.share (o := ExK a (.ref C) dx) ha hG) (e.w.share ha))
  have rep : Rep X.K B.F (upd G' a (ExK a (.ref C) dx)) (.ref a) (.exc C fs) := by
    rcases xr with ⟨rfl, rfl⟩ | ⟨dd, fvs, rfl, h4, h5⟩
    · exact .exc (fvs := []) ⟨upd_same, .inl ⟨rfl, rfl⟩⟩ .nil
    · exact .exc ⟨upd_same, .inr ⟨dd, rfl, sh _ _ h4⟩⟩ (h5.mono sh)
  have e3 := (e2.setD (i := j) rep).unset i
  have es : ((σ'.set i (some (V.ref a))).set j (some (V.ref a))).set i none = (σ'.set j (some (V.ref a))).set i none := by
    rw [List.set_comm _ _ hij, List.set_set]
  show D.nx (((σ'.set i (some (V.ref a))).set j (some (V.ref a))).set i none) _
  rw [es]
  exact l.nx _ _ _ _ n' ⟨e3, env.z⟩ q2
end
end Dw

/-! ### own classes by data -/
namespace Dw
open PySem PySem.Spec PyProof.Rows L2 Fw
def putD (f : Str) (v : D) : List (Str × D) → List (Str × D)
  | [] => [(f, v)]
  | (g, w) :: r => if g = f then (g, v) :: r else (g, w) :: putD f v r
theorem RepF.put {K : PySem.W.Frag} {F : Option Addr} {G : Hp} {f : Str} {v : V} {d : D} (h : Rep K F G v d) : ∀ {vs : List (Str × V)} {ds : List (Str × D)}, RepF K F G vs ds → RepF K F G (putF f v vs) (putD f d ds)
  | _, _, .nil => .cons h .nil
  | _, _, .cons (f := g) h' r => by
    show RepF K F G (if g = f then (g, v) :: _ else (g, _) :: putF f v _) (if g = f then (g, d) :: _ else (g, _) :: putD f d _)
    split
    · exact .cons h r
    · exact .cons h' (RepF.put h r)
theorem RepF.length {K : PySem.W.Frag} {F : Option Addr} {G : Hp} : ∀ {vs : List (Str × V)} {ds : List (Str × D)}, RepF K F G vs ds → vs.length = ds.length
  | _, _, .nil => rfl
  | _, _, .cons _ r => by rw [List.length_cons, List.length_cons, RepF.length r]
abbrev QF := List (Str × D) → Nat → Prop
abbrev SpI := List D → Nat → QF → XD → Prop
/-- __init__ by data -/
def spMk (K : PySem.W.Frag) (C : Addr) (ini : SpI) : Sp := fun vs H Q E => ∃ F G n ds Qd Ed a dx ws, vs = .ref a :: ws ∧ H a = some (.ins C dx []) ∧ G a = none ∧ Wd F G H n ∧ RepL K F G ws ds ∧ ini ds n Qd Ed ∧
  (∀ fs n' H' G' fvs, Qd fs n' → Ext F G H G' H' → Wd F G' H' n' → RepF K F G' fvs fs → Q .non (upd H' a (.ins C dx fvs))) ∧ KX K F G H Ed E
abbrev TW := QF → Ro → Nat → Prop
abbrev TN := QF → List (Str × D) → Ro → Nat → Prop
def zNo : ZX := ⟨fun _ _ _ _ => False, fun _ _ _ _ => False⟩
theorem zNo_ok {K : PySem.W.Frag} {B : Bx} : Zk K B zNo := fun _ _ _ _ _ _ _ _ _ h _ => h.elim
/-- ahead of the first store -/
def dlz (K : PySem.W.Frag) (Z : ZX) (C : Addr) (tw : TW) : TS := fun D σ H => ∃ B G ρ n a dx Qd, EnvD K Z B G H σ ρ n ∧ B.F ≠ some a ∧ B.H a = some (.ins C dx []) ∧ B.G a = none ∧ ρ[0]? = some (some (Sl.d (.val (.ref a)))) ∧ tw Qd ρ n ∧
  ∀ fs n' σ' H2 G2 fvs, Qd fs n' → Ext B.F B.G B.H G2 H2 → Wd B.F G2 H2 n' → RepF K B.F G2 fvs fs → D.nx σ' (upd H2 a (.ins C dx fvs))
/-- behind it: H' is the heap as it were without the stores -/
def dln (K : PySem.W.Frag) (C : Addr) (tn : TN) : TS := fun D σ H => ∃ F G ρ n fs fvs a dx Qd H', H = upd H' a (.ins C dx fvs) ∧ H' a = some (.ins C dx []) ∧ EnvC K ⟨F, G, H⟩ G H σ ρ n ∧ G a = none ∧ ρ[0]? = some (some (Sl.d (.val (.ref a)))) ∧ RepF K F G fvs fs ∧ tn Qd fs ρ n ∧
  ∀ fs n' σ' H2 G2 fvs, Qd fs n' → Ext F G H' G2 H2 → Wd F G2 H2 n' → RepF K F G2 fvs fs → D.nx σ' (upd H2 a (.ins C dx fvs))
structure DZs (X : Cx) (Z : ZX) (C : Addr) (sts : List Stmt) (tw : TW) : Prop where
  pss : PSs X sts (dlz X.K Z C tw)
structure DNs (X : Cx) (C : Addr) (sts : List Stmt) (tn : TN) : Prop where
  pss : PSs X sts (dln X.K C tn)
section
variable {X : Cx} {Z : ZX} {C : Addr} {st : Stmt} {rest sts : List Stmt} {tz : TZ} {tw : TW} {tn : TN} {e : Expr} {td : TD} {pos : Pos}
def dzSeq (tz : TZ) (tw : TW) : TW := fun Qd ρ n => tz { nx := fun ρ' n' => ρ'[0]? = ρ[0]? ∧ tw Qd ρ' n', rt := fun _ _ => False } ρ n
theorem dz_cons (h : DS X Z st tz) (hr : DZs X Z C rest tw) : DZs X Z C (st :: rest) (dzSeq tz tw) := ⟨pss_imp (pss_cons h.ps hr.pss) fun D σ H ⟨B, G, ρ, n, a, dx, Qd, env, hF, h1, h2, h3, q, k⟩ =>
  ⟨B, G, ρ, n, _, env, q, ⟨fun G' H' σ' ρ' n' env' h => ⟨B, G', ρ', n', a, dx, Qd, env', hF, h1, h2, h.1.trans h3, h.2, k⟩, fun _ _ _ _ _ _ h => h.elim, fun _ _ _ _ _ _ h => h.elim, fun _ _ _ _ _ h => h.elim, fun _ _ _ _ _ _ h => h.elim⟩⟩⟩
def noOwn (ρ : Ro) : Bool := ρ.all fun o => match o with
  | some (.own _) => false
  | _ => true
def dzGo (tn : TN) : TW := fun Qd ρ n => noOwn ρ = true ∧ tn Qd [] ρ n
theorem dz_go (h : DNs X C sts tn) : DZs X Z C sts (dzGo tn) := ⟨pss_imp h.pss fun D σ H ⟨B, G, ρ, n, a, dx, Qd, env, hF, h1, h2, h3, q, k⟩ => by
  have ha : H a = some (.ins C dx []) := env.x.to _ _ h1 hF
  have hG : G a = none := env.x.gx a h2 (by rw [h1]; exact fun z => nomatch z)
  have no : ∀ (i : Nat) (xs : List Dw.D), ρ[i]? ≠ some (some (Sl.own xs)) := fun i xs hi => by
    have := List.all_eq_true.mp q.1 _ (List.mem_of_getElem? hi)
    cases this
  have eH : upd H a (.ins C dx []) = H := by
    funext b
    by_cases c : b = a
    · subst c; rw [upd_same, ha]
    · rw [upd_ne c]
  refine ⟨B.F, G, ρ, n, [], [], a, dx, Qd, H, eH.symm, ha, ⟨env.w, Ext.refl, env.len, env.d, fun i xs hi => absurd hi (no i xs), fun i j _ xs ys _ hi => absurd hi (no i xs)⟩, hG, h3, .nil, q.2, fun fs n' σ' H2 G2 fvs h x w r => k fs n' σ' H2 G2 fvs h (env.x.trans x) w r⟩⟩
def dnNil : TN := fun Qd fs _ n => Qd fs n
theorem dln_end {D : Ends} {σ : L2.St} {H : Hp} (h : dln X.K C dnNil D σ H) : D.nx σ H := by
  obtain ⟨F, G, ρ, n, fs, fvs, a, dx, Qd, H', rfl, h1, env, h2, h3, r, q, k⟩ := h
  have w : Wd F G H' n := by
    refine ⟨fun b u hb => ?_, fun p f => ?_⟩
    · have := env.w.sub b u hb
      rw [upd_ne (ne_of_none hb h2)] at this
      exact this
    · obtain ⟨⟨c, ns, a', l, g1, g2, g3⟩, g4⟩ := env.w.fd p f
      have e1 : p ≠ a := fun z => by subst z; rw [upd_same] at g1; cases g1
      have e2 : c ≠ a := fun z => by subst z; rw [upd_same] at g2; cases g2
      rw [upd_ne e1] at g1
      rw [upd_ne e2] at g2
      exact ⟨⟨c, ns, a', l, g1, g2, g3⟩, g4⟩
  exact k fs n σ H' G fvs q Ext.refl w r
theorem dn_nil : DNs X C [] dnNil := ⟨pss_imp pss_nil fun D σ H h => dln_end h⟩
/-- self.f = e -/
def dnFld (f : Str) (td : TD) (tn : TN) : TN := fun Qd fs ρ n => fs.length < 900 ∧ td ρ n fun d n1 => tn Qd (putD f d fs) ρ n1
theorem dn_fld {f x : Str} {p p' : Pos} (c : Cls X.K C) (no : NoAttr X.K C f) (he : DE X zNo e td) (hr : DNs X C rest tn) (hN : X.N[0]? = some x := by rfl) (hv : Vis X.env.scope x := by first | exact Or.inl rfl | exact Or.inr (Or.inl rfl) | exact Or.inr (Or.inr rfl)) (hd : (x == ("__debug__" : Str)) = false := by decide)
    (hcd : (x == ("__classdict__" : Str)) = false := by decide) (hs : swapsWith e (some (.Attribute (.Name x p) f p')) pos.line X.env = pure false := by rfl) : DNs X C (.Assign [.Attribute (.Name x p) f p'] e pos :: rest) (dnFld f td tn) :=
  ⟨pss_imp (pss_cons (ps_fld (pv 0 hN hv hd hcd) he.pe hs) hr.pss) fun D σ H ⟨F, G, ρ, n, fs, fvs, a, dx, Qd, H', eH, h1, env, h2, h3, r, q, k⟩ => by
  subst eH
  refine ⟨⟨F, G, _⟩, G, ρ, n, _, ⟨env, zNo_ok⟩, q.2, fun d n1 v H1 G1 q1 x1 w1 r1 => ?_⟩
  obtain ⟨v0, g1, g2⟩ := env.d 0 _ h3
  cases g2
  have hF : F ≠ some a := fun f => by
    obtain ⟨⟨c, ns, a', l, z, _⟩, _⟩ := env.w.fd a f
    rw [upd_same] at z; cases z
  have ha1 : H1 a = some (.ins C dx fvs) := x1.to _ _ upd_same hF
  have hG1 : G1 a = none := x1.gx a h2 (by rw [upd_same]; exact fun z => nomatch z)
  refine ⟨_, g1, a, C, dx, fvs, rfl, ha1, c, no, by rw [r.length]; have := q.1; omega, ?_⟩
  have far : ∀ {b : Addr} {o o' : HO}, b ≠ a → upd H1 a o b = some o' → H1 b = some o' := fun hn h => by rw [upd_ne hn] at h; exact h
  have wv : ∀ o : HO, (∃ C dx fs, o = .ins C dx fs) → Wd F G1 (upd H1 a o) n1 := fun o ho => by
    refine ⟨fun b u hb => ?_, fun p f => ?_⟩
    · rw [upd_ne (ne_of_none hb hG1)]; exact w1.sub b u hb
    · obtain ⟨⟨c', ns, a', l, k1, k2, k3⟩, k4⟩ := w1.fd p f
      refine ⟨⟨c', ns, a', l, ?_, ?_, k3⟩, k4⟩
      · rw [upd_ne (ne_of k1 ha1 (by intro z; cases z))]; exact k1
      · rw [upd_ne (ne_of k2 ha1 (by intro z; cases z))]; exact k2
  have x2 : Ext F G H' G1 (upd H1 a (.ins C dx [])) := by
    have back : ∀ b, b ≠ a → upd H' a (.ins C dx fvs) b = H' b := fun b hb => upd_ne hb
    refine ⟨fun b o hb f => ?_, fun p c' a' l f hb => ?_, fun b hb => ?_, x1.g, fun b hb hb' => ?_⟩
    · by_cases cc : b = a
      · subst cc; rw [upd_same, ← h1]; exact hb
      · rw [upd_ne cc]; exact x1.to b o (by rw [back b cc]; exact hb) f
    · have cc : p ≠ a := fun z => by subst z; rw [h1] at hb; cases hb
      obtain ⟨a2, l2, z⟩ := x1.fd p c' a' l f (by rw [back p cc]; exact hb)
      exact ⟨a2, l2, by rw [upd_ne cc]; exact z⟩
    · by_cases cc : b = a
      · subst cc; rw [upd_same]; exact fun z => nomatch z
      · rw [upd_ne cc]; exact x1.kp b (by rw [back b cc]; exact hb)
    · by_cases cc : b = a
      · subst cc; exact hG1
      · exact x1.gx b hb (by rw [back b cc]; exact hb')
  have e3 : upd H1 a (.ins C dx (putF f v fvs)) = upd (upd H1 a (.ins C dx [])) a (.ins C dx (putF f v fvs)) := by
    funext b
    by_cases cc : b = a
    · subst cc; rw [upd_same, upd_same]
    · rw [upd_ne cc, upd_ne cc, upd_ne cc]
  have noo : ∀ (i : Nat) (xs : List Dw.D), ρ[i]? ≠ some (some (Sl.own xs)) := fun i xs hi => by
    obtain ⟨q', vs, _, z1, _, z2, _⟩ := env.own i xs hi
    have z2' : upd H' a (.ins C dx fvs) q' = none := z2
    rw [z1] at z2'; cases z2'
  refine ⟨F, G1, ρ, n1, _, putF f v fvs, a, dx, Qd, upd H1 a (.ins C dx []), e3, upd_same, ⟨wv _ ⟨_, _, _, rfl⟩, Ext.refl, env.len, fun i y hi => ?_, fun i xs hi => absurd hi (noo i xs), fun i j _ xs ys _ hi => absurd hi (noo i xs)⟩, hG1, h3, (r.mono x1.g).put r1, q1, fun fs n' σ' H2 G2 fvs h x w r => k fs n' σ' H2 G2 fvs h (x2.trans x) w r⟩
  obtain ⟨u, z1, z2⟩ := env.d i y hi
  exact ⟨u, z1, z2.mono x1.g⟩⟩
end
section
variable {P : Program} {w : World} {K : PySem.W.Frag} {mg : Str → Option Value} {base : Heap} {CX : CXT} {k : Nat} {f C : Addr} {fd : FuncData} {ps N : List Str} {ini : SpI}
  {x qual : Str} {params : Arguments} {body : List Stmt} {scope : Scope} {dvs : List V} {kws : List (Str × V)}
/-- __init__ -/
theorem fnI (F : FunD K x qual params body scope dvs kws f fd) (S : FnScope N ps scope) (len : ∀ ds n Qd Ed, ini ds n Qd Ed → ds.length + 1 = ps.length)
    (hb : ∀ (cdv : Value) (A : Around) (outer : List PySem.Env) (s : Shared) (H : Hp) (E : XK) (Ed : XD), Room k (A.deeper (envOfC qual scope s.heap.objs.size f cdv)) →
      ∃ tw, DZs (cxOf CX P w K mg base N qual scope f cdv A outer s H E) (zOf E Ed) C body tw ∧ ∀ a ds n Qd, ini ds n Qd Ed → tw Qd (startD N (.val (.ref a) :: ds)) n) :
    FnOk P w K mg base CX (k + 1) f fd ps (spMk K C ini) := by
  refine (fnX (g := false) F S (fun vs H Q E h => ?_) fun cdv A outer s H vs Q E hg hr h => ?_).ok
  · obtain ⟨F, G, n, ds, Qd, Ed, a, dx, ws, rfl, _, _, w, r, q, _⟩ := h
    rw [List.length_cons, r.length]; exact len ds n Qd Ed q
  · obtain ⟨F', G, n, ds, Qd, Ed, a, dx, ws, rfl, h1, h2, w, r, q, kd, kx⟩ := h
    obtain ⟨tw, h3, h4⟩ := hb cdv A outer s H E Ed hr
    have hF : F' ≠ some a := fun f => by
      obtain ⟨⟨c, ns, a', l, z, _⟩, _⟩ := w.fd a f
      rw [h1] at z; cases z
    have env := start_env (E := E) (Ed := Ed) N w (RepL.cons (.val (.ref a)) r) kx
    exact ⟨_, h3.pss, ⟨F', G, H⟩, G, _, n, a, dx, Qd, env, hF, h1, h2, rfl, h4 a ds n Qd q, fun fs n' σ' H2 G2 fvs h x w r => kd fs n' H2 G2 fvs h x w r⟩
end
/-- the class that the module's name x holds, called with n values and the keywords ks -/
structure Mb (P : Program) (w : World) (K : PySem.W.Frag) (mg : Str → Option Value) (base : Heap) (CX : CXT) (k : Nat) (x : Str) (C : Addr) (n : Nat) (ks : List Str) (gD : List D → List D → List D) (ini : SpI) : Prop where
  ex : ∃ (f : Addr) (fd : FuncData) (ps : List Str) (g' : List Value → List Value → List Value) (gV : List V → List V → List V), FnOk P w K mg base CX k f fd ps (spMk K C ini) ∧ mg x = some (.ref C) ∧ Mk K C f ∧ KBn K fd ps (n + 1) ks g' gV ∧
    ∀ F G a vs ds zs es, vs.length = n → zs.length = ks.length → RepL K F G vs ds → RepL K F G zs es → ∃ ws, gV (V.ref a :: vs) zs = V.ref a :: ws ∧ RepL K F G ws (gD ds es)
section
variable {X : Cx} {Z : ZX} {x : Str} {n k : Nat} {C : Addr} {ks : List Str} {gD : List D → List D → List D} {ini : SpI}
def sdMk (C : Addr) (gD : List D → List D → List D) (ini : SpI) : List D → List D → Nat → Ro → QD → Prop := fun ds es n _ Q => ini (gD ds es) n (fun fs n' => Q (.obj C fs) n') fun _ _ _ => False
def sdMkX (Ed : Value → List (Str × D) → Ro → Nat → Prop) (C : Addr) (gD : List D → List D → List D) (ini : SpI) : List D → List D → Nat → Ro → QD → Prop := fun ds es n ρ Q => ini (gD ds es) n (fun fs n' => Q (.obj C fs) n') fun c fs n' => Ed c fs ρ n'
theorem mk_run {CX : CXT} {f : Addr} {fd : FuncData} {ps : List Str} {g' : List Value → List Value → List Value} {gV : List V → List V → List V} (F : FnOk X.prog X.w X.K X.mg X.base CX k f fd ps (spMk X.K C ini)) (M : Mk X.K C f) (hb : KBn X.K fd ps (n + 1) ks g' gV)
    (rel : ∀ F G a vs ds zs es, vs.length = n → zs.length = ks.length → RepL X.K F G vs ds → RepL X.K F G zs es → ∃ ws, gV (V.ref a :: vs) zs = V.ref a :: ws ∧ RepL X.K F G ws (gD ds es))
    {pins : List (Addr × Obj)} {s : Shared} {σ : L2.St} {H : Hp} {us ws : List Value} {vs zs : List V} {Q : VK} {B : Bx} {G : Hp} {ρ : Ro} {m : Nat} {ds es : List D} {Qd : QD} {E : XK} {Ed : XD} (hr : Room (k + 1) X.A) (I : Inv X pins σ H s) (r : Vals vs us) (rz : Vals zs ws) (l1 : vs.length = n) (l2 : zs.length = ks.length)
    (env : EnvD X.K Z B G H σ ρ m) (rd : RepL X.K B.F G vs ds) (re : RepL X.K B.F G zs es) (q : ini (gD ds es) m (fun fs n' => Qd (.obj C fs) n') Ed) (kd : KD X.K B.F G H Qd Q) (kx : ∀ (a dx : Addr), H a = none → H dx = none → dx ≠ a → KX X.K B.F G (upd (upd H dx (.own a)) a (.ins C dx [])) Ed E)
    (hx : PassesAt CX X σ E) : wpAny (model X.prog X.w) X.A (call (.ref C) us (ks.zip ws)) (EP X pins σ Q) X.xe s := by
  have f1 : H (s.heap.objs.size + 1) = none := I.hok.fresh (Nat.le_succ _)
  have f2 : H s.heap.objs.size = none := I.hok.fresh (Nat.le_refl _)
  have ne : s.heap.objs.size ≠ s.heap.objs.size + 1 := Nat.ne_of_lt (Nat.lt_succ_self _)
  have I2 := Inv.made (C := C) I
  generalize hA : s.heap.objs.size + 1 = a at *
  generalize hD : s.heap.objs.size = dx at *
  have f3 : upd H dx (.own a) a = none := by rw [upd_ne (Ne.symm ne)]; exact f1
  have x1 : Ext B.F G H G (upd (upd H dx (.own a)) a (.ins C dx [])) := (Ext.new f2).trans (Ext.new f3)
  have w1 : Wd B.F G (upd (upd H dx (.own a)) a (.ins C dx [])) m := (env.w.new f2).new f3
  obtain ⟨ws', e1, r1⟩ := rel B.F G a vs ds zs es l1 l2 rd re
  have r0 : Vals (V.ref a :: vs) (Value.ref a :: us) := .cons rfl r
  have r2 := hb.rel r0 rz
  have n1 : (Value.ref a :: us).length = n + 1 := by rw [List.length_cons, ← r.length, l1]
  have hG : G a = none := env.w.free f1
  have sp : spMk X.K C ini (gV (V.ref a :: vs) zs) (upd (upd H dx (.own a)) a (.ins C dx [])) (fun v H2 => v = .non ∧ Q (.ref a) H2) E := by
    refine ⟨B.F, G, m, gD ds es, _, Ed, a, dx, ws', e1, upd_same, hG, w1, r1, q, fun fs n' H' G' fvs h x w r => ⟨rfl, ?_⟩, kx a dx f1 f2 ne⟩
    have hF : B.F ≠ some a := fun f => by
      obtain ⟨⟨c, ns, a', l, z, _⟩, _⟩ := env.w.fd a f
      rw [f1] at z; cases z
    have ha' : H' a = some (.ins C dx []) := x.to _ _ upd_same hF
    have hG' : G' a = none := x.gx a hG (by rw [upd_same]; exact fun z => nomatch z)
    have far : ∀ b, b ≠ a → upd H' a (.ins C dx fvs) b = H' b := fun b hb => upd_ne hb
    refine kd (.obj C fs) n' (.ref a) _ (upd G' a (.ins C dx fvs)) h ⟨fun b o hb f => ?_, fun p c a' l f hb => ?_, fun b hb => ?_, x.g.trans (new_to hG'), fun b hb hb' => ?_⟩ ⟨fun b o hb => ?_, fun p f => ?_⟩ (.obj upd_same (r.mono (new_to hG')))
    · rw [far b (ne_of_none hb f1)]
      exact (x1.trans x).to b o hb f
    · obtain ⟨a2, l2, z⟩ := (x1.trans x).fd p c a' l f hb
      exact ⟨a2, l2, by rw [far p (ne_of_none hb f1)]; exact z⟩
    · have hb2 : b ≠ a := fun z => by subst z; exact hb f1
      rw [far b hb2]
      exact (x1.trans x).kp b hb
    · have hb2 : b ≠ a := fun z => by subst z; exact hb' f1
      rw [upd_ne hb2]
      exact (x1.trans x).gx b hb hb'
    · by_cases cc : b = a
      · subst cc; rw [upd_same] at hb ⊢; exact hb
      · rw [upd_ne cc] at hb; rw [far b cc]; exact w.sub b o hb
    · obtain ⟨⟨c, ns, a', l, k1, k2, k3⟩, k4⟩ := w.fd p f
      have e1 : p ≠ a := ne_of k1 ha' (by intro z; cases z)
      have e2 : c ≠ a := ne_of k2 ha' (by intro z; cases z)
      exact ⟨⟨c, ns, a', l, by rw [far p e1]; exact k1, by rw [far c e2]; exact k2, k3⟩, by rw [upd_ne e1]; exact k4⟩
  subst hA
  subst hD
  refine wpAny_call (make_map (f := f) I.kIn M.makes M.init (beq_iff_eq.mp M.fn) (codeAny_mono (F.run _ X.stack _ _ ⟨Value.ref (s.heap.objs.size + 1) :: us, ks.zip ws⟩ (g' (Value.ref (s.heap.objs.size + 1) :: us) ws) _ _ E (hr.make C us (ks.zip ws))
    (I2.env0.make C us (ks.zip ws)) (hb.to _ (Value.ref (s.heap.objs.size + 1) :: us) ws I2.kIn n1 (rz.length.symm.trans l2)) r2 sp) fun r s' hq' => ?_))
  cases r with
  | error e => exact hx pins _ _ e s' I2 hq'
  | ok fl =>
    cases fl with
    | ret u =>
      obtain ⟨v, H', I3, rv, ev, q3⟩ := I2.after hq'
      subst ev
      exact ⟨rv, ⟨V.ref (s.heap.objs.size + 1), H', I3, rfl, q3⟩⟩
    | next => exact False.elim hq'
    | brk => exact False.elim hq'
    | cont => exact False.elim hq'
theorem Mb.cal (D : Mb X.prog X.w X.K X.mg X.base CX0 k x C n ks gD ini) (hr : Room (k + 1) X.A) : Cal X Z x n ks (sdMk C gD ini) := by
  obtain ⟨f, fd, ps, g', gV, F, hm, M, hb, rel⟩ := D.ex
  exact ⟨C, hm, M.kp, fun pins s σ H us ws vs zs Q B G ρ m ds es Qd I r rz l1 l2 env rd re q kd => mk_run (E := E0) F M hb rel hr I r rz l1 l2 env rd re q kd (fun _ _ _ _ _ _ _ _ _ _ _ h => h.elim) (fun _ _ _ _ _ _ h => h.elim)⟩
theorem Mb.calX (D : Mb X.prog X.w X.K X.mg X.base (L2.CX X.prog X.w) k x C n ks gD ini) (tk : Takes X Z.E) (hr : Room (k + 1) X.A) : Cal X Z x n ks (sdMkX Z.Ed C gD ini) := by
  obtain ⟨f, fd, ps, g', gV, F, hm, M, hb, rel⟩ := D.ex
  refine ⟨C, hm, M.kp, fun pins s σ H us ws vs zs Q B G ρ m ds es Qd I r rz l1 l2 env rd re q kd => mk_run (E := WE Z.E σ) F M hb rel hr I r rz l1 l2 env rd re q kd (fun a dx ha hd ne c fs n' dx' H' G' h x w xr => ?_) (passAt tk σ)⟩
  refine env.z c fs dx' G' H' σ ρ n' (env.ext (Ext.trans ?_ x) w).toEnvC h xr
  exact (Ext.new hd).trans (Ext.new (by rw [upd_ne (Ne.symm ne)]; exact ha))
theorem Mb.calT {W : WX} {Ed : Value → List (Str × D) → Ro → Nat → Prop} (D : Mb X.prog X.w X.K X.mg X.base (L2.CX X.prog X.w) k x C n ks gD ini) (tk : Takes X W) (hr : Room (k + 1) X.A) : Cal X ⟨W, Ed⟩ x n ks (sdMkX Ed C gD ini) := Mb.calX (Z := ⟨W, Ed⟩) D tk hr
end
end Dw

namespace Dw
open PySem PySem.Spec PyProof.Rows L2 Fw
/-- the method m of the class at C -/
structure Mt (P : Program) (w : World) (K : PySem.W.Frag) (mg : Str → Option Value) (base : Heap) (k : Nat) (m : Str) (C : Addr) (spd : SpD) : Prop where
  ex : ∃ (f : Addr) (fd : FuncData) (ps : List Str), FnOk P w K mg base CX0 k f fd ps (liftSp K spd) ∧ Cls K C ∧ Meth K C m f ∧ Binds K fd ps []
def dMeth (C : Addr) (m : Str) (spd : SpD) (td : TD) (tl : TL) : TD := fun ρ n Q => td ρ n fun x n1 => match x with
  | .obj C' fs => C' = C ∧ fs.lookup m = none ∧ tl ρ n1 fun ds n2 => spd (x :: ds) n2 Q fun _ _ _ => False
  | _ => False
section
variable {X : Cx} {Z : ZX} {o e a b : Expr} {es : List Expr} {td ta tb : TD} {tl : TL} {k : Nat} {m : Str} {C : Addr} {spd : SpD} {apos pos : Pos} {K : PySem.W.Frag}
theorem de_meth {pl : Sem Bool} (M : Mt X.prog X.w X.K X.mg X.base k m C spd) (hr : Room k X.A) (ho : DE X Z o td) (ha : DA X Z (e :: es) tl) (hst : starEach (e :: es) X.env = (false, eval e X.env) :: starEach es X.env := by rfl) (hpl : (backTo pos (starEach es X.env)).any (·.1) = false := by rfl)
    (ht : eval (.Call (.Attribute o m apos) (e :: es) [] pos) X.env = (do
      let ov ← eval o X.env
      standAt apos.atName
      let (f, first) ← holding [ov] (getMethod ov m pl)
      callWith pos f first (backTo pos (starEach (e :: es) X.env)) (backToKw pos (keywordEach [] X.env))) := by rfl) :
    DE X Z (.Call (.Attribute o m apos) (e :: es) [] pos) (dMeth C m spd td tl) := by
  obtain ⟨f, fd, ps, F, c, hm, hb⟩ := M.ex
  refine ⟨pe_imp (pe_meth (E := E0) ho.pe c hm F hr hb .nil pass0 ha.pa hst hpl ht) fun σ H Q ⟨B, G, ρ, n, Qd, env, q, kk⟩ => ⟨B, G, ρ, n, _, env, q, fun d n1 v H1 G1 q1 x1 w1 r1 => ?_⟩⟩
  split at q1
  · obtain ⟨rfl, q2, q3⟩ := q1
    have r1' := r1
    cases r1 with | @obj a C dx fvs fs h1 r =>
    refine ⟨a, dx, fvs, rfl, w1.sub _ _ h1, r.none q2, ?_⟩
    refine ⟨B, G1, ρ, n1, _, env.ext x1 w1, q3, fun ds n2 vs H2 G2 q4 x2 w2 r2 => ?_⟩
    show liftSp X.K spd (V.ref a :: (vs ++ [])) H2 Q E0
    rw [List.append_nil]
    exact ⟨B.F, G2, n2, _, Qd, _, w2, .cons (r1'.mono x2.g) r2, q4, kk.trans (x1.trans x2), fun _ _ _ _ _ _ h => h.elim⟩
  · exact q1.elim
theorem de_meth0 {pl : Sem Bool} (M : Mt X.prog X.w X.K X.mg X.base k m C spd) (hr : Room k X.A) (ho : DE X Z o td)
    (ht : eval (.Call (.Attribute o m apos) [] [] pos) X.env = (do
      let ov ← eval o X.env
      standAt apos.atName
      let (f, first) ← holding [ov] (getMethod ov m pl)
      callWith pos f first (backTo pos (starEach [] X.env)) (backToKw pos (keywordEach [] X.env))) := by rfl) :
    DE X Z (.Call (.Attribute o m apos) [] [] pos) (dMeth C m spd td dNil) := by
  obtain ⟨f, fd, ps, F, c, hm, hb⟩ := M.ex
  refine ⟨pe_imp (pe_meth0 (E := E0) ho.pe c hm F hr hb .nil pass0 ht) fun σ H Q ⟨B, G, ρ, n, Qd, env, q, kk⟩ => ⟨B, G, ρ, n, _, env, q, fun d n1 v H1 G1 q1 x1 w1 r1 => ?_⟩⟩
  split at q1
  · obtain ⟨rfl, q2, q3⟩ := q1
    have r1' := r1
    cases r1 with | @obj a C dx fvs fs h1 r =>
    refine ⟨a, dx, fvs, rfl, w1.sub _ _ h1, r.none q2, ?_⟩
    exact ⟨B.F, G1, n1, _, Qd, _, w1, .cons r1' .nil, q3, kk.trans x1, fun _ _ _ _ _ _ h => h.elim⟩
  · exact q1.elim
/-! == and != by an own __eq__ -/
structure OwnEq (P : Program) (w : World) (K : PySem.W.Frag) (mg : Str → Option Value) (base : Heap) (k : Nat) (C : Addr) (spd : SpD) : Prop where
  ex : ∃ (g : Addr) (fd : FuncData) (ps : List Str), PySem.W.findIn K (.ref C) "__eq__" = some (some (.ref g)) ∧ PySem.W.findIn K (.ref C) "__ne__" = some (some (.builtin "object.__ne__")) ∧ PySem.W.mroIn K C (.type "object") = some true ∧ PySem.W.isFn K (.ref g) = true ∧
    FnOk P w K mg base CX0 k g fd ps (liftSp K spd) ∧ Binds K fd ps []
/-- x == y, an own object or data -/
def dEqO (K : PySem.W.Frag) (C : Addr) (spd : SpD) : RD2
  | .obj C' fs, y, n, Q => C' = C ∧ ∃ t, TyD K y t ∧ PySem.W.notFirst K C t = true ∧ spd [.obj C fs, y] n Q fun _ _ _ => False
  | x, y, n, Q => dEq x y n Q
def dNeO (K : PySem.W.Frag) (C : Addr) (spd : SpD) : RD2
  | .obj C' fs, y, n, Q => C' = C ∧ ∃ t, TyD K y t ∧ PySem.W.notFirst K C t = true ∧ spd [.obj C fs, y] n (fun d n' => ∃ b, d = .bl b ∧ Q (.bl (!b)) n') fun _ _ _ => False
  | x, y, n, Q => dNe x y n Q
theorem cv_eqO : Cv2 K (fun x y H Q => rOwnD K C (liftSp K spd) E0 x y H Q ∨ (scal x y = true ∧ Q (.bl ((fun b => b) (decide (x = y)))) H) ∨ ∃ d e, Dp K H x d ∧ Dp K H y e ∧ SeqAt.shaped d = true ∧ SeqAt.shaped e = true ∧ Q (.bl ((fun b => b) (PyData.eqv d e))) H) (dEqO K C spd) := by
  intro F G H n x y dx dy Qd Q w rx ry q k
  unfold dEqO at q
  split at q
  · obtain ⟨rfl, t, h1, h2, q⟩ := q
    have rx' := rx
    cases rx with | @obj a C dx fvs fs h3 r =>
    exact .inl ⟨a, dx, fvs, t, rfl, w.sub _ _ h3, tyx_of (ry.mono w.sub) h1, h2, F, G, n, _, Qd, _, w, .cons rx' (.cons ry .nil), q, k, fun _ _ _ _ _ _ h => h.elim⟩
  · exact .inr (cv_eq (fun b => b) F G H n x y dx dy Qd Q w rx ry q k)
theorem cv_neO : Cv2 K (fun x y H Q => rOwnN K C (liftSp K spd) E0 x y H Q ∨ (scal x y = true ∧ Q (.bl ((fun b => !b) (decide (x = y)))) H) ∨ ∃ d e, Dp K H x d ∧ Dp K H y e ∧ SeqAt.shaped d = true ∧ SeqAt.shaped e = true ∧ Q (.bl ((fun b => !b) (PyData.eqv d e))) H) (dNeO K C spd) := by
  intro F G H n x y dx dy Qd Q w rx ry q k
  unfold dNeO at q
  split at q
  · obtain ⟨rfl, t, h1, h2, q⟩ := q
    have rx' := rx
    cases rx with | @obj a C dx fvs fs h3 r =>
    refine .inl ⟨a, dx, fvs, t, rfl, w.sub _ _ h3, tyx_of (ry.mono w.sub) h1, h2, F, G, n, _, _, _, w, .cons rx' (.cons ry .nil), q, fun d n' v H' G' h x' w' r' => ?_, fun _ _ _ _ _ _ h => h.elim⟩
    obtain ⟨b, rfl, h⟩ := h
    cases r'
    exact ⟨b, rfl, k (.bl (!b)) n' _ H' G' h x' w' (.bl _)⟩
  · exact .inr (cv_eq (fun b => !b) F G H n x y dx dy Qd Q w rx ry q k)
theorem OwnEq.eq (D : OwnEq X.prog X.w X.K X.mg X.base k C spd) (hr : Room k X.A) : OpR X (compareOp .Eq) (rOwnD X.K C (liftSp X.K spd) E0) := by
  obtain ⟨g, fd, ps, h1, h2, h3, h4, F, hb⟩ := D.ex
  exact op_eqOwn h1 h4 F hb hr pass0
theorem OwnEq.ne (D : OwnEq X.prog X.w X.K X.mg X.base k C spd) (hr : Room (k + 1) X.A) : OpR X (compareOp .NotEq) (rOwnN X.K C (liftSp X.K spd) E0) := by
  obtain ⟨g, fd, ps, h1, h2, h3, h4, F, hb⟩ := D.ex
  exact op_neOwn h1 h2 h3 h4 F hb hr pass0
theorem de_eqO (D : OwnEq X.prog X.w X.K X.mg X.base k C spd) (hr : Room (k + 1) X.A) (ha : DE X Z a ta) (hb : DE X Z b tb) : DE X Z (.Compare a [.Eq] [b] pos) (d2 (dEqO X.K C spd) ta tb) := de_cmp (OpR.or (D.eq (hr.mono (Nat.le_succ _))) (OpR.or op_eq (op_eqD hr.units))) cv_eqO ha hb (nomark _)
theorem dt_eqO (D : OwnEq X.prog X.w X.K X.mg X.base k C spd) (hr : Room (k + 1) X.A) (ha : DE X Z a ta) (hb : DE X Z b tb) : DT X Z (.Compare a [.Eq] [b] pos) (dTestB (d2 (dEqO X.K C spd) ta tb)) := dt_cmp (OpR.or (D.eq (hr.mono (Nat.le_succ _))) (OpR.or op_eq (op_eqD hr.units))) cv_eqO ha hb (nomark _)
theorem de_neO (D : OwnEq X.prog X.w X.K X.mg X.base k C spd) (hr : Room (k + 1) X.A) (ha : DE X Z a ta) (hb : DE X Z b tb) : DE X Z (.Compare a [.NotEq] [b] pos) (d2 (dNeO X.K C spd) ta tb) := de_cmp (OpR.or (D.ne hr) (OpR.or op_ne (op_neD hr.units))) cv_neO ha hb (nomark _)
theorem dt_neO (D : OwnEq X.prog X.w X.K X.mg X.base k C spd) (hr : Room (k + 1) X.A) (ha : DE X Z a ta) (hb : DE X Z b tb) : DT X Z (.Compare a [.NotEq] [b] pos) (dTestB (d2 (dNeO X.K C spd) ta tb)) := dt_cmp (OpR.or (D.ne hr) (OpR.or op_ne (op_neD hr.units))) cv_neO ha hb (nomark _)
/-! str(x) by an own __str__ -/
structure OwnStr (P : Program) (w : World) (K : PySem.W.Frag) (mg : Str → Option Value) (base : Heap) (k : Nat) (C : Addr) (spd : SpD) : Prop where
  ex : ∃ (g : Addr) (fd : FuncData) (ps : List Str), PySem.W.findIn K (.ref C) "__str__" = some (some (.ref g)) ∧ PySem.W.isFn K (.ref g) = true ∧ FnOk P w K mg base CX0 k g fd ps (liftSp K spd) ∧ Binds K fd ps []
def dStrO (C : Addr) (spd : SpD) : RDC
  | [.obj C' fs], n, Q => C' = C ∧ spd [.obj C fs] n (fun d n' => ∃ s, d = .str s ∧ Q d n') fun _ _ _ => False
  | ds, n, Q => dStrC ds n Q
theorem cv_strO : CvC K (fun xs H Q => rStrOwn C (liftSp K spd) E0 xs H Q ∨ (∃ i, xs = [.int i] ∧ i.natAbs.log2 < 1920 ∧ Q (.str (toString i)) H) ∨ ∃ a, xs = [.str a] ∧ Q (.str a) H) (dStrO C spd) := by
  intro F G H n vs ds Qd Q w r q k
  unfold dStrO at q
  split at q
  · obtain ⟨rfl, q⟩ := q
    cases r with | cons rx r =>
    cases r
    have rx' := rx
    cases rx with | @obj a C dx fvs fs h3 r =>
    refine .inl ⟨a, dx, fvs, rfl, w.sub _ _ h3, F, G, n, _, _, _, w, .cons rx' .nil, q, fun d n' v H' G' h x' w' r' => ?_, fun _ _ _ _ _ _ h => h.elim⟩
    obtain ⟨s, rfl, h⟩ := h
    cases r'
    exact ⟨s, rfl, k (.str s) n' _ H' G' h x' w' (.str _)⟩
  · exact .inr (cv_strc F G H n vs _ Qd Q w r q k)
theorem OwnStr.call (D : OwnStr X.prog X.w X.K X.mg X.base k C spd) (hr : Room (k + 2) X.A) : CallR X (.type "str") (fun xs H Q => rStrOwn C (liftSp X.K spd) E0 xs H Q ∨ (∃ i, xs = [.int i] ∧ i.natAbs.log2 < 1920 ∧ Q (.str (toString i)) H) ∨ ∃ a, xs = [.str a] ∧ Q (.str a) H) := by
  obtain ⟨g, fd, ps, h1, h2, F, hb⟩ := D.ex
  exact CallR.or (call_strOwn h1 h2 F hb hr pass0) (CallR.or call_str_int SkE.call_str_str)
end
end Dw
namespace Dw
open PySem PySem.Spec PyProof.Rows L2 Fw
/-- no exception leaves -/
theorem DSs.nx {X : Cx} {Z : ZX} {sts : List Stmt} {tz : TZ} (h : DSs X.nox zNo sts tz) : DSs X Z sts tz := by
  refine ⟨pss_imp h.pss.nox fun D σ H ⟨B, G, ρ, n, De, env, q, l⟩ => ⟨B, G, ρ, n, De, ⟨env.toEnvC, zNo_ok⟩, q, ⟨fun G H σ ρ n e h => l.nx G H σ ρ n ⟨e.toEnvC, env.z⟩ h, fun G H σ ρ n e h => l.bk G H σ ρ n ⟨e.toEnvC, env.z⟩ h, fun G H σ ρ n e h => l.ct G H σ ρ n ⟨e.toEnvC, env.z⟩ h, l.rt, l.ro⟩⟩⟩
end Dw

namespace Dw
open PySem PySem.Spec PyProof.Rows L2 Fw
/-! x in [..], x an object with an own __eq__, the items builtin data -/
section
open PySem.SeqAt AutoSeq1 MeetsSeq MeetsSeq2 MeetsSeq3 SeqRoads2
theorem cont_loop {prog : Program} {w : World} {A : Around} {E : Value → Shared → Prop} {l : Addr} {N : Nat} {x : Value} {Pw : Nat → Shared → Prop} {R0 : Bool → Shared → Prop} {R : Result → Shared → Prop}
    (hP : ∀ i s, Pw i s → ∃ items n dd sl, s.heap.get? l = some { cls := .type "list", dict := dd, data := .seq items n, slots := sl } ∧ items.size = N ∧
      ∀ h : i < items.size, wpAny (model prog w) A.in1 (eqBool items[i] x) (fun b s' => (b = true → R0 true s') ∧ (b = false → Pw (i + 1) s')) E s)
    (h0 : ∀ s, Pw N s → R0 false s) (hR : ∀ b s', R0 b s' → R (.ok (.ret (.bool b))) s') (hE : ∀ e s', E e s' → R (.error e) s') (k : Nat) :
    ∀ i : Nat, N - i = k → i ≤ N → ∀ s, Pw i s →
      wpAny (model prog w) A.in1 (Builtin.«list.__contains__.loop» ⟨[.ref l, x, rawInt i], []⟩) (fun fin s' => match fin with | .done f => R (.ok f) s' | .again c' => c'.quiet = true ∧ codeAny (model prog w) A c' R s') (fun e s' => R (.error e) s') s := by
  induction k with
  | zero =>
    intro i hk hle s h
    obtain ⟨items, n, dd, sl, hl, hN, _⟩ := hP i s h
    have e : i = N := by omega
    subst e
    have h := hR _ _ (h0 _ h)
    obtain ⟨hp, g, d, tk, os⟩ := s
    wp_walk using wpAny_loadPart' hl
    have hi : items[((i : Nat) : Int).toNat]? = none := by simp; omega
    rw [hi]
    wp_walk
    exact h
  | succ k ih =>
    intro i hk hle s h
    obtain ⟨items, n, dd, sl, hl, hN, hq⟩ := hP i s h
    have hlt : i < items.size := by omega
    have hq := hq hlt
    obtain ⟨hp, g, d, tk, os⟩ := s
    wp_walk using wpAny_loadPart' hl
    have hi : items[((i : Nat) : Int).toNat]? = some items[i] := by simp [hlt]
    rw [hi]
    refine wpAny_bind (wpAny_mono hq (fun b s' hb => ?_) fun e s' he => hE e s' he)
    cases b with
    | true =>
      have hb := hR _ _ (hb.1 rfl)
      wp_walk
      exact hb
    | false =>
      have hb := hb.2 rfl
      have hc : ((i : Int) + 1) = ((i + 1 : Nat) : Int) := by push_cast; rfl
      wp_walk
      rw [hc]
      exact ⟨plainId_quiet plain_contains_loop _, codeAny_builtin entry_contains_loop (by
        rw [Around.under_plainId plain_contains_loop _]
        exact ih (i + 1) (by omega) (by omega) _ hb)⟩
theorem in_own {prog : Program} {w : World} {A : Around} {E : Value → Shared → Prop} {l : Addr} {N : Nat} {x : Value} {Pw : Nat → Shared → Prop} {Q : Value → Shared → Prop} {s : Shared}
    (hP : ∀ i s, Pw i s → ∃ items n dd sl, s.heap.get? l = some { cls := .type "list", dict := dd, data := .seq items n, slots := sl } ∧ items.size = N ∧
      ∀ h : i < items.size, wpAny (model prog w) A.in1 (eqBool items[i] x) (fun b s' => (b = true → Q (.bool true) s') ∧ (b = false → Pw (i + 1) s')) E s)
    (h0 : ∀ s, Pw N s → Q (.bool false) s) (h : Pw 0 s) : wpAny (model prog w) A (compareOp .In x (.ref l)) Q E s := by
  obtain ⟨items, n, dd, sl, ho, hN, _⟩ := hP 0 s h
  show wpAny _ A (do return .bool (← contains (.ref l) x)) Q E s
  have hT : s.TypeIs (.ref l) "list" := ⟨_, ho, rfl⟩
  have g : MeetsIn prog w (Builtin.«list.__contains__» ⟨[.ref l, x], []⟩) (fun A' R s' => A' = A ∧ Pw 0 s' ∧ (∀ b s', Q (.bool b) s' → R (.ok (.ret (.bool b))) s') ∧ (∀ e s', E e s' → R (.error e) s')) := by
    rintro A' R s' ⟨rfl, h, hR, hE⟩
    obtain ⟨items, n, dd, sl, hl, hN, _⟩ := id (hP 0 s' h)
    obtain ⟨hp, g, d, tk, os⟩ := s'
    wp_walk using wpAny_loadPart' hl
    exact ⟨plainId_quiet plain_contains_loop _, codeAny_builtin entry_contains_loop (by
      rw [Around.under_plainId plain_contains_loop _]
      exact cont_loop (R0 := fun b => Q (.bool b)) hP h0 hR hE N 0 (by omega) (by omega) _ h)⟩
  refine wpAny_bind (wpAny_contains_slot hT F.slot_list_contains (wpAny_mono (call_meetsIn (Q := fun v s' => ∃ b, v = .bool b ∧ Q (.bool b) s') (E := E) F.slot_list_contains hT F.entry_list_contains (F.args_list_contains_2 _ _) g ⟨rfl, h, fun b s' q => ⟨b, rfl, q⟩, fun e s' q => q⟩) (fun v s' hv => ?_) fun _ _ e => e))
  obtain ⟨b, rfl, hq⟩ := hv
  exact wpAny_truthy_bool (wpAny_pure hq)
theorem int_eq_declines_ins_bool (b : Bool) (a C dx : Addr) :
    Meets (Builtin.«int.__eq__» ⟨[.bool b, .ref a], []⟩) (fun _ R s => s.heap.get? a = some (PySem.W.instObj C dx) ∧ R (.ok (.ret .notImplemented)) s) :=
  .of_wp fun prog w A R s h => by obtain ⟨hp, g, d, tk, os⟩ := s; obtain ⟨hl, h⟩ := h; wp_walk using wpAny_loadPart' hl, wpAny_load hl; exact ⟨_, rfl, h⟩
theorem int_eq_declines_ins_int (b : Int) (u : Tok) (a C dx : Addr) :
    Meets (Builtin.«int.__eq__» ⟨[.int b u, .ref a], []⟩) (fun _ R s => s.heap.get? a = some (PySem.W.instObj C dx) ∧ R (.ok (.ret .notImplemented)) s) :=
  .of_wp fun prog w A R s h => by obtain ⟨hp, g, d, tk, os⟩ := s; obtain ⟨hl, h⟩ := h; wp_walk using wpAny_loadPart' hl, wpAny_load hl; exact ⟨_, rfl, h⟩
theorem str_eq_declines_ins (b : Str) (u : Tok) (a C dx : Addr) :
    Meets (Builtin.«str.__eq__» ⟨[.str b u, .ref a], []⟩) (fun _ R s => s.heap.get? a = some (PySem.W.instObj C dx) ∧ R (.ok (.ret .notImplemented)) s) :=
  .of_wp fun prog w A R s h => by obtain ⟨hp, g, d, tk, os⟩ := s; obtain ⟨hl, h⟩ := h; wp_walk using wpAny_loadPart' hl, wpAny_load hl; exact ⟨_, rfl, h⟩
def NoSub (C : Addr) (T : String) (s : Shared) : Prop := ∀ (M : Model) (A : Around) (E : Value → Shared → Prop) (Q : Bool → Shared → Prop), Q false s → wpAny M A (isSubtype (.ref C) (.type T)) Q E s
theorem list_eq_declines_ins (l a C dx : Addr) :
    Meets (Builtin.«list.__eq__» ⟨[.ref l, .ref a], []⟩) (fun _ R s => s.heap.get? a = some { cls := .ref C, dict := some dx, data := .plain } ∧ NoSub C "list" s ∧ R (.ok (.ret .notImplemented)) s) :=
  .of_wp fun prog w A R s h => by obtain ⟨hp, g, d, tk, os⟩ := s; obtain ⟨ha, hb, h⟩ := h; wp_walk using wpAny_loadPart' ha; refine hb (model prog w) A.in1 _ _ ?_; wp_walk; exact ⟨_, rfl, h⟩
theorem tuple_eq_declines_ins (l a C dx : Addr) :
    Meets (Builtin.«tuple.__eq__» ⟨[.ref l, .ref a], []⟩) (fun _ R s => s.heap.get? a = some { cls := .ref C, dict := some dx, data := .plain } ∧ NoSub C "tuple" s ∧ R (.ok (.ret .notImplemented)) s) :=
  .of_wp fun prog w A R s h => by obtain ⟨hp, g, d, tk, os⟩ := s; obtain ⟨ha, hb, h⟩ := h; wp_walk using wpAny_loadPart' ha; refine hb (model prog w) A.in1 _ _ ?_; wp_walk; exact ⟨_, rfl, h⟩
/-- a builtin value whose __eq__ declines what is an instance of C -/
inductive Dec (K : PySem.W.Frag) (C : Addr) (H : Hp) : V → Prop where
  | non : PySem.W.subIn K (.ref C) (.type "NoneType") = some false → Dec K C H .non
  | bl (b : Bool) : PySem.W.subIn K (.ref C) (.type "bool") = some false → Dec K C H (.bl b)
  | int (i : Int) : PySem.W.subIn K (.ref C) (.type "int") = some false → Dec K C H (.int i)
  | str (x : Str) : PySem.W.subIn K (.ref C) (.type "str") = some false → Dec K C H (.str x)
  | tup {p : Addr} {xs : List V} : SqT K H p xs → PySem.W.subIn K (.ref C) (.type "tuple") = some false → Dec K C H (.ref p)
  | lst {p : Addr} {xs : List V} : SqL K H p xs → PySem.W.subIn K (.ref C) (.type "list") = some false → Dec K C H (.ref p)
theorem try_dec {X : Cx} {pins : List (Addr × Obj)} {σ : L2.St} {H : Hp} {s : Shared} {y : V} {u : Value} {a C dx : Addr} {fs : List (Str × V)} {A : Around} {E : Value → Shared → Prop} {Q : Option Value → Shared → Prop} (I : Inv X pins σ H s) (ha : H a = some (.ins C dx fs)) (ry : RelV y u) (hd : Dec X.K C H y)
    (h : Q none s) : ∃ T, s.TypeIs u T ∧ PySem.W.subIn X.K (.ref C) (.type T) = some false ∧ wpAny (model X.prog X.w) A (tryCompare u "__eq__" (.ref a)) Q E s := by
  obtain ⟨mA, O, _⟩ := ins_get I.hok ha
  have ho := O.obj
  cases hd with
  | non e =>
    cases (show u = Value.none from ry)
    exact ⟨_, rfl, e, wpAny_tryCompare_declines (show s.TypeIs .none "NoneType" from rfl) F.slot_NoneType_eq_refl (call_gives F.slot_NoneType_eq_refl rfl F.entry_NoneType_eq (F.args_NoneType_eq_2 _ _) (NoneType___eq___none_ref_0 a) ⟨rfl, h⟩)⟩
  | bl b e =>
    cases (show u = Value.bool b from ry)
    exact ⟨_, rfl, e, wpAny_tryCompare_declines rfl F.slot_bool_eq_refl (call_meets F.slot_bool_eq_refl rfl F.entry_int_eq (F.args_int_eq_2 _ _) (int_eq_declines_ins_bool b a C dx) ⟨ho, rfl, h⟩)⟩
  | int i e =>
    obtain ⟨t, rfl⟩ := ry
    exact ⟨_, typeIs_int s i t, e, wpAny_tryCompare_declines (typeIs_int s i t) F.slot_int_eq_refl (call_meets F.slot_int_eq_refl (typeIs_int s i t) F.entry_int_eq (F.args_int_eq_2 _ _) (int_eq_declines_ins_int i t a C dx) ⟨ho, rfl, h⟩)⟩
  | str x e =>
    obtain ⟨t, rfl⟩ := ry
    exact ⟨_, typeIs_str s x t, e, wpAny_tryCompare_declines (typeIs_str s x t) F.slot_str_eq_refl (call_meets F.slot_str_eq_refl (typeIs_str s x t) F.entry_str_eq (F.args_str_eq_2 _ _) (str_eq_declines_ins x t a C dx) ⟨ho, rfl, h⟩)⟩
  | tup hs e =>
    cases ry
    obtain ⟨its, r, pl, hz⟩ := I.tuple hs
    obtain ⟨⟨cls, dd, data, sl⟩, hp, hc, n, hd⟩ := pl
    simp only at hc hd
    subst hc hd
    exact ⟨_, ⟨_, hp, rfl⟩, e, wpAny_tryCompare_declines ⟨_, hp, rfl⟩ F.slot_tuple_eq_refl (call_meets F.slot_tuple_eq_refl ⟨_, hp, rfl⟩ F.entry_tuple_eq (F.args_tuple_eq_2 _ _) (tuple_eq_declines_ins _ a C dx) ⟨ho, fun M A E Q q => (PySem.W.looks_subIn I.kIn e).here q, rfl, h⟩)⟩
  | lst hs e =>
    cases ry
    obtain ⟨its, r, pl, hz⟩ := I.list hs
    obtain ⟨⟨cls, dd, data, sl⟩, hp, hc, n, hd⟩ := id pl.isList
    simp only at hc hd
    subst hc hd
    exact ⟨_, ⟨_, hp, rfl⟩, e, wpAny_tryCompare_declines ⟨_, hp, rfl⟩ F.slot_list_eq_refl (call_meets F.slot_list_eq_refl ⟨_, hp, rfl⟩ F.entry_list_eq (F.args_list_eq_2 _ _) (list_eq_declines_ins _ a C dx) ⟨ho, fun M A E Q q => (PySem.W.looks_subIn I.kIn e).here q, rfl, h⟩)⟩
theorem ne_dec {X : Cx} {pins : List (Addr × Obj)} {σ : L2.St} {H : Hp} {s : Shared} {y : V} {u : Value} {a C dx : Addr} {fs : List (Str × V)} {T : String} (I : Inv X pins σ H s) (ha : H a = some (.ins C dx fs)) (hT : s.TypeIs u T) : u ≠ .ref a := by
  rintro rfl
  obtain ⟨mA, O, _⟩ := ins_get I.hok ha
  obtain ⟨o, h1, h2⟩ := hT
  rw [O.obj] at h1
  cases h1
  cases h2
theorem eqb_dec {X : Cx} {pins : List (Addr × Obj)} {σ : L2.St} {H : Hp} {s : Shared} {y : V} {u : Value} {a C dx g : Addr} {fs : List (Str × V)} {A : Around} {E : Value → Shared → Prop} {R : Bool → Shared → Prop} (I : Inv X pins σ H s) (ha : H a = some (.ins C dx fs)) (ry : RelV y u) (hd : Dec X.K C H y)
    (hu : A.units < cLine) (hs : PySem.W.findIn X.K (.ref C) "__eq__" = some (some (.ref g))) (hf : PySem.W.isFn X.K (.ref g) = true)
    (h : wpAny (model X.prog X.w) A (call (.ref g) [.ref a, u]) (fun w s' => ∃ b, w = .bool b ∧ R b s') E s) : wpAny (model X.prog X.w) A (eqBool u (.ref a)) R E s := by
  obtain ⟨mA, O, _⟩ := ins_get I.hok ha
  obtain ⟨od, J, _⟩ := O.look
  obtain ⟨T, hT, hsub, _⟩ := try_dec (A := A) (E := E) (Q := fun r s' => True) I ha ry hd trivial
  have one : ∀ Q : Option Value → Shared → Prop, Q none s → wpAny (model X.prog X.w) A (tryCompare u "__eq__" (.ref a)) Q E s := fun Q q => by
    obtain ⟨_, _, _, h⟩ := try_dec (A := A) (E := E) (Q := Q) I ha ry hd q
    exact h
  have two : wpAny (model X.prog X.w) A (tryCompare (.ref a) "__eq__" u) (fun r s' => ∃ b : Bool, r = some (.bool b) ∧ R b s') E s := by
    unfold tryCompare
    refine wpAny_bind (PySem.W.ifBound_K I.kIn J hs hf (wpAny_mono h (fun v s' hv => ?_) fun _ _ e => e))
    obtain ⟨b, rfl, hq⟩ := hv
    exact wpAny_pure ⟨b, rfl, hq⟩
  have hne : u ≠ .ref a := ne_dec (y := y) I ha hT
  unfold eqBool
  refine wpAny_holding ?_
  refine wpAny_ite_split (fun hab => absurd (eq_of_beq hab) hne) (fun _ => ?_)
  have rc : wpAny (model X.prog X.w) A (richCompare .Eq u (.ref a)) (fun v s' => ∃ b, v = .bool b ∧ R b s') E s := by
    simp only [richCompare, cmpInfo_Eq, hT.oneThing_none]
    refine wpAny_holding (wpAny_bind (wpAny_cRoomFor hu ?_))
    refine wpAny_bind (wpAny_typeOf hT ?_)
    refine wpAny_bind (J.type.here ?_)
    split
    · refine wpAny_bind ((PySem.W.looks_subIn I.kIn hsub).here ?_)
      simp only [Bool.false_eq_true, if_false, Bool.not_false, if_true]
      refine wpAny_bind (m := tryCompare u _ (.ref a)) (one _ ?_)
      refine wpAny_bind (m := tryCompare (.ref a) _ u) (wpAny_mono two (fun r s2 z => ?_) fun _ _ e => e)
      obtain ⟨b, rfl, q⟩ := z
      exact wpAny_pure ⟨b, rfl, q⟩
    · rename_i q
      exact absurd (by simp) q
  have tr : wpAny (model X.prog X.w) A (richCompare .Eq u (.ref a) >>= truthOfDropped) R E s := by
    refine wpAny_bind (wpAny_mono rc (fun v s' z => ?_) fun _ _ e => e)
    obtain ⟨b, rfl, q⟩ := z
    exact wpAny_truthy_bool q
  split
  · rename_i hq
    cases hq
  · exact tr
def inL (K : PySem.W.Frag) (sp : Sp) (E : XK) (a C dx : Addr) (fs : List (Str × V)) (p : Addr) (all : List V) : List V → Hp → VK → Prop
  | [], H, Q => Q (.bl false) H
  | y :: ys, H, Q => Dec K C H y ∧ sp [.ref a, y] H (fun z H' => ∃ b, z = .bl b ∧ (b = true → Q (.bl true) H') ∧ (b = false → H' a = some (.ins C dx fs) ∧ H' p = some (.lst all) ∧ inL K sp E a C dx fs p all ys H' Q)) E
def rInO (K : PySem.W.Frag) (C : Addr) (sp : Sp) (E : XK) : R2 := fun x y H Q => ∃ (a dx : Addr) (fs : List (Str × V)) (p : Addr) (all : List V), x = .ref a ∧ y = .ref p ∧ H a = some (.ins C dx fs) ∧ H p = some (.lst all) ∧ inL K sp E a C dx fs p all all H Q
theorem op_inOwn {X : Cx} {C g : Addr} {CX : CXT} {n : Nat} {fd : FuncData} {ps : List Str} {sp : Sp} {E : XK} (hs : PySem.W.findIn X.K (.ref C) "__eq__" = some (some (.ref g))) (hf : PySem.W.isFn X.K (.ref g) = true) (F : FnOk X.prog X.w X.K X.mg X.base CX n g fd ps sp) (hb : Binds X.K fd ps []) (hr : Room (n + 1) X.A) (hx : Passes CX X E) : OpR X (compareOp .In) (rInO X.K C sp E) := by
  intro pins s σ H x y v u Q I rx ry h
  obtain ⟨a, dx, fs, p, all, rfl, rfl, ha, hp, q⟩ := h
  cases (show v = Value.ref a from rx)
  cases (show u = Value.ref p from ry)
  have hr1 : Room n X.A.in1 := Room.in1 hr
  refine in_own (N := all.length) (Pw := fun i s => ∃ H', Inv X pins σ H' s ∧ H' a = some (.ins C dx fs) ∧ H' p = some (.lst all) ∧ inL X.K sp E a C dx fs p all (all.drop i) H' Q) ?_ ?_ ⟨H, I, ha, hp, by simpa using q⟩
  · rintro i s ⟨H, I, ha, hp, q⟩
    obtain ⟨its, r, pl, hz⟩ := I.list (.inl (.inl hp))
    obtain ⟨⟨cls, dd, data, sl⟩, ho, hc, m, hd⟩ := id pl.isList
    simp only at hc hd
    subst hc hd
    have hlen := r.length
    refine ⟨its.toArray, m, dd, sl, ho, by simp [hlen], fun hi => ?_⟩
    have hi' : i < all.length := by simp at hi; omega
    rw [List.drop_eq_getElem_cons hi'] at q
    obtain ⟨hd, q⟩ := q
    have ry : RelV all[i] (its.toArray[i]'hi) := by
      have := r.get (i := i) (List.getElem?_eq_getElem hi')
      obtain ⟨u, hu, r⟩ := this
      simp at hi
      rw [List.getElem?_eq_getElem hi] at hu
      cases hu
      simpa using r
    generalize its.toArray[i]'hi = u at ry
    refine eqb_dec I ha ry hd hr1.units0 hs hf ?_
    have r2 : Vals [V.ref a, all[i]] [Value.ref a, u] := .cons rfl (.cons ry .nil)
    have hl : [Value.ref a, u].length = ps.length := r2.length.symm.trans (F.len _ _ _ _ q)
    refine wpAny_call (codeAny_mono (F.run X.A.in1 X.stack s H ⟨[.ref a, u], []⟩ [.ref a, u] [.ref a, all[i]] _ E hr1 I.env0.in1 (hb s [.ref a, u] I.kIn (by rw [List.append_nil]; exact hl)) r2 q) fun r s' hq => ?_)
    rcases r with er | (_ | _ | _ | w)
    · exact hx pins σ H s er s' I hq
    all_goals first | exact False.elim hq | skip
    obtain ⟨z', H', I', rz, b, rfl, q1, q2⟩ := I.after hq
    cases (show w = Value.bool b from rz)
    refine ⟨b, rfl, fun e => ?_, fun e => ?_⟩
    · subst e
      exact ⟨.bl true, H', I', rfl, q1 rfl⟩
    · obtain ⟨h1, h2, h3⟩ := q2 e
      exact ⟨H', I', h1, h2, h3⟩
  · rintro s ⟨H, I, ha, hp, q⟩
    rw [List.drop_length] at q
    exact ⟨.bl false, H, I, rfl, q⟩
end
def DecD (K : PySem.W.Frag) (C : Addr) : D → Prop
  | .non => PySem.W.subIn K (.ref C) (.type "NoneType") = some false
  | .bl _ => PySem.W.subIn K (.ref C) (.type "bool") = some false
  | .int _ => PySem.W.subIn K (.ref C) (.type "int") = some false
  | .str _ => PySem.W.subIn K (.ref C) (.type "str") = some false
  | .tup _ => PySem.W.subIn K (.ref C) (.type "tuple") = some false
  | .lst _ => PySem.W.subIn K (.ref C) (.type "list") = some false
  | _ => False
def inLD (K : PySem.W.Frag) (C : Addr) (fs : List (Str × D)) (spd : SpD) : List D → Nat → QD → Prop
  | [], n, Q => Q (.bl false) n
  | y :: ys, n, Q => DecD K C y ∧ spd [.obj C fs, y] n (fun d n' => ∃ b, d = .bl b ∧ (b = true → Q (.bl true) n') ∧ (b = false → inLD K C fs spd ys n' Q)) fun _ _ _ => False
/-- x in [..], x an own object or data -/
def dInO (K : PySem.W.Frag) (C : Addr) (spd : SpD) : RD2
  | .obj C' fs, .lst l, n, Q => C' = C ∧ inLD K C fs spd l n Q
  | x, y, n, Q => dIn x y n Q
section
variable {X : Cx} {Z : ZX} {a b : Expr} {ta tb : TD} {k : Nat} {C : Addr} {spd : SpD} {pos : Pos} {K : PySem.W.Frag}
theorem dec_of {F : Option Addr} {H : Hp} {v : V} {x : D} (r : Rep K F H v x) (h : DecD K C x) : Dec K C H v := by
  cases r <;> first | exact h.elim | skip
  · exact .non h
  · exact .bl _ h
  · exact .int _ h
  · exact .str _ h
  · rename_i h1 _; exact .tup h1 h
  · rename_i h1 _; exact .lst (SqL.of h1) h
theorem inL_of {F : Option Addr} {a dx p : Addr} {fvs : List (Str × V)} {fs : List (Str × D)} {all : List V} {Qd : QD} {Q : VK} : ∀ {vs : List V} {l : List D} {G H : Hp} {n : Nat}, RepL K F G vs l → Wd F G H n → G a = some (.ins C dx fvs) → RepF K F G fvs fs → G p = some (.lst all) → inLD K C fs spd l n Qd → KD K F G H Qd Q →
    inL K (liftSp K spd) E0 a C dx fvs p all vs H Q
  | _, _, G, H, n, .nil, w, ha, hf, hp, q, k => k.here q w (.bl _)
  | _, _, G, H, n, .cons (vs := vs) (ds := ds) r rs, w, ha, hf, hp, q, k => by
    obtain ⟨h1, q⟩ := q
    refine ⟨dec_of (r.mono w.sub) h1, F, G, n, _, _, _, w, .cons (.obj ha hf) (.cons r .nil), q, fun d n' v H' G' h x' w' r' => ?_, fun _ _ _ _ _ _ h => h.elim⟩
    obtain ⟨b, rfl, q1, q2⟩ := h
    cases r'
    refine ⟨b, rfl, fun e => k (.bl true) n' _ H' G' (q1 e) x' w' (.bl _), fun e => ⟨w'.sub _ _ (x'.g _ _ ha), w'.sub _ _ (x'.g _ _ hp), ?_⟩⟩
    exact inL_of (rs.mono x'.g) w' (x'.g _ _ ha) (hf.mono x'.g) (x'.g _ _ hp) (q2 e) (k.trans x')
theorem cv_inO : Cv2 K (fun x y H Q => rInO K C (liftSp K spd) E0 x y H Q ∨ ((∃ (c : Nat) (z : Str), x = .str ⟨#[c]⟩ ∧ y = .str z ∧ Q (.bl ((fun b => b) (decide (c ∈ z.cps.toList)))) H) ∨ (∃ p xs, y = .ref p ∧ (SqL K H p xs ∨ SqT K H p xs) ∧ flatV x = true ∧ xs.all flatV = true ∧ Q (.bl ((fun b => b) (inV x xs))) H) ∨
    ∃ d ds, Dp K H x d ∧ Dp K H y (.list ds) ∧ SeqAt.shaped d = true ∧ SeqAt.shaped (.list ds) = true ∧ Q (.bl ((fun b => b) (ds.any fun z => PyData.eqv z d))) H)) (dInO K C spd) := by
  intro F G H n x y dx dy Qd Q w rx ry q k
  unfold dInO at q
  split at q
  · obtain ⟨rfl, q⟩ := q
    cases rx with | @obj a C dx fvs fs h3 r =>
    cases ry with | @lst p vs ds h1 r1 =>
    exact .inl ⟨a, dx, fvs, p, vs, rfl, rfl, w.sub _ _ h3, w.sub _ _ h1, inL_of r1 w h3 r h1 q k⟩
  · exact .inr (cv_in (fun b => b) F G H n x y dx dy Qd Q w rx ry q k)
theorem OwnEq.in_ (D : OwnEq X.prog X.w X.K X.mg X.base k C spd) (hr : Room (k + 1) X.A) : OpR X (compareOp .In) (rInO X.K C (liftSp X.K spd) E0) := by
  obtain ⟨g, fd, ps, h1, h2, h3, h4, F, hb⟩ := D.ex
  exact op_inOwn h1 h4 F hb hr pass0
theorem de_inO (D : OwnEq X.prog X.w X.K X.mg X.base k C spd) (hr : Room (k + 1) X.A) (ha : DE X Z a ta) (hb : DE X Z b tb) (hm : behindInMarks .In b = false := by rfl) : DE X Z (.Compare a [.In] [b] pos) (d2 (dInO X.K C spd) ta tb) := de_cmp (OpR.or (D.in_ hr) (op_in_all (units65 hr))) cv_inO ha hb hm
theorem dt_inO (D : OwnEq X.prog X.w X.K X.mg X.base k C spd) (hr : Room (k + 1) X.A) (ha : DE X Z a ta) (hb : DE X Z b tb) (hm : behindInMarks .In b = false := by rfl) : DT X Z (.Compare a [.In] [b] pos) (dTestB (d2 (dInO X.K C spd) ta tb)) := dt_cmp (OpR.or (D.in_ hr) (op_in_all (units65 hr))) cv_inO ha hb hm
theorem de_eqP (D : OwnEq X.prog X.w K X.mg X.base k C spd) (hr : Room (k + 1) X.A) (ha : DE X Z a ta) (hb : DE X Z b tb) (hK : X.K = K := by rfl) : DE X Z (.Compare a [.Eq] [b] pos) (d2 (dEqO K C spd) ta tb) := by subst hK; exact de_eqO D hr ha hb
theorem de_neP (D : OwnEq X.prog X.w K X.mg X.base k C spd) (hr : Room (k + 1) X.A) (ha : DE X Z a ta) (hb : DE X Z b tb) (hK : X.K = K := by rfl) : DE X Z (.Compare a [.NotEq] [b] pos) (d2 (dNeO K C spd) ta tb) := by subst hK; exact de_neO D hr ha hb
theorem de_inP (D : OwnEq X.prog X.w K X.mg X.base k C spd) (hr : Room (k + 1) X.A) (ha : DE X Z a ta) (hb : DE X Z b tb) (hK : X.K = K := by rfl) (hm : behindInMarks .In b = false := by rfl) : DE X Z (.Compare a [.In] [b] pos) (d2 (dInO K C spd) ta tb) := by subst hK; exact de_inO D hr ha hb hm
theorem dt_eqP (D : OwnEq X.prog X.w K X.mg X.base k C spd) (hr : Room (k + 1) X.A) (ha : DE X Z a ta) (hb : DE X Z b tb) (hK : X.K = K := by rfl) : DT X Z (.Compare a [.Eq] [b] pos) (dTestB (d2 (dEqO K C spd) ta tb)) := by subst hK; exact dt_eqO D hr ha hb
theorem dt_neP (D : OwnEq X.prog X.w K X.mg X.base k C spd) (hr : Room (k + 1) X.A) (ha : DE X Z a ta) (hb : DE X Z b tb) (hK : X.K = K := by rfl) : DT X Z (.Compare a [.NotEq] [b] pos) (dTestB (d2 (dNeO K C spd) ta tb)) := by subst hK; exact dt_neO D hr ha hb
theorem dt_inP (D : OwnEq X.prog X.w K X.mg X.base k C spd) (hr : Room (k + 1) X.A) (ha : DE X Z a ta) (hb : DE X Z b tb) (hK : X.K = K := by rfl) (hm : behindInMarks .In b = false := by rfl) : DT X Z (.Compare a [.In] [b] pos) (dTestB (d2 (dInO K C spd) ta tb)) := by subst hK; exact dt_inO D hr ha hb hm
end
end Dw

set_option exponentiation.threshold 5000
theorem Fw.szl {n : Nat} (h : n ≤ 60) : n ≤ PySem.sizeLine := Nat.le_trans h (by decide)
local macro_rules | `(tactic| walk_at "dd") => `(tactic| repeat' (first
  | (intro hc; first | (exact absurd hc (by decide)) | (cases hc; done) | (subst hc) | skip)
  | assumption
  | refine And.intro ?_ ?_
  | rfl
  | exact Fw.szl (by simp)
  | refine ⟨_, rfl, ?_⟩
  | refine ⟨_, _, rfl, ?_⟩
  | refine ⟨_, _, _, rfl, ?_⟩
  | refine ⟨_, _, _, _, rfl, ?_⟩
  | refine ⟨_, _, _, _, _, rfl, ?_⟩
  | refine ⟨_, _, _, _, _, _, rfl, ?_⟩
  | refine ⟨_, _, _, _, _, _, _, rfl, ?_⟩
  | refine ⟨_, _, _, _, _, _, _, _, rfl, ?_⟩
  | refine ⟨_, _, _, _, _, _, _, _, _, rfl, ?_⟩
  | refine ⟨_, _, _, _, _, _, _, _, _, _, rfl, ?_⟩
  | fail))
namespace Lw
open PySem PySem.Spec PyProof.Rows L2 Fw Dw
def top (i : Nat) : Stmt := PySem.Challenge.pw_formatwords_k04_ranges_and_what_they_hav.main.body.getD i (.Pass ⟨0, 0, 0, 0⟩)
abbrev FnP (K : PySem.W.Frag) (x : Str) (st : Stmt) (f : Addr) (fd : FuncData) : Prop := FunD K x x (defArgs st) (defBody st) (defScope st) [] [] f fd
end Lw

/-! ### ranges by data -/
namespace Lw
open PySem PySem.Spec PyProof.Rows L2 Fw Dw
abbrev Fr2 := Int × Int
/-- sizes of a fraction -/
def Fok (a : Fr2) : Prop := 0 < a.2 ∧ a.1.natAbs < 2 ^ 1900 ∧ a.2.natAbs < 2 ^ 1900
theorem Fok.mulW {a b : Fr2} (ha : Fok a) (hb : Fok b) : CMulW a.1 b.2 ∧ CMulW b.1 a.2 :=
  ⟨wide_mul ha.2.1 hb.2.2 (by decide) (by decide) (by decide), wide_mul hb.2.1 ha.2.2 (by decide) (by decide) (by decide)⟩
def fD (a : Fr2) : D := .tup [.int a.1, .int a.2]
def eD : Option Fr2 → D
  | none => .non
  | some a => fD a
def Eok : Option Fr2 → Prop
  | none => True
  | some a => Fok a
def less (a b : Fr2) : Bool := decide (a.1 * b.2 < b.1 * a.2)
def void (lo hi : Option Fr2) (li hi' : Bool) : Bool := match lo, hi with
  | some a, some b => less b a || (decide (a = b) && !(li && hi'))
  | _, _ => false
theorem eqD_F (a b : Fr2) : eqD (fD a) (fD b) = decide (a = b) := by
  obtain ⟨a1, a2⟩ := a
  obtain ⟨b1, b2⟩ := b
  show ((a1 == b1) && ((a2 == b2) && true)) = _
  rw [Bool.and_true]
  by_cases h1 : a1 = b1
  · by_cases h2 : a2 = b2
    · simp [h1, h2]
    · simp [h1, h2]
  · simp [h1]
structure Rg where
  lo : Option Fr2
  hi : Option Fr2
  li : Bool
  hi' : Bool
  deriving DecidableEq
def Rg.ok (r : Rg) : Prop := Eok r.lo ∧ Eok r.hi
def rF (r : Rg) : List (Str × D) := [("low", eD r.lo), ("high", eD r.hi), ("low_in", .bl r.li), ("high_in", .bl r.hi')]
def rD (C : Addr) (r : Rg) : D := .obj C (rF r)
theorem f_ne1 : ¬ ("low" : Str) = "high" := by decide +kernel
theorem f_ne2 : ¬ ("low" : Str) = "low_in" := by decide +kernel
theorem f_ne3 : ¬ ("low" : Str) = "high_in" := by decide +kernel
theorem f_ne4 : ¬ ("high" : Str) = "low_in" := by decide +kernel
theorem f_ne5 : ¬ ("high" : Str) = "high_in" := by decide +kernel
theorem f_ne6 : ¬ ("low_in" : Str) = "high_in" := by decide +kernel
theorem beq_ne {a b : Str} (h : ¬ a = b) : (b == a) = false := by
  simpa using fun z => h z.symm
theorem lk1 (r : Rg) : (rF r).lookup ("low" : Str) = some (eD r.lo) := by
  unfold rF
  rw [List.lookup_cons_self]
theorem lk2 (r : Rg) : (rF r).lookup ("high" : Str) = some (eD r.hi) := by
  unfold rF
  rw [List.lookup_cons, beq_ne f_ne1]
  show List.lookup _ (_ :: _) = _
  rw [List.lookup_cons_self]
theorem lk3 (r : Rg) : (rF r).lookup ("low_in" : Str) = some (D.bl r.li) := by
  unfold rF
  rw [List.lookup_cons, beq_ne f_ne2]
  show List.lookup _ (_ :: _) = _
  rw [List.lookup_cons, beq_ne f_ne4]
  show List.lookup _ (_ :: _) = _
  rw [List.lookup_cons_self]
theorem lk4 (r : Rg) : (rF r).lookup ("high_in" : Str) = some (D.bl r.hi') := by
  unfold rF
  rw [List.lookup_cons, beq_ne f_ne3]
  show List.lookup _ (_ :: _) = _
  rw [List.lookup_cons, beq_ne f_ne5]
  show List.lookup _ (_ :: _) = _
  rw [List.lookup_cons, beq_ne f_ne6]
  show List.lookup _ (_ :: _) = _
  rw [List.lookup_cons_self]
theorem rF_eq (a b : D) (x y : Bool) : putD "high_in" (.bl y) (putD "low_in" (.bl x) (putD "high" b (putD "low" a []))) = ([("low", a), ("high", b), ("low_in", .bl x), ("high_in", .bl y)] : List (Str × D)) := by
  simp [putD, f_ne1, f_ne2, f_ne3, f_ne4, f_ne5, f_ne6]
structure RCls (K : PySem.W.Frag) (C : Addr) : Prop where
  cl : Cls K C
  n1 : NoAttr K C "low"
  n2 : NoAttr K C "high"
  n3 : NoAttr K C "low_in"
  n4 : NoAttr K C "high_in"
/-- fields read -/
theorem RCls.f1 {K : PySem.W.Frag} {C : Addr} (T : RCls K C) : FldOk K (· = C) "low" := ⟨fun _ h => h ▸ ⟨T.cl, T.n1⟩⟩
theorem RCls.f2 {K : PySem.W.Frag} {C : Addr} (T : RCls K C) : FldOk K (· = C) "high" := ⟨fun _ h => h ▸ ⟨T.cl, T.n2⟩⟩
theorem RCls.f3 {K : PySem.W.Frag} {C : Addr} (T : RCls K C) : FldOk K (· = C) "low_in" := ⟨fun _ h => h ▸ ⟨T.cl, T.n3⟩⟩
theorem RCls.f4 {K : PySem.W.Frag} {C : Addr} (T : RCls K C) : FldOk K (· = C) "high_in" := ⟨fun _ h => h ▸ ⟨T.cl, T.n4⟩⟩
def spLess : SpD := fun ds n Q _ => ∃ a b, ds = [fD a, fD b] ∧ Fok a ∧ Fok b ∧ ∀ x, x = .bl (less a b) → Q x n
def spEmpty : SpD := fun ds n Q _ => ∃ lo hi li hi', ds = [eD lo, eD hi, .bl li, .bl hi'] ∧ Eok lo ∧ Eok hi ∧ ∀ x, x = .bl (void lo hi li hi') → Q x n
theorem call_less {a b : Fr2} {n : Nat} {Q : QD} {E : XD} (ha : Fok a) (hb : Fok b) (q : Q (.bl (less a b)) n) : spLess [fD a, fD b] n Q E := ⟨a, b, rfl, ha, hb, fun _ e => e ▸ q⟩
/-- the Range of these ends -/
def mkR (lo hi : Option Fr2) (li hi' : Bool) : Rg := ⟨lo, hi, li && lo.isSome, hi' && hi.isSome⟩
def iniR (NR : Addr) : SpI := fun ds n Q E => ∃ lo hi li hi', ds = [eD lo, eD hi, .bl li, .bl hi'] ∧ Eok lo ∧ Eok hi ∧ (void lo hi li hi' = true → E (.ref NR) [] n) ∧ (void lo hi li hi' = false → ∀ fs, fs = rF (mkR lo hi li hi') → Q fs n)
def loM : Option Fr2 → Bool → Fr2 → Bool
  | none, _, _ => true
  | some a, li, x => !(less x a || (decide (x = a) && !li))
def hiM : Option Fr2 → Bool → Fr2 → Bool
  | none, _, _ => true
  | some b, h, x => less x b || (decide (x = b) && h)
def Rg.has (r : Rg) (x : Fr2) : Bool := loM r.lo r.li x && hiM r.hi r.hi' x
def spHas (C : Addr) : SpD := fun ds n Q _ => ∃ r x, ds = [rD C r, fD x] ∧ r.ok ∧ Fok x ∧ ∀ y, y = .bl (r.has x) → Q y n
/-- an end with whether it is in it -/
def pD (e : Option Fr2) (b : Bool) : D := .tup [eD e, .bl b]
def endM (g : Bool) : Option Fr2 → Bool → Option Fr2 → Bool → Option Fr2 × Bool
  | none, _, e, b => (e, b)
  | some a, x, none, _ => (some a, x)
  | some a, x, some c, y => if a = c then (some a, x && y) else if less a c = g then (some c, y) else (some a, x)
def spEnd (g : Bool) : SpD := fun ds n Q _ => ∃ e b e' b', ds = [pD e b, pD e' b'] ∧ Eok e ∧ Eok e' ∧ ∀ y, y = pD (endM g e b e' b').1 (endM g e b e' b').2 → Q y n
theorem plt {f : Str} {v : D} : ∀ {fs : List (Str × D)} {k : Nat}, fs.length < k → (putD f v fs).length < k + 1
  | [], k, h => by simp [putD] at h ⊢; omega
  | (g, w) :: r, k, h => by
    rw [putD]
    split
    · simp at h ⊢; omega
    · have : r.length < k - 1 := by simp at h; omega
      have := plt (f := f) (v := v) this
      simp at h ⊢; omega
theorem eD_eq (a b : Fr2) : dpt 60 (fD a) = true ∧ dpt 60 (fD b) = true := ⟨rfl, rfl⟩
section
variable {P : Program} {w : World} {K : PySem.W.Frag} {mg : Str → Option Value} {base : Heap} {f : Addr} {fd : FuncData} {dvs : List V} {kvs : List (Str × V)}
abbrev DLess (P : Program) (w : World) (K : PySem.W.Frag) (mg : Str → Option Value) (base : Heap) : Prop := Fb false P w K mg base CX0 1 "is_lesser" 2 [] (fun ds _ => ds) (liftSp K spLess)
abbrev DEmpty (P : Program) (w : World) (K : PySem.W.Frag) (mg : Str → Option Value) (base : Heap) : Prop := Fb false P w K mg base CX0 2 "is_empty" 4 [] (fun ds _ => ds) (liftSp K spEmpty)
abbrev s_is_lesser : Stmt := top 7
theorem sc_is_lesser : FnScope ["one", "other"] ["one", "other"] (defScope s_is_lesser) := ⟨rfl, rfl, rfl, by decide +kernel, rfl, by decide +kernel, by decide +kernel⟩
theorem ok_is_lesser (F : FunD K "is_lesser" "is_lesser" (defArgs s_is_lesser) (defBody s_is_lesser) (defScope s_is_lesser) dvs kvs f fd) : FnX false P w K mg base CX0 1 f fd ["one", "other"] (liftSp K spLess) := by
  refine fnD F sc_is_lesser (fun ds n Q E h => ?_) (fun cdv A outer s H E Ed hg hr => ⟨_, DSs.nx (dss_one (ds_ret (de_lt (de_mul (de_ix (dv 0) de_int) (de_ix (dv 1) de_int)) (de_mul (de_ix (dv 1) de_int) (de_ix (dv 0) de_int))))), fun ds n Q h => ?_⟩)
  · obtain ⟨a, b, rfl, _⟩ := h; rfl
  · obtain ⟨a, b, rfl, ha, hb, q⟩ := h
    obtain ⟨m1, m2⟩ := Fok.mulW ha hb
    exact ⟨m1, m2, q _ rfl⟩
abbrev s_is_empty : Stmt := top 9
theorem sc_is_empty : FnScope ["low", "high", "low_in", "high_in"] ["low", "high", "low_in", "high_in"] (defScope s_is_empty) := ⟨rfl, rfl, rfl, by decide +kernel, rfl, by decide +kernel, by decide +kernel⟩
theorem ok_is_empty (F : FunD K "is_empty" "is_empty" (defArgs s_is_empty) (defBody s_is_empty) (defScope s_is_empty) dvs kvs f fd) (D_is_lesser : DLess P w K mg base) : FnX false P w K mg base CX0 2 f fd ["low", "high", "low_in", "high_in"] (liftSp K spEmpty) := by
  refine fnD F sc_is_empty (fun ds n Q E h => ?_) (fun cdv A outer s H E Ed hg hr => ⟨_, DSs.nx (dss_cons (ds_if (DW.dt (dw_or (dt_is (dv 0) de_non) (dw_or1 (dt_is (dv 1) de_non))))
    (dss_one (ds_ret de_bl))
    dss_nil)
  (dss_one (ds_ret (de_or (de_call (Fb.cal D_is_lesser (fun z => nomatch z) (hr.mono (by decide))) rfl (da_cons (dv 1) (da_cons (dv 0) da_nil))) (de_one (de_and (de_eq hr.units (dv 0) (dv 1)) (de_one (de_not (de_and (dv 2) (de_one (dv 3))))))))))), fun ds n Q h => ?_⟩)
  · obtain ⟨lo, hi, li, hi', rfl, _⟩ := h; rfl
  · obtain ⟨lo, hi, li, hi', rfl, h1, h2, q⟩ := h
    rcases lo with _ | a <;> rcases hi with _ | b
    all_goals walk_at "dd"
    all_goals first
      | exact q _ rfl
      | exact q _ (by simp_all [void, eqD_F, eD])
abbrev s_Range___init__ : Stmt := inClass (top 10) 0
theorem sc_Range___init__ : FnScope ["self", "low", "high", "low_in", "high_in"] ["self", "low", "high", "low_in", "high_in"] (defScope s_Range___init__) := ⟨rfl, rfl, rfl, by decide +kernel, rfl, by decide +kernel, by decide +kernel⟩
theorem ok_rinit {C NR : Addr} (F : FunD K "__init__" "Range.__init__" (defArgs s_Range___init__) (defBody s_Range___init__) (defScope s_Range___init__) dvs kvs f fd) (T : RCls K C) (D_is_empty : DEmpty P w K mg base) (R_NoRange : Rz0 K mg "NoRange" NR) : FnOk P w K mg base (L2.CX P w) 3 f fd ["self", "low", "high", "low_in", "high_in"] (spMk K C (iniR NR)) := by
  refine fnI F sc_Range___init__ (fun ds n Q E h => ?_) (fun cdv A outer s H E Ed hr => ⟨_, (dz_cons (ds_if (dt_tru (de_call (Fb.cal D_is_empty (fun z => nomatch z) (hr.mono (by decide))) rfl (da_cons (dv 1) (da_cons (dv 2) (da_cons (dv 3) (da_cons (dv 4) da_nil))))))
    (dss_one (ds_raise0 (takes_of rfl rfl rfl rfl) R_NoRange))
    dss_nil)
(dz_go (dn_fld T.cl T.n1 (dv 1)
(dn_fld T.cl T.n2 (dv 2)
(dn_fld T.cl T.n3 (de_and (dv 3) (de_one (de_isnt (dv 1) de_non)))
(dn_fld T.cl T.n4 (de_and (dv 4) (de_one (de_isnt (dv 2) de_non)))
dn_nil)))))), fun a ds n Q h => ?_⟩)
  · obtain ⟨lo, hi, li, hi', rfl, _⟩ := h; rfl
  · obtain ⟨lo, hi, li, hi', rfl, h1, h2, kE, kQ⟩ := h
    refine ⟨rfl, rfl, lo, hi, li, hi', rfl, h1, h2, fun x e => ?_⟩
    subst e
    refine ⟨fun c => kE c, fun c => ⟨rfl, rfl, by decide, by show 1 < 900; decide, ?_⟩⟩
    have fin : ∀ x y, x = (li && lo.isSome) → y = (hi' && hi.isSome) → Q (putD "high_in" (.bl y) (putD "low_in" (.bl x) (putD "high" (eD hi) (putD "low" (eD lo) [])))) n := fun x y e1 e2 => by
      rw [rF_eq, e1, e2]; exact kQ c _ rfl
    rcases lo with _ | a <;> rcases hi with _ | b <;> cases li <;> cases hi'
    all_goals walk_at "dd"
    all_goals first
      | exact fin _ _ rfl rfl
      | exact plt (by decide)
      | exact plt (plt (by decide))
      | exact plt (plt (plt (by decide)))
abbrev s_Range_has : Stmt := inClass (top 10) 3
theorem sc_Range_has : FnScope ["self", "number"] ["self", "number"] (defScope s_Range_has) := ⟨rfl, rfl, rfl, by decide +kernel, rfl, by decide +kernel, by decide +kernel⟩
theorem ok_rhas {C : Addr} (F : FunD K "has" "Range.has" (defArgs s_Range_has) (defBody s_Range_has) (defScope s_Range_has) dvs kvs f fd) (T : RCls K C) (D_is_lesser : DLess P w K mg base) : FnX false P w K mg base CX0 2 f fd ["self", "number"] (liftSp K (spHas C)) := by
  have F_low := T.f1
  have F_high := T.f2
  have F_low_in := T.f3
  have F_high_in := T.f4
  refine fnD F sc_Range_has (fun ds n Q E h => ?_) (fun cdv A outer s H E Ed hg hr => ⟨_, DSs.nx (dss_cons (ds_if (DW.dt (dw_and (dt_isnt (de_fld F_low (dv 0)) de_non) (dw_and1 (DW.dt (dw_or (dt_tru (de_call (Fb.cal D_is_lesser (fun z => nomatch z) (hr.mono (by decide))) rfl (da_cons (dv 1) (da_cons (de_fld F_low (dv 0)) da_nil)))) (dw_or1 (DW.dt (dw_and (dt_eq hr.units (dv 1) (de_fld F_low (dv 0))) (dw_and1 (dt_not (dt_tru (de_fld F_low_in (dv 0)))))))))))))
    (dss_one (ds_ret de_bl))
    dss_nil)
  (dss_one (ds_ret (de_or (de_is (de_fld F_high (dv 0)) de_non) (de_or (de_call (Fb.cal D_is_lesser (fun z => nomatch z) (hr.mono (by decide))) rfl (da_cons (dv 1) (da_cons (de_fld F_high (dv 0)) da_nil))) (de_one (de_and (de_eq hr.units (dv 1) (de_fld F_high (dv 0))) (de_one (de_fld F_high_in (dv 0)))))))))), fun ds n Q h => ?_⟩)
  · obtain ⟨r, x, rfl, _⟩ := h; rfl
  · obtain ⟨⟨lo, hi, li, hi'⟩, x, rfl, ⟨h1, h2⟩, hx, q⟩ := h
    rcases lo with _ | a <;> rcases hi with _ | b
    all_goals walk_at "dd"
    all_goals first
      | exact q _ rfl
      | exact q _ (by simp_all [Rg.has, loM, hiM, eqD_F, eD])
abbrev s_greater_end : Stmt := top 14
theorem sc_greater_end : FnScope ["one", "other"] ["one", "other"] (defScope s_greater_end) := ⟨rfl, rfl, rfl, by decide +kernel, rfl, by decide +kernel, by decide +kernel⟩
theorem ok_greater_end (F : FunD K "greater_end" "greater_end" (defArgs s_greater_end) (defBody s_greater_end) (defScope s_greater_end) dvs kvs f fd) (D_is_lesser : DLess P w K mg base) : FnX false P w K mg base CX0 2 f fd ["one", "other"] (liftSp K (spEnd true)) := by
  refine fnD F sc_greater_end (fun ds n Q E h => ?_) (fun cdv A outer s H E Ed hg hr => ⟨_, DSs.nx (dss_cons (ds_if (DW.dt (dw_or (dt_is (de_ix (dv 0) de_int) de_non) (dw_or1 (dt_is (de_ix (dv 1) de_int) de_non))))
    (dss_one (ds_ret (de_ifExp (dt_is (de_ix (dv 0) de_int) de_non) (dv 1) (dv 0))))
    dss_nil)
  (dss_cons (ds_if (dt_eq hr.units (de_ix (dv 0) de_int) (de_ix (dv 1) de_int))
    (dss_one (ds_ret (de_tup (da_cons (de_ix (dv 0) de_int) (da_cons (de_and (de_ix (dv 0) de_int) (de_one (de_ix (dv 1) de_int))) da_nil)))))
    dss_nil)
  (dss_one (ds_ret (de_ifExp (dt_tru (de_call (Fb.cal D_is_lesser (fun z => nomatch z) (hr.mono (by decide))) rfl (da_cons (de_ix (dv 0) de_int) (da_cons (de_ix (dv 1) de_int) da_nil)))) (dv 1) (dv 0)))))), fun ds n Q h => ?_⟩)
  · obtain ⟨e, b, e', b', rfl, _⟩ := h; rfl
  · obtain ⟨e, b, e', b', rfl, h1, h2, q⟩ := h
    rcases e with _ | a <;> rcases e' with _ | c
    all_goals walk_at "dd"
    all_goals first
      | exact q _ rfl
      | exact q _ (by simp_all [endM, eqD_F, eD, pD])
abbrev s_lesser_end : Stmt := top 15
theorem sc_lesser_end : FnScope ["one", "other"] ["one", "other"] (defScope s_lesser_end) := ⟨rfl, rfl, rfl, by decide +kernel, rfl, by decide +kernel, by decide +kernel⟩
theorem ok_lesser_end (F : FunD K "lesser_end" "lesser_end" (defArgs s_lesser_end) (defBody s_lesser_end) (defScope s_lesser_end) dvs kvs f fd) (D_is_lesser : DLess P w K mg base) : FnX false P w K mg base CX0 2 f fd ["one", "other"] (liftSp K (spEnd false)) := by
  refine fnD F sc_lesser_end (fun ds n Q E h => ?_) (fun cdv A outer s H E Ed hg hr => ⟨_, DSs.nx (dss_cons (ds_if (DW.dt (dw_or (dt_is (de_ix (dv 0) de_int) de_non) (dw_or1 (dt_is (de_ix (dv 1) de_int) de_non))))
    (dss_one (ds_ret (de_ifExp (dt_is (de_ix (dv 0) de_int) de_non) (dv 1) (dv 0))))
    dss_nil)
  (dss_cons (ds_if (dt_eq hr.units (de_ix (dv 0) de_int) (de_ix (dv 1) de_int))
    (dss_one (ds_ret (de_tup (da_cons (de_ix (dv 0) de_int) (da_cons (de_and (de_ix (dv 0) de_int) (de_one (de_ix (dv 1) de_int))) da_nil)))))
    dss_nil)
  (dss_one (ds_ret (de_ifExp (dt_tru (de_call (Fb.cal D_is_lesser (fun z => nomatch z) (hr.mono (by decide))) rfl (da_cons (de_ix (dv 0) de_int) (da_cons (de_ix (dv 1) de_int) da_nil)))) (dv 0) (dv 1)))))), fun ds n Q h => ?_⟩)
  · obtain ⟨e, b, e', b', rfl, _⟩ := h; rfl
  · obtain ⟨e, b, e', b', rfl, h1, h2, q⟩ := h
    rcases e with _ | a <;> rcases e' with _ | c
    all_goals walk_at "dd"
    all_goals first
      | exact q _ rfl
      | exact q _ (by simp_all [endM, eqD_F, eD, pD])
end
end Lw

namespace Lw
open PySem PySem.Spec PyProof.Rows L2 Fw Dw
theorem dpt_E (e : Option Fr2) (k : Nat) : dpt (k + 1) (eD e) = true := by cases e <;> rfl
theorem py_E : ∀ e e' : Option Fr2, eqD (eD e) (eD e') = decide (e = e')
  | none, none => rfl
  | none, some b => rfl
  | some a, none => rfl
  | some a, some b => by
    show eqD (fD a) (fD b) = _
    rw [eqD_F]
    by_cases h : a = b <;> simp [h]
theorem eqD_4 (a b c d a' b' c' d' : D) : eqD (.tup [a, b, c, d]) (.tup [a', b', c', d']) = (eqD a a' && (eqD b b' && (eqD c c' && eqD d d'))) := by
  show PyData.eqvAll (pyL [a, b, c, d]) (pyL [a', b', c', d']) = _
  simp [pyL, PyData.eqvAll, eqD]
theorem eqD_bl (a b : Bool) : eqD (.bl a) (.bl b) = (a == b) := rfl
def rT (r : Rg) : D := .tup [eD r.lo, eD r.hi, .bl r.li, .bl r.hi']
theorem dpt_rT (r : Rg) : dpt 60 (rT r) = true := by
  unfold rT
  simp [dpt, dptL, dpt_E]
theorem eqD_rT (r s : Rg) : eqD (rT r) (rT s) = decide (r = s) := by
  obtain ⟨a, b, c, d⟩ := r
  obtain ⟨a', b', c', d'⟩ := s
  unfold rT
  rw [eqD_4, py_E, py_E, eqD_bl, eqD_bl]
  by_cases h1 : a = a' <;> by_cases h2 : b = b' <;> cases c <;> cases c' <;> cases d <;> cases d' <;> simp [h1, h2]
/-- no own object -/
def noObj : D → Bool
  | .obj _ _ => false
  | _ => true
def spREq (K : PySem.W.Frag) (C : Addr) : SpD := fun ds n Q _ => (∃ r s, ds = [rD C r, rD C s] ∧ r.ok ∧ s.ok ∧ ∀ x, x = .bl (decide (r = s)) → Q x n) ∨ ∃ r y t, ds = [rD C r, y] ∧ r.ok ∧ noObj y = true ∧ TyD K y t ∧ PySem.W.kitOne K t (.ref C) = some false ∧ Q (.bl false) n
/-- what two Ranges have in common -/
def meetM (r s : Rg) : Option Rg :=
  let l := endM true r.lo r.li s.lo s.li
  let h := endM false r.hi r.hi' s.hi s.hi'
  if void l.1 h.1 l.2 h.2 = true then none else some (mkR l.1 h.1 l.2 h.2)
def oD (C : Addr) : Option Rg → D
  | none => .non
  | some r => rD C r
theorem endM_ok {g : Bool} {e e' : Option Fr2} {b b' : Bool} (h : Eok e) (h' : Eok e') : Eok (endM g e b e' b').1 := by
  rcases e with _ | a <;> rcases e' with _ | c
  · exact h
  · exact h'
  · exact h
  · show Eok (if a = c then (some a, b && b') else if less a c = g then (some c, b') else (some a, b)).1
    split
    · exact h
    · split
      · exact h'
      · exact h
def spMeet (C : Addr) : SpD := fun ds n Q _ => ∃ r s, ds = [rD C r, rD C s] ∧ r.ok ∧ s.ok ∧ ∀ x, x = oD C (meetM r s) → Q x n
def gRange (ds es : List D) : List D := ds ++ es
section
variable {P : Program} {w : World} {K : PySem.W.Frag} {mg : Str → Option Value} {base : Heap} {f : Addr} {fd : FuncData} {dvs : List V} {kvs : List (Str × V)}
abbrev s_Range___eq__ : Stmt := inClass (top 10) 1
theorem sc_Range___eq__ : FnScope ["self", "other"] ["self", "other"] (defScope s_Range___eq__) := ⟨rfl, rfl, rfl, by decide +kernel, rfl, by decide +kernel, by decide +kernel⟩
theorem ok_req {C : Addr} (F : FunD K "__eq__" "Range.__eq__" (defArgs s_Range___eq__) (defBody s_Range___eq__) (defScope s_Range___eq__) dvs kvs f fd) (T : RCls K C) (I : IsK K C) (me : PySem.W.kitOne K (.ref C) (.ref C) = some true) (mg_Range : mg "Range" = some (.ref C)) (mg_isinstance : mg "isinstance" = none) :
    FnX false P w K mg base CX0 1 f fd ["self", "other"] (liftSp K (spREq K C)) := by
  have F_low := T.f1
  have F_high := T.f2
  have F_low_in := T.f3
  have F_high_in := T.f4
  refine fnD F sc_Range___eq__ (fun ds n Q E h => ?_) (fun cdv A outer s H E Ed hg hr => ⟨_, DSs.nx (dss_cons (ds_if (dt_not (dt_tru (de_isi mg_isinstance (da_cons (dv 1) (da_cons (de_gval rfl mg_Range) da_nil)))))
    (dss_one (ds_ret de_bl))
    dss_nil)
  (dss_one (ds_ret (de_eq hr.units (de_tup (da_cons (de_fld F_low (dv 0)) (da_cons (de_fld F_high (dv 0)) (da_cons (de_fld F_low_in (dv 0)) (da_cons (de_fld F_high_in (dv 0)) da_nil))))) (de_tup (da_cons (de_fld F_low (dv 1)) (da_cons (de_fld F_high (dv 1)) (da_cons (de_fld F_low_in (dv 1)) (da_cons (de_fld F_high_in (dv 1)) da_nil))))))))), fun ds n Q h => ?_⟩)
  · rcases h with ⟨r, s, rfl, _⟩ | ⟨r, y, t, rfl, _⟩ <;> rfl
  · rcases h with ⟨r, s, rfl, h1, h2, q⟩ | ⟨r, y, t, rfl, h1, h2, h3, h4, q⟩
    · refine ⟨.ref C, .ref C, true, .obj _ I, rfl, me, nofun, fun _ => ?_⟩
      have q' : (fun x n => Q x n) (.bl (eqD (rT r) (rT s))) n := by
        rw [eqD_rT]; exact q _ rfl
      exact ⟨rfl, rfl, rfl, rfl, szl (by simp), rfl, rfl, rfl, rfl, szl (by simp), dpt_rT r, dpt_rT s, q'⟩
    · cases h3 <;> first | cases h2; done | exact ⟨_, .ref C, false, by constructor, rfl, h4, fun _ => q, nofun⟩
abbrev s_Range_meet : Stmt := inClass (top 10) 4
theorem sc_Range_meet : FnScope ["self", "other", "low", "low_in", "high", "high_in"] ["self", "other"] (defScope s_Range_meet) := ⟨rfl, rfl, rfl, by decide +kernel, rfl, by decide +kernel, by decide +kernel⟩
theorem ok_rmeet {C NR : Addr} (F : FunD K "meet" "Range.meet" (defArgs s_Range_meet) (defBody s_Range_meet) (defScope s_Range_meet) dvs kvs f fd) (T : RCls K C) (D_greater_end : Fb false P w K mg base CX0 2 "greater_end" 2 [] (fun ds _ => ds) (liftSp K (spEnd true))) (D_lesser_end : Fb false P w K mg base CX0 2 "lesser_end" 2 [] (fun ds _ => ds) (liftSp K (spEnd false)))
    (D_is_empty : DEmpty P w K mg base) (D_Range_low_in_high_in : Mb P w K mg base (L2.CX P w) 3 "Range" C 2 ["low_in", "high_in"] gRange (iniR NR)) : FnX false P w K mg base CX0 5 f fd ["self", "other"] (liftSp K (spMeet C)) := by
  have F_low := T.f1
  have F_high := T.f2
  have F_low_in := T.f3
  have F_high_in := T.f4
  refine fnD F sc_Range_meet (fun ds n Q E h => ?_) (fun cdv A outer s H E Ed hg hr => ⟨_, DSs.nx (dss_cons (ds_asg [] (de_call (Fb.cal D_greater_end (fun z => nomatch z) (hr.mono (by decide))) rfl (da_cons (de_tup (da_cons (de_fld F_low (dv 0)) (da_cons (de_fld F_low_in (dv 0)) da_nil))) (da_cons (de_tup (da_cons (de_fld F_low (dv 1)) (da_cons (de_fld F_low_in (dv 1)) da_nil))) da_nil))) (dg_tup (by rfl) (dgs_cons (dg_name (i := 2) sc_Range_meet.nd rfl (.inl rfl)) (dgs_cons (dg_name (i := 3) sc_Range_meet.nd rfl (.inl rfl)) dgs_nil))))
  (dss_cons (ds_asg [] (de_call (Fb.cal D_lesser_end (fun z => nomatch z) (hr.mono (by decide))) rfl (da_cons (de_tup (da_cons (de_fld F_high (dv 0)) (da_cons (de_fld F_high_in (dv 0)) da_nil))) (da_cons (de_tup (da_cons (de_fld F_high (dv 1)) (da_cons (de_fld F_high_in (dv 1)) da_nil))) da_nil))) (dg_tup (by rfl) (dgs_cons (dg_name (i := 4) sc_Range_meet.nd rfl (.inl rfl)) (dgs_cons (dg_name (i := 5) sc_Range_meet.nd rfl (.inl rfl)) dgs_nil))))
  (dss_cons (ds_if (dt_tru (de_call (Fb.cal D_is_empty (fun z => nomatch z) (hr.mono (by decide))) rfl (da_cons (dv 2) (da_cons (dv 4) (da_cons (dv 3) (da_cons (dv 5) da_nil))))))
    (dss_one (ds_ret de_non))
    dss_nil)
  (dss_one (ds_ret (de_callK (Mb.calX D_Range_low_in_high_in takes0 (hr.mono (by decide))) rfl (da_cons (dv 2) (da_cons (dv 4) da_nil)) (dk_cons (dv 3) (dk_cons (dv 5) dk_nil)))))))), fun ds n Q h => ?_⟩)
  · obtain ⟨r, s, rfl, _⟩ := h; rfl
  · obtain ⟨r, s, rfl, ⟨h1, h2⟩, ⟨h3, h4⟩, q⟩ := h
    refine ⟨rfl, rfl, szl (by simp), rfl, rfl, szl (by simp), rfl, rfl, r.lo, r.li, s.lo, s.li, rfl, h1, h3, fun y e => ?_⟩
    subst e
    refine ⟨rfl, rfl, rfl, szl (by simp), rfl, rfl, szl (by simp), rfl, rfl, r.hi, r.hi', s.hi, s.hi', rfl, h2, h4, fun y e => ?_⟩
    subst e
    have k1 := endM_ok (g := true) (b := r.li) (b' := s.li) h1 h3
    have k2 := endM_ok (g := false) (b := r.hi') (b' := s.hi') h2 h4
    refine ⟨rfl, rfl, rfl, _, _, _, _, rfl, k1, k2, fun x e => ?_⟩
    subst e
    refine ⟨fun c => q _ ?_, fun c => ⟨rfl, rfl, _, _, _, _, rfl, k1, k2, fun z => ?_, fun z fs e => q _ ?_⟩⟩
    · simp only [meetM, c, if_true]; rfl
    · rw [c] at z; cases z
    · subst e
      have c' := c
      simp only [meetM, c]; rfl
end
end Lw

namespace Lw
open PySem PySem.Spec PyProof.Rows L2 Fw Dw
/-- all but what stands at p is as it was; the feed at p keeps its cells -/
structure But (p : Addr) (H H' : Hp) : Prop where
  to : ∀ b o, H b = some o → b ≠ p → H' b = some o
  cells : ∀ c a l, H p = some (.dK (fdK c a l)) → ∃ a' l', H' p = some (.dK (fdK c a' l'))
instance {p : Addr} {H H' : Hp} : CoeFun (But p H H') fun _ => ∀ b o, H b = some o → b ≠ p → H' b = some o := ⟨But.to⟩
theorem But.refl (p : Addr) (H : Hp) : But p H H := ⟨fun _ _ h _ => h, fun _ a l h => ⟨a, l, h⟩⟩
theorem But.trans {p : Addr} {H H1 H2 : Hp} (a : But p H H1) (b : But p H1 H2) : But p H H2 := ⟨fun c o h n => b c o (a c o h n) n, fun c x y h => by
  obtain ⟨x', y', h'⟩ := a.cells c x y h
  exact b.cells c x' y' h'⟩
theorem But.of {p : Addr} {H H' : Hp} (h : ∀ b o, H b = some o → H' b = some o) : But p H H' := ⟨fun b o e _ => h b o e, fun c a l e => ⟨a, l, h _ _ e⟩⟩
theorem But.new {p q : Addr} {o : HO} {H : Hp} (h : H q = none) : But p H (upd H q o) := But.of fun b u e => by
  rw [upd_ne (ne_of_none e h)]; exact e
theorem But.at {p c : Addr} {a l : Int} {o : HO} {H : Hp} (h : H p = some (.dK (fdK c a l))) (ho : ∃ a' l', o = .dK (fdK c a' l')) : But p H (upd H p o) := by
  refine ⟨fun b u e n => by rw [upd_ne n]; exact e, fun c' a' l' e => ?_⟩
  obtain ⟨x, y, rfl⟩ := ho
  rw [h] at e
  have z := congrArg (fun o => match o with | some (HO.dK ((_, V.ref c) :: _)) => c | _ => 0) e
  have z' : c = c' := z
  subst z'
  exact ⟨x, y, upd_same⟩
theorem Same.but {p : Addr} {H H' : Hp} (a : Same H H') : But p H H' := But.of a
/-- something of one's own, made behind the feed, is changed -/
theorem _root_.Dw.Feed.put {H0 H : Hp} {p D : Addr} {n m : Nat} {o : HO} (F : Feed H0 p n) (hD : H0 D = none) (B : But p H0 H) (F2 : Feed H p m) : Feed (upd H D o) p m := by
  obtain ⟨c, ns, a, l, h1, h2, _⟩ := F
  obtain ⟨c', ns', a', l', g1, g2, g3, g4, g5⟩ := F2
  obtain ⟨x, y, e⟩ := B.cells c a l h1
  rw [g1] at e
  have z := congrArg (fun o => match o with | some (HO.dK ((_, V.ref c) :: _)) => c | _ => 0) e
  have z' : c' = c := z
  subst z'
  exact ⟨c', ns', a', l', by rw [upd_ne (ne_of_none h1 hD)]; exact g1, by rw [upd_ne (ne_of_none h2 hD)]; exact g2, g3, g4, g5⟩
/-- .. and so all else is as it was -/
theorem But.put {H0 H : Hp} {p D : Addr} {o : HO} (B : But p H0 H) (hD : H0 D = none) (hp : ∃ u, H0 p = some u) : But p H0 (upd H D o) := by
  obtain ⟨u, hu⟩ := hp
  refine ⟨fun b v e n => by rw [upd_ne (ne_of_none e hD)]; exact B b v e n, fun c a l e => ?_⟩
  obtain ⟨a', l', z⟩ := B.cells c a l e
  exact ⟨a', l', by rw [upd_ne (ne_of_none hu hD)]; exact z⟩
theorem _root_.Dw.Feed.mono {H : Hp} {p : Addr} {n m : Nat} (f : Feed H p n) (h : n ≤ m) : Feed H p m := by
  obtain ⟨c, ns, a, l, h1, h2, h3, h4, h5⟩ := f
  exact ⟨c, ns, a, l, h1, h2, h3, by omega, h5⟩
theorem _root_.Dw.Feed.same {H H' : Hp} {p : Addr} {n : Nat} (f : Feed H p n) (s : Same H H') : Feed H' p n := by
  obtain ⟨c, ns, a, l, h1, h2, h3, h4, h5⟩ := f
  exact ⟨c, ns, a, l, s _ _ h1, s _ _ h2, h3, h4, h5⟩
theorem same_new {H : Hp} {q : Addr} {o : HO} (h : H q = none) : Same H (upd H q o) := fun b u e => by
  rw [upd_ne (ne_of_none e h)]; exact e
theorem _root_.Dw.Feed.new {H : Hp} {p q : Addr} {o : HO} {n : Nat} (f : Feed H p n) (h : H q = none) : Feed (upd H q o) p n := f.same (same_new h)
theorem _root_.Dw.Feed.ex {H : Hp} {p : Addr} {n : Nat} (f : Feed H p n) : ∃ kvs, H p = some (.dK kvs) := by
  obtain ⟨c, ns, a, l, h1, _⟩ := f
  exact ⟨_, h1⟩
theorem _root_.Dw.Feed.ne {H : Hp} {p q : Addr} {n : Nat} {o : HO} (f : Feed H p n) (h : H q = some o) (ho : ∀ kvs, o ≠ .dK kvs) : q ≠ p := by
  obtain ⟨kvs, e⟩ := f.ex
  exact ne_of h e (ho kvs)
theorem s_ne1 : ¬ ("cells" : Str) = "at" := by decide +kernel
theorem s_ne2 : ¬ ("cells" : Str) = "left" := by decide +kernel
theorem s_ne3 : ¬ ("at" : Str) = "left" := by decide +kernel
theorem k_ne1 : ¬ (Sum.inr (Str.ofString "cells") : Key) = Sum.inr (Str.ofString "at") := fun e => s_ne1 (Sum.inr.inj e)
theorem k_ne2 : ¬ (Sum.inr (Str.ofString "cells") : Key) = Sum.inr (Str.ofString "left") := fun e => s_ne2 (Sum.inr.inj e)
theorem k_ne3 : ¬ (Sum.inr (Str.ofString "at") : Key) = Sum.inr (Str.ofString "left") := fun e => s_ne3 (Sum.inr.inj e)
theorem v_cells (c : Addr) (a l : Int) : valV (fdK c a l) (Sum.inr "cells") = some (.ref c) := by
  unfold fdK; rw [valV_pos rfl]
theorem v_at (c : Addr) (a l : Int) : valV (fdK c a l) (Sum.inr "at") = some (.int a) := by
  unfold fdK; rw [valV_neg k_ne1, valV_pos rfl]
theorem v_left (c : Addr) (a l : Int) : valV (fdK c a l) (Sum.inr "left") = some (.int l) := by
  unfold fdK; rw [valV_neg k_ne2, valV_neg k_ne3, valV_pos rfl]
theorem p_at (c : Addr) (a l b : Int) : putK (fdK c a l) (Sum.inr "at") (.int b) = fdK c b l := by
  unfold putK fdK
  rw [if_pos (by simp)]
  simp [s_ne1, Ne.symm s_ne3]
theorem p_left (c : Addr) (a l b : Int) : putK (fdK c a l) (Sum.inr "left") (.int b) = fdK c a b := by
  unfold putK fdK
  rw [if_pos (by simp)]
  simp [s_ne2, s_ne3]
theorem fdK_len (c : Addr) (a l : Int) : (fdK c a l).length < sizeLine := by
  show 3 < sizeLine
  decide
/-- a draw: some number from 0 on, less than m -/
def spDraw : Sp := fun vs H Q _ => ∃ (p : Addr) (m : Int) (n : Nat), vs = [.ref p, .int m] ∧ 0 < m ∧ m < 2 ^ 200 ∧ Feed H p n ∧ n < 1000000000 ∧
  ∀ (r : Int) (H' : Hp), 0 ≤ r → r < m → Feed H' p (n + 1) → But p H H' → Q (.int r) H'
theorem dp_ints {K : PySem.W.Frag} {H : Hp} : ∀ ns : List Int, DpAll K H (ns.map V.int) (ns.map PyData.int)
  | [] => .nil
  | n :: r => .cons (.int n) (dp_ints r)
theorem lay_ints : ∀ ns : List Int, PyData.canLayAll0 (ns.map PyData.int) = true
  | [] => rfl
  | n :: r => by
    show (PyData.canLay0 (.int n) && PyData.canLayAll0 (r.map PyData.int)) = true
    rw [lay_ints r]; rfl
theorem depth_ints : ∀ ns : List Int, PyData.depthAll (ns.map PyData.int) = 0
  | [] => rfl
  | n :: r => by
    show max (PyData.depth (.int n)) (PyData.depthAll (r.map PyData.int)) = 0
    rw [depth_ints r]; rfl
theorem shaped_ints (ns : List Int) : SeqAt.shaped (.list (ns.map PyData.int)) = true := by
  show (PyData.canLayAll0 (ns.map PyData.int) && decide (PyData.depthAll (ns.map PyData.int) + 1 ≤ 64)) = true
  rw [lay_ints, depth_ints]; rfl
section
variable {P : Program} {w : World} {K : PySem.W.Frag} {mg : Str → Option Value} {base : Heap}
abbrev s_draw : Stmt := top 18
theorem sc__law_draw : FnScope ["_law_feed_here", "_law_many", "_law_digit", "_law_at", "_law_cell", "_law_number", "_law_turn"] ["_law_feed_here", "_law_many"] (defScope s_draw) :=
  ⟨rfl, rfl, rfl, by decide +kernel, rfl, by decide +kernel,
    by decide +kernel⟩
theorem ok_draw {f : Addr} {fd : FuncData} (F : FnP K "_law_draw" s_draw f fd) (mg_len : mg "len" = none) (mg_abs : mg "abs" = none) (mg_range : mg "range" = none) :
    FnOk P w K mg base CX0 1 f fd ["_law_feed_here", "_law_many"] spDraw := by
  refine F.ok sc__law_draw (fun vs H Q E h => ?_) (fun cdv A outer s H vs Q E hr h => ?_)
  · obtain ⟨p, m, n, rfl, _⟩ := h
    rfl
  · obtain ⟨p, m, n, rfl, hm, hm2, hF, hn, k⟩ := h
    have hu := hu_of hr
    have hmn : m.natAbs < 2 ^ 201 := by
      have h1 : (m.natAbs : Int) < ((2 ^ 201 : Nat) : Int) := by
        have e : ((2 ^ 201 : Nat) : Int) = 2 ^ 201 := by norm_cast
        rw [e]; omega
      exact Int.ofNat_lt.mp h1
    have hmw : ∀ i : Int, CDivW i m := fun i => ⟨hm, Nat.lt_of_lt_of_le (PySem.Flt.log2_lt_of (k := 201) (by decide) hmn) (by decide)⟩
    refine ⟨_, PSs.nox (pss_cons (ps_if (pt_cmpR op_gt (pe_dget hu (pv 0) pe_str (fun _ _ => rfl)) pe_int (nomark _))
    (pss_cons (ps_set (i := 2) sc__law_draw.nd rfl (Or.inl rfl) (pe_op op_mod (pe_dget hu (pv 0) pe_str (fun _ _ => rfl)) (pv 1)))
      (pss_cons (ps_dput hu (pv 0) pe_str (pe_op op_fdivW (pe_dget hu (pv 0) pe_str (fun _ _ => rfl)) (pv 1)) rfl)
      (pss_one (ps_ret (pv 2)))))
    pss_nil)
  (pss_cons (ps_set (i := 3) sc__law_draw.nd rfl (Or.inl rfl) (pe_dget hu (pv 0) pe_str (fun _ _ => rfl)))
  (pss_cons (ps_dput hu (pv 0) pe_str (pe_op op_add (pv 3) pe_int) rfl)
  (pss_cons (ps_set (i := 4) sc__law_draw.nd rfl (Or.inl rfl) (pe_op op_add (pe_op op_mul (pv 3) (pv 3)) pe_int))
  (C8.pss_cut (ps_if (pt_cmpR (op_neD hr.units) (pe_dget hu (pv 0) pe_str (fun _ _ => rfl)) (pe_lst pa_nil) (nomark _))
    (pss_one (ps_set (i := 4) sc__law_draw.nd rfl (Or.inl rfl) (pe_ix ix_list (pe_dget hu (pv 0) pe_str (fun _ _ => rfl)) (pe_op op_mod (pv 3) (pe_callB call_len_seq (by rfl) mg_len (by decide +kernel) (pa_cons (pe_dget hu (pv 0) pe_str (fun _ _ => rfl)) pa_nil))) (fun _ _ => rfl))))
    pss_nil)
  (C8.pss_cut (ps_if (PW.pt (pw_and (pt_cmpR op_lt (pv 3) (pe_callB call_len_seq (by rfl) mg_len (by decide +kernel) (pa_cons (pe_dget hu (pv 0) pe_str (fun _ _ => rfl)) pa_nil)) (nomark _)) (pw_and1 (pt_cmpR op_ge (pe_callB call_abs (by rfl) mg_abs (by decide +kernel) (pa_cons (pv 4) pa_nil)) (pe_op op_pow pe_int pe_int) (nomark _)))))
    (pss_cons (ps_dput hu (pv 0) pe_str (pe_op op_fdivW (pe_callB call_abs (by rfl) mg_abs (by decide +kernel) (pa_cons (pv 4) pa_nil)) (pv 1)) rfl)
      (pss_one (ps_ret (pe_op op_mod (pe_callB call_abs (by rfl) mg_abs (by decide +kernel) (pa_cons (pv 4) pa_nil)) (pv 1)))))
    pss_nil)
  (pss_cons (ps_set (i := 5) sc__law_draw.nd rfl (Or.inl rfl) (pe_op op_mod (pe_op op_mul (pe_op op_add (pe_op op_add (pe_op op_mod (pv 4) pe_int) (pe_op op_mul pe_int (pv 3))) pe_int) pe_int) pe_int))
  (pss_cons (ps_for PassesOwn.never rfl (pi_range1 (by rfl) mg_range (pa_cons pe_int pa_nil)) (pg_name (i := 6) sc__law_draw.nd rfl (.inl rfl))
    (pss_cons (ps_set (i := 5) sc__law_draw.nd rfl (Or.inl rfl) (pe_op op_add (pe_op op_add (pe_op op_add (pe_op op_mul (pv 5) (pv 5)) (pe_op op_mul pe_int (pv 5))) (pv 3)) (pv 6)))
      (pss_one (ps_set (i := 5) sc__law_draw.nd rfl (Or.inl rfl) (pe_op op_mod (pv 5) pe_int)))))
  (pss_one (ps_ret (pe_op op_mod (pe_op op_fdivW (pv 5) pe_int) (pv 1)))))))))))), ?_⟩
    obtain ⟨c, ns, a, l, h1, h2, ha, han, hl⟩ := hF
    have g1 : ∀ H1 : Hp, H1 p = some (.dK (fdK c a l)) → DGet H1 p (.str "left") (some (.int l)) := fun H1 e => by
      have z := DGet.k (k := Sum.inr "left") e; rw [v_left] at z; exact z
    have g2 : ∀ (H1 : Hp) (a l : Int), H1 p = some (.dK (fdK c a l)) → DGet H1 p (.str "at") (some (.int a)) := fun H1 a l e => by
      have z := DGet.k (k := Sum.inr "at") e; rw [v_at] at z; exact z
    have g3 : ∀ (H1 : Hp) (a l : Int), H1 p = some (.dK (fdK c a l)) → DGet H1 p (.str "cells") (some (.ref c)) := fun H1 a l e => by
      have z := DGet.k (k := Sum.inr "cells") e; rw [v_cells] at z; exact z
    have ncp : c ≠ p := ne_of h2 h1 (by intro z; cases z)
    -- left > 0
    refine ⟨_, rfl, p, _, rfl, g1 H h1, _, _, rfl, rfl, _, rfl, ?_⟩
    refine ite2 (fun _ => ?_) (fun _ => ?_)
    · refine ⟨_, rfl, p, _, rfl, g1 H h1, _, rfl, _, _, rfl, rfl, hm, ?_⟩
      refine ⟨_, rfl, p, _, rfl, g1 H h1, _, rfl, _, _, rfl, rfl, hmw _, _, rfl, p, _, rfl, DPut.k (k := Sum.inr "left") h1 (fdK_len _ _ _), ?_⟩
      refine ⟨_, rfl, ?_⟩
      refine k _ _ (Int.emod_nonneg _ (by omega)) (Int.emod_lt_of_pos _ hm) ⟨c, ns, a, l / m, ?_, ?_, ha, by omega, Int.ediv_nonneg hl (by omega)⟩ (But.at h1 ⟨_, _, by rw [p_left]⟩)
      · rw [upd_same, p_left]
      · rw [upd_ne ncp]; exact h2
    · -- at; at + 1
      refine ⟨_, rfl, p, _, rfl, g2 H a l h1, ?_⟩
      refine ⟨_, rfl, _, _, rfl, rfl, _, rfl, p, _, rfl, DPut.k (k := Sum.inr "at") h1 (fdK_len _ _ _), ?_⟩
      have e1 : upd H p (.dK (putK (fdK c a l) (Sum.inr "at") (.int (a + 1)))) = upd H p (.dK (fdK c (a + 1) l)) := by rw [p_at]
      rw [e1]
      generalize hH1 : upd H p (.dK (fdK c (a + 1) l)) = H1
      have i1 : H1 p = some (.dK (fdK c (a + 1) l)) := by rw [← hH1]; exact upd_same
      have i2 : H1 c = some (.lst (ns.map V.int)) := by rw [← hH1, upd_ne ncp]; exact h2
      have i3 : But p H H1 := by rw [← hH1]; exact But.at h1 ⟨_, _, rfl⟩
      refine ⟨_, rfl, _, rfl, _, _, rfl, rfl, .inl ⟨by omega, by omega⟩, _, _, rfl, rfl, ?_⟩
      -- behind the first if: some cell, the feed as it is but for a new list
      refine ⟨fun σ' H2 => ∃ z : Int, σ' = [some (.ref p), some (.int m), none, some (.int a), some (.int z), none, none] ∧ H2 p = some (.dK (fdK c (a + 1) l)) ∧ H2 c = some (.lst (ns.map V.int)) ∧ But p H H2, ?_, ?_⟩
      · refine ⟨_, rfl, p, _, rfl, g3 H1 _ _ i1, (by show 0 ≤ sizeLine; decide), fun q hq => ?_⟩
        have j1 := same_new (o := HO.lst []) hq _ _ i1
        have j2 := same_new (o := HO.lst []) hq _ _ i2
        have j3 : But p H (upd H1 q (.lst [])) := i3.trans (But.new hq)
        generalize hH2 : upd H1 q (.lst []) = H2 at j1 j2 j3 ⊢
        have jq : H2 q = some (.lst []) := by rw [← hH2]; exact upd_same
        refine ⟨_, _, .lst (SqL.of j2) (dp_ints ns), .lst (SqL.of jq) .nil, shaped_ints ns, rfl, _, rfl, ?_⟩
        cases ns with
        | nil =>
          refine iteF ?_
          exact ⟨_, rfl, j1, j2, j3⟩
        | cons n0 nr =>
          refine iteT ?_
          have hpos : (0 : Int) < (((n0 :: nr).map V.int).length : Int) := by simp
          have hlt := Int.emod_lt_of_pos a hpos
          have hge := Int.emod_nonneg a (Int.ne_of_gt hpos)
          obtain ⟨i, hi⟩ : ∃ i : Nat, a % (((n0 :: nr).map V.int).length : Int) = i := ⟨(a % (((n0 :: nr).map V.int).length : Int)).toNat, by omega⟩
          have hil : i < ((n0 :: nr).map V.int).length := by omega
          refine ⟨_, rfl, p, _, rfl, g3 H2 _ _ j1, _, rfl, _, rfl, p, _, rfl, g3 H2 _ _ j1, c, _, rfl, .inl (SqL.of j2), _, _, rfl, rfl, hpos, c, _, _, V.int ((n0 :: nr).getD i 0), rfl, rfl, SqL.of j2, ?_, ?_⟩
          · rw [hi]
            apply atI_nat
            rw [List.getElem?_map]
            rw [List.length_map] at hil
            rw [List.getD_eq_getElem?_getD, List.getElem?_eq_getElem hil]
            rfl
          · exact ⟨_, rfl, j1, j2, j3⟩
      · rintro σ' H2 ⟨z, rfl, j1, j2, j3⟩
        have fin : ∀ (r l' : Int) (H3 : Hp), 0 ≤ r → r < m → 0 ≤ l' → H3 p = some (.dK (fdK c (a + 1) l')) → H3 c = some (.lst (ns.map V.int)) → But p H H3 → Q (.int r) H3 := fun r l' H3 q1 q2 q3 q4 q5 q6 =>
          k r H3 q1 q2 ⟨c, ns, a + 1, l', q4, q5, by omega, by omega, q3⟩ q6
        refine ⟨fun σ' H2 => ∃ z : Int, σ' = [some (.ref p), some (.int m), none, some (.int a), some (.int z), none, none] ∧ H2 p = some (.dK (fdK c (a + 1) l)) ∧ H2 c = some (.lst (ns.map V.int)) ∧ But p H H2, ?_, ?_⟩
        · -- at < len(cells) and abs(cell) >= 10 ** 18
          refine ⟨_, rfl, _, rfl, p, _, rfl, g3 H2 _ _ j1, c, _, rfl, .inl (SqL.of j2), _, _, rfl, rfl, _, rfl, ?_⟩
          refine ite2 (fun _ => ?_) (fun _ => ?_)
          · refine ⟨_, rfl, _, rfl, _, _, rfl, rfl, ⟨by decide, by decide, by decide⟩, _, _, rfl, rfl, _, rfl, ?_⟩
            have habs : (0 : Int) ≤ (if z < 0 then -z else z) := by split <;> omega
            refine ite2 (fun _ => ?_) (fun _ => ?_)
            · refine ⟨_, rfl, _, rfl, _, rfl, _, _, rfl, rfl, hmw _, _, rfl, p, _, rfl, DPut.k (k := Sum.inr "left") j1 (fdK_len _ _ _), ?_⟩
              refine ⟨_, rfl, _, rfl, _, rfl, _, _, rfl, rfl, hm, ?_⟩
              refine fin _ ((if z < 0 then -z else z) / m) _ (Int.emod_nonneg _ (by omega)) (Int.emod_lt_of_pos _ hm) (Int.ediv_nonneg habs (by omega)) (by rw [upd_same, p_left]) (by rw [upd_ne ncp]; exact j2) (j3.trans (But.at j1 ⟨_, _, by rw [p_left]⟩))
            · exact ⟨z, rfl, j1, j2, j3⟩
          · exact ⟨z, rfl, j1, j2, j3⟩
        · rintro σ' H2 ⟨z, rfl, j1, j2, j3⟩
          -- the number that is mixed
          have w1 := Int.emod_nonneg z (show (4294967311 : Int) ≠ 0 by decide)
          have w2 := Int.emod_lt_of_pos z (show (0 : Int) < 4294967311 by decide)
          refine ⟨_, rfl, _, _, rfl, rfl, (by show (0 : Int) < 4294967311; decide), _, rfl, _, _, rfl, rfl, .inl ⟨by decide, by decide⟩, _, _, rfl, rfl, _, _, rfl, rfl, _, _, rfl, rfl, .inr ⟨by decide, by decide⟩, _, _, rfl, rfl, (by show (0 : Int) < 4294967311; decide), ?_⟩
          have inv := fun (b : Int) => Int.emod_nonneg b (show (4294967311 : Int) ≠ 0 by decide)
          have inv2 := fun (b : Int) => Int.emod_lt_of_pos b (show (0 : Int) < 4294967311 by decide)
          refine ⟨3, rfl, by decide, by decide, for_range (lo := 0) (n := 3) (fun i σ' H' => H' = H2 ∧ ∃ (y : Int) (v : Option V), 0 ≤ y ∧ y < 4294967311 ∧ σ' = [some (.ref p), some (.int m), none, some (.int a), some (.int z), some (.int y), v])
            ⟨rfl, _, none, inv _, inv2 _, rfl⟩ ?_ ?_⟩
          · rintro i σ' H' hi ⟨rfl, y, v, y0, y1, rfl⟩
            refine ⟨_, rfl, _, rfl, _, _, rfl, rfl, .inl ⟨by omega, by omega⟩, _, rfl, _, _, rfl, rfl, .inl ⟨by decide, by decide⟩, _, _, rfl, rfl, _, rfl, _, _, rfl, rfl, _, rfl, _, _, rfl, rfl, ?_⟩
            refine ⟨_, rfl, _, _, rfl, rfl, (by show (0 : Int) < 4294967311; decide), ?_⟩
            exact ⟨rfl, _, _, inv _, inv2 _, rfl⟩
          · rintro σ' H' ⟨rfl, y, v, y0, y1, rfl⟩
            refine ⟨_, rfl, _, _, rfl, rfl, ⟨by decide, by decide⟩, _, rfl, _, _, rfl, rfl, hm, ?_⟩
            exact fin _ _ _ (Int.emod_nonneg _ (by omega)) (Int.emod_lt_of_pos _ hm) hl j1 j2 j3
end
end Lw

/-! ### the feed is made -/
namespace Lw
open PySem PySem.Spec PyProof.Rows L2 Fw Dw
def spFeed (K : PySem.W.Frag) : Sp := fun vs H Q _ => ∃ (a : Addr) (ns : List Int), vs = [.ref a] ∧ SqL K H a (ns.map V.int) ∧ ns.length ≤ 63 ∧
  ∀ (p : Addr) (H' : Hp), H p = none → Same H H' → Feed H' p 0 → Q (.ref p) H'
theorem merge_fd (D : Addr) : mergeK [] [((Sum.inr (Str.ofString "cells") : Key), V.ref D), (Sum.inr (Str.ofString "at"), V.int 0), (Sum.inr (Str.ofString "left"), V.int 0)] = fdK D 0 0 := by
  simp [mergeK, putK, fdK, s_ne1, s_ne2, s_ne3]
theorem cut_ints (ns : List Int) (lo hi : Option Int) : ∃ ms : List Int, cutV (ns.map V.int) lo hi = ms.map V.int := by
  unfold cutV
  rw [List.length_map]
  exact ⟨(ns.drop _).take _, by rw [List.map_take, List.map_drop]⟩
theorem take_succ_of {α : Type} {l : List α} {i : Nat} {x : α} (h : l[i]? = some x) : l.take (i + 1) = l.take i ++ [x] := by
  rw [List.take_succ, h]; rfl
section
variable {P : Program} {w : World} {K : PySem.W.Frag} {mg : Str → Option Value} {base : Heap}
abbrev s_feed : Stmt := top 17
theorem sc__law_feed : FnScope ["_law_script", "_law_cell"] ["_law_script"] (defScope s_feed) :=
  ⟨rfl, rfl, rfl, by decide +kernel, rfl, by decide +kernel,
    by decide +kernel⟩
theorem ok_feed {f : Addr} {fd : FuncData} (F : FnP K "_law_feed" s_feed f fd) : FnOk P w K mg base CX0 1 f fd ["_law_script"] (spFeed K) := by
  refine F.ok sc__law_feed (fun vs H Q E h => ?_) (fun cdv A outer s H vs Q E hr h => ?_)
  · obtain ⟨a, ns, rfl, _⟩ := h
    rfl
  · obtain ⟨a, ns, rfl, hS, hlen, k⟩ := h
    refine ⟨_, PSs.nox (pss_one (ps_ret (pe_disp (pps_cons pe_str (pe_lc (own := [("_law_cell", 1)]) (g := gName 1) (tt := tYes) (by rfl) sc__law_feed.nd (pi_list (pe_slice sl_list (pv 0) po_none (po_some pe_int))) (blkOk_by (own := [("_law_cell", 1)]) (N := ["_law_script", "_law_cell"]) (sc := defScope (top 17)) (by decide +kernel)) (fun _ _ _ _ _ => (pg_name (i := 1) sc__law_feed.nd rfl (.inl rfl))) (fun _ _ _ _ _ => pts_nil) (fun _ _ _ _ _ => (pv 1))) (pps_cons pe_str pe_int (pps_cons pe_str pe_int pps_nil))) (by rfl) (by rfl) (fun z => by cases z) (by decide)))), ?_⟩
    intro p hp
    obtain ⟨ms, hms⟩ := cut_ints ns none (some 63)
    have s1 : Same H (upd H p (.dK [])) := same_new hp
    refine ⟨_, rfl, _, rfl, a, _, rfl, s1.seq hS, fun q hq => ⟨q, rfl, ⟨_, SqL.of upd_same⟩, fun D hD => ?_⟩⟩
    rw [hms] at hD ⊢
    have n1 : p ≠ q := ne_of_none upd_same hq
    have n2 : q ≠ D := ne_of_none upd_same hD
    have n3 : p ≠ D := ne_of_none (by rw [upd_ne n1]; exact upd_same) hD
    have hD0 : H D = none := (s1.trans (same_new hq)).free hD
    refine lc_list (K := K) (a := q) (xs := ms.map V.int) (fun i H' => Same H H' ∧ H' q = some (.lst (ms.map V.int)) ∧ H' p = some (.dK []) ∧ H' D = some (.lst ((ms.map V.int).take i)))
      ⟨(s1.trans (same_new hq)).trans (same_new hD), ?_, ?_, upd_same⟩ (fun i H' _ h => SqL.of h.2.1) ?_ ?_
    · rw [upd_ne n2, upd_same]
    · rw [upd_ne n3, upd_ne n1, upd_same]
    · rintro i x H' hx ⟨k1, k2, k3, k4⟩
      refine ⟨rfl, ?_⟩
      refine ⟨_, rfl, _, k4, ?_, ?_, ?_, ?_, ?_⟩
      · rw [List.length_take]
        have h1 := cutV_length (ns.map V.int) none (some 63)
        rw [hms, List.length_map, List.length_map] at h1
        have h2 : 1000 < sizeLine := by decide
        rw [List.length_map]
        omega
      · intro b o e
        rw [upd_ne (ne_of_none e hD0)]; exact k1 b o e
      · rw [upd_ne n2]; exact k2
      · rw [upd_ne n3]; exact k3
      · rw [upd_same, take_succ_of hx]
    · rintro H' ⟨k1, k2, k3, k4⟩
      refine ⟨k3, [(Sum.inr (Str.ofString "cells"), .ref D), (Sum.inr (Str.ofString "at"), .int 0), (Sum.inr (Str.ofString "left"), .int 0)], rfl, by show 3 ≤ 15; decide, ?_⟩
      rw [merge_fd]
      refine k p _ hp (fun b o e => by rw [upd_ne (ne_of_none e hp)]; exact k1 b o e) ⟨D, ms, 0, 0, upd_same, ?_, by decide, by decide, by decide⟩
      rw [upd_ne n3.symm, k4, List.take_length]
end
end Lw

/-! ### by data -/
namespace Lw
open PySem PySem.Spec PyProof.Rows L2 Fw Dw
/-- a draw: any number from 0 on, less than m -/
def spDrawD : SpD := fun ds n Q _ => ∃ m, ds = [.feed, .int m] ∧ 0 < m ∧ m < 2 ^ 200 ∧ n < 1000000000 ∧ ∀ r, 0 ≤ r → r < m → Q (.int r) (n + 1)
def spFeedD : SpD := fun ds n Q _ => ∃ ns : List Int, ds = [.scr ns] ∧ ns.length ≤ 63 ∧ Q .feed 0
theorem But.ext {F : Option Addr} {p : Addr} {G H H' : Hp} (f : F = some p) (b : But p H H') (hp : ∃ c a l, H p = some (.dK (fdK c a l))) : Ext F G H G H' := by
  subst f
  refine ⟨fun c o h n => b.to c o h (fun z => n (by rw [z])), fun q c a l e h => ?_, fun c h => ?_, Same.refl _, fun _ h _ => h⟩
  · cases e
    exact b.cells c a l h
  · by_cases z : c = p
    · subst z
      obtain ⟨c', a, l, e⟩ := hp
      obtain ⟨a', l', e'⟩ := b.cells c' a l e
      rw [e']; exact fun y => nomatch y
    · cases q : H c with
      | none => exact absurd q h
      | some o => rw [b.to c o q z]; exact fun y => nomatch y
section
variable {P : Program} {w : World} {K : PySem.W.Frag} {mg : Str → Option Value} {base : Heap} {f : Addr} {fd : FuncData}
theorem drawD {k : Nat} {ps : List Str} (F : FnOk P w K mg base CX0 k f fd ps spDraw) : FnX true P w K mg base CX0 k f fd ps (liftSp K spDrawD) := by
  refine FnX.of (F.imp fun vs H Q E h => ?_)
  obtain ⟨F', G, n, ds, Qd, Ed, w, r, ⟨m, rfl, h1, h2, h3, q⟩, kd, _⟩ := h
  cases r with | cons r1 r => cases r with | cons r2 r =>
  cases r
  cases r2
  cases r1 with | feed hp =>
  obtain ⟨fd', g⟩ := w.fd _ hp
  refine ⟨_, m, n, rfl, h1, h2, fd', h3, fun r H' h4 h5 f2 b => ?_⟩
  obtain ⟨c, ns, a, l, e, _⟩ := fd'
  have x := But.ext (G := G) hp b ⟨c, a, l, e⟩
  refine kd (.int r) (n + 1) _ H' G (q r h4 h5) x ⟨fun b' o hb => ?_, fun p' f' => ?_⟩ (.int r)
  · exact x.to b' o (w.sub b' o hb) (fun z => by
      rw [hp] at z
      cases z
      rw [g] at hb; cases hb)
  · rw [hp] at f'
    cases f'
    exact ⟨f2, g⟩
def spLaw (K : PySem.W.Frag) : Sp := fun vs H Q _ => ∃ (a : Addr) (ns : List Int), vs = [.ref a] ∧ SqL K H a (ns.map V.int) ∧ ns.length ≤ 63 ∧ ∀ H', Q (.bl true) H'
/-- the law itself: a feed is made of the script, the rest by data -/
theorem law_fn {x qual x0 : Str} {params : Arguments} {st0 : Stmt} {rest : List Stmt} {scope : Scope} {dvs : List V} {kws : List (Str × V)} {N : List Str} {k : Nat} (F : FunD K x qual params (st0 :: rest) scope dvs kws f fd) (S : FnScope N [x0] scope) (hN : 2 ≤ N.length)
    (hb : ∀ (cdv : Value) (A : Around) (outer : List PySem.Env) (s : Shared) (H : Hp) (E : XK), A.guards = some [] → Room k (A.deeper (envOfC qual scope s.heap.objs.size f cdv)) →
      ∃ tz, PS (cxOf CX0 P w K mg base N qual scope f cdv A outer s H E) st0 (tAsg (tCall (spFeed K) [] E0 (tCons (tVar 0) tNil)) (gName 1)) ∧ DSs (cxOf CX0 P w K mg base N qual scope f cdv A outer s H E) zNo rest tz ∧
        ∀ ns : List Int, ns.length ≤ 63 → tz { nx := fun _ _ => False, rt := fun d _ => d = .bl true } (some (.d (.scr ns)) :: some (.d .feed) :: List.replicate (N.length - 2) none) 0) :
    FnG P w K mg base CX0 (k + 1) f fd [x0] (spLaw K) := by
  refine (fnX (g := true) F S (fun vs H Q E h => ?_) fun cdv A outer s H vs Q E hg hr h => ?_).toG
  · obtain ⟨a, ns, rfl, _⟩ := h; rfl
  · obtain ⟨a, ns, rfl, hS, hl, q⟩ := h
    obtain ⟨tz, h1, h2, h3⟩ := hb cdv A outer s H E (hg rfl) hr
    refine ⟨_, pss_cons h1 h2.pss, _, rfl, a, ns, rfl, hS, hl, fun p H' hp sm hf => ?_⟩
    have hst : (L2.start N [V.ref a]).set 1 (some (V.ref p)) = some (V.ref a) :: some (V.ref p) :: List.replicate (N.length - 2) none := by
      unfold L2.start
      obtain ⟨m, e⟩ : ∃ m, N.length = m + 2 := ⟨N.length - 2, by omega⟩
      rw [e]
      rfl
    show dls K zNo tz _ ((L2.start N [V.ref a]).set 1 (some (V.ref p))) H'
    rw [hst]
    have w : Wd (some p) H H' 0 := ⟨sm, fun p' e => by cases e; exact ⟨hf, hp⟩⟩
    refine ⟨⟨some p, H, H'⟩, H, _, 0, _, ⟨⟨w, Ext.refl, by simp, fun i x hi => ?_, fun i xs hi => ?_, fun i j q' xs ys _ hi => ?_⟩, zNo_ok⟩, h3 ns hl, ⟨fun _ _ _ _ _ _ h => h.elim, fun _ _ _ _ _ _ h => h.elim, fun _ _ _ _ _ _ h => h.elim, fun G2 H2 n v d h x w r => ?_, fun _ _ _ _ _ _ h => h.elim⟩⟩
    · match i, hi with
      | 0, hi => cases hi; exact ⟨_, rfl, .scr hS⟩
      | 1, hi => cases hi; exact ⟨_, rfl, .feed rfl⟩
      | i + 2, hi =>
        rw [List.getElem?_cons_succ, List.getElem?_cons_succ, List.getElem?_replicate] at hi
        split at hi <;> cases hi
    · match i, hi with
      | 0, hi => cases hi
      | 1, hi => cases hi
      | i + 2, hi =>
        rw [List.getElem?_cons_succ, List.getElem?_cons_succ, List.getElem?_replicate] at hi
        split at hi <;> cases hi
    · match i, hi with
      | 0, hi => cases hi
      | 1, hi => cases hi
      | i + 2, hi =>
        rw [List.getElem?_cons_succ, List.getElem?_cons_succ, List.getElem?_replicate] at hi
        split at hi <;> cases hi
    · have e : d = .bl true := h
      subst e
      cases r
      exact q H2
end
end Lw

namespace Lw
open PySem PySem.Spec PyProof.Rows L2 Fw Dw
def spFarD : SpD := fun ds n Q _ => ds = [.feed] ∧ n + 10 ≤ 1000000000 ∧ ∀ (r : Int) n', 0 ≤ r → r < 10 ^ 54 → n' ≤ n + 7 → Q (.int r) n'
theorem pow9 (i : Nat) : (10 : Int) ^ (9 * (i + 1)) = 10 ^ (9 * i) * 1000000000 := by
  rw [show 9 * (i + 1) = 9 * i + 9 by omega, Int.pow_add]; rfl
theorem p10_le {a b : Nat} (h : a ≤ b) : (10 : Int) ^ a ≤ 10 ^ b := by exact_mod_cast Nat.pow_le_pow_right (n := 10) (by decide) h
theorem log2_lt {n k : Nat} (hk : 0 < k) (h : n < 2 ^ k) : n.log2 < k := by
  by_cases z : n = 0
  · subst z
    rw [Nat.log2_zero]; exact hk
  · exact (Nat.log2_lt z).mpr h
theorem natAbs_lt {i : Int} {k : Nat} (h1 : -(2 ^ k : Int) < i) (h2 : i < (2 ^ k : Int)) : i.natAbs < 2 ^ k := by
  have : ((2 ^ k : Nat) : Int) = (2 : Int) ^ k := by norm_cast
  omega
theorem mulW_of {i j : Int} {k m : Nat} (h1 : i.natAbs < 2 ^ k) (h2 : j.natAbs < 2 ^ m) (hk : 0 < k) (hm : 0 < m) (h : k + m ≤ 1000000) : CMulW i j := by
  have a := log2_lt hk h1
  have b := log2_lt hm h2
  show i.natAbs.log2 + j.natAbs.log2 < 1000000
  omega
abbrev DDraw (P : Program) (w : World) (K : PySem.W.Frag) (mg : Str → Option Value) (base : Heap) : Prop := Fb true P w K mg base CX0 1 "_law_draw" 2 [] (fun ds _ => ds) (liftSp K spDrawD)
abbrev DFar (P : Program) (w : World) (K : PySem.W.Frag) (mg : Str → Option Value) (base : Heap) : Prop := Fb true P w K mg base CX0 2 "_law_far" 1 [] (fun ds _ => ds) (liftSp K spFarD)
section
variable {P : Program} {w : World} {K : PySem.W.Frag} {mg : Str → Option Value} {base : Heap} {f : Addr} {fd : FuncData}
abbrev s__law_far : Stmt := top 19
theorem sc__law_far : FnScope ["_law_feed_here", "_law_found", "_law_turn"] ["_law_feed_here"] (defScope s__law_far) := ⟨rfl, rfl, rfl, by decide +kernel, rfl, by decide +kernel, by decide +kernel⟩
theorem ok__law_far (F : FunD K "_law_far" "_law_far" (defArgs s__law_far) (defBody s__law_far) (defScope s__law_far) [] [] f fd) (D__law_draw : DDraw P w K mg base) (mg_range : mg "range" = none) : FnX true P w K mg base CX0 2 f fd ["_law_feed_here"] (liftSp K spFarD) := by
  refine fnD F sc__law_far (fun ds n Q E h => ?_) (fun cdv A outer s H E Ed hg hr => ?_)
  · obtain ⟨rfl, _⟩ := h; rfl
  · have gd : A.guards = some [] := hg rfl
    refine ⟨_, DSs.nx (dss_cons (ds_set (i := 1) [] sc__law_far.nd rfl (Or.inl rfl) de_int)
  (dss_cons (ds_for [] PassesOwn.never rfl (di_range1 mg_range (da_cons (de_add de_int (de_call (Fb.cal D__law_draw (fun _ => gd) (hr.mono (by decide))) rfl (da_cons (dv 0) (da_cons de_int da_nil)))) da_nil)) (dg_name (i := 2) sc__law_far.nd rfl (.inl rfl))
    (dss_one (ds_set (i := 1) [] sc__law_far.nd rfl (Or.inl rfl) (de_add (de_mul (dv 1) (de_pow de_int de_int)) (de_call (Fb.cal D__law_draw (fun _ => gd) (hr.mono (by decide))) rfl (da_cons (dv 0) (da_cons (de_pow de_int de_int) da_nil)))))))
  (dss_one (ds_ret (dv 1))))), fun ds n Q h => ?_⟩
    obtain ⟨rfl, hn, q⟩ := h
    refine ⟨rfl, rfl, 6, rfl, by decide, by decide, by omega, fun r h0 h1 => ⟨by omega, by omega, ?_⟩⟩
    refine ⟨fun i ρ m => ∃ (v : Int) (t : Option Sl), ρ = [some (.d .feed), some (.d (.int v)), t] ∧ 0 ≤ v ∧ v < 10 ^ (9 * i) ∧ m = n + 1 + i, ⟨0, none, rfl, by decide, by decide, rfl⟩, ?_, ?_⟩
    · rintro i d ρ m hd ⟨v, t, rfl, hv, hv2, rfl⟩
      have hi : i < 6 := by
        have := (List.getElem?_eq_some_iff.mp hd).1
        rw [rngD_len] at this
        omega
      have hb : v < 10 ^ 54 := Int.lt_of_lt_of_le hv2 (p10_le (by omega))
      have hb2 : v.natAbs < 2 ^ 180 := by
        have : (10 : Int) ^ 54 < 2 ^ 180 := by decide
        exact natAbs_lt (by omega) (by omega)
      refine ⟨⟨by decide, by decide, by decide⟩, mulW_of hb2 (m := 30) (by decide) (by decide) (by decide) (by decide), ⟨by decide, by decide, by decide⟩, rfl, rfl, 10 ^ 9, rfl, by decide, by decide, by omega, fun r' k0 k1 => ?_⟩
      refine ⟨_, _, rfl, ?_, ?_, by omega⟩
      · have : (0 : Int) ≤ v * 10 ^ 9 := Int.mul_nonneg hv (by decide)
        show 0 ≤ v * 10 ^ 9 + r'
        omega
      · rw [pow9]
        show v * 1000000000 + r' < _
        have k1' : r' < 1000000000 := k1
        omega
    · rintro ρ m ⟨v, t, rfl, hv, hv2, rfl⟩
      rw [rngD_len] at hv2 ⊢
      have hb : v < 10 ^ 54 := Int.lt_of_lt_of_le hv2 (p10_le (by omega))
      exact q v _ hv hb (by omega)
end
end Lw

namespace Lw
open PySem PySem.Spec PyProof.Rows L2 Fw Dw
/-- a fraction of k bits -/
def Red (a : Fr2) : Prop := Nat.gcd a.1.natAbs a.2.natAbs = 1
def Bd (k : Nat) (a : Fr2) : Prop := 0 < a.2 ∧ a.1.natAbs < 2 ^ k ∧ a.2.natAbs < 2 ^ k ∧ Red a
theorem red_eq {a b : Fr2} (ha : 0 < a.2) (hb : 0 < b.2) (ra : Red a) (rb : Red b) (h1 : less a b = false) (h2 : less b a = false) : a = b := by
  obtain ⟨a1, a2⟩ := a
  obtain ⟨b1, b2⟩ := b
  have h1' := of_decide_eq_false h1
  have h2' := of_decide_eq_false h2
  dsimp only at ha hb h1' h2'
  have e : a1 * b2 = b1 * a2 := by omega
  have ra' : Nat.gcd a1.natAbs a2.natAbs = 1 := ra
  have rb' : Nat.gcd b1.natAbs b2.natAbs = 1 := rb
  have en : a1.natAbs * b2.natAbs = b1.natAbs * a2.natAbs := by rw [← Int.natAbs_mul, ← Int.natAbs_mul, e]
  have d1 : a2.natAbs ∣ b2.natAbs := by
    have : a2.natAbs ∣ a1.natAbs * b2.natAbs := ⟨b1.natAbs, by rw [en, Nat.mul_comm]⟩
    exact Nat.Coprime.dvd_of_dvd_mul_left (by rw [Nat.Coprime, Nat.gcd_comm]; exact ra') this
  have d2 : b2.natAbs ∣ a2.natAbs := by
    have : b2.natAbs ∣ b1.natAbs * a2.natAbs := ⟨a1.natAbs, by rw [← en, Nat.mul_comm]⟩
    exact Nat.Coprime.dvd_of_dvd_mul_left (by rw [Nat.Coprime, Nat.gcd_comm]; exact rb') this
  have e2 : a2.natAbs = b2.natAbs := Nat.dvd_antisymm d1 d2
  have e3 : a2 = b2 := by omega
  subst e3
  have : a1 = b1 := Int.eq_of_mul_eq_mul_right (by omega) e
  rw [this]
theorem Bd.ok {k : Nat} {a : Fr2} (h : Bd k a) (hk : k ≤ 1900) : Fok a := ⟨h.1, Nat.lt_of_lt_of_le h.2.1 (Nat.pow_le_pow_right (by decide) hk), Nat.lt_of_lt_of_le h.2.2.1 (Nat.pow_le_pow_right (by decide) hk)⟩
def spLow : SpD := fun ds n Q _ => ∃ (t b : Int) (k : Nat), ds = [.int t, .int b] ∧ 0 < b ∧ 0 < k ∧ k ≤ 1900 ∧ t.natAbs < 2 ^ k ∧ b.natAbs < 2 ^ k ∧ ∀ a, Bd k a → Q (fD a) n
theorem natAbs_fdiv {t : Int} {g : Nat} (hg : 0 < g) : (t.fdiv g).natAbs ≤ t.natAbs := by
  rw [Int.fdiv_eq_ediv_of_nonneg _ (by omega)]
  by_cases h : 0 ≤ t
  · have h1 : t / (g : Int) ≤ t := Int.ediv_le_self _ h
    have h2 : 0 ≤ t / (g : Int) := Int.ediv_nonneg h (by omega)
    omega
  · have h1 : t / (g : Int) < 0 := Int.ediv_neg_of_neg_of_pos (by omega) (by omega)
    have h2 : t ≤ t / (g : Int) := by
      rw [Int.le_ediv_iff_mul_le (by omega)]
      have : (1 : Int) ≤ g := by omega
      have h3 : t * g ≤ t * 1 := Int.mul_le_mul_of_nonpos_left (by omega) this
      omega
    omega
section
variable {P : Program} {w : World} {K : PySem.W.Frag} {mg : Str → Option Value} {base : Heap} {f : Addr} {fd : FuncData}
abbrev s__law_low : Stmt := top 20
theorem sc__law_low : FnScope ["_law_top", "_law_bottom", "_law_one", "_law_other"] ["_law_top", "_law_bottom"] (defScope s__law_low) := ⟨rfl, rfl, rfl, by decide +kernel, rfl, by decide +kernel, by decide +kernel⟩
theorem ok__law_low (F : FunD K "_law_low" "_law_low" (defArgs s__law_low) (defBody s__law_low) (defScope s__law_low) [] [] f fd) (mg_abs : mg "abs" = none) : FnX true P w K mg base CX0 1 f fd ["_law_top", "_law_bottom"] (liftSp K spLow) := by
  refine fnD F sc__law_low (fun ds n Q E h => ?_) (fun cdv A outer s H E Ed hg hr => ?_)
  · obtain ⟨t, b, k, rfl, _⟩ := h; rfl
  · refine ⟨_, DSs.nx (dss_cons (ds_par [] (by rfl) sc__law_low.nd (i := 2) (j := 3) rfl rfl (by decide) rfl rfl (da_cons (de_callB call_abs cv_abs (by rfl) mg_abs (by decide +kernel) (da_cons (dv 0) da_nil)) (da_cons (de_callB call_abs cv_abs (by rfl) mg_abs (by decide +kernel) (da_cons (dv 1) da_nil)) da_nil)) (by rfl))
  (dss_cons (ds_while PassesOwn.never (dt_gt (dv 3) de_int)
    (dss_one (ds_par [] (by rfl) sc__law_low.nd (i := 2) (j := 3) rfl rfl (by decide) rfl rfl (da_cons (dv 3) (da_cons (de_mod (dv 2) (dv 3)) da_nil)) (by rfl))))
  (dss_cons (ds_set (i := 2) [] sc__law_low.nd rfl (Or.inl rfl) (de_ifExp (dt_gt (dv 1) de_int) (dv 2) (de_sub de_int (dv 2))))
  (dss_one (ds_ret (de_tup (da_cons (de_fdiv (dv 0) (dv 2)) (da_cons (de_fdiv (dv 1) (dv 2)) da_nil)))))))), fun ds n Q h => ?_⟩
    obtain ⟨t, b, k, rfl, hb, hk0, hk, ht, hbk, q⟩ := h
    have a1 : ∀ i : Int, (if i < 0 then -i else i) = (i.natAbs : Int) := fun i => by split <;> omega
    have e1 := a1 t
    have e2 := a1 b
    refine ⟨fun m ρ n' => ∃ (x y : Nat), ρ = [some (.d (.int t)), some (.d (.int b)), some (.d (.int x)), some (.d (.int y))] ∧ Nat.gcd x y = Nat.gcd t.natAbs b.natAbs ∧ m = y ∧ n' = n, ⟨_, t.natAbs, b.natAbs, ?_, rfl, rfl, rfl⟩, ?_⟩
    · rw [← e1, ← e2]; rfl
    · rintro y ρ n' ⟨x, y', rfl, hg, rfl, rfl⟩
      refine ⟨fun c => ?_, fun c => ?_⟩
      · have hy : (0 : Int) < y := of_decide_eq_true c
        refine ⟨by omega, x % y, Nat.mod_lt _ (by omega), y, x % y, ?_, ?_, rfl, rfl⟩
        · have e : Int.fmod (x : Int) (y : Int) = ((x % y : Nat) : Int) := by
            rw [Int.fmod_eq_emod_of_nonneg _ (by omega)]; rfl
          show [some (Sl.d (D.int t)), some (Sl.d (D.int b)), some (Sl.d (D.int y)), some (Sl.d (D.int (Int.fmod x y)))] = _
          rw [e]
        · rw [← hg, Nat.gcd_comm y, ← Nat.gcd_rec, Nat.gcd_comm]
      · have hy : ¬ (0 : Int) < y := of_decide_eq_false c
        have y0 : y = 0 := by omega
        subst y0
        rw [Nat.gcd_zero_right] at hg
        have hxp : 0 < x := by
          rw [hg]
          exact Nat.gcd_pos_of_pos_right _ (by omega)
        have hxd : (x : Int) ∣ b := by
          have : x ∣ b.natAbs := by rw [hg]; exact Nat.gcd_dvd_right _ _
          have hb' : b = (b.natAbs : Int) := by omega
          rw [hb']
          first | exact Int.natCast_dvd_natCast.mpr this | exact Int.ofNat_dvd.mpr this
        have hlog : (x : Int).natAbs.log2 < 9000 := by
          have h1 : x ≤ b.natAbs := by rw [hg]; exact Nat.gcd_le_right _ (by omega)
          have h2 : x < 2 ^ 1900 := Nat.lt_of_le_of_lt h1 (Nat.lt_of_lt_of_le hbk (Nat.pow_le_pow_right (by decide) hk))
          have := log2_lt (k := 1900) (by decide) h2
          show x.log2 < 9000
          omega
        refine ⟨fun _ => ⟨⟨by omega, hlog⟩, ⟨by omega, hlog⟩, szl (by simp), ?_⟩, fun c2 => absurd (of_decide_eq_false c2) (by omega)⟩
        refine q (t.fdiv x, b.fdiv x) ⟨?_, Nat.lt_of_le_of_lt (natAbs_fdiv hxp) ht, Nat.lt_of_le_of_lt (natAbs_fdiv hxp) hbk, ?_⟩
        · show 0 < b.fdiv x
          rw [Int.fdiv_eq_ediv_of_nonneg _ (by omega)]
          exact Int.ediv_pos_of_pos_of_dvd hb (by omega) hxd
        · have dn : ∀ i : Int, x ∣ i.natAbs → (i.fdiv x).natAbs = i.natAbs / x := fun i hi => by
            obtain ⟨c, hc⟩ := hi
            rw [Int.fdiv_eq_ediv_of_nonneg _ (by omega)]
            have : i = (x : Int) * (if 0 ≤ i then (c : Int) else -(c : Int)) := by
              split
              · have h1 : (i.natAbs : Int) = ((x * c : Nat) : Int) := by rw [hc]
                rw [Int.natCast_mul] at h1
                omega
              · have h1 : (i.natAbs : Int) = ((x * c : Nat) : Int) := by rw [hc]
                rw [Int.natCast_mul] at h1
                rw [Int.mul_neg]
                omega
            rw [hc, Nat.mul_div_cancel_left _ hxp]
            rw [this, Int.mul_ediv_cancel_left _ (by omega)]
            split <;> omega
          show Nat.gcd (t.fdiv x).natAbs (b.fdiv x).natAbs = 1
          have d1 : x ∣ t.natAbs := by rw [hg]; exact Nat.gcd_dvd_left _ _
          have d2 : x ∣ b.natAbs := by rw [hg]; exact Nat.gcd_dvd_right _ _
          rw [dn t d1, dn b d2, hg]
          exact Nat.gcd_div_gcd_div_gcd_of_pos_right (by omega)
def spFrac : SpD := fun ds n Q _ => ds = [.feed] ∧ n + 40 ≤ 1000000000 ∧ ∀ a n', Bd 200 a → n' ≤ n + 20 → Q (fD a) n'
theorem at_pick {l : List D} {i : Int} {d : D} (h : atI l i = some d) : d ∈ l := by
  unfold atI at h
  cases q : ixN l.length i with
  | none => rw [q] at h; cases h
  | some j => rw [q] at h; exact List.mem_of_getElem? h
theorem at_some {l : List D} {i : Int} (h0 : 0 ≤ i) (h1 : i < l.length) : ∃ d, d ∈ l ∧ atI l i = some d := by
  obtain ⟨j, rfl⟩ : ∃ j : Nat, i = j := ⟨i.toNat, by omega⟩
  have hj : j < l.length := by omega
  exact ⟨l[j], List.getElem_mem hj, atI_nat (List.getElem?_eq_getElem hj)⟩
/-- a list's item at a drawn place -/
theorem ix_pick {l : List D} {i : Int} {n : Nat} {Q : QD} (h0 : 0 ≤ i) (h1 : i < l.length) (h : ∀ d ∈ l, Q d n) : dIx (.lst l) (.int i) n Q := by
  obtain ⟨d, hd, e⟩ := at_some h0 h1
  show (match atI l i with | some d => Q d n | none => False)
  rw [e]
  exact h d hd
abbrev s__law_fraction : Stmt := top 21
theorem sc__law_fraction : FnScope ["_law_feed_here", "_law_bottom", "_law_top"] ["_law_feed_here"] (defScope s__law_fraction) := ⟨rfl, rfl, rfl, by decide +kernel, rfl, by decide +kernel, by decide +kernel⟩
theorem ok__law_fraction (F : FunD K "_law_fraction" "_law_fraction" (defArgs s__law_fraction) (defBody s__law_fraction) (defScope s__law_fraction) [] [] f fd) (D__law_draw : DDraw P w K mg base) (D__law_far : DFar P w K mg base) (D__law_low : Fb true P w K mg base CX0 1 "_law_low" 2 [] (fun ds _ => ds) (liftSp K spLow)) :
    FnX true P w K mg base CX0 3 f fd ["_law_feed_here"] (liftSp K spFrac) := by
  refine fnD F sc__law_fraction (fun ds n Q E h => ?_) (fun cdv A outer s H E Ed hg hr => ?_)
  · obtain ⟨rfl, _⟩ := h; rfl
  · have gd : A.guards = some [] := hg rfl
    refine ⟨_, DSs.nx (dss_cons (ds_set (i := 1) [] sc__law_fraction.nd rfl (Or.inl rfl) (de_ix (DO.de (do_lst (da_cons de_int (da_cons de_int (da_cons de_int (da_cons de_int (da_cons (de_add de_int (de_call (Fb.cal D__law_draw (fun _ => gd) (hr.mono (by decide))) rfl (da_cons (dv 0) (da_cons de_int da_nil)))) (da_cons (de_add de_int (de_call (Fb.cal D__law_far (fun _ => gd) (hr.mono (by decide))) rfl (da_cons (dv 0) da_nil))) da_nil)))))))) (de_call (Fb.cal D__law_draw (fun _ => gd) (hr.mono (by decide))) rfl (da_cons (dv 0) (da_cons de_int da_nil)))))
  (dss_cons (ds_set (i := 2) [] sc__law_fraction.nd rfl (Or.inl rfl) (de_ix (DO.de (do_lst (da_cons (de_call (Fb.cal D__law_draw (fun _ => gd) (hr.mono (by decide))) rfl (da_cons (dv 0) (da_cons de_int da_nil))) (da_cons (de_call (Fb.cal D__law_draw (fun _ => gd) (hr.mono (by decide))) rfl (da_cons (dv 0) (da_cons de_int da_nil))) (da_cons (de_call (Fb.cal D__law_far (fun _ => gd) (hr.mono (by decide))) rfl (da_cons (dv 0) da_nil)) da_nil))))) (de_call (Fb.cal D__law_draw (fun _ => gd) (hr.mono (by decide))) rfl (da_cons (dv 0) (da_cons de_int da_nil)))))
  (dss_one (ds_ret (de_call (Fb.cal D__law_low (fun _ => gd) (hr.mono (by decide))) rfl (da_cons (de_mul (dv 2) (de_ix (DO.de (do_lst (da_cons de_int (da_cons (de_neg de_int) da_nil)))) (de_call (Fb.cal D__law_draw (fun _ => gd) (hr.mono (by decide))) rfl (da_cons (dv 0) (da_cons de_int da_nil))))) (da_cons (dv 1) da_nil))))))), fun ds n Q h => ?_⟩
    obtain ⟨rfl, hn, q⟩ := h
    refine ⟨rfl, rfl, 12, rfl, by decide, by decide, by omega, fun r1 a0 a1 => ?_⟩
    refine ⟨rfl, rfl, rfl, by omega, fun r2 n2 b0 b1 b2 => ⟨szl (by simp), ?_⟩⟩
    refine ⟨rfl, rfl, 6, rfl, by decide, by decide, by omega, fun r3 c0 c1 => ?_⟩
    refine ix_pick c0 (by simpa using c1) fun d hd => ?_
    have hd' : ∃ b : Int, d = .int b ∧ 0 < b ∧ b ≤ 10 ^ 54 := by
      simp only [List.mem_cons, List.not_mem_nil, or_false] at hd
      rcases hd with h | h | h | h | h | h <;> subst h
      · exact ⟨_, rfl, by decide, by decide⟩
      · exact ⟨_, rfl, by decide, by decide⟩
      · exact ⟨_, rfl, by decide, by decide⟩
      · exact ⟨_, rfl, by decide, by decide⟩
      · exact ⟨_, rfl, by omega, by omega⟩
      · exact ⟨_, rfl, by omega, by omega⟩
    obtain ⟨b, rfl, hb0, hb1⟩ := hd'
    refine ⟨rfl, rfl, 7, rfl, by decide, by decide, by omega, fun r4 d0 d1 => ?_⟩
    refine ⟨rfl, rfl, 60, rfl, by decide, by decide, by omega, fun r5 e0 e1 => ?_⟩
    refine ⟨rfl, rfl, rfl, by omega, fun r6 n6 f0 f1 f2 => ⟨szl (by simp), ?_⟩⟩
    refine ⟨rfl, rfl, 3, rfl, by decide, by decide, by omega, fun r7 g0 g1 => ?_⟩
    refine ix_pick g0 (by simpa using g1) fun d hd => ?_
    have hd' : ∃ b : Int, d = .int b ∧ 0 ≤ b ∧ b < 10 ^ 54 := by
      simp only [List.mem_cons, List.not_mem_nil, or_false] at hd
      rcases hd with h | h | h <;> subst h
      · exact ⟨_, rfl, by omega, by omega⟩
      · exact ⟨_, rfl, by omega, by omega⟩
      · exact ⟨_, rfl, by omega, by omega⟩
    obtain ⟨t, rfl, ht0, ht1⟩ := hd'
    refine ⟨szl (by simp), rfl, rfl, 2, rfl, by decide, by decide, by omega, fun r8 h0 h1 => ?_⟩
    refine ix_pick h0 (by simpa using h1) fun d hd => ?_
    have hd' : ∃ s : Int, d = .int s ∧ (s = 1 ∨ s = -1) := by
      simp only [List.mem_cons, List.not_mem_nil, or_false] at hd
      rcases hd with h | h <;> subst h
      · exact ⟨_, rfl, .inl rfl⟩
      · exact ⟨_, rfl, .inr rfl⟩
    obtain ⟨sg, rfl, hs⟩ := hd'
    have p54 : (10 : Int) ^ 54 < 2 ^ 180 := by decide
    have tb : t.natAbs < 2 ^ 180 := natAbs_lt (by omega) (by omega)
    have hts : (t * sg).natAbs = t.natAbs := by rcases hs with h | h <;> subst h <;> simp
    refine ⟨mulW_of tb (m := 2) (by rcases hs with h | h <;> subst h <;> decide) (by decide) (by decide) (by decide), rfl, rfl, t * sg, b, 200, rfl, hb0, by decide, by decide, ?_, ?_, fun a ha => q a _ ha (by omega)⟩
    · rw [hts]; exact Nat.lt_of_lt_of_le tb (Nat.pow_le_pow_right (by decide) (by decide))
    · exact Nat.lt_of_lt_of_le (natAbs_lt (k := 180) (by omega) (by omega)) (Nat.pow_le_pow_right (by decide) (by decide))
end
end Lw

namespace Lw
open PySem PySem.Spec PyProof.Rows L2 Fw Dw
def Rg.void (r : Rg) : Bool := Lw.void r.lo r.hi r.li r.hi'
def Rg.plain (r : Rg) : Rg := mkR r.lo r.hi r.li r.hi'
def spVoid : SpD := fun ds n Q _ => ∃ r, ds = [rT r] ∧ r.ok ∧ ∀ x, x = .bl r.void → Q x n
def spLHas : SpD := fun ds n Q _ => ∃ r x, ds = [rT r, fD x] ∧ r.ok ∧ Fok x ∧ ∀ y, y = .bl (r.has x) → Q y n
def spFields (C : Addr) : SpD := fun ds n Q _ => ∃ r, ds = [rD C r] ∧ Q (rT r) n
def spPlain : SpD := fun ds n Q _ => ∃ r, ds = [rT r] ∧ ∀ x, x = rT r.plain → Q x n
def spMade (C NR : Addr) : SpD := fun ds n Q E => ∃ r, ds = [rT r] ∧ r.ok ∧ (r.void = true → E (.ref NR) [] n) ∧ (r.void = false → ∀ x, x = rD C r.plain → Q x n)
def spRefused : SpD := fun ds n Q _ => ∃ r, ds = [rT r] ∧ r.ok ∧ r.void = true ∧ Q (.bl true) n
section
variable {P : Program} {w : World} {K : PySem.W.Frag} {mg : Str → Option Value} {base : Heap} {f : Addr} {fd : FuncData}
abbrev s__law_less : Stmt := top 22
theorem sc__law_less : FnScope ["_law_one", "_law_other"] ["_law_one", "_law_other"] (defScope s__law_less) := ⟨rfl, rfl, rfl, by decide +kernel, rfl, by decide +kernel, by decide +kernel⟩
theorem ok__law_less (F : FunD K "_law_less" "_law_less" (defArgs s__law_less) (defBody s__law_less) (defScope s__law_less) [] [] f fd) : FnX true P w K mg base CX0 1 f fd ["_law_one", "_law_other"] (liftSp K spLess) := by
  refine fnD F sc__law_less (fun ds n Q E h => ?_) (fun cdv A outer s H E Ed hg hr => ⟨_, DSs.nx (dss_one (ds_ret (de_lt (de_mul (de_ix (dv 0) de_int) (de_ix (dv 1) de_int)) (de_mul (de_ix (dv 1) de_int) (de_ix (dv 0) de_int))))), fun ds n Q h => ?_⟩)
  · obtain ⟨a, b, rfl, _⟩ := h; rfl
  · obtain ⟨a, b, rfl, ha, hb, q⟩ := h
    obtain ⟨m1, m2⟩ := Fok.mulW ha hb
    exact ⟨m1, m2, q _ rfl⟩
abbrev DLLess (P : Program) (w : World) (K : PySem.W.Frag) (mg : Str → Option Value) (base : Heap) : Prop := Fb true P w K mg base CX0 1 "_law_less" 2 [] (fun ds _ => ds) (liftSp K spLess)
abbrev s__law_is_void : Stmt := top 23
theorem sc__law_is_void : FnScope ["_law_raw_here", "_law_low_here", "_law_high", "_law_low_is", "_law_high_is"] ["_law_raw_here"] (defScope s__law_is_void) := ⟨rfl, rfl, rfl, by decide +kernel, rfl, by decide +kernel, by decide +kernel⟩
theorem ok__law_is_void (F : FunD K "_law_is_void" "_law_is_void" (defArgs s__law_is_void) (defBody s__law_is_void) (defScope s__law_is_void) [] [] f fd) (D__law_less : DLLess P w K mg base) : FnX true P w K mg base CX0 2 f fd ["_law_raw_here"] (liftSp K spVoid) := by
  refine fnD F sc__law_is_void (fun ds n Q E h => ?_) (fun cdv A outer s H E Ed hg hr => ?_)
  · obtain ⟨r, rfl, _⟩ := h; rfl
  · have gd : A.guards = some [] := hg rfl
    refine ⟨_, DSs.nx (dss_cons (ds_asg [] (dv 0) (dg_tup (by rfl) (dgs_cons (dg_name (i := 1) sc__law_is_void.nd rfl (.inl rfl)) (dgs_cons (dg_name (i := 2) sc__law_is_void.nd rfl (.inl rfl)) (dgs_cons (dg_name (i := 3) sc__law_is_void.nd rfl (.inl rfl)) (dgs_cons (dg_name (i := 4) sc__law_is_void.nd rfl (.inl rfl)) dgs_nil))))))
  (dss_cons (ds_if (DW.dt (dw_or (dt_is (dv 1) de_non) (dw_or1 (dt_is (dv 2) de_non))))
    (dss_one (ds_ret de_bl))
    dss_nil)
  (dss_one (ds_ret (de_or (de_call (Fb.cal D__law_less (fun _ => gd) (hr.mono (by decide))) rfl (da_cons (dv 2) (da_cons (dv 1) da_nil))) (de_one (de_and (de_eq hr.units (dv 1) (dv 2)) (de_one (de_not (de_and (dv 3) (de_one (dv 4)))))))))))), fun ds n Q h => ?_⟩
    obtain ⟨⟨lo, hi, li, hi'⟩, rfl, ⟨h1, h2⟩, q⟩ := h
    rcases lo with _ | a <;> rcases hi with _ | b
    all_goals walk_at "dd"
    all_goals first
      | exact q _ rfl
      | exact q _ (by simp_all [Rg.void, void, eqD_F, eD])
abbrev s__law_has : Stmt := top 24
theorem sc__law_has : FnScope ["_law_raw_here", "_law_number", "_law_low_here", "_law_high", "_law_low_is", "_law_high_is"] ["_law_raw_here", "_law_number"] (defScope s__law_has) := ⟨rfl, rfl, rfl, by decide +kernel, rfl, by decide +kernel, by decide +kernel⟩
theorem ok__law_has (F : FunD K "_law_has" "_law_has" (defArgs s__law_has) (defBody s__law_has) (defScope s__law_has) [] [] f fd) (D__law_less : DLLess P w K mg base) : FnX true P w K mg base CX0 2 f fd ["_law_raw_here", "_law_number"] (liftSp K spLHas) := by
  refine fnD F sc__law_has (fun ds n Q E h => ?_) (fun cdv A outer s H E Ed hg hr => ?_)
  · obtain ⟨r, x, rfl, _⟩ := h; rfl
  · have gd : A.guards = some [] := hg rfl
    refine ⟨_, DSs.nx (dss_cons (ds_asg [] (dv 0) (dg_tup (by rfl) (dgs_cons (dg_name (i := 2) sc__law_has.nd rfl (.inl rfl)) (dgs_cons (dg_name (i := 3) sc__law_has.nd rfl (.inl rfl)) (dgs_cons (dg_name (i := 4) sc__law_has.nd rfl (.inl rfl)) (dgs_cons (dg_name (i := 5) sc__law_has.nd rfl (.inl rfl)) dgs_nil))))))
  (dss_cons (ds_if (DW.dt (dw_and (dt_isnt (dv 2) de_non) (dw_and1 (DW.dt (dw_or (dt_tru (de_call (Fb.cal D__law_less (fun _ => gd) (hr.mono (by decide))) rfl (da_cons (dv 1) (da_cons (dv 2) da_nil)))) (dw_or1 (DW.dt (dw_and (dt_eq hr.units (dv 1) (dv 2)) (dw_and1 (dt_not (dt_tru (dv 4))))))))))))
    (dss_one (ds_ret de_bl))
    dss_nil)
  (dss_one (ds_ret (de_or (de_is (dv 3) de_non) (de_or (de_call (Fb.cal D__law_less (fun _ => gd) (hr.mono (by decide))) rfl (da_cons (dv 1) (da_cons (dv 3) da_nil))) (de_one (de_and (de_eq hr.units (dv 1) (dv 3)) (de_one (dv 5)))))))))), fun ds n Q h => ?_⟩
    obtain ⟨⟨lo, hi, li, hi'⟩, x, rfl, ⟨h1, h2⟩, hx, q⟩ := h
    rcases lo with _ | a <;> rcases hi with _ | b
    all_goals walk_at "dd"
    all_goals first
      | exact q _ rfl
      | exact q _ (by simp_all [Rg.has, loM, hiM, eqD_F, eD])
abbrev s__law_fields : Stmt := top 27
theorem sc__law_fields : FnScope ["_law_one"] ["_law_one"] (defScope s__law_fields) := ⟨rfl, rfl, rfl, by decide +kernel, rfl, by decide +kernel, by decide +kernel⟩
theorem ok__law_fields {C : Addr} (F : FunD K "_law_fields" "_law_fields" (defArgs s__law_fields) (defBody s__law_fields) (defScope s__law_fields) [] [] f fd) (T : RCls K C) : FnX true P w K mg base CX0 1 f fd ["_law_one"] (liftSp K (spFields C)) := by
  have F_low := T.f1
  have F_high := T.f2
  have F_low_in := T.f3
  have F_high_in := T.f4
  refine fnD F sc__law_fields (fun ds n Q E h => ?_) (fun cdv A outer s H E Ed hg hr => ⟨_, DSs.nx (dss_one (ds_ret (de_tup (da_cons (de_fld F_low (dv 0)) (da_cons (de_fld F_high (dv 0)) (da_cons (de_fld F_low_in (dv 0)) (da_cons (de_fld F_high_in (dv 0)) da_nil))))))), fun ds n Q h => ?_⟩)
  · obtain ⟨r, rfl, _⟩ := h; rfl
  · obtain ⟨r, rfl, q⟩ := h
    exact ⟨rfl, rfl, rfl, rfl, szl (by simp), q⟩
abbrev s__law_plain : Stmt := top 28
theorem sc__law_plain : FnScope ["_law_raw_here"] ["_law_raw_here"] (defScope s__law_plain) := ⟨rfl, rfl, rfl, by decide +kernel, rfl, by decide +kernel, by decide +kernel⟩
theorem ok__law_plain (F : FunD K "_law_plain" "_law_plain" (defArgs s__law_plain) (defBody s__law_plain) (defScope s__law_plain) [] [] f fd) : FnX true P w K mg base CX0 1 f fd ["_law_raw_here"] (liftSp K spPlain) := by
  refine fnD F sc__law_plain (fun ds n Q E h => ?_) (fun cdv A outer s H E Ed hg hr => ⟨_, DSs.nx (dss_one (ds_ret (de_tup (da_cons (de_ix (dv 0) de_int) (da_cons (de_ix (dv 0) de_int) (da_cons (de_and (de_ix (dv 0) de_int) (de_one (de_isnt (de_ix (dv 0) de_int) de_non))) (da_cons (de_and (de_ix (dv 0) de_int) (de_one (de_isnt (de_ix (dv 0) de_int) de_non))) da_nil))))))), fun ds n Q h => ?_⟩)
  · obtain ⟨r, rfl, _⟩ := h; rfl
  · obtain ⟨⟨lo, hi, li, hi'⟩, rfl, q⟩ := h
    rcases lo with _ | a <;> rcases hi with _ | b <;> cases li <;> cases hi'
    all_goals walk_at "dd"
    all_goals exact q _ rfl
abbrev s__law_made : Stmt := top 26
theorem sc__law_made : FnScope ["_law_raw_here"] ["_law_raw_here"] (defScope s__law_made) := ⟨rfl, rfl, rfl, by decide +kernel, rfl, by decide +kernel, by decide +kernel⟩
theorem ok__law_made {C NR : Addr} (F : FunD K "_law_made" "_law_made" (defArgs s__law_made) (defBody s__law_made) (defScope s__law_made) [] [] f fd) (D_Range_low_in_high_in : Mb P w K mg base (L2.CX P w) 3 "Range" C 2 ["low_in", "high_in"] gRange (iniR NR)) : FnX true P w K mg base (L2.CX P w) 5 f fd ["_law_raw_here"] (liftSp K (spMade C NR)) := by
  refine fnD F sc__law_made (fun ds n Q E h => ?_) (fun cdv A outer s H E Ed hg hr => ⟨_, (dss_one (ds_ret (de_callK (Mb.calX D_Range_low_in_high_in (takes_of rfl rfl rfl rfl) (hr.mono (by decide))) rfl (da_cons (de_ix (dv 0) de_int) (da_cons (de_ix (dv 0) de_int) da_nil)) (dk_cons (de_ix (dv 0) de_int) (dk_cons (de_ix (dv 0) de_int) dk_nil))))), fun ds n Q h => ?_⟩)
  · obtain ⟨r, rfl, _⟩ := h; rfl
  · obtain ⟨⟨lo, hi, li, hi'⟩, rfl, ⟨h1, h2⟩, kE, kQ⟩ := h
    refine ⟨rfl, rfl, lo, hi, li, hi', rfl, h1, h2, fun z => kE z, fun z fs e => ?_⟩
    subst e
    exact kQ z _ rfl
abbrev s__law_refused : Stmt := top 29
theorem sc__law_refused : FnScope ["_law_raw_here", "_law_wrong", "e"] ["_law_raw_here"] (defScope s__law_refused) := ⟨rfl, rfl, rfl, by decide +kernel, rfl, by decide +kernel, by decide +kernel⟩
theorem ok__law_refused {C NR : Addr} (F : FunD K "_law_refused" "_law_refused" (defArgs s__law_refused) (defBody s__law_refused) (defScope s__law_refused) [] [] f fd) (D__law_made : Fb true P w K mg base (L2.CX P w) 5 "_law_made" 1 [] (fun ds _ => ds) (liftSp K (spMade C NR))) (mg_NoRange : mg "NoRange" = some (.ref NR)) (mg_isinstance : mg "isinstance" = none)
    {c1 c2 c3 c5 : Addr} (mg_NoDigits : mg "NoDigits" = some (.ref c1)) (mg_NoText : mg "NoText" = some (.ref c2)) (mg_NoWord : mg "NoWord" = some (.ref c3)) (mg_Nought : mg "Nought" = some (.ref c5)) (mg_ArithmeticError : mg "ArithmeticError" = none) (mg_ValueError : mg "ValueError" = none) (mg_ZeroDivisionError : mg "ZeroDivisionError" = none)
    (x1 : PySem.W.exmOne K (.ref NR) (.ref NR) = some true) (x2 : ExcK K NR) (x3 : PySem.W.kitOne K (.ref NR) (.type "ArithmeticError") = some true) (x4 : PySem.W.kitAny K (.ref NR) [.ref c1, .ref c2, .ref c3, .ref c5, .type "ValueError", .type "ZeroDivisionError"] = some false) :
    FnX true P w K mg base CX0 6 f fd ["_law_raw_here"] (liftSp K spRefused) := by
  refine fnD F sc__law_refused (fun ds n Q E h => ?_) (fun cdv A outer s H E Ed hg hr => ?_)
  · obtain ⟨r, rfl, _⟩ := h; rfl
  · have gd : A.guards = some [] := hg rfl
    refine ⟨_, DSs.nx (dss_cons (ds_set (i := 1) [] sc__law_refused.nd rfl (Or.inl rfl) de_non)
  (dss_cons (ds_try (i := 2) (j := 1) rfl rfl rfl sc__law_refused.nd rfl rfl (by decide) rfl (Or.inl rfl) ⟨rfl, by decide, Or.inl mg_NoRange⟩ takes0
    (fun W Ed pn xe tk po => (dss_one (ds_expr [] (de_call (Fb.calT D__law_made tk (fun _ => gd) (hr.mono (by decide))) rfl (da_cons (dv 0) da_nil))))))
  (dss_cons (ds_if (DW.dt (dw_or (dt_is (dv 1) de_non) (dw_or1 (dt_not (dt_tru (de_isi mg_isinstance (da_cons (dv 1) (da_cons (de_gty (T := "ArithmeticError") rfl mg_ArithmeticError (by decide +kernel)) da_nil))))))))
    (dss_one (ds_ret de_bl))
    dss_nil)
  (dss_one (ds_ret (de_not (de_isiT mg_isinstance (dv 1) (da_cons (de_gval rfl mg_NoDigits) (da_cons (de_gval rfl mg_NoText) (da_cons (de_gval rfl mg_NoWord) (da_cons (de_gval rfl mg_Nought) (da_cons (de_gty (T := "ValueError") rfl mg_ValueError (by decide +kernel)) (da_cons (de_gty (T := "ZeroDivisionError") rfl mg_ZeroDivisionError (by decide +kernel)) da_nil))))))))))))), fun ds n Q h => ?_⟩
    obtain ⟨r, rfl, h1, h2, q⟩ := h
    refine ⟨rfl, rfl, r, rfl, h1, fun _ => ?_, fun z => by rw [h2] at z; cases z⟩
    refine ⟨true, x1, fun _ => ⟨NR, rfl, (show 2 < 3 by decide), ?_⟩, nofun⟩
    refine ⟨nofun, fun _ => ?_⟩
    refine ⟨_, true, rfl, x2, x3, nofun, fun _ => ?_⟩
    exact ⟨szl (by simp), _, rfl, false, x2, x4, q⟩
end
end Lw

namespace Lw
open PySem PySem.Spec PyProof.Rows L2 Fw Dw
/-! texts -/
def tI (i : Int) : Str := toString i
def numT (a : Fr2) : Str := if a.2 = 1 then tI a.1 else Str.empty ++ tI a.1 ++ "/" ++ tI a.2
theorem tI_len {i : Int} (h : i.natAbs < 2 ^ 1900) : (tI i).length ≤ 1921 ∧ i.natAbs.log2 < 1920 := by
  have := log2_lt (k := 1900) (by decide) h
  exact ⟨int_text_len_1921 (by omega), by omega⟩
theorem app_len (s t : Str) : (s ++ t).length = s.length + t.length := by
  show (s.cps ++ t.cps).size = _
  rw [Array.size_append]; rfl
def spFT : SpD := fun ds n Q _ => ∃ a, ds = [fD a] ∧ Fok a ∧ ∀ x, x = .str (numT a) → Q x n
def lowT (r : Rg) : Str := match r.lo with
  | none => "(.."
  | some a => (if r.li then ("[" : Str) else "(") ++ numT a
def highT (r : Rg) : Str := match r.hi with
  | none => "..)"
  | some a => numT a ++ (if r.hi' then ("]" : Str) else ")")
theorem numT_len {a : Fr2} (h : Fok a) : (numT a).length ≤ 4000 := by
  have h1 := (tI_len h.2.1).1
  have h2 := (tI_len h.2.2).1
  have e0 : Str.empty.length = 0 := rfl
  have e1 : (Str.ofString "/").length = 1 := by decide +kernel
  unfold numT
  split
  · omega
  · rw [app_len, app_len, app_len, e0, e1]; omega
theorem sl_big {n : Nat} (h : n ≤ 100000) : n ≤ sizeLine := Nat.le_trans h (by decide)
def spLowT (C : Addr) : SpD := fun ds n Q _ => ∃ r, ds = [rD C r] ∧ r.ok ∧ ∀ x, x = .str (lowT r) → Q x n
def spHighT (C : Addr) : SpD := fun ds n Q _ => ∃ r, ds = [rD C r] ∧ r.ok ∧ ∀ x, x = .str (highT r) → Q x n
def strT (r : Rg) : Str := Str.empty ++ lowT r ++ ", " ++ highT r
def spStrT (C : Addr) : SpD := fun ds n Q _ => ∃ r, ds = [rD C r] ∧ r.ok ∧ ∀ x, x = .str (strT r) → Q x n
theorem lowT_len {r : Rg} (h : r.ok) : (lowT r).length ≤ 4100 := by
  obtain ⟨lo, hi, li, hi'⟩ := r
  rcases lo with _ | a
  · show (Str.ofString "(..").length ≤ 4100
    have : (Str.ofString "(..").length = 3 := by decide +kernel
    omega
  · have := numT_len (show Fok a from h.1)
    have e1 : (Str.ofString "[").length = 1 := by decide +kernel
    have e2 : (Str.ofString "(").length = 1 := by decide +kernel
    show ((if li = true then ("[" : Str) else "(") ++ numT a).length ≤ 4100
    rw [app_len]
    split <;> omega
theorem highT_len {r : Rg} (h : r.ok) : (highT r).length ≤ 4100 := by
  obtain ⟨lo, hi, li, hi'⟩ := r
  rcases hi with _ | a
  · show (Str.ofString "..)").length ≤ 4100
    have : (Str.ofString "..)").length = 3 := by decide +kernel
    omega
  · have := numT_len (show Fok a from h.2)
    have e1 : (Str.ofString "]").length = 1 := by decide +kernel
    have e2 : (Str.ofString ")").length = 1 := by decide +kernel
    show (numT a ++ (if hi' = true then ("]" : Str) else ")")).length ≤ 4100
    rw [app_len]
    split <;> omega
section
variable {P : Program} {w : World} {K : PySem.W.Frag} {mg : Str → Option Value} {base : Heap} {f : Addr} {fd : FuncData} {dvs : List V} {kvs : List (Str × V)}
abbrev s_fraction_text : Stmt := top 11
theorem sc_fraction_text : FnScope ["number", "top", "bottom"] ["number"] (defScope s_fraction_text) := ⟨rfl, rfl, rfl, by decide +kernel, rfl, by decide +kernel, by decide +kernel⟩
theorem ok_fraction_text (F : FunD K "fraction_text" "fraction_text" (defArgs s_fraction_text) (defBody s_fraction_text) (defScope s_fraction_text) dvs kvs f fd) : FnX false P w K mg base CX0 1 f fd ["number"] (liftSp K spFT) := by
  refine fnD F sc_fraction_text (fun ds n Q E h => ?_) (fun cdv A outer s H E Ed hg hr => ⟨_, DSs.nx (dss_cons (ds_asg [] (dv 0) (dg_tup (by rfl) (dgs_cons (dg_name (i := 1) sc_fraction_text.nd rfl (.inl rfl)) (dgs_cons (dg_name (i := 2) sc_fraction_text.nd rfl (.inl rfl)) dgs_nil))))
  (dss_one (ds_ret (de_ifExp (dt_eq hr.units (dv 2) de_int) (de_joined1 (de_fmt (dv 1))) (de_joined (dj_cons (de_fmt (dv 1)) (dj_cons de_str (dj_cons (de_fmt (dv 2)) dj_nil)))))))), fun ds n Q h => ?_⟩)
  · obtain ⟨a, rfl, _⟩ := h; rfl
  · obtain ⟨a, rfl, ha, q⟩ := h
    have h1 := tI_len ha.2.1
    have h2 := tI_len ha.2.2
    have e0 : Str.empty.length = 0 := rfl
    have e1 : (Str.ofString "/").length = 1 := by decide +kernel
    refine ⟨rfl, fun c => ⟨h1.2, q _ ?_⟩, fun c => ⟨h1.2, ?_, ?_, h2.2, ?_, q _ ?_⟩⟩
    · unfold numT
      rw [if_pos (of_decide_eq_true c)]; rfl
    · apply sl_big
      rw [app_len, e0]
      show 0 + (tI a.1).length ≤ _
      omega
    · apply sl_big
      rw [app_len, app_len, e0, e1]
      show 0 + (tI a.1).length + 1 ≤ _
      omega
    · apply sl_big
      rw [app_len, app_len, app_len, e0, e1]
      show 0 + (tI a.1).length + 1 + (tI a.2).length ≤ _
      omega
    · unfold numT
      rw [if_neg (of_decide_eq_false c)]; rfl
abbrev DFT (P : Program) (w : World) (K : PySem.W.Frag) (mg : Str → Option Value) (base : Heap) : Prop := Fb false P w K mg base CX0 1 "fraction_text" 1 [] (fun ds _ => ds) (liftSp K spFT)
theorem two0 : atI (Str.ofString "([").cps.toList 0 = some 40 ∧ atI (Str.ofString "([").cps.toList 1 = some 91 ∧ (Str.ofString "([").length ≤ sizeLine := by decide +kernel
theorem two1 : atI (Str.ofString ")]").cps.toList 0 = some 41 ∧ atI (Str.ofString ")]").cps.toList 1 = some 93 ∧ (Str.ofString ")]").length ≤ sizeLine := by decide +kernel
theorem ch40 : (⟨#[40]⟩ : Str) = "(" ∧ (⟨#[91]⟩ : Str) = "[" ∧ (⟨#[41]⟩ : Str) = ")" ∧ (⟨#[93]⟩ : Str) = "]" := by decide +kernel
abbrev s_low_text : Stmt := top 12
theorem sc_low_text : FnScope ["some"] ["some"] (defScope s_low_text) := ⟨rfl, rfl, rfl, by decide +kernel, rfl, by decide +kernel, by decide +kernel⟩
theorem ok_low_text {C : Addr} (F : FunD K "low_text" "low_text" (defArgs s_low_text) (defBody s_low_text) (defScope s_low_text) dvs kvs f fd) (T : RCls K C) (D_fraction_text : DFT P w K mg base) (mg_int : mg "int" = none) : FnX false P w K mg base CX0 2 f fd ["some"] (liftSp K (spLowT C)) := by
  have F_low := T.f1
  have F_low_in := T.f3
  refine fnD F sc_low_text (fun ds n Q E h => ?_) (fun cdv A outer s H E Ed hg hr => ⟨_, DSs.nx (dss_cons (ds_if (dt_is (de_fld F_low (dv 0)) de_non)
    (dss_one (ds_ret de_str))
    dss_nil)
  (dss_one (ds_ret (de_add (de_ix de_str (de_callTy call_int1 cv_intc (by rfl) mg_int (by decide +kernel) (da_cons (de_fld F_low_in (dv 0)) da_nil))) (de_call (Fb.cal D_fraction_text (fun z => nomatch z) (hr.mono (by decide))) rfl (da_cons (de_fld F_low (dv 0)) da_nil)))))), fun ds n Q h => ?_⟩)
  · obtain ⟨r, rfl, _⟩ := h; rfl
  · obtain ⟨⟨lo, hi, li, hi'⟩, rfl, h1, q⟩ := h
    rcases lo with _ | a
    · exact ⟨rfl, fun _ => q _ rfl, nofun⟩
    · have ha : Fok a := h1.1
      have hl := numT_len ha
      have e1 : (Str.ofString "[").length = 1 := by decide +kernel
      have e2 : (Str.ofString "(").length = 1 := by decide +kernel
      refine ⟨rfl, nofun, fun _ => ⟨rfl, two0.2.2, ?_⟩⟩
      cases li
      · show (match atI (Str.ofString "([").cps.toList 0 with | some c => _ | none => False)
        rw [two0.1]
        refine ⟨rfl, rfl, rfl, a, rfl, ha, fun x e => ?_⟩
        subst e
        refine ⟨sl_big ?_, q _ ?_⟩
        · show (⟨#[40]⟩ : Str).length + _ ≤ _
          rw [ch40.1, e2]; omega
        · show D.str (⟨#[40]⟩ ++ numT a) = _
          rw [ch40.1]; rfl
      · show (match atI (Str.ofString "([").cps.toList 1 with | some c => _ | none => False)
        rw [two0.2.1]
        refine ⟨rfl, rfl, rfl, a, rfl, ha, fun x e => ?_⟩
        subst e
        refine ⟨sl_big ?_, q _ ?_⟩
        · show (⟨#[91]⟩ : Str).length + _ ≤ _
          rw [ch40.2.1, e1]; omega
        · show D.str (⟨#[91]⟩ ++ numT a) = _
          rw [ch40.2.1]; rfl
abbrev s_high_text : Stmt := top 13
theorem sc_high_text : FnScope ["some"] ["some"] (defScope s_high_text) := ⟨rfl, rfl, rfl, by decide +kernel, rfl, by decide +kernel, by decide +kernel⟩
theorem ok_high_text {C : Addr} (F : FunD K "high_text" "high_text" (defArgs s_high_text) (defBody s_high_text) (defScope s_high_text) dvs kvs f fd) (T : RCls K C) (D_fraction_text : DFT P w K mg base) (mg_int : mg "int" = none) : FnX false P w K mg base CX0 2 f fd ["some"] (liftSp K (spHighT C)) := by
  have F_high := T.f2
  have F_high_in := T.f4
  refine fnD F sc_high_text (fun ds n Q E h => ?_) (fun cdv A outer s H E Ed hg hr => ⟨_, DSs.nx (dss_cons (ds_if (dt_is (de_fld F_high (dv 0)) de_non)
    (dss_one (ds_ret de_str))
    dss_nil)
  (dss_one (ds_ret (de_add (de_call (Fb.cal D_fraction_text (fun z => nomatch z) (hr.mono (by decide))) rfl (da_cons (de_fld F_high (dv 0)) da_nil)) (de_ix de_str (de_callTy call_int1 cv_intc (by rfl) mg_int (by decide +kernel) (da_cons (de_fld F_high_in (dv 0)) da_nil))))))), fun ds n Q h => ?_⟩)
  · obtain ⟨r, rfl, _⟩ := h; rfl
  · obtain ⟨⟨lo, hi, li, hi'⟩, rfl, h1, q⟩ := h
    rcases hi with _ | a
    · exact ⟨rfl, fun _ => q _ rfl, nofun⟩
    · have ha : Fok a := h1.2
      have hl := numT_len ha
      have e1 : (Str.ofString "]").length = 1 := by decide +kernel
      have e2 : (Str.ofString ")").length = 1 := by decide +kernel
      refine ⟨rfl, nofun, fun _ => ⟨rfl, rfl, rfl, a, rfl, ha, fun x e => ?_⟩⟩
      subst e
      refine ⟨rfl, two1.2.2, ?_⟩
      cases hi'
      · show (match atI (Str.ofString ")]").cps.toList 0 with | some c => _ | none => False)
        rw [two1.1]
        refine ⟨sl_big ?_, q _ ?_⟩
        · show _ + (⟨#[41]⟩ : Str).length ≤ _
          rw [ch40.2.2.1, e2]; omega
        · show D.str (numT a ++ ⟨#[41]⟩) = _
          rw [ch40.2.2.1]; rfl
      · show (match atI (Str.ofString ")]").cps.toList 1 with | some c => _ | none => False)
        rw [two1.2.1]
        refine ⟨sl_big ?_, q _ ?_⟩
        · show _ + (⟨#[93]⟩ : Str).length ≤ _
          rw [ch40.2.2.2, e1]; omega
        · show D.str (numT a ++ ⟨#[93]⟩) = _
          rw [ch40.2.2.2]; rfl
abbrev s_Range___str__ : Stmt := inClass (top 10) 2
theorem sc_Range___str__ : FnScope ["self"] ["self"] (defScope s_Range___str__) := ⟨rfl, rfl, rfl, by decide +kernel, rfl, by decide +kernel, by decide +kernel⟩
theorem ok_rstr {C : Addr} (F : FunD K "__str__" "Range.__str__" (defArgs s_Range___str__) (defBody s_Range___str__) (defScope s_Range___str__) dvs kvs f fd) (D_low_text : Fb false P w K mg base CX0 2 "low_text" 1 [] (fun ds _ => ds) (liftSp K (spLowT C))) (D_high_text : Fb false P w K mg base CX0 2 "high_text" 1 [] (fun ds _ => ds) (liftSp K (spHighT C))) :
    FnX false P w K mg base CX0 3 f fd ["self"] (liftSp K (spStrT C)) := by
  refine fnD F sc_Range___str__ (fun ds n Q E h => ?_) (fun cdv A outer s H E Ed hg hr => ⟨_, DSs.nx (dss_one (ds_ret (de_joined (dj_cons (de_fmt (de_call (Fb.cal D_low_text (fun z => nomatch z) (hr.mono (by decide))) rfl (da_cons (dv 0) da_nil))) (dj_cons de_str (dj_cons (de_fmt (de_call (Fb.cal D_high_text (fun z => nomatch z) (hr.mono (by decide))) rfl (da_cons (dv 0) da_nil))) dj_nil)))))), fun ds n Q h => ?_⟩)
  · obtain ⟨r, rfl, _⟩ := h; rfl
  · obtain ⟨r, rfl, hr, q⟩ := h
    have h1 := lowT_len hr
    have h2 := highT_len hr
    have e0 : Str.empty.length = 0 := rfl
    have e1 : (Str.ofString ", ").length = 2 := by decide +kernel
    refine ⟨rfl, rfl, r, rfl, hr, fun x e => ?_⟩
    subst e
    refine ⟨sl_big (by omega), sl_big (by rw [app_len]; omega), sl_big (by rw [app_len, app_len]; omega), rfl, rfl, r, rfl, hr, fun x e => ?_⟩
    subst e
    exact ⟨sl_big (by omega), sl_big (by rw [app_len, app_len, app_len]; omega), q _ rfl⟩
end
end Lw

namespace Lw
open PySem PySem.Spec PyProof.Rows L2 Fw Dw
theorem mulS_1 (s : Str) : mulS s 1 = s := by
  apply TL.ext_tl
  show (mulS s 1).cps.toList = s.cps.toList
  rw [mulS_tl]; simp
theorem mulS_0 (s : Str) : mulS s 0 = Str.empty := rfl
theorem emp_app (s : Str) : Str.empty ++ s = s := by
  apply TL.ext_tl
  show (Str.empty.cps ++ s.cps).toList = s.cps.toList
  simp [Str.empty]
theorem app_emp (s : Str) : s ++ Str.empty = s := by
  apply TL.ext_tl
  show (s.cps ++ Str.empty.cps).toList = s.cps.toList
  simp [Str.empty]
theorem app_assoc (s t u : Str) : s ++ t ++ u = s ++ (t ++ u) := by
  apply TL.ext_tl
  show ((s.cps ++ t.cps) ++ u.cps).toList = (s.cps ++ (t.cps ++ u.cps)).toList
  simp
def spLText : SpD := fun ds n Q _ => ∃ r, ds = [rT r] ∧ r.ok ∧ ∀ x, x = .str (strT r) → Q x n
section
variable {P : Program} {w : World} {K : PySem.W.Frag} {mg : Str → Option Value} {base : Heap} {f : Addr} {fd : FuncData}
abbrev s__law_number_text : Stmt := top 30
theorem sc__law_number_text : FnScope ["_law_number"] ["_law_number"] (defScope s__law_number_text) := ⟨rfl, rfl, rfl, by decide +kernel, rfl, by decide +kernel, by decide +kernel⟩
theorem ok__law_number_text (F : FunD K "_law_number_text" "_law_number_text" (defArgs s__law_number_text) (defBody s__law_number_text) (defScope s__law_number_text) [] [] f fd) (mg_str : mg "str" = none) (mg_int : mg "int" = none) : FnX true P w K mg base CX0 1 f fd ["_law_number"] (liftSp K spFT) := by
  refine fnD F sc__law_number_text (fun ds n Q E h => ?_) (fun cdv A outer s H E Ed hg hr => ⟨_, DSs.nx (dss_one (ds_ret (de_add (de_callTy (Dw.CallR.or call_str_int SkE.call_str_str) cv_strc (by rfl) mg_str (by decide +kernel) (da_cons (de_ix (dv 0) de_int) da_nil)) (de_mul (de_add de_str (de_callTy (Dw.CallR.or call_str_int SkE.call_str_str) cv_strc (by rfl) mg_str (by decide +kernel) (da_cons (de_ix (dv 0) de_int) da_nil))) (de_callTy call_int1 cv_intc (by rfl) mg_int (by decide +kernel) (da_cons (de_gt (de_ix (dv 0) de_int) de_int) da_nil)))))), fun ds n Q h => ?_⟩)
  · obtain ⟨a, rfl, _⟩ := h; rfl
  · obtain ⟨a, rfl, ha, q⟩ := h
    have h1 := tI_len ha.2.1
    have h2 := tI_len ha.2.2
    have e1 : (Str.ofString "/").length = 1 := by decide +kernel
    have l2 : (Str.ofString "/" ++ tI a.2).length ≤ 2000 := by rw [app_len, e1]; omega
    refine ⟨h1.2, h2.2, sl_big ?_, ?_⟩
    · rw [e1]
      show 1 + (tI a.2).length ≤ _
      omega
    · by_cases c : 1 < a.2
      · have c' : decide (1 < a.2) = true := decide_eq_true c
        show ((-(2 ^ 62) ≤ (if decide (1 < a.2) = true then (1 : Int) else 0) ∧ (if decide (1 < a.2) = true then (1 : Int) else 0) < 2 ^ 62) ∧ (if decide (1 < a.2) = true then (1 : Int) else 0).toNat * (Str.ofString "/" ++ tI a.2).length ≤ sizeLine ∧ ((tI a.1).length + (mulS (Str.ofString "/" ++ tI a.2) (if decide (1 < a.2) = true then (1 : Int) else 0)).length ≤ sizeLine ∧ Q (.str (tI a.1 ++ mulS (Str.ofString "/" ++ tI a.2) (if decide (1 < a.2) = true then (1 : Int) else 0))) n))
        rw [c', if_pos rfl, mulS_1]
        refine ⟨by decide, sl_big (by show 1 * _ ≤ _; omega), sl_big (by omega), q _ ?_⟩
        unfold numT
        rw [if_neg (by omega), emp_app, app_assoc]
      · have c' : decide (1 < a.2) = false := decide_eq_false c
        show ((-(2 ^ 62) ≤ (if decide (1 < a.2) = true then (1 : Int) else 0) ∧ (if decide (1 < a.2) = true then (1 : Int) else 0) < 2 ^ 62) ∧ (if decide (1 < a.2) = true then (1 : Int) else 0).toNat * (Str.ofString "/" ++ tI a.2).length ≤ sizeLine ∧ ((tI a.1).length + (mulS (Str.ofString "/" ++ tI a.2) (if decide (1 < a.2) = true then (1 : Int) else 0)).length ≤ sizeLine ∧ Q (.str (tI a.1 ++ mulS (Str.ofString "/" ++ tI a.2) (if decide (1 < a.2) = true then (1 : Int) else 0))) n))
        rw [c', if_neg (by decide), mulS_0]
        have := ha.1
        refine ⟨by decide, sl_big (by show 0 * _ ≤ _; omega), sl_big (by show _ + 0 ≤ _; omega), q _ ?_⟩
        unfold numT
        rw [if_pos (by omega), app_emp]
abbrev s__law_text : Stmt := top 31
theorem sc__law_text : FnScope ["_law_raw_here", "_law_left", "_law_right"] ["_law_raw_here"] (defScope s__law_text) := ⟨rfl, rfl, rfl, by decide +kernel, rfl, by decide +kernel, by decide +kernel⟩
theorem ok__law_text (F : FunD K "_law_text" "_law_text" (defArgs s__law_text) (defBody s__law_text) (defScope s__law_text) [] [] f fd) (D__law_number_text : Fb true P w K mg base CX0 1 "_law_number_text" 1 [] (fun ds _ => ds) (liftSp K spFT)) (mg_int : mg "int" = none) : FnX true P w K mg base CX0 2 f fd ["_law_raw_here"] (liftSp K spLText) := by
  refine fnD F sc__law_text (fun ds n Q E h => ?_) (fun cdv A outer s H E Ed hg hr => ?_)
  · obtain ⟨r, rfl, _⟩ := h; rfl
  · have gd : A.guards = some [] := hg rfl
    refine ⟨_, DSs.nx (dss_cons (ds_asg [] (de_tup (da_cons de_str (da_cons de_str da_nil))) (dg_tup (by rfl) (dgs_cons (dg_name (i := 1) sc__law_text.nd rfl (.inl rfl)) (dgs_cons (dg_name (i := 2) sc__law_text.nd rfl (.inl rfl)) dgs_nil))))
  (dss_cut (ds_if (dt_isnt (de_ix (dv 0) de_int) de_non)
    (dss_one (ds_set (i := 1) [] sc__law_text.nd rfl (Or.inl rfl) (de_add (de_ix (DO.de (do_lst (da_cons de_str (da_cons de_str da_nil)))) (de_callTy call_int1 cv_intc (by rfl) mg_int (by decide +kernel) (da_cons (de_ix (dv 0) de_int) da_nil))) (de_call (Fb.cal D__law_number_text (fun _ => gd) (hr.mono (by decide))) rfl (da_cons (de_ix (dv 0) de_int) da_nil)))))
    dss_nil)
  (dss_cut (ds_if (dt_isnt (de_ix (dv 0) de_int) de_non)
    (dss_one (ds_set (i := 2) [] sc__law_text.nd rfl (Or.inl rfl) (de_add (de_call (Fb.cal D__law_number_text (fun _ => gd) (hr.mono (by decide))) rfl (da_cons (de_ix (dv 0) de_int) da_nil)) (de_ix (DO.de (do_lst (da_cons de_str (da_cons de_str da_nil)))) (de_callTy call_int1 cv_intc (by rfl) mg_int (by decide +kernel) (da_cons (de_ix (dv 0) de_int) da_nil))))))
    dss_nil)
  (dss_one (ds_ret (de_add (de_add (dv 1) de_str) (dv 2))))))), fun ds n Q h => ?_⟩
    obtain ⟨r, rfl, hr, q⟩ := h
    have l1 := lowT_len hr
    have l2 := highT_len hr
    have e0 : Str.empty.length = 0 := rfl
    have e1 : (Str.ofString ", ").length = 2 := by decide +kernel
    have e2 : (Str.ofString "[").length = 1 := by decide +kernel
    have e3 : (Str.ofString "(").length = 1 := by decide +kernel
    have e4 : (Str.ofString "]").length = 1 := by decide +kernel
    have e5 : (Str.ofString ")").length = 1 := by decide +kernel
    obtain ⟨lo, hi, li, hi'⟩ := r
    refine ⟨szl (by simp), rfl, fun ρ m => m = n ∧ ρ = [some (.d (rT ⟨lo, hi, li, hi'⟩)), some (.d (.str (lowT ⟨lo, hi, li, hi'⟩))), some (.d (.str "..)"))], ?_, ?_⟩
    · rcases lo with _ | a
      · exact ⟨nofun, fun _ => ⟨rfl, rfl⟩⟩
      · have hl := numT_len (show Fok a from hr.1)
        refine ⟨fun _ => ⟨szl (by simp), ?_⟩, nofun⟩
        cases li
        · refine ⟨rfl, rfl, a, rfl, hr.1, fun x e => ?_⟩
          subst e
          exact ⟨sl_big (by omega), rfl, rfl⟩
        · refine ⟨rfl, rfl, a, rfl, hr.1, fun x e => ?_⟩
          subst e
          exact ⟨sl_big (by omega), rfl, rfl⟩
    · rintro ρ m ⟨rfl, rfl⟩
      refine ⟨fun ρ m' => m' = m ∧ ρ = [some (.d (rT ⟨lo, hi, li, hi'⟩)), some (.d (.str (lowT ⟨lo, hi, li, hi'⟩))), some (.d (.str (highT ⟨lo, hi, li, hi'⟩)))], ?_, ?_⟩
      · rcases hi with _ | a
        · exact ⟨nofun, fun _ => ⟨rfl, rfl⟩⟩
        · have hl := numT_len (show Fok a from hr.2)
          refine ⟨fun _ => ⟨rfl, rfl, a, rfl, hr.2, fun x e => ?_⟩, nofun⟩
          subst e
          refine ⟨szl (by simp), ?_⟩
          cases hi'
          · exact ⟨sl_big (by omega), rfl, rfl⟩
          · exact ⟨sl_big (by omega), rfl, rfl⟩
      · rintro ρ m' ⟨rfl, rfl⟩
        refine ⟨sl_big (by omega), sl_big (by rw [app_len]; omega), q _ ?_⟩
        unfold strT
        rw [emp_app]
/-! the raw ends -/
def Er : Option Fr2 → Prop
  | none => True
  | some a => Red a
structure Raw (r : Rg) : Prop where
  ok : r.ok
  rl : Er r.lo
  rh : Er r.hi
def Ends (es : List Fr2) : Prop := es.length = 6 ∧ ∀ a ∈ es, Bd 200 a
def spRaw : SpD := fun ds n Q _ => ∃ es, ds = [.feed, .lst (es.map fD)] ∧ Ends es ∧ n + 20 ≤ 1000000000 ∧ ∀ r n', Raw r → n' ≤ n + 10 → Q (rT r) n'
abbrev s__law_raw : Stmt := top 25
theorem sc__law_raw : FnScope ["_law_feed_here", "_law_some", "_law_low_here", "_law_high"] ["_law_feed_here", "_law_some"] (defScope s__law_raw) := ⟨rfl, rfl, rfl, by decide +kernel, rfl, by decide +kernel, by decide +kernel⟩
theorem ok__law_raw (F : FunD K "_law_raw" "_law_raw" (defArgs s__law_raw) (defBody s__law_raw) (defScope s__law_raw) [] [] f fd) (D__law_draw : DDraw P w K mg base) (D__law_less : DLLess P w K mg base) (mg_len : mg "len" = none) : FnX true P w K mg base CX0 2 f fd ["_law_feed_here", "_law_some"] (liftSp K spRaw) := by
  refine fnD F sc__law_raw (fun ds n Q E h => ?_) (fun cdv A outer s H E Ed hg hr => ?_)
  · obtain ⟨es, rfl, _⟩ := h; rfl
  · have gd : A.guards = some [] := hg rfl
    refine ⟨_, DSs.nx (dss_cons (ds_par [] (by rfl) sc__law_raw.nd (i := 2) (j := 3) rfl rfl (by decide) rfl rfl (da_cons (de_ix (dv 1) (de_call (Fb.cal D__law_draw (fun _ => gd) (hr.mono (by decide))) rfl (da_cons (dv 0) (da_cons (de_callB call_len cv_len (by rfl) mg_len (by decide +kernel) (da_cons (dv 1) da_nil)) da_nil)))) (da_cons (de_ix (dv 1) (de_call (Fb.cal D__law_draw (fun _ => gd) (hr.mono (by decide))) rfl (da_cons (dv 0) (da_cons (de_callB call_len cv_len (by rfl) mg_len (by decide +kernel) (da_cons (dv 1) da_nil)) da_nil)))) da_nil)) (by rfl))
  (dss_cut (ds_set (i := 2) [] sc__law_raw.nd rfl (Or.inl rfl) (de_ifExp (dt_eq hr.units (de_call (Fb.cal D__law_draw (fun _ => gd) (hr.mono (by decide))) rfl (da_cons (dv 0) (da_cons de_int da_nil))) de_int) de_non (dv 2)))
  (dss_cut (ds_set (i := 3) [] sc__law_raw.nd rfl (Or.inl rfl) (de_ifExp (dt_eq hr.units (de_call (Fb.cal D__law_draw (fun _ => gd) (hr.mono (by decide))) rfl (da_cons (dv 0) (da_cons de_int da_nil))) de_int) de_non (dv 3)))
  (dss_cut (ds_if (DW.dt (dw_and (dt_isnt (dv 2) de_non) (dw_and (dt_isnt (dv 3) de_non) (dw_and (dt_tru (de_call (Fb.cal D__law_less (fun _ => gd) (hr.mono (by decide))) rfl (da_cons (dv 3) (da_cons (dv 2) da_nil)))) (dw_and1 (dt_gt (de_call (Fb.cal D__law_draw (fun _ => gd) (hr.mono (by decide))) rfl (da_cons (dv 0) (da_cons de_int da_nil))) de_int))))))
    (dss_one (ds_par [] (by rfl) sc__law_raw.nd (i := 2) (j := 3) rfl rfl (by decide) rfl rfl (da_cons (dv 3) (da_cons (dv 2) da_nil)) (by rfl)))
    dss_nil)
  (dss_one (ds_ret (de_tup (da_cons (dv 2) (da_cons (dv 3) (da_cons (de_eq hr.units (de_call (Fb.cal D__law_draw (fun _ => gd) (hr.mono (by decide))) rfl (da_cons (dv 0) (da_cons de_int da_nil))) de_int) (da_cons (de_eq hr.units (de_call (Fb.cal D__law_draw (fun _ => gd) (hr.mono (by decide))) rfl (da_cons (dv 0) (da_cons de_int da_nil))) de_int) da_nil))))))))))), fun ds n Q h => ?_⟩
    obtain ⟨es, rfl, ⟨he, hb⟩, hn, q⟩ := h
    have hlen : ((es.map fD).length : Int) = 6 := by rw [List.length_map, he]; rfl
    have pick : ∀ d ∈ es.map fD, ∃ a, d = fD a ∧ Fok a ∧ Red a := fun d hd => by
      obtain ⟨a, ha, rfl⟩ := List.mem_map.mp hd
      exact ⟨a, rfl, (hb a ha).ok (by decide), (hb a ha).2.2.2⟩
    refine ⟨rfl, rfl, _, rfl, by rw [hlen]; decide, by rw [hlen]; decide, by omega, fun r1 a0 a1 => ix_pick a0 (by omega) fun d hd => ?_⟩
    obtain ⟨a, rfl, ha, ra⟩ := pick d hd
    refine ⟨rfl, rfl, _, rfl, by rw [hlen]; decide, by rw [hlen]; decide, by omega, fun r2 b0 b1 => ix_pick b0 (by omega) fun d hd => ?_⟩
    obtain ⟨b, rfl, hb', rb⟩ := pick d hd
    refine ⟨fun ρ m => m = n + 3 ∧ ∃ e, Eok e ∧ Er e ∧ ρ = [some (.d .feed), some (.d (.lst (es.map fD))), some (.d (eD e)), some (.d (fD b))], ?_, ?_⟩
    · refine ⟨rfl, rfl, 8, rfl, by decide, by decide, by omega, fun r3 c0 c1 => ⟨fun _ => ⟨rfl, none, trivial, trivial, rfl⟩, fun _ => ⟨rfl, some a, ha, ra, rfl⟩⟩⟩
    · rintro ρ m ⟨rfl, e1, he1, hr1, rfl⟩
      refine ⟨fun ρ m => m = n + 4 ∧ ∃ e', Eok e' ∧ Er e' ∧ ρ = [some (.d .feed), some (.d (.lst (es.map fD))), some (.d (eD e1)), some (.d (eD e'))], ?_, ?_⟩
      · refine ⟨rfl, rfl, 8, rfl, by decide, by decide, by omega, fun r3 c0 c1 => ⟨fun _ => ⟨rfl, none, trivial, trivial, rfl⟩, fun _ => ⟨rfl, some b, hb', rb, rfl⟩⟩⟩
      · rintro ρ m ⟨rfl, e2, he2, hr2, rfl⟩
        refine ⟨fun ρ m => m ≤ n + 5 ∧ ∃ e e', Eok e ∧ Er e ∧ Eok e' ∧ Er e' ∧ ρ = [some (.d .feed), some (.d (.lst (es.map fD))), some (.d (eD e)), some (.d (eD e'))], ?_, ?_⟩
        · have same : ∀ m, m ≤ n + 5 → m ≤ n + 5 ∧ ∃ e e', Eok e ∧ Er e ∧ Eok e' ∧ Er e' ∧ [some (Sl.d D.feed), some (Sl.d (D.lst (es.map fD))), some (Sl.d (eD e1)), some (Sl.d (eD e2))] = [some (.d .feed), some (.d (.lst (es.map fD))), some (.d (eD e)), some (.d (eD e'))] := fun m hm => ⟨hm, e1, e2, he1, hr1, he2, hr2, rfl⟩
          rcases e1 with _ | x <;> rcases e2 with _ | y
          · exact ⟨nofun, fun _ => ⟨nofun, fun _ => same _ (by omega)⟩⟩
          · exact ⟨nofun, fun _ => ⟨nofun, fun _ => same _ (by omega)⟩⟩
          · exact ⟨fun _ => ⟨nofun, fun _ => ⟨nofun, fun _ => same _ (by omega)⟩⟩, nofun⟩
          · refine ⟨fun _ => ⟨fun _ => ⟨rfl, rfl, y, x, rfl, he2, he1, fun z e => ?_⟩, nofun⟩, nofun⟩
            subst e
            refine ⟨fun c => ⟨rfl, rfl, 4, rfl, by decide, by decide, by omega, fun r4 d0 d1 => ⟨fun _ => ⟨by omega, some y, some x, he2, hr2, he1, hr1, rfl⟩, fun _ => same _ (by omega)⟩⟩, fun c => ⟨nofun, fun _ => same _ (by omega)⟩⟩
        · rintro ρ m ⟨hm, e3, e4, he3, hr3, he4, hr4, rfl⟩
          refine ⟨rfl, rfl, 2, rfl, by decide, by decide, by omega, fun r5 d0 d1 => ?_⟩
          refine ⟨rfl, rfl, 2, rfl, by decide, by decide, by omega, fun r6 f0 f1 => ⟨szl (by simp), ?_⟩⟩
          exact q ⟨e3, e4, _, _⟩ _ ⟨⟨he3, he4⟩, hr3, hr4⟩ (by omega)
end
end Lw

namespace Lw
open PySem PySem.Spec PyProof.Rows L2 Fw Dw
def Spots (l : List D) : Prop := ∀ d ∈ l, ∃ a, d = fD a ∧ Fok a
def spSpots : SpD := fun ds n Q _ => ∃ es, ds = [.lst (es.map fD)] ∧ Ends es ∧ ∀ l, Spots l → l.length ≤ 100 → Q (.lst l) n
/-- the law's own ends of what two have in common -/
def lowM (e : Option Fr2) (b : Bool) (e' : Option Fr2) (b' : Bool) : Option Fr2 × Bool := match e, e' with
  | none, none => (none, false)
  | _, _ => endM true e b e' b'
def highM (e : Option Fr2) (b : Bool) (e' : Option Fr2) (b' : Bool) : Option Fr2 × Bool := match e, e' with
  | none, none => (none, false)
  | _, _ => endM false e b e' b'
def pL : D → Bool
  | .tup (.non :: _) => false
  | _ => true
def pH : D → Bool
  | .tup (_ :: .non :: _) => false
  | _ => true
def metR (r s : Rg) : Rg := ⟨(lowM r.lo r.li s.lo s.li).1, (highM r.hi r.hi' s.hi s.hi').1, (lowM r.lo r.li s.lo s.li).2, (highM r.hi r.hi' s.hi s.hi').2⟩
def spMet : SpD := fun ds n Q _ => ∃ r s, ds = [rT r, rT s] ∧ Raw r ∧ Raw s ∧ ((metR r s).void = true → Q .non n) ∧ ((metR r s).void = false → Q (rT (metR r s)) n)
theorem met_plain (r s : Rg) : meetM r.plain s.plain = if (metR r s).void = true then none else some (metR r s).plain := by
  obtain ⟨lo, hi, li, hi'⟩ := r
  obtain ⟨lo2, hi2, li2, hi2'⟩ := s
  have key : ∀ (g : Bool) (e e' : Option Fr2) (b b' : Bool), (endM g e (b && e.isSome) e' (b' && e'.isSome)).1 = (match e, e' with | none, none => (none, false) | _, _ => endM g e b e' b').1 ∧
      (endM g e (b && e.isSome) e' (b' && e'.isSome)).2 = ((match e, e' with | none, none => (none, false) | _, _ => endM g e b e' b').2 && (match e, e' with | none, none => (none, false) | _, _ => endM g e b e' b').1.isSome) := by
    intro g e e' b b'
    rcases e with _ | a <;> rcases e' with _ | c
    · simp [endM]
    · simp [endM]
    · simp [endM]
    · simp only [endM, Option.isSome, Bool.and_true]
      split
      · simp
      · split <;> simp
  obtain ⟨k1, k2⟩ := key true lo lo2 li li2
  obtain ⟨k3, k4⟩ := key false hi hi2 hi' hi2'
  have vd : ∀ (a b : Option Fr2) (x y : Bool), void a b (x && a.isSome) (y && b.isSome) = void a b x y := by
    intro a b x y
    rcases a with _ | a <;> rcases b with _ | b <;> simp [void]
  have mk : ∀ (a b : Option Fr2) (x y : Bool), mkR a b (x && a.isSome) (y && b.isSome) = mkR a b x y := by
    intro a b x y
    rcases a with _ | a <;> rcases b with _ | b <;> simp [mkR]
  show (let l := endM true lo (li && lo.isSome) lo2 (li2 && lo2.isSome); let h := endM false hi (hi' && hi.isSome) hi2 (hi2' && hi2.isSome); if void l.1 h.1 l.2 h.2 = true then none else some (mkR l.1 h.1 l.2 h.2)) = _
  dsimp only
  rw [k1, k2, k3, k4, vd, mk]
  rfl
theorem metR_ok {r s : Rg} (h : Raw r) (h' : Raw s) : (metR r s).ok := by
  have k : ∀ (g : Bool) (e e' : Option Fr2) (b b' : Bool), Eok e → Eok e' → Eok (match e, e' with | none, none => (none, false) | _, _ => endM g e b e' b').1 := by
    intro g e e' b b' h h'
    rcases e with _ | a <;> rcases e' with _ | c
    · exact h
    · exact endM_ok h h'
    · exact endM_ok h h'
    · exact endM_ok h h'
  exact ⟨k true _ _ _ _ h.ok.1 h'.ok.1, k false _ _ _ _ h.ok.2 h'.ok.2⟩
theorem ix_at {l : List D} {i : Int} {d : D} {n : Nat} {Q : QD} (h : atI l i = some d) (q : Q d n) : dIx (.lst l) (.int i) n Q := by
  show (match atI l i with | some d => Q d n | none => False)
  rw [h]; exact q
theorem less_asym {a b : Fr2} (h : less a b = true) : less b a = false ∧ a ≠ b := by
  have h' := of_decide_eq_true h
  refine ⟨decide_eq_false (by omega), fun z => ?_⟩
  subst z
  omega
section
variable {P : Program} {w : World} {K : PySem.W.Frag} {mg : Str → Option Value} {base : Heap} {f : Addr} {fd : FuncData}
abbrev s__law_spots : Stmt := top 32
theorem sc__law_spots : FnScope ["_law_ends", "_law_found", "_law_one"] ["_law_ends"] (defScope s__law_spots) := ⟨rfl, rfl, rfl, by decide +kernel, rfl, by decide +kernel, by decide +kernel⟩
theorem ok__law_spots (F : FunD K "_law_spots" "_law_spots" (defArgs s__law_spots) (defBody s__law_spots) (defScope s__law_spots) [] [] f fd) (D__law_low : Fb true P w K mg base CX0 1 "_law_low" 2 [] (fun ds _ => ds) (liftSp K spLow)) : FnX true P w K mg base CX0 2 f fd ["_law_ends"] (liftSp K spSpots) := by
  refine fnD F sc__law_spots (fun ds n Q E h => ?_) (fun cdv A outer s H E Ed hg hr => ?_)
  · obtain ⟨es, rfl, _⟩ := h; rfl
  · have gd : A.guards = some [] := hg rfl
    refine ⟨_, DSs.nx (dss_cons (ds_setO (i := 1) [] sc__law_spots.nd rfl (Or.inl rfl) (do_lst da_nil))
  (dss_cons (ds_for [] PassesOwn.never rfl (di_any (dv 0)) (dg_name (i := 2) sc__law_spots.nd rfl (.inl rfl))
    (dss_cons (ds_setO (i := 1) [1] sc__law_spots.nd rfl (Or.inl rfl) (do_add (dv 1) (DO.de (do_lst (da_cons (dv 2) (da_cons (de_call (Fb.cal D__law_low (fun _ => gd) (hr.mono (by decide))) rfl (da_cons (de_add (de_mul de_int (de_ix (dv 2) de_int)) de_int) (da_cons (de_mul de_int (de_ix (dv 2) de_int)) da_nil))) (da_cons (de_call (Fb.cal D__law_low (fun _ => gd) (hr.mono (by decide))) rfl (da_cons (de_sub (de_mul de_int (de_ix (dv 2) de_int)) de_int) (da_cons (de_mul de_int (de_ix (dv 2) de_int)) da_nil))) da_nil)))))))
      (dss_one (ds_app 1 [] (de_call (Fb.cal D__law_low (fun _ => gd) (hr.mono (by decide))) rfl (da_cons (de_add (de_ix (dv 2) de_int) (de_ix (de_ix (dv 0) de_int) de_int)) (da_cons (de_add (de_ix (dv 2) de_int) (de_ix (de_ix (dv 0) de_int) de_int)) da_nil)))))))
  (dss_one (ds_ret (dv 1))))), fun ds n Q h => ?_⟩
    obtain ⟨es, rfl, ⟨hl, hb⟩, q⟩ := h
    obtain ⟨e0, e1, e2, e3, e4, e5, rfl⟩ : ∃ e0 e1 e2 e3 e4 e5, es = [e0, e1, e2, e3, e4, e5] := by
      match es, hl with
      | [a, b, c, d, e, f], _ => exact ⟨a, b, c, d, e, f, rfl⟩
    have hb0 := hb e0 (by simp)
    have seven : (7 : Int).natAbs < 2 ^ 3 := by decide
    have bnd : ∀ i : Int, i.natAbs < 2 ^ 200 → -(2 ^ 200) < i ∧ i < 2 ^ 200 := fun i h => by
      have : ((2 ^ 200 : Nat) : Int) = (2 : Int) ^ 200 := by norm_cast
      omega
    refine ⟨szl (by simp), ⟨fun i ρ m => m = n ∧ ∃ (l : List D) (t : Option Sl), ρ = [some (.d (.lst ([e0, e1, e2, e3, e4, e5].map fD))), some (.own l), t] ∧ Spots l ∧ l.length ≤ 4 * i, ⟨rfl, [], none, rfl, fun d hd => (nomatch hd), by decide⟩, ?_, ?_⟩⟩
    · rintro i d ρ m hd ⟨rfl, l, t, rfl, hs, hll⟩
      have hm : d ∈ [e0, e1, e2, e3, e4, e5].map fD := List.mem_of_getElem? hd
      have hi : i < 6 := by
        have := (List.getElem?_eq_some_iff.mp hd).1
        rw [List.length_map, hl] at this
        exact this
      obtain ⟨a, ha, rfl⟩ := List.mem_map.mp hm
      have hba := hb a ha
      obtain ⟨a1, a2⟩ := bnd _ hba.2.1
      obtain ⟨a3, a4⟩ := bnd _ hba.2.2.1
      obtain ⟨b1, b2⟩ := bnd _ hb0.2.1
      obtain ⟨b3, b4⟩ := bnd _ hb0.2.2.1
      have ap := hba.1
      have bp := hb0.1
      have m1 : CMulW 7 a.1 := mulW_of seven hba.2.1 (by decide) (by decide) (by decide)
      have m2 : CMulW 7 a.2 := mulW_of seven hba.2.2.1 (by decide) (by decide) (by decide)
      have p210 : (7 : Int) * 2 ^ 200 + 2 ^ 200 < 2 ^ 210 := by decide
      refine ⟨m1, m2, rfl, rfl, _, _, 210, rfl, by omega, by decide, by decide, natAbs_lt (by omega) (by omega), natAbs_lt (by omega) (by omega), fun c1 hc1 => ?_⟩
      refine ⟨m1, m2, rfl, rfl, _, _, 210, rfl, by omega, by decide, by decide, natAbs_lt (by omega) (by omega), natAbs_lt (by omega) (by omega), fun c2 hc2 => ?_⟩
      refine ⟨szl (by simp), sl_big (by simp; omega), rfl, rfl, _, _, 210, rfl, by omega, by decide, by decide, natAbs_lt (by omega) (by omega), natAbs_lt (by omega) (by omega), fun c3 hc3 => ?_⟩
      refine ⟨Nat.lt_of_lt_of_le (by simp; omega : _ < 100) (by decide), rfl, _, _, rfl, ?_, by simp; omega⟩
      intro d hd
      simp only [List.mem_append, List.mem_cons, List.not_mem_nil, or_false] at hd
      rcases hd with (hd | h | h | h) | h
      · exact hs d hd
      · exact ⟨a, h, hba.ok (by decide)⟩
      · exact ⟨c1, h, hc1.ok (by decide)⟩
      · exact ⟨c2, h, hc2.ok (by decide)⟩
      · exact ⟨c3, h, hc3.ok (by decide)⟩
    · rintro ρ m ⟨rfl, l, t, rfl, hs, hll⟩
      rw [List.length_map, hl] at hll
      exact q l hs (by omega)
abbrev s__law_met : Stmt := top 33
theorem sc__law_met : FnScope ["_law_one", "_law_other", "_law_lows", "_law_highs", "_law_low_here", "_law_high", "_law_low_is", "_law_high_is", "_law_raw_here", "_law_met_here"] ["_law_one", "_law_other"] (defScope s__law_met) := ⟨rfl, rfl, rfl, by decide +kernel, rfl, by decide +kernel, by decide +kernel⟩
theorem ok__law_met (F : FunD K "_law_met" "_law_met" (defArgs s__law_met) (defBody s__law_met) (defScope s__law_met) [] [] f fd) (D__law_less : DLLess P w K mg base) (D__law_is_void : Fb true P w K mg base CX0 2 "_law_is_void" 1 [] (fun ds _ => ds) (liftSp K spVoid)) : FnX true P w K mg base CX0 3 f fd ["_law_one", "_law_other"] (liftSp K spMet) := by
  refine fnD F sc__law_met (fun ds n Q E h => ?_) (fun cdv A outer s H E Ed hg hr => ?_)
  · obtain ⟨r, s, rfl, _⟩ := h; rfl
  · have gd : A.guards = some [] := hg rfl
    refine ⟨_, DSs.nx (dss_cut (ds_setLc (i := 2) [] (own := [("_law_raw_here", 8)]) (by rfl) sc__law_met.nd rfl rfl (sw_true rfl rfl rfl (by decide +kernel)) (di_any (de_tup (da_cons (dv 0) (da_cons (dv 1) da_nil)))) (blkOk_by (own := [("_law_raw_here", 8)]) (N := ["_law_one", "_law_other", "_law_lows", "_law_highs", "_law_low_here", "_law_high", "_law_low_is", "_law_high_is", "_law_raw_here", "_law_met_here"]) (sc := defScope (top 33)) (by decide +kernel)) (fun _ _ _ _ _ => (dg_name (i := 8) sc__law_met.nd rfl (.inl rfl))) (fun _ _ _ _ _ => (dts_one (dt_isnt (de_ix (dv 8) de_int) de_non))) (fun _ _ _ _ _ => (dv 8)))
  (dss_cut (ds_setLc (i := 3) [] (own := [("_law_raw_here", 8)]) (by rfl) sc__law_met.nd rfl rfl (sw_true rfl rfl rfl (by decide +kernel)) (di_any (de_tup (da_cons (dv 0) (da_cons (dv 1) da_nil)))) (blkOk_by (own := [("_law_raw_here", 8)]) (N := ["_law_one", "_law_other", "_law_lows", "_law_highs", "_law_low_here", "_law_high", "_law_low_is", "_law_high_is", "_law_raw_here", "_law_met_here"]) (sc := defScope (top 33)) (by decide +kernel)) (fun _ _ _ _ _ => (dg_name (i := 8) sc__law_met.nd rfl (.inl rfl))) (fun _ _ _ _ _ => (dts_one (dt_isnt (de_ix (dv 8) de_int) de_non))) (fun _ _ _ _ _ => (dv 8)))
  (dss_cons (ds_asg [] (de_tup (da_cons de_non (da_cons de_non (da_cons de_bl (da_cons de_bl da_nil))))) (dg_tup (by rfl) (dgs_cons (dg_name (i := 4) sc__law_met.nd rfl (.inl rfl)) (dgs_cons (dg_name (i := 5) sc__law_met.nd rfl (.inl rfl)) (dgs_cons (dg_name (i := 6) sc__law_met.nd rfl (.inl rfl)) (dgs_cons (dg_name (i := 7) sc__law_met.nd rfl (.inl rfl)) dgs_nil))))))
  (dss_cut (ds_for [2] PassesOwn.never rfl (di_any (dv 2)) (dg_name (i := 8) sc__law_met.nd rfl (.inl rfl))
    (dss_one (ds_if (DW.dt (dw_or (dt_is (dv 4) de_non) (dw_or1 (dt_tru (de_call (Fb.cal D__law_less (fun _ => gd) (hr.mono (by decide))) rfl (da_cons (dv 4) (da_cons (de_ix (dv 8) de_int) da_nil)))))))
        (dss_one (ds_par [] (by rfl) sc__law_met.nd (i := 4) (j := 6) rfl rfl (by decide) rfl rfl (da_cons (de_ix (dv 8) de_int) (da_cons (de_ix (dv 8) de_int) da_nil)) (by rfl)))
        (dss_one (ds_if (dt_eq hr.units (dv 4) (de_ix (dv 8) de_int))
            (dss_one (ds_set (i := 6) [] sc__law_met.nd rfl (Or.inl rfl) (de_and (dv 6) (de_one (de_ix (dv 8) de_int)))))
            dss_nil)))))
  (dss_cut (ds_for [3] PassesOwn.never rfl (di_any (dv 3)) (dg_name (i := 8) sc__law_met.nd rfl (.inl rfl))
    (dss_one (ds_if (DW.dt (dw_or (dt_is (dv 5) de_non) (dw_or1 (dt_tru (de_call (Fb.cal D__law_less (fun _ => gd) (hr.mono (by decide))) rfl (da_cons (de_ix (dv 8) de_int) (da_cons (dv 5) da_nil)))))))
        (dss_one (ds_par [] (by rfl) sc__law_met.nd (i := 5) (j := 7) rfl rfl (by decide) rfl rfl (da_cons (de_ix (dv 8) de_int) (da_cons (de_ix (dv 8) de_int) da_nil)) (by rfl)))
        (dss_one (ds_if (dt_eq hr.units (dv 5) (de_ix (dv 8) de_int))
            (dss_one (ds_set (i := 7) [] sc__law_met.nd rfl (Or.inl rfl) (de_and (dv 7) (de_one (de_ix (dv 8) de_int)))))
            dss_nil)))))
  (dss_cons (ds_set (i := 9) [] sc__law_met.nd rfl (Or.inl rfl) (de_tup (da_cons (dv 4) (da_cons (dv 5) (da_cons (dv 6) (da_cons (dv 7) da_nil))))))
  (dss_one (ds_ret (de_ifExp (dt_tru (de_call (Fb.cal D__law_is_void (fun _ => gd) (hr.mono (by decide))) rfl (da_cons (dv 9) da_nil))) de_non (dv 9)))))))))), fun ds n Q h => ?_⟩
    obtain ⟨r, s, rfl, hr1, hs1, q1, q2⟩ := h
    have okm := metR_ok hr1 hs1
    obtain ⟨lo, hi, li, hi'⟩ := r
    obtain ⟨lo2, hi2, li2, hi2'⟩ := s
    have ol := hr1.ok.1
    have oh := hr1.ok.2
    have ol2 := hs1.ok.1
    have oh2 := hs1.ok.2
    dsimp only at ol oh ol2 oh2
    generalize hR : (⟨lo, hi, li, hi'⟩ : Rg) = r at *
    generalize hS : (⟨lo2, hi2, li2, hi2'⟩ : Rg) = s at *
    refine ⟨fun ρ m => m = n ∧ ρ = [some (.d (rT r)), some (.d (rT s)), some (.own ([rT r, rT s].filter pL)), none, none, none, none, none, none, none], ⟨szl (by simp), szl (by simp), ?_⟩, ?_⟩
    · refine Comp.pure pL id (fun d hd R acc h1 h2 => ?_) ⟨rfl, by rw [List.map_id]; rfl⟩
      have hd' : d = rT r ∨ d = rT s := by simpa using hd
      rcases hd' with h | h <;> subst h
      · subst hR
        rcases lo with _ | a
        · exact ⟨nofun, fun _ => h2 rfl⟩
        · exact ⟨fun _ => h1 rfl, nofun⟩
      · subst hS
        rcases lo2 with _ | a
        · exact ⟨nofun, fun _ => h2 rfl⟩
        · exact ⟨fun _ => h1 rfl, nofun⟩
    rintro ρ m ⟨rfl, rfl⟩
    refine ⟨fun ρ m' => m' = m ∧ ρ = [some (.d (rT r)), some (.d (rT s)), some (.own ([rT r, rT s].filter pL)), some (.own ([rT r, rT s].filter pH)), none, none, none, none, none, none], ⟨szl (by simp), szl (by simp), ?_⟩, ?_⟩
    · refine Comp.pure pH id (fun d hd R acc h1 h2 => ?_) ⟨rfl, by rw [List.map_id]; rfl⟩
      have hd' : d = rT r ∨ d = rT s := by simpa using hd
      rcases hd' with h | h <;> subst h
      · subst hR
        rcases hi with _ | a
        · exact ⟨nofun, fun _ => h2 rfl⟩
        · exact ⟨fun _ => h1 rfl, nofun⟩
      · subst hS
        rcases hi2 with _ | a
        · exact ⟨nofun, fun _ => h2 rfl⟩
        · exact ⟨fun _ => h1 rfl, nofun⟩
    rintro ρ m' ⟨rfl, rfl⟩
    refine ⟨szl (by simp), rfl, ?_⟩
    refine ⟨fun ρ m => m = m' ∧ ∃ t, ρ = [some (.d (rT r)), some (.d (rT s)), some (.d (.lst ([rT r, rT s].filter pL))), some (.own ([rT r, rT s].filter pH)), some (.d (eD (lowM lo li lo2 li2).1)), some (.d .non), some (.d (.bl (lowM lo li lo2 li2).2)), some (.d (.bl false)), t, none], ?_, ?_⟩
    · refine Loop.all ?_
      subst hR hS
      rcases lo with _ | a <;> rcases lo2 with _ | c
      · exact ⟨rfl, none, rfl⟩
      · exact ⟨fun _ => ⟨fun _ => ⟨rfl, _, rfl⟩, nofun⟩, nofun⟩
      · exact ⟨fun _ => ⟨fun _ => ⟨rfl, _, rfl⟩, nofun⟩, nofun⟩
      · refine ⟨fun _ => ⟨fun _ => ?_, nofun⟩, nofun⟩
        refine ⟨nofun, fun _ => ⟨rfl, rfl, a, c, rfl, ol, ol2, fun x e => ?_⟩⟩
        subst e
        refine ⟨fun c1 => ?_, fun c1 => ?_⟩
        · have e1 : lowM (some a) li (some c) li2 = (some c, li2) := by
            show (if a = c then _ else if less a c = true then _ else _) = _
            rw [if_neg (less_asym c1).2, if_pos c1]
          exact ⟨rfl, _, by rw [e1]; rfl⟩
        · refine ⟨rfl, rfl, ?_⟩
          show br (eqD (fD a) (fD c)) _ _
          rw [eqD_F]
          refine ⟨fun c2 => ?_, fun c2 => ?_⟩
          · have e1 : lowM (some a) li (some c) li2 = (some a, li && li2) := if_pos (of_decide_eq_true c2)
            cases li
            · exact ⟨nofun, fun _ => ⟨rfl, _, by rw [e1]; rfl⟩⟩
            · exact ⟨fun _ => ⟨rfl, _, by rw [e1]; rfl⟩, nofun⟩
          · have e1 : lowM (some a) li (some c) li2 = (some a, li) := by
              show (if a = c then _ else if less a c = true then _ else _) = _
              rw [if_neg (of_decide_eq_false c2), if_neg (by rw [c1]; decide)]
            exact ⟨rfl, _, by rw [e1]; rfl⟩
    rintro ρ m ⟨rfl, t, rfl⟩
    refine ⟨fun ρ m' => m' = m ∧ ∃ t t', ρ = [some (.d (rT r)), some (.d (rT s)), some (.d (.lst ([rT r, rT s].filter pL))), t', some (.d (eD (lowM lo li lo2 li2).1)), some (.d (eD (highM hi hi' hi2 hi2').1)), some (.d (.bl (lowM lo li lo2 li2).2)), some (.d (.bl (highM hi hi' hi2 hi2').2)), t, none], ?_, ?_⟩
    · refine Loop.all ?_
      have rr := hr1.rh
      have rs := hs1.rh
      subst hR hS
      rcases hi with _ | a <;> rcases hi2 with _ | c
      · exact ⟨rfl, _, _, rfl⟩
      · exact ⟨fun _ => ⟨fun _ => ⟨rfl, _, _, rfl⟩, nofun⟩, nofun⟩
      · exact ⟨fun _ => ⟨fun _ => ⟨rfl, _, _, rfl⟩, nofun⟩, nofun⟩
      · refine ⟨fun _ => ⟨fun _ => ?_, nofun⟩, nofun⟩
        refine ⟨nofun, fun _ => ⟨rfl, rfl, c, a, rfl, oh2, oh, fun x e => ?_⟩⟩
        subst e
        refine ⟨fun c1 => ?_, fun c1 => ?_⟩
        · have e1 : highM (some a) hi' (some c) hi2' = (some c, hi2') := by
            show (if a = c then _ else if less a c = false then _ else _) = _
            rw [if_neg (Ne.symm (less_asym c1).2), if_pos (less_asym c1).1]
          exact ⟨rfl, _, _, by rw [e1]; rfl⟩
        · refine ⟨rfl, rfl, ?_⟩
          show br (eqD (fD a) (fD c)) _ _
          rw [eqD_F]
          refine ⟨fun c2 => ?_, fun c2 => ?_⟩
          · have e1 : highM (some a) hi' (some c) hi2' = (some a, hi' && hi2') := if_pos (of_decide_eq_true c2)
            cases hi'
            · exact ⟨nofun, fun _ => ⟨rfl, _, _, by rw [e1]; rfl⟩⟩
            · exact ⟨fun _ => ⟨rfl, _, _, by rw [e1]; rfl⟩, nofun⟩
          · have e1 : highM (some a) hi' (some c) hi2' = (some a, hi') := by
              show (if a = c then _ else if less a c = false then _ else _) = _
              have c3 := of_decide_eq_false c2
              rw [if_neg c3]
              have : less a c = true := by
                cases z : less a c with
                | true => rfl
                | false => exact absurd (red_eq oh.1 oh2.1 rr rs z c1) c3
              rw [this, if_neg (by decide)]
            exact ⟨rfl, _, _, by rw [e1]; rfl⟩
    rintro ρ m' ⟨rfl, t, t', rfl⟩
    subst hR hS
    refine ⟨szl (by simp), rfl, rfl, _, rfl, okm, fun x e => ?_⟩
    subst e
    exact ⟨fun c => q1 c, fun c => q2 c⟩
end
end Lw

/-! ### repr: sizes -/
namespace Lw
open PySem PySem.Spec PyProof.Rows L2 Fw SX
theorem sh_int {i : Int} (h : i.natAbs.log2 < 1920) : (PyData.int i).showable = true ∧ (PyData.int i).shown.length ≤ sizeLine := ⟨decide_eq_true h, Nat.le_trans (int_text_len_1921 h) (by decide)⟩
theorem lv_int {i : Int} (h : i.natAbs.log2 < 1920) : (PyData.int i).leavesShort 1921 = true := decide_eq_true (int_text_len_1921 h)
theorem wt_int {i : Int} (h : i.natAbs.log2 < 1920) : (PyData.int i).weight ≤ 1920 := by
  show (if (i == 0) = true then 0 else i.natAbs.log2 + 1) ≤ 1920
  split <;> omega
theorem sh_of {d : PyData} (h : d.leavesShort 1921 = true) (hw : d.weight ≤ 8000) : d.shown.length ≤ sizeLine := by
  have h1 := PyData.shown_le 1921 (by decide) d h
  have h2 : (1921 + 2) * d.weight ≤ (1921 + 2) * 8000 := Nat.mul_le_mul_left _ hw
  have h3 : (1921 + 2) * 8000 + 10000 ≤ sizeLine := by decide
  omega
/-- what call_reprD asks of data -/
structure Shows (d : PyData) : Prop where
  s : d.showable = true
  n : d.hasDict = false
  dp : d.depth ≤ 60
  z : d.shown.length ≤ sizeLine
theorem Shows.int {i : Int} (h : i.natAbs.log2 < 1920) : Shows (.int i) := ⟨(sh_int h).1, rfl, by show 0 ≤ 60; omega, (sh_int h).2⟩
/-- a pair of numbers -/
theorem Shows.two {i j : Int} (hi : i.natAbs.log2 < 1920) (hj : j.natAbs.log2 < 1920) : Shows (.tuple [.int i, .int j]) := by
  refine ⟨?_, rfl, by show (max 0 (max 0 0)) + 1 ≤ 60; decide, sh_of ?_ ?_⟩
  · show ((PyData.int i).showable && ((PyData.int j).showable && true)) = true
    rw [(sh_int hi).1, (sh_int hj).1]; rfl
  · show ((PyData.int i).leavesShort 1921 && ((PyData.int j).leavesShort 1921 && true)) = true
    rw [lv_int hi, lv_int hj]; rfl
  · show (PyData.int i).weight + 1 + ((PyData.int j).weight + 1 + 0) ≤ 8000
    have := wt_int hi
    have := wt_int hj
    omega
end Lw

namespace Lw
open PySem PySem.Spec PyProof.Rows L2 Fw Dw
/-! the law itself -/
theorem lk_no (r : Rg) (m : Str) (h1 : ¬ ("low" : Str) = m) (h2 : ¬ ("high" : Str) = m) (h3 : ¬ ("low_in" : Str) = m) (h4 : ¬ ("high_in" : Str) = m) : (rF r).lookup m = none := by
  unfold rF
  rw [List.lookup_cons, beq_ne h1]
  show List.lookup _ (_ :: _) = _
  rw [List.lookup_cons, beq_ne h2]
  show List.lookup _ (_ :: _) = _
  rw [List.lookup_cons, beq_ne h3]
  show List.lookup _ (_ :: _) = _
  rw [List.lookup_cons, beq_ne h4]
  rfl
theorem lk_has (r : Rg) : (rF r).lookup ("has" : Str) = none := lk_no r _ (by decide +kernel) (by decide +kernel) (by decide +kernel) (by decide +kernel)
theorem lk_meet (r : Rg) : (rF r).lookup ("meet" : Str) = none := lk_no r _ (by decide +kernel) (by decide +kernel) (by decide +kernel) (by decide +kernel)
theorem sh_eD {e : Option Fr2} (h : Eok e) : (eD e).py.showable = true ∧ (eD e).py.leavesShort 1921 = true ∧ (eD e).py.weight ≤ 3842 := by
  rcases e with _ | a
  · refine ⟨?_, ?_, ?_⟩ <;> simp only [eD, D.py] <;> decide
  · have l1 : a.1.natAbs.log2 < 1920 := Nat.lt_trans (log2_lt (by decide) h.2.1) (by decide)
    have l2 : a.2.natAbs.log2 < 1920 := Nat.lt_trans (log2_lt (by decide) h.2.2) (by decide)
    have e : (eD (some a)).py = .tuple [.int a.1, .int a.2] := by simp [eD, fD, D.py, pyL]
    rw [e]
    refine ⟨?_, ?_, ?_⟩
    · show ((PyData.int a.1).showable && ((PyData.int a.2).showable && true)) = true
      rw [(sh_int l1).1, (sh_int l2).1]; rfl
    · show ((PyData.int a.1).leavesShort 1921 && ((PyData.int a.2).leavesShort 1921 && true)) = true
      rw [lv_int l1, lv_int l2]; rfl
    · show (PyData.int a.1).weight + 1 + ((PyData.int a.2).weight + 1 + 0) ≤ 3842
      have := wt_int l1
      have := wt_int l2
      omega
theorem sh_rT {r : Rg} (h : r.ok) : (rT r).py.showable = true ∧ (rT r).py.shown.length ≤ sizeLine := by
  obtain ⟨lo, hi, li, hi'⟩ := r
  obtain ⟨h1, h2⟩ := h
  obtain ⟨a1, a2, a3⟩ := sh_eD h1
  obtain ⟨b1, b2, b3⟩ := sh_eD h2
  have e : (rT ⟨lo, hi, li, hi'⟩).py = .tuple [(eD lo).py, (eD hi).py, .bool li, .bool hi'] := by simp [rT, D.py, pyL]
  rw [e]
  refine ⟨?_, sh_of ?_ ?_⟩
  · show ((eD lo).py.showable && ((eD hi).py.showable && (true && (true && true)))) = true
    dsimp only at a1 b1
    rw [a1, b1]; rfl
  · show ((eD lo).py.leavesShort 1921 && ((eD hi).py.leavesShort 1921 && ((PyData.bool li).leavesShort 1921 && ((PyData.bool hi').leavesShort 1921 && true)))) = true
    dsimp only at a2 b2
    rw [a2, b2]; cases li <;> cases hi' <;> decide
  · show (eD lo).py.weight + 1 + ((eD hi).py.weight + 1 + ((PyData.bool li).weight + 1 + ((PyData.bool hi').weight + 1 + 0))) ≤ 8000
    have w : ∀ b, (PyData.bool b).weight ≤ 10 := by decide
    have := w li
    have := w hi'
    dsimp only at a3 b3
    omega
theorem sh_bl (b : Bool) : (D.bl b).py.showable = true ∧ (D.bl b).py.shown.length ≤ sizeLine := by
  cases b <;> simp only [D.py] <;> decide +kernel
theorem mkR_mkR (lo hi : Option Fr2) (li hi' : Bool) : mkR lo hi (li && lo.isSome) (hi' && hi.isSome) = mkR lo hi li hi' := by
  unfold mkR; simp
theorem plain_has (r : Rg) (x : Fr2) : r.plain.has x = r.has x := by
  obtain ⟨lo, hi, li, hi'⟩ := r
  unfold Rg.plain Rg.has mkR
  rcases lo with _ | a <;> rcases hi with _ | b <;> simp [loM, hiM]
theorem plain_str (r : Rg) : strT r.plain = strT r := by
  obtain ⟨lo, hi, li, hi'⟩ := r
  unfold Rg.plain strT mkR
  rcases lo with _ | a <;> rcases hi with _ | b <;> simp [lowT, highT]
theorem meet_self {r : Rg} (h : r.void = false) : meetM r.plain r.plain = some r.plain := by
  obtain ⟨lo, hi, li, hi'⟩ := r
  have e1 : ∀ (g : Bool) (e : Option Fr2) (b : Bool), endM g e b e b = (e, b) := by
    intro g e b
    rcases e with _ | a
    · rfl
    · show (if a = a then (some a, b && b) else _) = _
      rw [if_pos rfl, Bool.and_self]
  have h' : void lo hi li hi' = false := h
  have vd : ∀ (a b : Option Fr2) (x y : Bool), void a b (x && a.isSome) (y && b.isSome) = void a b x y := by
    intro a b x y
    rcases a with _ | a <;> rcases b with _ | b <;> simp [void]
  unfold meetM Rg.plain mkR
  dsimp only
  rw [e1, e1, vd, h']
  simp
theorem brF {b : Bool} {p q : Prop} (h : b = false) (hq : q) : br b p q := ⟨fun z => absurd (h.symm.trans z) (by decide), fun _ => hq⟩
theorem brT {b : Bool} {p q : Prop} (h : b = true) (hp : p) : br b p q := ⟨fun _ => hp, fun z => absurd (h.symm.trans z) (by decide)⟩
theorem br_and {a b : Bool} {X T R : Prop} (hX : a = true → b = true → R → X) (hR : R) : br a (br b X (br false T R)) (br false T R) :=
  ⟨fun h => ⟨fun h2 => hX h h2 hR, fun _ => brF rfl hR⟩, fun _ => brF rfl hR⟩
def gRange2 (ds _ : List D) : List D := ds ++ [.bl true, .bl true]
section
variable {P : Program} {w : World} {K : PySem.W.Frag} {mg : Str → Option Value} {base : Heap} {f : Addr} {fd : FuncData}
abbrev s_law : Stmt := top 34
theorem sc_law : FnScope ["_law_script", "_law_feed_here", "_law_ends", "_law_kept", "_law_turn", "_law_raw_here", "_law_one", "_law_other", "_law_due", "_law_told", "_law_k", "_law_spot"] ["_law_script"] (defScope s_law) := ⟨rfl, rfl, rfl, by decide +kernel, rfl, by decide +kernel, by decide +kernel⟩
theorem ok_law {C NR : Addr} (F : FunD K "law" "law" (defArgs s_law) (defBody s_law) (defScope s_law) [] [] f fd) (D__law_feed : Dn P w K mg base CX0 1 "_law_feed" ["_law_script"] [] (spFeed K)) (IC : IsK K C)
    (k0 : PySem.W.kitOne K (.type "NoneType") (.ref C) = some false) (k1 : PySem.W.kitOne K (.type "bool") (.ref C) = some false) (k2 : PySem.W.kitOne K (.type "str") (.ref C) = some false) (k3 : PySem.W.kitOne K (.type "tuple") (.ref C) = some false) (k4 : PySem.W.kitOne K (.type "list") (.ref C) = some false)
    (u0 : PySem.W.subIn K (.ref C) (.type "NoneType") = some false) (u1 : PySem.W.subIn K (.ref C) (.type "bool") = some false) (u2 : PySem.W.subIn K (.ref C) (.type "str") = some false) (u3 : PySem.W.subIn K (.ref C) (.type "tuple") = some false) (u4 : PySem.W.subIn K (.ref C) (.type "list") = some false)
    (D__law_fraction : Fb true P w K mg base CX0 3 "_law_fraction" 1 [] (fun ds _ => ds) (liftSp K spFrac)) (D__law_raw : Fb true P w K mg base CX0 2 "_law_raw" 2 [] (fun ds _ => ds) (liftSp K spRaw))
    (D__law_is_void : Fb true P w K mg base CX0 2 "_law_is_void" 1 [] (fun ds _ => ds) (liftSp K spVoid)) (D__law_refused : Fb true P w K mg base CX0 6 "_law_refused" 1 [] (fun ds _ => ds) (liftSp K spRefused))
    (D__law_made : Fb true P w K mg base (L2.CX P w) 5 "_law_made" 1 [] (fun ds _ => ds) (liftSp K (spMade C NR))) (D__law_fields : Fb true P w K mg base CX0 1 "_law_fields" 1 [] (fun ds _ => ds) (liftSp K (spFields C)))
    (D__law_plain : Fb true P w K mg base CX0 1 "_law_plain" 1 [] (fun ds _ => ds) (liftSp K spPlain)) (D__law_text : Fb true P w K mg base CX0 2 "_law_text" 1 [] (fun ds _ => ds) (liftSp K spLText))
    (D__law_spots : Fb true P w K mg base CX0 2 "_law_spots" 1 [] (fun ds _ => ds) (liftSp K spSpots)) (D__law_has : Fb true P w K mg base CX0 2 "_law_has" 2 [] (fun ds _ => ds) (liftSp K spLHas)) (D__law_met : Fb true P w K mg base CX0 3 "_law_met" 2 [] (fun ds _ => ds) (liftSp K spMet))
    (M_has : Mt P w K mg base 2 "has" C (spHas C)) (M_meet : Mt P w K mg base 5 "meet" C (spMeet C)) (D_Range : Mb P w K mg base (L2.CX P w) 3 "Range" C 2 [] gRange2 (iniR NR)) (EQ : OwnEq P w K mg base 1 C (spREq K C)) (SR : OwnStr P w K mg base 3 C (spStrT C))
    (mg_range : mg "range" = none) (mg_max : mg "max" = none) (mg_min : mg "min" = none) (mg_len : mg "len" = none) (mg_repr : mg "repr" = none) (mg_str : mg "str" = none) (mg_list : mg "list" = none) :
    FnG P w K mg base CX0 13 f fd ["_law_script"] (spLaw K) := by
  refine law_fn (k := 12) F sc_law (by decide) fun cdv A outer s H E gd hr => ?_
  refine ⟨_, ps_set (i := 1) sc_law.nd rfl (Or.inr rfl) (pe_dn D__law_feed (hr.mono (by decide)) rfl (pa_cons (pv 0) pa_nil)), DSs.nx (dss_cut (ds_setLc (i := 2) [] (own := [("_law_k", 10)]) (by rfl) sc_law.nd rfl rfl (sw_true rfl rfl rfl (by decide +kernel)) (di_range1 mg_range (da_cons de_int da_nil)) (blkOk_by (own := [("_law_k", 10)]) (N := ["_law_script", "_law_feed_here", "_law_ends", "_law_kept", "_law_turn", "_law_raw_here", "_law_one", "_law_other", "_law_due", "_law_told", "_law_k", "_law_spot"]) (sc := defScope (top 34)) (by decide +kernel)) (fun _ _ _ _ _ => (dg_name (i := 10) sc_law.nd rfl (.inl rfl))) (fun _ _ _ _ _ => dts_nil) (fun _ _ _ _ _ => (de_call (Fb.cal D__law_fraction (fun _ => gd) (hr.mono (by decide))) rfl (da_cons (dv 1) da_nil))))
  (dss_cons (ds_setO (i := 3) [] sc_law.nd rfl (Or.inl rfl) (do_lst da_nil))
  (dss_cut (ds_for [] PassesOwn.never rfl (di_range1 mg_range (da_cons (de_callB (call_max2 rfl) cv_max2 (by rfl) mg_max (by decide +kernel) (da_cons de_int (da_cons (de_callB (call_min2 rfl) cv_min2 (by rfl) mg_min (by decide +kernel) (da_cons de_int (da_cons (de_callB call_len cv_len (by rfl) mg_len (by decide +kernel) (da_cons (dv 0) da_nil)) da_nil))) da_nil))) da_nil)) (dg_name (i := 4) sc_law.nd rfl (.inl rfl))
    (dss_cons (ds_set (i := 5) [2] sc_law.nd rfl (Or.inr rfl) (de_call (Fb.cal D__law_raw (fun _ => gd) (hr.mono (by decide))) rfl (da_cons (dv 1) (da_cons (dv 2) da_nil))))
      (dss_one (ds_if (dt_tru (de_call (Fb.cal D__law_is_void (fun _ => gd) (hr.mono (by decide))) rfl (da_cons (dv 5) da_nil)))
        (dss_one (ds_if (dt_not (dt_tru (de_call (Fb.cal D__law_refused (fun _ => gd) (hr.mono (by decide))) rfl (da_cons (dv 5) da_nil))))
            (dss_one (ds_ret de_bl))
            dss_nil))
        (dss_one (ds_app 3 [] (dv 5)))))))
  (dss_cons (ds_for [3] PassesOwn.never rfl (di_any (dv 3)) (dg_name (i := 5) sc_law.nd rfl (.inr rfl))
    (dss_cons (ds_set (i := 6) [] sc_law.nd rfl (Or.inr rfl) (de_call (Fb.calX D__law_made takes0 (fun _ => gd) (hr.mono (by decide))) rfl (da_cons (dv 5) da_nil)))
      (dss_cons (ds_if (DW.dt (dw_or (dt_neP EQ (hr.mono (by decide)) (de_callB (call_reprD gd hr.units) cv_repr (by rfl) mg_repr (by decide +kernel) (da_cons (de_call (Fb.cal D__law_fields (fun _ => gd) (hr.mono (by decide))) rfl (da_cons (dv 6) da_nil)) da_nil)) (de_callB (call_reprD gd hr.units) cv_repr (by rfl) mg_repr (by decide +kernel) (da_cons (de_call (Fb.cal D__law_plain (fun _ => gd) (hr.mono (by decide))) rfl (da_cons (dv 5) da_nil)) da_nil))) (dw_or1 (dt_neP EQ (hr.mono (by decide)) (de_callTy (OwnStr.call SR (hr.mono (by decide))) cv_strO (by rfl) mg_str (by decide +kernel) (da_cons (dv 6) da_nil)) (de_call (Fb.cal D__law_text (fun _ => gd) (hr.mono (by decide))) rfl (da_cons (dv 5) da_nil))))))
        (dss_one (ds_ret de_bl))
        dss_nil)
      (dss_cons (ds_if (dt_neP EQ (hr.mono (by decide)) (DO.de (do_lc (own := [("_law_spot", 11)]) (by rfl) sc_law.nd (di_any (de_call (Fb.cal D__law_spots (fun _ => gd) (hr.mono (by decide))) rfl (da_cons (dv 2) da_nil))) (blkOk_by (own := [("_law_spot", 11)]) (N := ["_law_script", "_law_feed_here", "_law_ends", "_law_kept", "_law_turn", "_law_raw_here", "_law_one", "_law_other", "_law_due", "_law_told", "_law_k", "_law_spot"]) (sc := defScope (top 34)) (by decide +kernel)) (fun _ _ _ _ _ => (dg_name (i := 11) sc_law.nd rfl (.inl rfl))) (fun _ _ _ _ _ => (dts_one (dt_neP EQ (hr.mono (by decide)) (de_callB (call_reprD gd hr.units) cv_repr (by rfl) mg_repr (by decide +kernel) (da_cons (de_meth M_has (hr.mono (by decide)) (dv 6) (da_cons (dv 11) da_nil)) da_nil)) (de_callB (call_reprD gd hr.units) cv_repr (by rfl) mg_repr (by decide +kernel) (da_cons (de_call (Fb.cal D__law_has (fun _ => gd) (hr.mono (by decide))) rfl (da_cons (dv 5) (da_cons (dv 11) da_nil))) da_nil))))) (fun _ _ _ _ _ => (dv 11)))) (DO.de (do_lst da_nil)))
        (dss_one (ds_ret de_bl))
        dss_nil)
      (dss_cons (ds_if (DW.dt (dw_and (dt_tru (de_ix (dv 5) de_int)) (dw_and (dt_tru (de_ix (dv 5) de_int)) (dw_and1 (dt_neP EQ (hr.mono (by decide)) (de_call (Mb.calX D_Range takes0 (hr.mono (by decide))) rfl (da_cons (de_ix (dv 5) de_int) (da_cons (de_ix (dv 5) de_int) da_nil))) (dv 6))))))
        (dss_one (ds_ret de_bl))
        dss_nil)
      (dss_cons (ds_for [3] PassesOwn.never rfl (di_any (dv 3)) (dg_name (i := 7) sc_law.nd rfl (.inl rfl))
        (dss_cons (ds_par [] (by rfl) sc_law.nd (i := 8) (j := 9) rfl rfl (by decide) rfl rfl (da_cons (de_call (Fb.cal D__law_met (fun _ => gd) (hr.mono (by decide))) rfl (da_cons (dv 5) (da_cons (dv 7) da_nil))) (da_cons (de_meth M_meet (hr.mono (by decide)) (dv 6) (da_cons (de_call (Fb.calX D__law_made takes0 (fun _ => gd) (hr.mono (by decide))) rfl (da_cons (dv 7) da_nil)) da_nil)) da_nil)) (by rfl))
          (dss_cons (ds_if (DW.dt (dw_and (dt_is (dv 8) de_non) (dw_and1 (dt_isnt (dv 9) de_non))))
            (dss_one (ds_ret de_bl))
            dss_nil)
          (dss_cons (ds_if (DW.dt (dw_and (dt_isnt (dv 8) de_non) (dw_and1 (DW.dt (dw_or (dt_is (dv 9) de_non) (dw_or1 (dt_neP EQ (hr.mono (by decide)) (de_call (Fb.cal D__law_fields (fun _ => gd) (hr.mono (by decide))) rfl (da_cons (dv 9) da_nil)) (de_call (Fb.cal D__law_plain (fun _ => gd) (hr.mono (by decide))) rfl (da_cons (dv 8) da_nil)))))))))
            (dss_one (ds_ret de_bl))
            dss_nil)
          (dss_one (ds_if (dt_neP EQ (hr.mono (by decide)) (de_eqP EQ (hr.mono (by decide)) (dv 6) (de_call (Fb.calX D__law_made takes0 (fun _ => gd) (hr.mono (by decide))) rfl (da_cons (dv 7) da_nil))) (de_eqP EQ (hr.mono (by decide)) (de_call (Fb.cal D__law_plain (fun _ => gd) (hr.mono (by decide))) rfl (da_cons (dv 5) da_nil)) (de_call (Fb.cal D__law_plain (fun _ => gd) (hr.mono (by decide))) rfl (da_cons (dv 7) da_nil))))
            (dss_one (ds_ret de_bl))
            dss_nil))))))
      (dss_cons (ds_if (DW.dt (dw_or (dt_inP EQ (hr.mono (by decide)) (dv 6) (DO.de (do_lst (da_cons de_non (da_cons de_bl (da_cons (de_callTy (OwnStr.call SR (hr.mono (by decide))) cv_strO (by rfl) mg_str (by decide +kernel) (da_cons (dv 6) da_nil)) (da_cons (dv 5) (da_cons (DO.de (do_callTy (call_list_of) (cv_listc) (by rfl) mg_list (by decide +kernel) (da_cons (dv 5) da_nil))) da_nil)))))))) (dw_or1 (dt_neP EQ (hr.mono (by decide)) (dv 6) (de_call (Fb.calX D__law_made takes0 (fun _ => gd) (hr.mono (by decide))) rfl (da_cons (dv 5) da_nil))))))
        (dss_one (ds_ret de_bl))
        dss_nil)
      (dss_one (ds_if (dt_neP EQ (hr.mono (by decide)) (de_meth M_meet (hr.mono (by decide)) (dv 6) (da_cons (dv 6) da_nil)) (dv 6))
        (dss_one (ds_ret de_bl))
        dss_nil)))))))))
  (dss_one (ds_ret de_bl)))))), fun ns hns => ?_⟩
  have S2 : ∀ n : Nat, n ≤ 100 → n ≤ sizeLine := fun n h => sl_big (by omega)
  refine ⟨fun ρ m => ∃ es, Ends es ∧ m ≤ 120 ∧ ρ = [some (.d (.scr ns)), some (.d .feed), some (.own (es.map fD)), none, none, none, none, none, none, none, none, none], ?_, ?_⟩
  · refine ⟨by decide, by decide, szl (by decide), ⟨fun i acc m => ∃ es, acc = es.map fD ∧ es.length = i ∧ (∀ a ∈ es, Bd 200 a) ∧ m ≤ 20 * i, ⟨[], rfl, rfl, by simp, by decide⟩, ?_, ?_⟩⟩
    · rintro i d acc m hd ⟨es, rfl, rfl, hb, hm⟩
      have hi : es.length < 6 := (List.getElem?_eq_some_iff.mp hd).1
      refine ⟨fun _ => ⟨rfl, rfl, rfl, by omega, fun a n' ha hn => ⟨es ++ [a], by simp, by simp, fun b hbm => ?_, by omega⟩⟩, nofun⟩
      rcases List.mem_append.mp hbm with h | h
      · exact hb b h
      · rw [List.mem_singleton.mp h]; exact ha
    · rintro acc m ⟨es, rfl, hl, hb, hm⟩
      have hl' : es.length = 6 := hl
      exact ⟨es, ⟨hl', hb⟩, by omega, rfl⟩
  rintro ρ m ⟨es, he, hm, rfl⟩
  generalize hL : es.map fD = L
  refine ⟨by simp, ?_⟩
  refine ⟨fun ρ m' => ∃ (e2 t4 t5 : Option Sl) (rs : List Rg), ρ = [some (.d (.scr ns)), some (.d .feed), e2, some (.own (rs.map rT)), t4, t5, none, none, none, none, none, none] ∧ (e2 = some (.own L) ∨ e2 = some (.d (.lst L))) ∧ (∀ r ∈ rs, Raw r ∧ r.void = false) ∧ rs.length ≤ 20, ?_, ?_⟩
  · have hc : ∃ c : Nat, c ≤ 10 ∧ (if (if (ns.length : Int) < 10 then (ns.length : Int) else 10) > 4 then (if (ns.length : Int) < 10 then (ns.length : Int) else 10) else 4) = (c : Int) := by
      refine ⟨(if (if (ns.length : Int) < 10 then (ns.length : Int) else 10) > 4 then (if (ns.length : Int) < 10 then (ns.length : Int) else 10) else 4).toNat, ?_, ?_⟩ <;> (repeat' split) <;> omega
    obtain ⟨c, hc1, hc2⟩ := hc
    have key : dRng1 (fun _ n Q => Q [.int (c : Int)] n) [] m fun ds n1 => ∀ ds', ds' = ds → ds'.length = c := by
      refine ⟨by omega, by omega, fun ds' e => ?_⟩
      subst e
      simp [rngD]
    show -(2 ^ 62) ≤ (if (if (ns.length : Int) < 10 then (ns.length : Int) else 10) > 4 then (if (ns.length : Int) < 10 then (ns.length : Int) else 10) else 4) ∧ (if (if (ns.length : Int) < 10 then (ns.length : Int) else 10) > 4 then (if (ns.length : Int) < 10 then (ns.length : Int) else 10) else 4) < 2 ^ 62 ∧ Loop _ _ _ (rngD 0 (if (if (ns.length : Int) < 10 then (ns.length : Int) else 10) > 4 then (if (ns.length : Int) < 10 then (ns.length : Int) else 10) else 4).toNat) _ _
    rw [hc2]
    refine ⟨by omega, by omega, ⟨fun i ρ m' => m' ≤ 120 + 10 * i ∧ ∃ (e2 t4 t5 : Option Sl) (rs : List Rg), ρ = [some (.d (.scr ns)), some (.d .feed), e2, some (.own (rs.map rT)), t4, t5, none, none, none, none, none, none] ∧ (e2 = some (.own L) ∨ e2 = some (.d (.lst L))) ∧ (∀ r ∈ rs, Raw r ∧ r.void = false) ∧ rs.length ≤ i, ⟨by omega, _, none, none, [], rfl, .inl rfl, by simp, by simp⟩, ?_, ?_⟩⟩
    · rintro i d ρ m' hd ⟨hm', e2, t4, t5, rs, rfl, h2, hrs, hrl⟩
      have hi : i < c := by
        have := (List.getElem?_eq_some_iff.mp hd).1
        simpa [rngD] using this
      subst hL
      rcases h2 with rfl | rfl
      all_goals
        refine ⟨rfl, rfl, es, rfl, he, by omega, fun r n' hr1 hn => ⟨rfl, rfl, r, rfl, hr1.ok, fun x e => ?_⟩⟩
        subst e
        refine ⟨fun cv => ⟨rfl, rfl, r, rfl, hr1.ok, cv, nofun, fun _ => ⟨by omega, _, _, _, rs, rfl, .inr rfl, hrs, by omega⟩⟩, fun cv => ⟨?_, by omega, _, _, _, rs ++ [r], by rw [List.map_append]; rfl, .inr rfl, fun r' h' => ?_, by simp; omega⟩⟩
        · rw [List.length_map]
          exact Nat.lt_of_lt_of_le (by omega : _ < 100) (by decide)
        · rcases List.mem_append.mp h' with h | h
          · exact hrs r' h
          · rw [List.mem_singleton.mp h]; exact ⟨hr1, cv⟩
    · rintro ρ m' ⟨hm', e2, t4, t5, rs, rfl, h2, hrs, hrl⟩
      have : (rngD 0 ((c : Int)).toNat).length = c := by simp [rngD]
      exact ⟨e2, t4, t5, rs, rfl, h2, hrs, by omega⟩
  rintro ρ m' ⟨e2, t4, t5, rs, rfl, h2, hrs, hrl⟩
  have nf : PySem.W.notFirst K C (.ref C) = true := by simp [PySem.W.notFirst]
  have okp : ∀ {r : Rg}, r.ok → r.plain.ok := fun h => h
  refine ⟨fun i ρ m => ∃ (e2 t5 t6 t7 t8 t9 : Option Sl), ρ = [some (.d (.scr ns)), some (.d .feed), e2, some (.d (.lst (rs.map rT))), t4, t5, t6, t7, t8, t9, none, none] ∧ (e2 = some (.own L) ∨ e2 = some (.d (.lst L))), ⟨e2, t5, none, none, none, none, rfl, h2⟩, ?_, ?_⟩
  · rintro i d ρ m hd ⟨e2, t5, t6, t7, t8, t9, rfl, h2⟩
    obtain ⟨r, hr0, rfl⟩ := List.mem_map.mp (List.mem_of_getElem? hd)
    obtain ⟨hr1, hv⟩ := hrs r hr0
    have ok := hr1.ok
    have okr := okp ok
    have nv : ∀ {p : Prop}, r.void = true → p := fun z => by rw [hv] at z; cases z
    refine ⟨rfl, rfl, r, rfl, ok, fun z => nv z, fun _ x e => ?_⟩
    subst e
    refine ⟨rfl, rfl, r.plain, rfl, dpt_rT _, (sh_rT okr).1, (sh_rT okr).2, rfl, rfl, r, rfl, fun x e => ?_⟩
    subst e
    refine ⟨dpt_rT _, (sh_rT okr).1, (sh_rT okr).2, brF (by simp) ?_⟩
    refine ⟨rfl, r.plain, rfl, okr, fun x e => ⟨_, e, ?_⟩⟩
    subst e
    refine ⟨rfl, rfl, r, rfl, ok, fun x e => ?_⟩
    subst e
    refine brF (by rw [plain_str]; simp) ?_
    subst hL
    rcases h2 with rfl | rfl
    all_goals
      refine ⟨rfl, rfl, es, rfl, he, fun l hl hn => ⟨S2 _ hn, Comp.pure (fun _ => false) id (fun d hd R acc h1 h2 => ?_) ?_⟩⟩
      · obtain ⟨a, rfl, ha⟩ := hl d hd
        refine ⟨rfl, lk_has _, r.plain, a, rfl, okr, ha, fun y e => ?_⟩
        subst e
        refine ⟨rfl, (sh_bl _).1, (sh_bl _).2, rfl, rfl, r, a, rfl, ok, ha, fun y e => ?_⟩
        subst e
        refine ⟨rfl, (sh_bl _).1, (sh_bl _).2, brF (by rw [plain_has]; simp) (h2 rfl)⟩
      rw [show (l.filter fun _ => false).map id = [] by simp]
      refine ⟨szl (by simp), rfl, rfl, brF rfl ?_⟩
      refine br_and (fun c1 c2 hR => ?_) ?_
      · have hv' : void r.lo r.hi true true = false := by
          have := hv
          unfold Rg.void at this
          rw [c1, c2] at this
          exact this
        refine ⟨rfl, rfl, r.lo, r.hi, true, true, rfl, ok.1, ok.2, fun z => absurd (hv'.symm.trans z) (by decide), fun z fs e => ?_⟩
        subst e
        exact ⟨rfl, .ref C, .obj _ IC, nf, .inl ⟨mkR r.lo r.hi true true, r.plain, rfl, okr, okr, fun x e => ⟨_, e, brF (by simp [Rg.plain, c1, c2]) hR⟩⟩⟩
      refine ⟨fun j ρ m => ∃ (t7 t8 t9 : Option Sl), ρ = [some (.d (.scr ns)), some (.d .feed), _, some (.d (.lst (rs.map rT))), t4, some (.d (rT r)), some (.d (rD C r.plain)), t7, t8, t9, none, none], ⟨_, _, _, rfl⟩, ?_, ?_⟩
      · rintro j d ρ m hd ⟨t7, t8, t9, rfl⟩
        obtain ⟨s, hs0, rfl⟩ := List.mem_map.mp (List.mem_of_getElem? hd)
        obtain ⟨hs1, hvs⟩ := hrs s hs0
        have oks := okp hs1.ok
        have nvs : ∀ {p : Prop}, s.void = true → p := fun z => by rw [hvs] at z; cases z
        have mp := met_plain r s
        refine ⟨rfl, rfl, r, s, rfl, hr1, hs1, fun v => ?_, fun v => ?_⟩
        · rw [if_pos v] at mp
          refine ⟨rfl, lk_meet _, rfl, rfl, s, rfl, hs1.ok, fun z => nvs z, fun _ x e => ?_⟩
          subst e
          refine ⟨r.plain, s.plain, rfl, okr, oks, fun x e => ?_⟩
          rw [mp] at e
          subst e
          refine brT rfl (brF rfl (brF rfl (brF rfl ?_)))
          refine ⟨rfl, rfl, s, rfl, hs1.ok, fun z => nvs z, fun _ x e => ?_⟩
          subst e
          refine ⟨rfl, .ref C, .obj _ IC, nf, .inl ⟨r.plain, s.plain, rfl, okr, oks, fun x e => ?_⟩⟩
          subst e
          refine ⟨rfl, rfl, r, rfl, fun x e => ?_⟩
          subst e
          refine ⟨rfl, rfl, s, rfl, fun x e => ?_⟩
          subst e
          refine ⟨dpt_rT _, dpt_rT _, brF (by rw [eqD_rT]; simp) ⟨_, _, _, rfl⟩⟩
        · rw [if_neg (by rw [v]; decide)] at mp
          refine ⟨rfl, lk_meet _, rfl, rfl, s, rfl, hs1.ok, fun z => nvs z, fun _ x e => ?_⟩
          subst e
          refine ⟨r.plain, s.plain, rfl, okr, oks, fun x e => ?_⟩
          rw [mp] at e
          subst e
          refine brF rfl (brF rfl (brT rfl (brF rfl ?_)))
          refine ⟨rfl, rfl, (metR r s).plain, rfl, rfl, rfl, metR r s, rfl, fun x e => ?_⟩
          subst e
          refine ⟨dpt_rT _, dpt_rT _, brF (by rw [eqD_rT]; simp) ?_⟩
          refine ⟨rfl, rfl, s, rfl, hs1.ok, fun z => nvs z, fun _ x e => ?_⟩
          subst e
          refine ⟨rfl, .ref C, .obj _ IC, nf, .inl ⟨r.plain, s.plain, rfl, okr, oks, fun x e => ?_⟩⟩
          subst e
          refine ⟨rfl, rfl, r, rfl, fun x e => ?_⟩
          subst e
          refine ⟨rfl, rfl, s, rfl, fun x e => ?_⟩
          subst e
          refine ⟨dpt_rT _, dpt_rT _, brF (by rw [eqD_rT]; simp) ⟨_, _, _, rfl⟩⟩
      · rintro ρ m ⟨t7, t8, t9, rfl⟩
        refine ⟨rfl, r.plain, rfl, okr, fun x e => ⟨_, e, ?_⟩⟩
        subst e
        refine ⟨szl (by simp), rfl, u0, .inr ⟨r.plain, _, _, rfl, okr, rfl, .non, k0, false, rfl, nofun, fun _ => ?_⟩⟩
        refine ⟨u1, .inr ⟨r.plain, _, _, rfl, okr, rfl, .bl _, k1, false, rfl, nofun, fun _ => ?_⟩⟩
        refine ⟨u2, .inr ⟨r.plain, _, _, rfl, okr, rfl, .str _, k2, false, rfl, nofun, fun _ => ?_⟩⟩
        refine ⟨u3, .inr ⟨r.plain, _, _, rfl, okr, rfl, .tup _, k3, false, rfl, nofun, fun _ => ?_⟩⟩
        refine ⟨u4, .inr ⟨r.plain, _, _, rfl, okr, rfl, .lst _, k4, false, rfl, nofun, fun _ => ?_⟩⟩
        refine brF rfl ?_
        refine ⟨rfl, rfl, r, rfl, ok, fun z => nv z, fun _ x e => ?_⟩
        subst e
        refine ⟨rfl, .ref C, .obj _ IC, nf, .inl ⟨r.plain, r.plain, rfl, okr, okr, fun x e => ⟨_, e, brF (by simp) ?_⟩⟩⟩
        refine ⟨rfl, lk_meet _, r.plain, r.plain, rfl, okr, okr, fun x e => ?_⟩
        rw [meet_self hv] at e
        subst e
        refine ⟨rfl, .ref C, .obj _ IC, nf, .inl ⟨r.plain, r.plain, rfl, okr, okr, fun x e => ⟨_, e, brF (by simp) ?_⟩⟩⟩
        exact ⟨_, _, _, _, _, _, rfl, by first | exact .inl rfl | exact .inr rfl⟩
  · rintro ρ m ⟨e2, t5, t6, t7, t8, t9, rfl, h2⟩
    rfl
end
end Lw

/-! ### the head -/
namespace Hd
open PySem PySem.Spec PyProof.Rows L2 Fw Lw Dw
def tabs : List He.Tab := []
abbrev C (K : PySem.W.Frag) : Addr := He.ga K "Range"
abbrev NR (K : PySem.W.Frag) : Addr := He.ga K "NoRange"
def extra (K : PySem.W.Frag) : Bool :=
  PySem.W.plainGet K (C K) Str.empty && (PySem.W.hasDictIn K (C K) && (PySem.W.plainOver K (C K) && (decide (PySem.W.findIn K (.ref (C K)) "__setattr__" = some (some (.builtin "object.__setattr__"))) && (decide (PySem.W.findIn K (.ref (C K)) "low" = some none) && (decide (PySem.W.findIn K (.ref (C K)) "high" = some none) && (decide (PySem.W.findIn K (.ref (C K)) "low_in" = some none) && (decide (PySem.W.findIn K (.ref (C K)) "high_in" = some none) && (decide (PySem.W.findIn K (.ref (C K)) "__class__" = some (some (.builtin "object.__class__"))) && (decide (PySem.W.specialIn K (.builtin "object.__class__") "__get__" = some (some (.builtin "getset_descriptor.__get__"))) && (decide (PySem.W.takesIn K (.builtin "object.__class__") = some true) && (decide (PySem.W.mroIn K (C K) (.type "object") = some true) && (PySem.W.makesIn K (C K) && (decide (PySem.W.findIn K (.ref (C K)) "__init__" = some (some (.ref (He.fAd K ("Range", some "__init__"))))) && (PySem.W.isFn K (.ref (He.fAd K ("Range", some "__init__"))) && (PySem.W.keepIn K (.ref (C K)) && (decide (PySem.W.findIn K (.ref (C K)) "has" = some (some (.ref (He.fAd K ("Range", some "has"))))) && (PySem.W.isFn K (.ref (He.fAd K ("Range", some "has"))) && (decide (PySem.W.findIn K (.ref (C K)) "meet" = some (some (.ref (He.fAd K ("Range", some "meet"))))) && (PySem.W.isFn K (.ref (He.fAd K ("Range", some "meet"))) && (decide (PySem.W.findIn K (.ref (C K)) "__eq__" = some (some (.ref (He.fAd K ("Range", some "__eq__"))))) && (PySem.W.isFn K (.ref (He.fAd K ("Range", some "__eq__"))) && (decide (PySem.W.findIn K (.ref (C K)) "__str__" = some (some (.ref (He.fAd K ("Range", some "__str__"))))) && (PySem.W.isFn K (.ref (He.fAd K ("Range", some "__str__"))) && (decide (PySem.W.findIn K (.ref (C K)) "__ne__" = some (some (.builtin "object.__ne__"))) && (decide (PySem.W.kitOne K (.ref (C K)) (.ref (C K)) = some true) && (decide (PySem.W.kitOne K (.type "NoneType") (.ref (C K)) = some false) && (decide (PySem.W.kitOne K (.type "bool") (.ref (C K)) = some false) && (decide (PySem.W.kitOne K (.type "str") (.ref (C K)) = some false) && (decide (PySem.W.kitOne K (.type "tuple") (.ref (C K)) = some false) && (decide (PySem.W.kitOne K (.type "list") (.ref (C K)) = some false) && (decide (PySem.W.subIn K (.ref (C K)) (.type "NoneType") = some false) && (decide (PySem.W.subIn K (.ref (C K)) (.type "bool") = some false) && (decide (PySem.W.subIn K (.ref (C K)) (.type "str") = some false) && (decide (PySem.W.subIn K (.ref (C K)) (.type "tuple") = some false) && (decide (PySem.W.subIn K (.ref (C K)) (.type "list") = some false) && (decide (PySem.W.exmOne K (.ref (NR K)) (.ref (NR K)) = some true) && (decide (PySem.W.kitOne K (.ref (NR K)) (.type "ArithmeticError") = some true) && (decide (PySem.W.kitAny K (.ref (NR K)) [.ref (He.ga K "NoDigits"), .ref (He.ga K "NoText"), .ref (He.ga K "NoWord"), .ref (He.ga K "Nought"), .type "ValueError", .type "ZeroDivisionError"] = some false) && (PySem.W.excIn K (NR K) [.type "ArithmeticError", .type "Exception", .type "BaseException", .type "object"] "ArithmeticError.__new__" && (PySem.W.keepIn K (.ref (NR K)) && (decide (PySem.W.subIn K (.ref (NR K)) (.type "BaseException") = some true) && (decide (PySem.W.typeIn K (.ref (NR K)) = some (.type "type")) && (excKB K (NR K))))))))))))))))))))))))))))))))))))))))))))
def d_is_lesser : He.DefD := ⟨("is_lesser", none), "is_lesser", "is_lesser", defArgs (top 7), defBody (top 7), defScope (top 7), [], []⟩
def d_is_empty : He.DefD := ⟨("is_empty", none), "is_empty", "is_empty", defArgs (top 9), defBody (top 9), defScope (top 9), [], []⟩
def d_fraction_text : He.DefD := ⟨("fraction_text", none), "fraction_text", "fraction_text", defArgs (top 11), defBody (top 11), defScope (top 11), [], []⟩
def d_low_text : He.DefD := ⟨("low_text", none), "low_text", "low_text", defArgs (top 12), defBody (top 12), defScope (top 12), [], []⟩
def d_high_text : He.DefD := ⟨("high_text", none), "high_text", "high_text", defArgs (top 13), defBody (top 13), defScope (top 13), [], []⟩
def d_greater_end : He.DefD := ⟨("greater_end", none), "greater_end", "greater_end", defArgs (top 14), defBody (top 14), defScope (top 14), [], []⟩
def d_lesser_end : He.DefD := ⟨("lesser_end", none), "lesser_end", "lesser_end", defArgs (top 15), defBody (top 15), defScope (top 15), [], []⟩
def d__law_feed : He.DefD := ⟨("_law_feed", none), "_law_feed", "_law_feed", defArgs (top 17), defBody (top 17), defScope (top 17), [], []⟩
def d__law_draw : He.DefD := ⟨("_law_draw", none), "_law_draw", "_law_draw", defArgs (top 18), defBody (top 18), defScope (top 18), [], []⟩
def d__law_far : He.DefD := ⟨("_law_far", none), "_law_far", "_law_far", defArgs (top 19), defBody (top 19), defScope (top 19), [], []⟩
def d__law_low : He.DefD := ⟨("_law_low", none), "_law_low", "_law_low", defArgs (top 20), defBody (top 20), defScope (top 20), [], []⟩
def d__law_fraction : He.DefD := ⟨("_law_fraction", none), "_law_fraction", "_law_fraction", defArgs (top 21), defBody (top 21), defScope (top 21), [], []⟩
def d__law_less : He.DefD := ⟨("_law_less", none), "_law_less", "_law_less", defArgs (top 22), defBody (top 22), defScope (top 22), [], []⟩
def d__law_is_void : He.DefD := ⟨("_law_is_void", none), "_law_is_void", "_law_is_void", defArgs (top 23), defBody (top 23), defScope (top 23), [], []⟩
def d__law_has : He.DefD := ⟨("_law_has", none), "_law_has", "_law_has", defArgs (top 24), defBody (top 24), defScope (top 24), [], []⟩
def d__law_raw : He.DefD := ⟨("_law_raw", none), "_law_raw", "_law_raw", defArgs (top 25), defBody (top 25), defScope (top 25), [], []⟩
def d__law_made : He.DefD := ⟨("_law_made", none), "_law_made", "_law_made", defArgs (top 26), defBody (top 26), defScope (top 26), [], []⟩
def d__law_fields : He.DefD := ⟨("_law_fields", none), "_law_fields", "_law_fields", defArgs (top 27), defBody (top 27), defScope (top 27), [], []⟩
def d__law_plain : He.DefD := ⟨("_law_plain", none), "_law_plain", "_law_plain", defArgs (top 28), defBody (top 28), defScope (top 28), [], []⟩
def d__law_refused : He.DefD := ⟨("_law_refused", none), "_law_refused", "_law_refused", defArgs (top 29), defBody (top 29), defScope (top 29), [], []⟩
def d__law_number_text : He.DefD := ⟨("_law_number_text", none), "_law_number_text", "_law_number_text", defArgs (top 30), defBody (top 30), defScope (top 30), [], []⟩
def d__law_text : He.DefD := ⟨("_law_text", none), "_law_text", "_law_text", defArgs (top 31), defBody (top 31), defScope (top 31), [], []⟩
def d__law_spots : He.DefD := ⟨("_law_spots", none), "_law_spots", "_law_spots", defArgs (top 32), defBody (top 32), defScope (top 32), [], []⟩
def d__law_met : He.DefD := ⟨("_law_met", none), "_law_met", "_law_met", defArgs (top 33), defBody (top 33), defScope (top 33), [], []⟩
def d_law : He.DefD := ⟨("law", none), "law", "law", defArgs (top 34), defBody (top 34), defScope (top 34), [], []⟩
def d_NoDigits___init__ : He.DefD := ⟨("NoDigits", some "__init__"), "__init__", "NoDigits.__init__", defArgs (inClass (top 1) 0), defBody (inClass (top 1) 0), defScope (inClass (top 1) 0), [], []⟩
def d_NoWord___init__ : He.DefD := ⟨("NoWord", some "__init__"), "__init__", "NoWord.__init__", defArgs (inClass (top 2) 0), defBody (inClass (top 2) 0), defScope (inClass (top 2) 0), [], []⟩
def d_NoText___init__ : He.DefD := ⟨("NoText", some "__init__"), "__init__", "NoText.__init__", defArgs (inClass (top 3) 0), defBody (inClass (top 3) 0), defScope (inClass (top 3) 0), [], []⟩
def d_Nought___init__ : He.DefD := ⟨("Nought", some "__init__"), "__init__", "Nought.__init__", defArgs (inClass (top 5) 0), defBody (inClass (top 5) 0), defScope (inClass (top 5) 0), [], []⟩
def d_Range___init__ : He.DefD := ⟨("Range", some "__init__"), "__init__", "Range.__init__", defArgs (inClass (top 10) 0), defBody (inClass (top 10) 0), defScope (inClass (top 10) 0), [], [("low_in", .bl true), ("high_in", .bl true)]⟩
def d_Range___eq__ : He.DefD := ⟨("Range", some "__eq__"), "__eq__", "Range.__eq__", defArgs (inClass (top 10) 1), defBody (inClass (top 10) 1), defScope (inClass (top 10) 1), [], []⟩
def d_Range___str__ : He.DefD := ⟨("Range", some "__str__"), "__str__", "Range.__str__", defArgs (inClass (top 10) 2), defBody (inClass (top 10) 2), defScope (inClass (top 10) 2), [], []⟩
def d_Range_has : He.DefD := ⟨("Range", some "has"), "has", "Range.has", defArgs (inClass (top 10) 3), defBody (inClass (top 10) 3), defScope (inClass (top 10) 3), [], []⟩
def d_Range_meet : He.DefD := ⟨("Range", some "meet"), "meet", "Range.meet", defArgs (inClass (top 10) 4), defBody (inClass (top 10) 4), defScope (inClass (top 10) 4), [], []⟩
def fn_0 : List He.DefD := [d_is_lesser, d_is_empty, d_fraction_text, d_low_text, d_high_text, d_greater_end, d_lesser_end, d__law_feed, d__law_draw, d__law_far, d__law_low, d__law_fraction, d__law_less, d__law_is_void, d__law_has, d__law_raw, d__law_made, d__law_fields, d__law_plain, d__law_refused, d__law_number_text, d__law_text, d__law_spots, d__law_met, d_law, d_NoDigits___init__, d_NoWord___init__, d_NoText___init__, d_Nought___init__, d_Range___init__]
def fn_1 : List He.DefD := [d_Range___eq__, d_Range___str__, d_Range_has, d_Range_meet]
def fn : List He.DefD := fn_0 ++ fn_1
def fa_0 : List He.Fa := [.glo "is_lesser", .glo "is_empty", .glo "fraction_text", .glo "low_text", .glo "high_text", .glo "greater_end", .glo "lesser_end", .glo "_law_feed", .glo "_law_draw", .glo "_law_far", .glo "_law_low", .glo "_law_fraction", .glo "_law_less", .glo "_law_is_void", .glo "_law_has", .glo "_law_raw", .glo "_law_made", .glo "_law_fields", .glo "_law_plain", .glo "_law_refused", .glo "_law_number_text", .glo "_law_text", .glo "_law_spots", .glo "_law_met", .glo "law", .glo "NoDigits", .glo "NoWord", .glo "NoText", .glo "NoRange", .glo "Nought"]
def fa_1 : List He.Fa := [.glo "Range", .free "len", .free "abs", .free "range", .free "isinstance", .free "str", .free "int", .free "list", .free "repr", .free "max", .free "min", .free "ValueError", .free "ArithmeticError", .free "ZeroDivisionError"]
def fa : List He.Fa := fa_0 ++ fa_1
def loose_0 : List Str := ["NoDigits", "NoWord", "NoText", "NoRange", "Nought", "is_lesser", "is_empty", "Range", "fraction_text", "low_text", "high_text", "greater_end", "lesser_end", "_law_feed", "_law_draw", "_law_far", "_law_low", "_law_fraction", "_law_less", "_law_is_void", "_law_has", "_law_raw", "_law_made", "_law_fields", "_law_plain", "_law_refused", "_law_number_text", "_law_text", "_law_spots", "_law_met"]
def loose : List Str := loose_0
abbrev R : PySem.W.OpenRow := PySem.W.OpenLaw.row PySem.Challenge.rw_formatwords_k04_ranges_and_what_they_hav
abbrev hk : PySem.W.Hook := He.hookX 4 fa fn tabs [] extra
def ob (s : PySem.W.SharedT) : He.AlX := He.obsX 4 fa fn tabs [] extra (HandSHeadRun.getT s)
theorem ob_eq (s : PySem.W.SharedT) : ob s = hk.obs s.abs := He.obsX_eq (HandSHeadRun.getT_eq s)
theorem run (w : World) : HandSHeadRun.RunEq R (PySem.W.view R.prog [34]) hk ob 4000 loose w := by
  intro os
  kernel_rfl
section
variable {K : PySem.W.Frag} {h : Heap} {mg : Str → Option Value} (X : K.In h) (G : h.Ns mainGlobals mg) (c : He.SaysD fa fn K)
include X G c in
theorem gl_is_lesser : mg "is_lesser" = some (.ref (He.ga K "is_lesser")) := He.glo_ok X G (c.fact 0 (f := .glo "is_lesser") rfl)
include X G c in
theorem gl_is_empty : mg "is_empty" = some (.ref (He.ga K "is_empty")) := He.glo_ok X G (c.fact 1 (f := .glo "is_empty") rfl)
include X G c in
theorem gl_fraction_text : mg "fraction_text" = some (.ref (He.ga K "fraction_text")) := He.glo_ok X G (c.fact 2 (f := .glo "fraction_text") rfl)
include X G c in
theorem gl_low_text : mg "low_text" = some (.ref (He.ga K "low_text")) := He.glo_ok X G (c.fact 3 (f := .glo "low_text") rfl)
include X G c in
theorem gl_high_text : mg "high_text" = some (.ref (He.ga K "high_text")) := He.glo_ok X G (c.fact 4 (f := .glo "high_text") rfl)
include X G c in
theorem gl_greater_end : mg "greater_end" = some (.ref (He.ga K "greater_end")) := He.glo_ok X G (c.fact 5 (f := .glo "greater_end") rfl)
include X G c in
theorem gl_lesser_end : mg "lesser_end" = some (.ref (He.ga K "lesser_end")) := He.glo_ok X G (c.fact 6 (f := .glo "lesser_end") rfl)
include X G c in
theorem gl__law_feed : mg "_law_feed" = some (.ref (He.ga K "_law_feed")) := He.glo_ok X G (c.fact 7 (f := .glo "_law_feed") rfl)
include X G c in
theorem gl__law_draw : mg "_law_draw" = some (.ref (He.ga K "_law_draw")) := He.glo_ok X G (c.fact 8 (f := .glo "_law_draw") rfl)
include X G c in
theorem gl__law_far : mg "_law_far" = some (.ref (He.ga K "_law_far")) := He.glo_ok X G (c.fact 9 (f := .glo "_law_far") rfl)
include X G c in
theorem gl__law_low : mg "_law_low" = some (.ref (He.ga K "_law_low")) := He.glo_ok X G (c.fact 10 (f := .glo "_law_low") rfl)
include X G c in
theorem gl__law_fraction : mg "_law_fraction" = some (.ref (He.ga K "_law_fraction")) := He.glo_ok X G (c.fact 11 (f := .glo "_law_fraction") rfl)
include X G c in
theorem gl__law_less : mg "_law_less" = some (.ref (He.ga K "_law_less")) := He.glo_ok X G (c.fact 12 (f := .glo "_law_less") rfl)
include X G c in
theorem gl__law_is_void : mg "_law_is_void" = some (.ref (He.ga K "_law_is_void")) := He.glo_ok X G (c.fact 13 (f := .glo "_law_is_void") rfl)
include X G c in
theorem gl__law_has : mg "_law_has" = some (.ref (He.ga K "_law_has")) := He.glo_ok X G (c.fact 14 (f := .glo "_law_has") rfl)
include X G c in
theorem gl__law_raw : mg "_law_raw" = some (.ref (He.ga K "_law_raw")) := He.glo_ok X G (c.fact 15 (f := .glo "_law_raw") rfl)
include X G c in
theorem gl__law_made : mg "_law_made" = some (.ref (He.ga K "_law_made")) := He.glo_ok X G (c.fact 16 (f := .glo "_law_made") rfl)
include X G c in
theorem gl__law_fields : mg "_law_fields" = some (.ref (He.ga K "_law_fields")) := He.glo_ok X G (c.fact 17 (f := .glo "_law_fields") rfl)
include X G c in
theorem gl__law_plain : mg "_law_plain" = some (.ref (He.ga K "_law_plain")) := He.glo_ok X G (c.fact 18 (f := .glo "_law_plain") rfl)
include X G c in
theorem gl__law_refused : mg "_law_refused" = some (.ref (He.ga K "_law_refused")) := He.glo_ok X G (c.fact 19 (f := .glo "_law_refused") rfl)
include X G c in
theorem gl__law_number_text : mg "_law_number_text" = some (.ref (He.ga K "_law_number_text")) := He.glo_ok X G (c.fact 20 (f := .glo "_law_number_text") rfl)
include X G c in
theorem gl__law_text : mg "_law_text" = some (.ref (He.ga K "_law_text")) := He.glo_ok X G (c.fact 21 (f := .glo "_law_text") rfl)
include X G c in
theorem gl__law_spots : mg "_law_spots" = some (.ref (He.ga K "_law_spots")) := He.glo_ok X G (c.fact 22 (f := .glo "_law_spots") rfl)
include X G c in
theorem gl__law_met : mg "_law_met" = some (.ref (He.ga K "_law_met")) := He.glo_ok X G (c.fact 23 (f := .glo "_law_met") rfl)
include X G c in
theorem gl_law : mg "law" = some (.ref (He.ga K "law")) := He.glo_ok X G (c.fact 24 (f := .glo "law") rfl)
include X G c in
theorem gl_NoDigits : mg "NoDigits" = some (.ref (He.ga K "NoDigits")) := He.glo_ok X G (c.fact 25 (f := .glo "NoDigits") rfl)
include X G c in
theorem gl_NoWord : mg "NoWord" = some (.ref (He.ga K "NoWord")) := He.glo_ok X G (c.fact 26 (f := .glo "NoWord") rfl)
include X G c in
theorem gl_NoText : mg "NoText" = some (.ref (He.ga K "NoText")) := He.glo_ok X G (c.fact 27 (f := .glo "NoText") rfl)
include X G c in
theorem gl_NoRange : mg "NoRange" = some (.ref (He.ga K "NoRange")) := He.glo_ok X G (c.fact 28 (f := .glo "NoRange") rfl)
include X G c in
theorem gl_Nought : mg "Nought" = some (.ref (He.ga K "Nought")) := He.glo_ok X G (c.fact 29 (f := .glo "Nought") rfl)
include X G c in
theorem gl_Range : mg "Range" = some (.ref (He.ga K "Range")) := He.glo_ok X G (c.fact 30 (f := .glo "Range") rfl)
include X G c in
theorem fr_len : mg "len" = none := He.free_ok X G (c.fact 31 (f := .free "len") rfl)
include X G c in
theorem fr_abs : mg "abs" = none := He.free_ok X G (c.fact 32 (f := .free "abs") rfl)
include X G c in
theorem fr_range : mg "range" = none := He.free_ok X G (c.fact 33 (f := .free "range") rfl)
include X G c in
theorem fr_isinstance : mg "isinstance" = none := He.free_ok X G (c.fact 34 (f := .free "isinstance") rfl)
include X G c in
theorem fr_str : mg "str" = none := He.free_ok X G (c.fact 35 (f := .free "str") rfl)
include X G c in
theorem fr_int : mg "int" = none := He.free_ok X G (c.fact 36 (f := .free "int") rfl)
include X G c in
theorem fr_list : mg "list" = none := He.free_ok X G (c.fact 37 (f := .free "list") rfl)
include X G c in
theorem fr_repr : mg "repr" = none := He.free_ok X G (c.fact 38 (f := .free "repr") rfl)
include X G c in
theorem fr_max : mg "max" = none := He.free_ok X G (c.fact 39 (f := .free "max") rfl)
include X G c in
theorem fr_min : mg "min" = none := He.free_ok X G (c.fact 40 (f := .free "min") rfl)
include X G c in
theorem fr_ValueError : mg "ValueError" = none := He.free_ok X G (c.fact 41 (f := .free "ValueError") rfl)
include X G c in
theorem fr_ArithmeticError : mg "ArithmeticError" = none := He.free_ok X G (c.fact 42 (f := .free "ArithmeticError") rfl)
include X G c in
theorem fr_ZeroDivisionError : mg "ZeroDivisionError" = none := He.free_ok X G (c.fact 43 (f := .free "ZeroDivisionError") rfl)
include c in
theorem de_is_lesser : ∃ fd, FunD K d_is_lesser.name d_is_lesser.qual d_is_lesser.params d_is_lesser.body d_is_lesser.scope (d_is_lesser.dvs K) (d_is_lesser.kws K) (He.fAd K d_is_lesser.at_) fd := c.def_ 0 (d := d_is_lesser) rfl
include c in
theorem de_is_empty : ∃ fd, FunD K d_is_empty.name d_is_empty.qual d_is_empty.params d_is_empty.body d_is_empty.scope (d_is_empty.dvs K) (d_is_empty.kws K) (He.fAd K d_is_empty.at_) fd := c.def_ 1 (d := d_is_empty) rfl
include c in
theorem de_fraction_text : ∃ fd, FunD K d_fraction_text.name d_fraction_text.qual d_fraction_text.params d_fraction_text.body d_fraction_text.scope (d_fraction_text.dvs K) (d_fraction_text.kws K) (He.fAd K d_fraction_text.at_) fd := c.def_ 2 (d := d_fraction_text) rfl
include c in
theorem de_low_text : ∃ fd, FunD K d_low_text.name d_low_text.qual d_low_text.params d_low_text.body d_low_text.scope (d_low_text.dvs K) (d_low_text.kws K) (He.fAd K d_low_text.at_) fd := c.def_ 3 (d := d_low_text) rfl
include c in
theorem de_high_text : ∃ fd, FunD K d_high_text.name d_high_text.qual d_high_text.params d_high_text.body d_high_text.scope (d_high_text.dvs K) (d_high_text.kws K) (He.fAd K d_high_text.at_) fd := c.def_ 4 (d := d_high_text) rfl
include c in
theorem de_greater_end : ∃ fd, FunD K d_greater_end.name d_greater_end.qual d_greater_end.params d_greater_end.body d_greater_end.scope (d_greater_end.dvs K) (d_greater_end.kws K) (He.fAd K d_greater_end.at_) fd := c.def_ 5 (d := d_greater_end) rfl
include c in
theorem de_lesser_end : ∃ fd, FunD K d_lesser_end.name d_lesser_end.qual d_lesser_end.params d_lesser_end.body d_lesser_end.scope (d_lesser_end.dvs K) (d_lesser_end.kws K) (He.fAd K d_lesser_end.at_) fd := c.def_ 6 (d := d_lesser_end) rfl
include c in
theorem de__law_feed : ∃ fd, FunD K d__law_feed.name d__law_feed.qual d__law_feed.params d__law_feed.body d__law_feed.scope (d__law_feed.dvs K) (d__law_feed.kws K) (He.fAd K d__law_feed.at_) fd := c.def_ 7 (d := d__law_feed) rfl
include c in
theorem de__law_draw : ∃ fd, FunD K d__law_draw.name d__law_draw.qual d__law_draw.params d__law_draw.body d__law_draw.scope (d__law_draw.dvs K) (d__law_draw.kws K) (He.fAd K d__law_draw.at_) fd := c.def_ 8 (d := d__law_draw) rfl
include c in
theorem de__law_far : ∃ fd, FunD K d__law_far.name d__law_far.qual d__law_far.params d__law_far.body d__law_far.scope (d__law_far.dvs K) (d__law_far.kws K) (He.fAd K d__law_far.at_) fd := c.def_ 9 (d := d__law_far) rfl
include c in
theorem de__law_low : ∃ fd, FunD K d__law_low.name d__law_low.qual d__law_low.params d__law_low.body d__law_low.scope (d__law_low.dvs K) (d__law_low.kws K) (He.fAd K d__law_low.at_) fd := c.def_ 10 (d := d__law_low) rfl
include c in
theorem de__law_fraction : ∃ fd, FunD K d__law_fraction.name d__law_fraction.qual d__law_fraction.params d__law_fraction.body d__law_fraction.scope (d__law_fraction.dvs K) (d__law_fraction.kws K) (He.fAd K d__law_fraction.at_) fd := c.def_ 11 (d := d__law_fraction) rfl
include c in
theorem de__law_less : ∃ fd, FunD K d__law_less.name d__law_less.qual d__law_less.params d__law_less.body d__law_less.scope (d__law_less.dvs K) (d__law_less.kws K) (He.fAd K d__law_less.at_) fd := c.def_ 12 (d := d__law_less) rfl
include c in
theorem de__law_is_void : ∃ fd, FunD K d__law_is_void.name d__law_is_void.qual d__law_is_void.params d__law_is_void.body d__law_is_void.scope (d__law_is_void.dvs K) (d__law_is_void.kws K) (He.fAd K d__law_is_void.at_) fd := c.def_ 13 (d := d__law_is_void) rfl
include c in
theorem de__law_has : ∃ fd, FunD K d__law_has.name d__law_has.qual d__law_has.params d__law_has.body d__law_has.scope (d__law_has.dvs K) (d__law_has.kws K) (He.fAd K d__law_has.at_) fd := c.def_ 14 (d := d__law_has) rfl
include c in
theorem de__law_raw : ∃ fd, FunD K d__law_raw.name d__law_raw.qual d__law_raw.params d__law_raw.body d__law_raw.scope (d__law_raw.dvs K) (d__law_raw.kws K) (He.fAd K d__law_raw.at_) fd := c.def_ 15 (d := d__law_raw) rfl
include c in
theorem de__law_made : ∃ fd, FunD K d__law_made.name d__law_made.qual d__law_made.params d__law_made.body d__law_made.scope (d__law_made.dvs K) (d__law_made.kws K) (He.fAd K d__law_made.at_) fd := c.def_ 16 (d := d__law_made) rfl
include c in
theorem de__law_fields : ∃ fd, FunD K d__law_fields.name d__law_fields.qual d__law_fields.params d__law_fields.body d__law_fields.scope (d__law_fields.dvs K) (d__law_fields.kws K) (He.fAd K d__law_fields.at_) fd := c.def_ 17 (d := d__law_fields) rfl
include c in
theorem de__law_plain : ∃ fd, FunD K d__law_plain.name d__law_plain.qual d__law_plain.params d__law_plain.body d__law_plain.scope (d__law_plain.dvs K) (d__law_plain.kws K) (He.fAd K d__law_plain.at_) fd := c.def_ 18 (d := d__law_plain) rfl
include c in
theorem de__law_refused : ∃ fd, FunD K d__law_refused.name d__law_refused.qual d__law_refused.params d__law_refused.body d__law_refused.scope (d__law_refused.dvs K) (d__law_refused.kws K) (He.fAd K d__law_refused.at_) fd := c.def_ 19 (d := d__law_refused) rfl
include c in
theorem de__law_number_text : ∃ fd, FunD K d__law_number_text.name d__law_number_text.qual d__law_number_text.params d__law_number_text.body d__law_number_text.scope (d__law_number_text.dvs K) (d__law_number_text.kws K) (He.fAd K d__law_number_text.at_) fd := c.def_ 20 (d := d__law_number_text) rfl
include c in
theorem de__law_text : ∃ fd, FunD K d__law_text.name d__law_text.qual d__law_text.params d__law_text.body d__law_text.scope (d__law_text.dvs K) (d__law_text.kws K) (He.fAd K d__law_text.at_) fd := c.def_ 21 (d := d__law_text) rfl
include c in
theorem de__law_spots : ∃ fd, FunD K d__law_spots.name d__law_spots.qual d__law_spots.params d__law_spots.body d__law_spots.scope (d__law_spots.dvs K) (d__law_spots.kws K) (He.fAd K d__law_spots.at_) fd := c.def_ 22 (d := d__law_spots) rfl
include c in
theorem de__law_met : ∃ fd, FunD K d__law_met.name d__law_met.qual d__law_met.params d__law_met.body d__law_met.scope (d__law_met.dvs K) (d__law_met.kws K) (He.fAd K d__law_met.at_) fd := c.def_ 23 (d := d__law_met) rfl
include c in
theorem de_law : ∃ fd, FunD K d_law.name d_law.qual d_law.params d_law.body d_law.scope (d_law.dvs K) (d_law.kws K) (He.fAd K d_law.at_) fd := c.def_ 24 (d := d_law) rfl
include c in
theorem de_NoDigits___init__ : ∃ fd, FunD K d_NoDigits___init__.name d_NoDigits___init__.qual d_NoDigits___init__.params d_NoDigits___init__.body d_NoDigits___init__.scope (d_NoDigits___init__.dvs K) (d_NoDigits___init__.kws K) (He.fAd K d_NoDigits___init__.at_) fd := c.def_ 25 (d := d_NoDigits___init__) rfl
include c in
theorem de_NoWord___init__ : ∃ fd, FunD K d_NoWord___init__.name d_NoWord___init__.qual d_NoWord___init__.params d_NoWord___init__.body d_NoWord___init__.scope (d_NoWord___init__.dvs K) (d_NoWord___init__.kws K) (He.fAd K d_NoWord___init__.at_) fd := c.def_ 26 (d := d_NoWord___init__) rfl
include c in
theorem de_NoText___init__ : ∃ fd, FunD K d_NoText___init__.name d_NoText___init__.qual d_NoText___init__.params d_NoText___init__.body d_NoText___init__.scope (d_NoText___init__.dvs K) (d_NoText___init__.kws K) (He.fAd K d_NoText___init__.at_) fd := c.def_ 27 (d := d_NoText___init__) rfl
include c in
theorem de_Nought___init__ : ∃ fd, FunD K d_Nought___init__.name d_Nought___init__.qual d_Nought___init__.params d_Nought___init__.body d_Nought___init__.scope (d_Nought___init__.dvs K) (d_Nought___init__.kws K) (He.fAd K d_Nought___init__.at_) fd := c.def_ 28 (d := d_Nought___init__) rfl
include c in
theorem de_Range___init__ : ∃ fd, FunD K d_Range___init__.name d_Range___init__.qual d_Range___init__.params d_Range___init__.body d_Range___init__.scope (d_Range___init__.dvs K) (d_Range___init__.kws K) (He.fAd K d_Range___init__.at_) fd := c.def_ 29 (d := d_Range___init__) rfl
include c in
theorem de_Range___eq__ : ∃ fd, FunD K d_Range___eq__.name d_Range___eq__.qual d_Range___eq__.params d_Range___eq__.body d_Range___eq__.scope (d_Range___eq__.dvs K) (d_Range___eq__.kws K) (He.fAd K d_Range___eq__.at_) fd := c.def_ 30 (d := d_Range___eq__) rfl
include c in
theorem de_Range___str__ : ∃ fd, FunD K d_Range___str__.name d_Range___str__.qual d_Range___str__.params d_Range___str__.body d_Range___str__.scope (d_Range___str__.dvs K) (d_Range___str__.kws K) (He.fAd K d_Range___str__.at_) fd := c.def_ 31 (d := d_Range___str__) rfl
include c in
theorem de_Range_has : ∃ fd, FunD K d_Range_has.name d_Range_has.qual d_Range_has.params d_Range_has.body d_Range_has.scope (d_Range_has.dvs K) (d_Range_has.kws K) (He.fAd K d_Range_has.at_) fd := c.def_ 32 (d := d_Range_has) rfl
include c in
theorem de_Range_meet : ∃ fd, FunD K d_Range_meet.name d_Range_meet.qual d_Range_meet.params d_Range_meet.body d_Range_meet.scope (d_Range_meet.dvs K) (d_Range_meet.kws K) (He.fAd K d_Range_meet.at_) fd := c.def_ 33 (d := d_Range_meet) rfl
end
abbrev lawAt : Nat := 34
theorem facts {P : Program} {w : World} {K : PySem.W.Frag} {h : Heap} {mg : Str → Option Value} {f : Addr} (X : K.In h) (G : h.Ns mainGlobals mg) (hfa : mg ("law" : Str) = some (.ref f)) (c : He.SaysD fa fn K) (m : extra K = true) :
    ∃ fd : FuncData, (∀ (s : Shared) (v : Value), BindsTo s fd ⟨[v], []⟩ [("_law_script", v)]) ∧ ∀ base : Heap, K.In base → base.Ns mainGlobals mg → FnG P w K mg base CX0 13 f fd ["_law_script"] (spLaw K) := by
  unfold extra at m
  simp only [Bool.and_eq_true, decide_eq_true_eq] at m
  obtain ⟨g0, ⟨g1, ⟨g2, ⟨g3, ⟨g4, ⟨g5, ⟨g6, ⟨g7, ⟨g8, ⟨g9, ⟨g10, ⟨g11, ⟨g12, ⟨g13, ⟨g14, ⟨g15, ⟨g16, ⟨g17, ⟨g18, ⟨g19, ⟨g20, ⟨g21, ⟨g22, ⟨g23, ⟨g24, ⟨g25, ⟨g26, ⟨g27, ⟨g28, ⟨g29, ⟨g30, ⟨g31, ⟨g32, ⟨g33, ⟨g34, ⟨g35, ⟨g36, ⟨g37, ⟨g38, ⟨g39, ⟨g40, ⟨g41, ⟨g42, g43⟩⟩⟩⟩⟩⟩⟩⟩⟩⟩⟩⟩⟩⟩⟩⟩⟩⟩⟩⟩⟩⟩⟩⟩⟩⟩⟩⟩⟩⟩⟩⟩⟩⟩⟩⟩⟩⟩⟩⟩⟩⟩⟩ := m
  obtain ⟨_, f_is_lesser⟩ := de_is_lesser c
  obtain ⟨_, f_is_empty⟩ := de_is_empty c
  obtain ⟨_, f_greater_end⟩ := de_greater_end c
  obtain ⟨_, f_lesser_end⟩ := de_lesser_end c
  obtain ⟨_, f_fraction_text⟩ := de_fraction_text c
  obtain ⟨_, f_low_text⟩ := de_low_text c
  obtain ⟨_, f_high_text⟩ := de_high_text c
  obtain ⟨_, f__law_feed⟩ := de__law_feed c
  obtain ⟨_, f__law_draw⟩ := de__law_draw c
  obtain ⟨_, f__law_far⟩ := de__law_far c
  obtain ⟨_, f__law_low⟩ := de__law_low c
  obtain ⟨_, f__law_fraction⟩ := de__law_fraction c
  obtain ⟨_, f__law_less⟩ := de__law_less c
  obtain ⟨_, f__law_is_void⟩ := de__law_is_void c
  obtain ⟨_, f__law_has⟩ := de__law_has c
  obtain ⟨_, f__law_raw⟩ := de__law_raw c
  obtain ⟨_, f__law_made⟩ := de__law_made c
  obtain ⟨_, f__law_fields⟩ := de__law_fields c
  obtain ⟨_, f__law_plain⟩ := de__law_plain c
  obtain ⟨_, f__law_refused⟩ := de__law_refused c
  obtain ⟨_, f__law_number_text⟩ := de__law_number_text c
  obtain ⟨_, f__law_text⟩ := de__law_text c
  obtain ⟨_, f__law_spots⟩ := de__law_spots c
  obtain ⟨_, f__law_met⟩ := de__law_met c
  obtain ⟨_, r_has⟩ := de_Range_has c
  obtain ⟨_, r_meet⟩ := de_Range_meet c
  obtain ⟨_, r___eq__⟩ := de_Range___eq__ c
  obtain ⟨_, r___str__⟩ := de_Range___str__ c
  obtain ⟨_, r_init⟩ := de_Range___init__ c
  obtain ⟨fd, f_law⟩ := de_law c
  have e := hfa.symm.trans (gl_law X G c)
  cases e
  have b_is_lesser : Binds K _ ["one", "other"] [] := f_is_lesser.bindsN fun _ _ _ _ _ _ us hl => match us, hl with | [_, _], _ => rfl
  have b_is_empty : Binds K _ ["low", "high", "low_in", "high_in"] [] := f_is_empty.bindsN fun _ _ _ _ _ _ us hl => match us, hl with | [_, _, _, _], _ => rfl
  have b_greater_end : Binds K _ ["one", "other"] [] := f_greater_end.bindsN fun _ _ _ _ _ _ us hl => match us, hl with | [_, _], _ => rfl
  have b_lesser_end : Binds K _ ["one", "other"] [] := f_lesser_end.bindsN fun _ _ _ _ _ _ us hl => match us, hl with | [_, _], _ => rfl
  have b_fraction_text : Binds K _ ["number"] [] := f_fraction_text.bindsN fun _ _ _ _ _ _ us hl => match us, hl with | [_], _ => rfl
  have b_low_text : Binds K _ ["some"] [] := f_low_text.bindsN fun _ _ _ _ _ _ us hl => match us, hl with | [_], _ => rfl
  have b_high_text : Binds K _ ["some"] [] := f_high_text.bindsN fun _ _ _ _ _ _ us hl => match us, hl with | [_], _ => rfl
  have b__law_feed : Binds K _ ["_law_script"] [] := f__law_feed.bindsN fun _ _ _ _ _ _ us hl => match us, hl with | [_], _ => rfl
  have b__law_draw : Binds K _ ["_law_feed_here", "_law_many"] [] := f__law_draw.bindsN fun _ _ _ _ _ _ us hl => match us, hl with | [_, _], _ => rfl
  have b__law_far : Binds K _ ["_law_feed_here"] [] := f__law_far.bindsN fun _ _ _ _ _ _ us hl => match us, hl with | [_], _ => rfl
  have b__law_low : Binds K _ ["_law_top", "_law_bottom"] [] := f__law_low.bindsN fun _ _ _ _ _ _ us hl => match us, hl with | [_, _], _ => rfl
  have b__law_fraction : Binds K _ ["_law_feed_here"] [] := f__law_fraction.bindsN fun _ _ _ _ _ _ us hl => match us, hl with | [_], _ => rfl
  have b__law_less : Binds K _ ["_law_one", "_law_other"] [] := f__law_less.bindsN fun _ _ _ _ _ _ us hl => match us, hl with | [_, _], _ => rfl
  have b__law_is_void : Binds K _ ["_law_raw_here"] [] := f__law_is_void.bindsN fun _ _ _ _ _ _ us hl => match us, hl with | [_], _ => rfl
  have b__law_has : Binds K _ ["_law_raw_here", "_law_number"] [] := f__law_has.bindsN fun _ _ _ _ _ _ us hl => match us, hl with | [_, _], _ => rfl
  have b__law_raw : Binds K _ ["_law_feed_here", "_law_some"] [] := f__law_raw.bindsN fun _ _ _ _ _ _ us hl => match us, hl with | [_, _], _ => rfl
  have b__law_made : Binds K _ ["_law_raw_here"] [] := f__law_made.bindsN fun _ _ _ _ _ _ us hl => match us, hl with | [_], _ => rfl
  have b__law_fields : Binds K _ ["_law_one"] [] := f__law_fields.bindsN fun _ _ _ _ _ _ us hl => match us, hl with | [_], _ => rfl
  have b__law_plain : Binds K _ ["_law_raw_here"] [] := f__law_plain.bindsN fun _ _ _ _ _ _ us hl => match us, hl with | [_], _ => rfl
  have b__law_refused : Binds K _ ["_law_raw_here"] [] := f__law_refused.bindsN fun _ _ _ _ _ _ us hl => match us, hl with | [_], _ => rfl
  have b__law_number_text : Binds K _ ["_law_number"] [] := f__law_number_text.bindsN fun _ _ _ _ _ _ us hl => match us, hl with | [_], _ => rfl
  have b__law_text : Binds K _ ["_law_raw_here"] [] := f__law_text.bindsN fun _ _ _ _ _ _ us hl => match us, hl with | [_], _ => rfl
  have b__law_spots : Binds K _ ["_law_ends"] [] := f__law_spots.bindsN fun _ _ _ _ _ _ us hl => match us, hl with | [_], _ => rfl
  have b__law_met : Binds K _ ["_law_one", "_law_other"] [] := f__law_met.bindsN fun _ _ _ _ _ _ us hl => match us, hl with | [_, _], _ => rfl
  have c_has : Binds K _ ["self", "number"] [] := r_has.bindsN fun _ _ _ _ _ _ us hl => match us, hl with | [_, _], _ => rfl
  have c_meet : Binds K _ ["self", "other"] [] := r_meet.bindsN fun _ _ _ _ _ _ us hl => match us, hl with | [_, _], _ => rfl
  have c___eq__ : Binds K _ ["self", "other"] [] := r___eq__.bindsN fun _ _ _ _ _ _ us hl => match us, hl with | [_, _], _ => rfl
  have c___str__ : Binds K _ ["self"] [] := r___str__.bindsN fun _ _ _ _ _ _ us hl => match us, hl with | [_], _ => rfl
  have k2 : ∃ mv : List Value, KBn K _ ["self", "low", "high", "low_in", "high_in"] 3 ["low_in", "high_in"] (fun us ws => us ++ ws) (fun vs zs => vs ++ zs) := r_init.kbinds0 3 ["low_in", "high_in"] [] (fun us _ ws => us ++ ws) (by simp [He.DefD.kws, d_Range___init__]) (by simp) (fun a _ b => a.append b) fun D doc pm an cdv ct us mv ws hu hm hw => match us, mv, ws, hu, hm, hw with | [_, _, _], [], [_, _], _, _, _ => rfl
  have k0 : ∃ mv : List Value, KBn K _ ["self", "low", "high", "low_in", "high_in"] 3 [] (fun us ws => us ++ (mv ++ ws)) (fun vs zs => vs ++ ([V.bl true, V.bl true] ++ zs)) := r_init.kbinds0 3 [] [("low_in", .bl true), ("high_in", .bl true)] (fun us mv ws => us ++ (mv ++ ws)) (by simp [He.DefD.kws, d_Range___init__]) (by intro q hq; exact hq) (fun a m b => a.append (m.append b)) fun D doc pm an cdv ct us mv ws hu hm hw => match us, mv, ws, hu, hm, hw with | [_, _, _], [_, _], [], _, _, _ => ⟨_, _, _, _, _, _, rfl, rfl, _, _, _, _, _, _, rfl, rfl, rfl⟩
  obtain ⟨_, k2⟩ := k2
  obtain ⟨_, k0⟩ := k0
  have b := FunD.bindsA (ps := ["_law_script"]) f_law fun _ _ _ _ _ _ us hl => match us, hl with | [_], _ => rfl
  refine ⟨fd, fun s v => b s [v] rfl, fun base _ _ => ?_⟩
  have cl : Cls K (C K) := ⟨g0, g1, g2, g3⟩
  have T : RCls K (C K) := ⟨cl, g4, g5, g6, g7⟩
  have IC : IsK K (C K) := ⟨cl, g8, g9, g10, g11⟩
  have MK : Mk K (C K) _ := ⟨g12, g13, g14, g15⟩
  have D_is_lesser := fb_all (g := false) (x := "is_lesser") (ok_is_lesser (P := P) (w := w) (base := base) f_is_lesser) (gl_is_lesser X G c) f_is_lesser.kp b_is_lesser
  have D_is_empty := fb_all (g := false) (x := "is_empty") (ok_is_empty (P := P) (w := w) (base := base) f_is_empty D_is_lesser) (gl_is_empty X G c) f_is_empty.kp b_is_empty
  have D_greater_end := fb_all (g := false) (x := "greater_end") (ok_greater_end (P := P) (w := w) (base := base) f_greater_end D_is_lesser) (gl_greater_end X G c) f_greater_end.kp b_greater_end
  have D_lesser_end := fb_all (g := false) (x := "lesser_end") (ok_lesser_end (P := P) (w := w) (base := base) f_lesser_end D_is_lesser) (gl_lesser_end X G c) f_lesser_end.kp b_lesser_end
  have D_fraction_text := fb_all (g := false) (x := "fraction_text") (ok_fraction_text (P := P) (w := w) (base := base) f_fraction_text) (gl_fraction_text X G c) f_fraction_text.kp b_fraction_text
  have D_low_text := fb_all (g := false) (x := "low_text") (ok_low_text (P := P) (w := w) (base := base) f_low_text T D_fraction_text (fr_int X G c)) (gl_low_text X G c) f_low_text.kp b_low_text
  have D_high_text := fb_all (g := false) (x := "high_text") (ok_high_text (P := P) (w := w) (base := base) f_high_text T D_fraction_text (fr_int X G c)) (gl_high_text X G c) f_high_text.kp b_high_text
  have RZ : Rz0 K mg "NoRange" (NR K) := ⟨⟨_, _, _, _, PySem.F.excBase_ArithmeticError, g39⟩, gl_NoRange X G c, g40, g41, g42⟩
  have oi := ok_rinit (P := P) (w := w) (base := base) r_init T D_is_empty RZ
  have D_Range2 : Mb P w K mg base (L2.CX P w) 3 "Range" (C K) 2 ["low_in", "high_in"] gRange (iniR (NR K)) := ⟨_, _, _, _, _, oi, gl_Range X G c, MK, k2, fun F G a vs ds zs es _ _ r1 r2 => ⟨_, rfl, r1.append r2⟩⟩
  have D_Range0 : Mb P w K mg base (L2.CX P w) 3 "Range" (C K) 2 [] gRange2 (iniR (NR K)) := ⟨_, _, _, _, _, oi, gl_Range X G c, MK, k0, fun F G a vs ds zs es _ hz r1 r2 => ⟨_, rfl, by
    cases zs with
    | nil => exact r1.append (.cons (.bl _) (.cons (.bl _) .nil))
    | cons _ _ => cases hz⟩⟩
  have EQ : OwnEq P w K mg base 1 (C K) (spREq K (C K)) := ⟨_, _, _, g20, g24, g11, g21, (ok_req (P := P) (w := w) (base := base) r___eq__ T IC g25 (gl_Range X G c) (fr_isinstance X G c)).ok, c___eq__⟩
  have SR : OwnStr P w K mg base 3 (C K) (spStrT (C K)) := ⟨_, _, _, g22, g23, (ok_rstr (P := P) (w := w) (base := base) r___str__ D_low_text D_high_text).ok, c___str__⟩
  have M_has : Mt P w K mg base 2 "has" (C K) (spHas (C K)) := ⟨_, _, _, (ok_rhas (P := P) (w := w) (base := base) r_has T D_is_lesser).ok, cl, ⟨g16, g17, r_has.kp⟩, c_has⟩
  have M_meet : Mt P w K mg base 5 "meet" (C K) (spMeet (C K)) := ⟨_, _, _, (ok_rmeet (P := P) (w := w) (base := base) r_meet T D_greater_end D_lesser_end D_is_empty D_Range2).ok, cl, ⟨g18, g19, r_meet.kp⟩, c_meet⟩
  have D__law_draw := fb_all (g := true) (x := "_law_draw") (drawD (ok_draw (P := P) (w := w) (base := base) f__law_draw (fr_len X G c) (fr_abs X G c) (fr_range X G c))) (gl__law_draw X G c) f__law_draw.kp b__law_draw
  have D__law_far := fb_all (g := true) (x := "_law_far") (ok__law_far (P := P) (w := w) (base := base) f__law_far D__law_draw (fr_range X G c)) (gl__law_far X G c) f__law_far.kp b__law_far
  have D__law_low := fb_all (g := true) (x := "_law_low") (ok__law_low (P := P) (w := w) (base := base) f__law_low (fr_abs X G c)) (gl__law_low X G c) f__law_low.kp b__law_low
  have D__law_fraction := fb_all (g := true) (x := "_law_fraction") (ok__law_fraction (P := P) (w := w) (base := base) f__law_fraction D__law_draw D__law_far D__law_low) (gl__law_fraction X G c) f__law_fraction.kp b__law_fraction
  have D__law_less := fb_all (g := true) (x := "_law_less") (ok__law_less (P := P) (w := w) (base := base) f__law_less) (gl__law_less X G c) f__law_less.kp b__law_less
  have D__law_is_void := fb_all (g := true) (x := "_law_is_void") (ok__law_is_void (P := P) (w := w) (base := base) f__law_is_void D__law_less) (gl__law_is_void X G c) f__law_is_void.kp b__law_is_void
  have D__law_has := fb_all (g := true) (x := "_law_has") (ok__law_has (P := P) (w := w) (base := base) f__law_has D__law_less) (gl__law_has X G c) f__law_has.kp b__law_has
  have D__law_raw := fb_all (g := true) (x := "_law_raw") (ok__law_raw (P := P) (w := w) (base := base) f__law_raw D__law_draw D__law_less (fr_len X G c)) (gl__law_raw X G c) f__law_raw.kp b__law_raw
  have D__law_made := fb_all (g := true) (x := "_law_made") (ok__law_made (P := P) (w := w) (base := base) f__law_made D_Range2) (gl__law_made X G c) f__law_made.kp b__law_made
  have D__law_fields := fb_all (g := true) (x := "_law_fields") (ok__law_fields (P := P) (w := w) (base := base) f__law_fields T) (gl__law_fields X G c) f__law_fields.kp b__law_fields
  have D__law_plain := fb_all (g := true) (x := "_law_plain") (ok__law_plain (P := P) (w := w) (base := base) f__law_plain) (gl__law_plain X G c) f__law_plain.kp b__law_plain
  have D__law_refused := fb_all (g := true) (x := "_law_refused") (ok__law_refused (P := P) (w := w) (base := base) f__law_refused D__law_made (gl_NoRange X G c) (fr_isinstance X G c) (gl_NoDigits X G c) (gl_NoText X G c) (gl_NoWord X G c) (gl_Nought X G c) (fr_ArithmeticError X G c) (fr_ValueError X G c) (fr_ZeroDivisionError X G c) g36 (excKB_ok g43) g37 g38) (gl__law_refused X G c) f__law_refused.kp b__law_refused
  have D__law_number_text := fb_all (g := true) (x := "_law_number_text") (ok__law_number_text (P := P) (w := w) (base := base) f__law_number_text (fr_str X G c) (fr_int X G c)) (gl__law_number_text X G c) f__law_number_text.kp b__law_number_text
  have D__law_text := fb_all (g := true) (x := "_law_text") (ok__law_text (P := P) (w := w) (base := base) f__law_text D__law_number_text (fr_int X G c)) (gl__law_text X G c) f__law_text.kp b__law_text
  have D__law_spots := fb_all (g := true) (x := "_law_spots") (ok__law_spots (P := P) (w := w) (base := base) f__law_spots D__law_low) (gl__law_spots X G c) f__law_spots.kp b__law_spots
  have D__law_met := fb_all (g := true) (x := "_law_met") (ok__law_met (P := P) (w := w) (base := base) f__law_met D__law_less D__law_is_void) (gl__law_met X G c) f__law_met.kp b__law_met
  exact ok_law f_law ⟨_, _, _, ok_feed f__law_feed, gl__law_feed X G c, f__law_feed.kp, b__law_feed, .nil⟩ IC g26 g27 g28 g29 g30 g31 g32 g33 g34 g35 D__law_fraction D__law_raw D__law_is_void D__law_refused D__law_made D__law_fields D__law_plain D__law_text D__law_spots D__law_has D__law_met M_has M_meet D_Range0 EQ SR (fr_range X G c) (fr_max X G c) (fr_min X G c) (fr_len X G c) (fr_repr X G c) (fr_str X G c) (fr_list X G c)
end Hd

open PySem PySem.W PySem.Calls PyProof.Rows
set_option maxRecDepth 100000 in
set_option maxHeartbeats 8000000 in
theorem PySem.Challenge.cw_formatwords_k04_ranges_and_what_they_hav_holds : PySem.Challenge.rw_formatwords_k04_ranges_and_what_they_hav.Holds := by
  w_on; o_law
  refine HandSHeadRun.head_any (r := Hd.R) (q := view Hd.R.prog [Hd.lawAt]) (H := Hd.hk) (ob := Hd.ob) (M := 4000) (loose := Hd.loose) (d := HandSHeadRun.topDef Hd.R.prog Hd.lawAt) (kwd := []) Hd.ob_eq
    (by kernel_rfl) (fun s => by kernel_rfl) Hd.run (by kernel_rfl) (by kernel_rfl) (by kernel_rfl) (by rfl) (by first | assumption | decide +kernel) (by decide +kernel)
    ⟨rfl, rfl, rfl, rfl, rfl, by decide +kernel⟩ ?hw ?hc
  case hw => w_witness2
  case hc =>
    refine Fw.walk_g (l := PySem.Challenge.rw_formatwords_k04_ranges_and_what_they_hav) (n := 63) (k := 13) (x := "_law_script") rfl (by decide) (by kernel_rfl) ⟨rfl, by decide, by decide⟩ ?F
    intro w mg fa h Y G hmg0
    obtain ⟨K, KX, c⟩ := Y
    have hmg : mg ("law" : PySem.Str) = some (.ref fa) := by
      have e : (HandSHeadRun.topDef Hd.R.prog Hd.lawAt).name = ("law" : PySem.Str) := by kernel_rfl
      rw [← e]; exact hmg0
    obtain ⟨fd, hb, hF⟩ := Hd.facts (P := (PySem.Challenge.rw_formatwords_k04_ranges_and_what_they_hav).prog) (w := w) KX G hmg c.t.d c.more
    exact ⟨K, fd, Lw.spLaw K, KX, hb, fun H a ns hl _ hS => ⟨a, ns, rfl, hS, hl, fun _ => rfl⟩, hF⟩
