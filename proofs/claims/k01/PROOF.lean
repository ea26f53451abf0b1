import PyProof.Rows.All
import Wide.All
import OpenK.AllK
import Wide.FinOn
import PyProof.Draws
import PyProof.EnumMake
import PyProof.StrOps2
import KE.KStateDown
import HandS.Base
import HandS.Call
import HandS.List
import HandS.Comp
import HandS.Ends
import HandS.Dict
import HandS.Iter
import HandS.Text
import HandS.Words
import HandS.WordsList
import HandS.WordsDict
import HandS.Flow
import HandS.Style
import HandS.Codes
import HandS.IsInst
import HandS.RaiseMore
import HandS.Wide
import HandS.WideBits
import HandS.Defaults
import HandS.TupAny
import HandS.More
import HandS.WordsExc
import HandS.Exc
import HandS.MakeKwOnly
import HandS.Head0
import HandS.Head1
import HandS.Head2
import HandS.HeadEnd
import HandS.HeadHook1
import HandS.HeadHook2
import HandS.HeadHook3
import HandS.HeadHook4

import PySem.Challenge.RW_formatwords_k01_digits_and_numbers

set_option Elab.async false
set_option linter.all false
set_option maxRecDepth 100000
set_option maxHeartbeats 4000000
namespace Fw
open PySem PySem.Spec PyProof.Rows L2
/-! ### defs by their names -/
/-- the def that the module's name x holds: n values are written in a call, dvs fill up -/
structure Dn (P : Program) (w : World) (K : PySem.W.Frag) (mg : Str → Option Value) (base : Heap) (CX : CXT) (k : Nat) (x : Str) (ps : List Str) (dvs : List V) (sp : Sp) : Prop where
  ex : ∃ (f : Addr) (fd : FuncData) (ds : List Value), FnOk P w K mg base CX k f fd ps sp ∧ mg x = some (.ref f) ∧ PySem.W.keepIn K (.ref f) = true ∧ Binds K fd ps ds ∧ Vals dvs ds
section
variable {X : Cx} {k : Nat} {x : Str} {ps : List Str} {dvs : List V} {sp : Sp} {p pos : Pos} {e : Expr} {es : List Expr} {t : TA}
theorem pe_dn (D : Dn X.prog X.w X.K X.mg X.base CX0 k x ps dvs sp) (hr : Room k X.A) (hg : Gl X x) (ha : PA X (e :: es) t)
    (hdb : (x == ("__debug__" : Str)) = false := by decide) (he : starEach (e :: es) X.env = (false, eval e X.env) :: starEach es X.env := by rfl)
    (hpl : (backTo pos (starEach es X.env)).any (·.1) = false := by rfl) : PE X (.Call (.Name x p) (e :: es) [] pos) (tCall sp dvs E0 t) := by
  obtain ⟨f, fd, ds, F, hm, hk, hb, hd⟩ := D.ex
  exact pe_call F hr hg hm hk hb hd pass0 ha hdb he hpl
theorem pe_dn0 (D : Dn X.prog X.w X.K X.mg X.base CX0 k x ps dvs sp) (hr : Room k X.A) (hg : Gl X x)
    (hdb : (x == ("__debug__" : Str)) = false := by decide) : PE X (.Call (.Name x p) [] [] pos) (tCall sp dvs E0 tNil) := by
  obtain ⟨f, fd, ds, F, hm, hk, hb, hd⟩ := D.ex
  exact pe_call0 F hr hg hm hk hb hd pass0 hdb
end
/-- the same called with keywords -/
structure Dk (P : Program) (w : World) (K : PySem.W.Frag) (mg : Str → Option Value) (base : Heap) (CX : CXT) (k : Nat) (x : Str) (n : Nat) (ks : List Str) (gV : List V → List V → List V) (sp : Sp) : Prop where
  ex : ∃ (f : Addr) (fd : FuncData) (ps : List Str) (g : List Value → List Value → List Value), FnOk P w K mg base CX k f fd ps sp ∧ mg x = some (.ref f) ∧ PySem.W.keepIn K (.ref f) = true ∧ KBn K fd ps n ks g gV
theorem pe_dk {X : Cx} {k n : Nat} {x : Str} {ks : List Str} {gV : List V → List V → List V} {sp : Sp} {p pos : Pos} {e : Expr} {es : List Expr} {kws : List Keyword} {t tk : TA}
    (D : Dk X.prog X.w X.K X.mg X.base CX0 k x n ks gV sp) (hr : Room k X.A) (hg : Gl X x) (ha : PA X (e :: es) t) (hkw : PK X kws tk)
    (hall : (backToKw pos (keywordEach kws X.env)).all (·.1.isSome) = true := by rfl) (hks : (backToKw pos (keywordEach kws X.env)).filterMap (·.1) = ks := by rfl)
    (hdb : (x == ("__debug__" : Str)) = false := by decide) (he : starEach (e :: es) X.env = (false, eval e X.env) :: starEach es X.env := by rfl)
    (hpl : ((backTo pos (starEach (e :: es) X.env)).any (·.1) || (backToKw pos (keywordEach kws X.env)).any (·.1.isNone)) = false := by rfl) :
    PE X (.Call (.Name x p) (e :: es) kws pos) (tCallN n ks.length sp gV E0 t tk) := by
  obtain ⟨f, fd, ps, g, F, hm, hk, hb⟩ := D.ex
  exact pe_callN F hr hg hm hk hb pass0 ha hkw hall hks hdb he hpl
/-! ### text * number -/
def mulS (z : Str) (n : Int) : Str := ⟨(List.replicate n.toNat z.cps).foldl (· ++ ·) #[]⟩
theorem foldl_cat (a : Array Nat) : ∀ (k : Nat) (acc : Array Nat), ((List.replicate k a).foldl (· ++ ·) acc).toList = acc.toList ++ (List.replicate k a.toList).flatten
  | 0, acc => by simp
  | k + 1, acc => by
    rw [List.replicate_succ, List.foldl_cons, foldl_cat a k, List.replicate_succ, List.flatten_cons, Array.toList_append, List.append_assoc]
theorem mulS_tl (z : Str) (n : Int) : (mulS z n).cps.toList = (List.replicate n.toNat z.cps.toList).flatten := by
  unfold mulS
  rw [foldl_cat]
  simp
theorem mulS_len (z : Str) (n : Int) : (mulS z n).length = n.toNat * z.length := by
  show (mulS z n).cps.size = _
  rw [← Array.length_toList, mulS_tl, List.length_flatten, List.map_replicate, List.sum_replicate_nat, Array.length_toList]
  rfl
theorem op_mul_str {X : Cx} : OpR X (binaryOp .Mult) (fun x y H Q => ∃ (z : Str) (n : Int), x = .str z ∧ y = .int n ∧ (-(2 ^ 62) ≤ n ∧ n < 2 ^ 62) ∧ n.toNat * z.length ≤ sizeLine ∧ Q (.str (mulS z n)) H) := by
  intro pins s σ H x y v u Q I rx ry h
  obtain ⟨z, n, rfl, rfl, ⟨h1, h2⟩, hz, q⟩ := h
  obtain ⟨t, rfl⟩ := rx
  obtain ⟨t', rfl⟩ := ry
  have hsz : (sizeLine : Int) ≤ 2 ^ 40 := by decide
  refine PySem.P.mul_str ?_ (fun g1 g2 => ?_) (fun g1 g2 => ?_) ?_
  · rw [decide_eq_false (by omega), decide_eq_false (by omega)]; rfl
  · intro hc
    have hc' : (z.length : Int) > (2 ^ 63 - 1) / n := hc
    have hn : 0 < n := by omega
    have e1 : (2 ^ 63 - 1 : Int) < n * z.length := by
      have := Int.lt_mul_of_ediv_lt hn hc'
      rw [Int.mul_comm] at this
      exact this
    have e2 : n * (z.length : Int) = ((n.toNat * z.length : Nat) : Int) := by
      rw [Int.natCast_mul, Int.toNat_of_nonneg (by omega)]
    have e3 : ((n.toNat * z.length : Nat) : Int) ≤ (sizeLine : Int) := by exact_mod_cast hz
    omega
  · show decide (z.length * n.toNat > sizeLine) = false
    rw [Nat.mul_comm]
    exact decide_eq_false (by omega)
  · have hl := mulS_len z n
    by_cases c1 : n < 1
    · rw [if_pos c1]
      have e0 : mulS z n = Str.empty := by
        have : n.toNat = 0 := by omega
        unfold mulS; rw [this]; rfl
      refine ⟨by decide, ⟨.str (mulS z n), H, I.tok _, ⟨_, by rw [e0]⟩, q⟩⟩
    · rw [if_neg c1]
      by_cases c2 : (n == 1 || z.length == 0) = true
      · rw [if_pos c2]
        have e0 : mulS z n = z := by
          apply TL.ext_tl
          show (mulS z n).cps.toList = z.cps.toList
          rw [mulS_tl]
          rw [Bool.or_eq_true] at c2
          rcases c2 with c | c
          · have : n = 1 := by simpa using c
            subst this
            simp
          · have : z.cps.toList = [] := by
              apply List.length_eq_zero_iff.mp
              rw [Array.length_toList]
              exact eq_of_beq c
            rw [this]
            simp
        exact ⟨.str (mulS z n), H, I, ⟨t, by rw [e0]⟩, q⟩
      · rw [if_neg c2]
        exact ⟨by show (mulS z n).length ≤ sizeLine; omega, ⟨.str (mulS z n), H, I.tok _, ⟨_, rfl⟩, q⟩⟩
/-! ### enumerate(text) -/
def IteS (x : Str) : It :=
  ⟨fun i _ => i < x.cps.size, fun i H v H' => ∃ T c, v = .ref T ∧ H T = none ∧ x.cps[i]? = some c ∧ H' = upd H T (.tup [.int (i : Nat), .str ⟨#[c]⟩]), fun i _ => x.cps.size ≤ i⟩
theorem iterType_or (x : Str) : strIterType x = "str_ascii_iterator" ∨ strIterType x = "str_iterator" := by
  unfold strIterType
  split
  · exact .inl rfl
  · exact .inr rfl
theorem drawsS {prog : Program} {w : World} {A : Around} (hh : A.handled = none) (it : Addr) (x : Str) (t : Tok) :
    Draws prog w A it [it] x.cps.size (fun i v => ∃ c u, x.cps[i]? = some c ∧ v = .str ⟨#[c]⟩ u) (fun i h => h.IsStrIter it (strIterType x) x t i) := by
  rcases iterType_or x with e | e
  · rw [e]; exact Draws.strAscii hh it x t
  · rw [e]; exact Draws.strWide hh it x t
theorem turn_enumS {P : Program} {w : World} {K : PySem.W.Frag} {elts : List Expr} {kk : Nat} {tpos : Pos} (x : Str) (t : Tok) (e it : Addr) (hne : e ≠ it) :
    Turn P w K (.Tuple elts kk tpos) (IteS x) [e, it] e (fun i h => (∃ old, IsEnum h e it ((i : Nat) : Int) old) ∧ h.IsStrIter it (strIterType x) x t i) where
  mem := by simp
  obj := fun i h st b hb => by
    obtain ⟨⟨old, he⟩, ⟨o, ho, hc, hd⟩⟩ := st
    have e' : b = e ∨ b = it := by simpa using hb
    rcases e' with z | z
    · subst z; exact ⟨_, he, fun v q => nomatch q⟩
    · subst z; exact ⟨o, ho, fun v q => by rw [hd] at q; cases q⟩
  keep := fun i h h' st k => by
    obtain ⟨⟨old, he⟩, ⟨o, ho, r⟩⟩ := st
    exact ⟨⟨old, k e (by simp) _ he⟩, ⟨o, k it (by simp) o ho, r⟩⟩
  item := by
    intro X hP hw hK hc i pins s σ H E I hf st hg
    subst hP hw hK
    obtain ⟨⟨old, he⟩, hit⟩ := st
    have hel : e < s.heap.objs.size := Heap.lt_size he
    have hil : it < s.heap.objs.size := by obtain ⟨_, q, _⟩ := hit; exact Heap.lt_size q
    have hlt : i < x.cps.size := hg
    have D1 := drawsS (prog := X.prog) (w := X.w) (A := X.A.in1) (I.ok.hd hc) it x t
    refine wpAny_pyNext_enum_itemD D1 he hit hlt hne (by simpa using hne) fun v h' tk hv ho hit' hT hsz hk => ?_
    obtain ⟨c, u, hcx, rfl⟩ := hv
    refine ⟨_, rfl, wpAny_letOwnedTupleGo_enum (s := { s with heap := h', toks := tk + 1 }) ho fun h2 he2 sb => ?_⟩
    have hT2 : h2.get? s.heap.objs.size = some { cls := .type "tuple", data := .seq #[.int i tk, .str ⟨#[c]⟩ u] } := (sb.2 _ (Nat.ne_of_gt hel)).trans hT
    have new : ObjOk X.prog X.w (upd H s.heap.objs.size (.tup [.int (i : Nat), .str ⟨#[c]⟩])) h2 s.heap.objs.size (.tup [.int (i : Nat), .str ⟨#[c]⟩]) :=
      ⟨by show 2 ≤ sizeLine; decide, [.int i tk, .str ⟨#[c]⟩ u], .cons ⟨_, rfl⟩ (.cons ⟨_, rfl⟩ .nil), ⟨_, hT2, rfl, _, rfl⟩⟩
    have J : Inv X pins σ (upd H s.heap.objs.size (.tup [.int (i : Nat), .str ⟨#[c]⟩])) { s with heap := h2, toks := tk + 1 } :=
      I.turnedNew (ch := [e, it]) (fun b ob hb q => by
        have hb1 : b ≠ e := fun z => hb (by simp [z])
        have hb2 : b ≠ it := fun z => hb (by simp [z])
        exact (sb.2 b hb1).trans (hk b ob hb1 hb2 q)) hf (Nat.le_refl _) new
    refine ⟨.ref s.heap.objs.size, _, J, rfl, ⟨_, c, rfl, I.hok.fresh (Nat.le_refl _), hcx, rfl⟩, ⟨⟨.str ⟨#[c]⟩ u, ?_⟩, ?_⟩, fun b hb => ?_⟩
    · have e1 : ((i + 1 : Nat) : Int) = (i : Int) + 1 := by omega
      rw [e1]; exact he2
    · obtain ⟨o, q, r⟩ := hit'
      exact ⟨o, (sb.2 it (Ne.symm hne)).trans q, r⟩
    · have hlt : b < s.heap.objs.size := by
        have e' : b = e ∨ b = it := by simpa using hb
        rcases e' with z | z
        · subst z; exact hel
        · subst z; exact hil
      rw [upd_ne (Nat.ne_of_lt hlt)]
      exact (hf b hb).1
  done := by
    intro X hP hw hK hc i pins s σ H E I hf st hg
    subst hP hw hK
    obtain ⟨⟨old, he⟩, hit⟩ := st
    have hz : x.cps.size ≤ i := hg
    obtain ⟨f0, f1, f2, f3, f4, f5⟩ := hf it (by simp)
    by_cases q : i = x.cps.size
    · subst q
      have D1 := drawsS (prog := X.prog) (w := X.w) (A := X.A.in1) (I.ok.hd hc) it x t
      exact wpAny_pyNext_enum_endD D1 he hit fun h' eb => ⟨rfl, I.turned (t' := s.toks) (fun b o hb q => eb b o hb q) f0 f1 f3 f4 f5⟩
    · -- the iterator stands nowhere beyond its end
      have D2 : Draws X.prog X.w X.A.in1 it [it] i (fun _ _ => False) (fun j h => j = i ∧ h.IsStrIter it (strIterType x) x t i) :=
        ⟨fun _ _ st => by obtain ⟨_, o, ho, _⟩ := st; exact ⟨o, ho⟩, fun _ _ _ st hk => by
          obtain ⟨z, o, ho, r⟩ := st
          exact ⟨z, o, hk it (by simp) o ho, r⟩, fun j s Q E hj st _ => absurd st.1 (Nat.ne_of_lt hj), fun s Q E st hE => by
          have hx : x.cps[i]? = none := Array.getElem?_eq_none hz
          obtain ⟨_, st⟩ := st
          rcases iterType_or x with e | e
          · rw [e] at st; exact wpAny_nextOf_ascii_end (I.ok.hd hc) st hx hE
          · rw [e] at st; exact wpAny_nextOf_wide_end (I.ok.hd hc) st hx hE⟩
      exact wpAny_pyNext_enum_endD D2 he ⟨rfl, hit⟩ fun h' eb => ⟨rfl, I.turned (t' := s.toks) (fun b o hb q => eb b o hb q) f0 f1 f3 f4 f5⟩
  self := fun A i s Q E st h => by
    obtain ⟨⟨_, he⟩, _⟩ := st
    exact wpAny_pyIter_enum he h
def iEnumS (ta : TA) : TI := fun σ H R => ta σ H fun vs H1 => ∃ x, vs = [.str x] ∧ R (IteS x) H1
theorem pi_enumS {X : Cx} {e : Expr} {ta : TA} {p pos tpos : Pos} {elts : List Expr} {kk : Nat} (hg : Gl X "enumerate") (hm : X.mg "enumerate" = none) (ha : PA X [e] ta) (hs : starEach [e] X.env = [(false, eval e X.env)] := by rfl) :
    PI X (.Tuple elts kk tpos) (.Call (.Name "enumerate" p) [e] [] pos) (iEnumS ta) := by
  refine ⟨fun pins s σ H R I h => ?_⟩
  refine Call_ (ld_blt I hg hm boot_enumerate (PyProof.Rows.callWith_type1 (thn (ha.run pos pins s σ H _ I h) fun us s1 ⟨vs, H1, I1, r1, q1⟩ => ?_) hs rfl))
  obtain ⟨x, rfl, q⟩ := q1
  obtain ⟨u, rfl, t, rfl⟩ := vals1 r1
  refine call_enumerate_str fun h' he hit hsz hk => wpAny_pyIter_enum he ?_
  have J : Inv X pins σ H1 { s1 with heap := h' } := I1.kept (t' := s1.toks) hk
  refine ⟨s1.heap.objs.size + 1, [s1.heap.objs.size + 1, s1.heap.objs.size], _, _, H1, rfl, J, turn_enumS x t _ _ (Nat.succ_ne_self _), ⟨⟨.none, he⟩, hit⟩, fun b hb => ?_, q⟩
  have hle : s1.heap.objs.size ≤ b := by
    have e' : b = s1.heap.objs.size + 1 ∨ b = s1.heap.objs.size := by simpa using hb
    rcases e' with z | z
    · rw [z]; exact Nat.le_succ _
    · rw [z]; exact Nat.le_refl _
  exact I1.fpOk hle (I1.hok.fresh hle)
/-- the reading of such a for -/
theorem for_enumS {x : Str} {g : TG} {tb : TS} {D : Ends} {σ : L2.St} {H : Hp} (Pv : Nat → L2.St → Hp → Prop) (h0 : Pv 0 σ H)
    (hs : ∀ i c T σ H, x.cps[i]? = some c → H T = none → Pv i σ H → g (.ref T) σ (upd H T (.tup [.int (i : Nat), .str ⟨#[c]⟩])) fun σ2 H2 => tb { D with nx := Pv (i + 1), ct := Pv (i + 1), bk := D.nx } σ2 H2)
    (hd : ∀ σ H, Pv x.cps.size σ H → D.nx σ H) :
    ∃ W : Nat → Nat → L2.St → Hp → Prop, (∃ m, W 0 m σ H) ∧ ∀ i m σ H, W i m σ H →
      ((IteS x).stop i H ∧ D.nx σ H) ∨ ((IteS x).go i H ∧ ∃ N : L2.St → Hp → Prop, (∀ σ' H', N σ' H' → ∃ m', m' < m ∧ W (i + 1) m' σ' H') ∧ ∀ v H', (IteS x).yld i H v H' → g v σ H' fun σ2 H2 => tb { D with nx := N, ct := N, bk := D.nx } σ2 H2) := by
  refine ⟨fun i m σ H => m = x.cps.size - i ∧ i ≤ x.cps.size ∧ Pv i σ H, ⟨_, rfl, Nat.zero_le _, h0⟩, ?_⟩
  rintro i m σ H ⟨rfl, hi, pv⟩
  by_cases hlt : i < x.cps.size
  · refine .inr ⟨hlt, Pv (i + 1), fun σ' H' p' => ⟨_, by omega, rfl, hlt, p'⟩, fun v H' y => ?_⟩
    obtain ⟨T, c, rfl, hT, hc, rfl⟩ := y
    exact hs i c T σ H hc hT pv
  · have e : i = x.cps.size := by omega
    subst e
    exact .inl ⟨Nat.le_refl _, hd σ H pv⟩
/-- a comprehension over range(a, b, c) -/
theorem lc_rangeC {lo c : Int} {n : Nat} {g : TG} {tt : TT} {te : TE} {vs : List Nat} {σ : L2.St} {H1 : Hp} {D : Addr} {Qd : Hp → Prop} (Pv : Nat → Hp → Prop) (h0 : Pv 0 (upd H1 D (.lst [])))
    (hs : ∀ i H, i < n → Pv i H → g (.int (lo + (i : Nat) * c)) (wipe σ vs) H fun σ2 H2 => wipe σ2 vs = wipe σ vs ∧ tt σ2 H2 fun b H3 =>
      if b = true then te σ2 H3 fun y H4 => ∃ acc, H4 D = some (.lst acc) ∧ acc.length < sizeLine ∧ Pv (i + 1) (upd H4 D (.lst (acc ++ [y]))) else Pv (i + 1) H3) (hd : ∀ H, Pv n H → Qd H) :
    ∃ W : Nat → Nat → Hp → Prop, (∃ m, W 0 m (upd H1 D (.lst []))) ∧ ∀ i m H, W i m H →
      ((Itc lo c n).stop i H ∧ Qd H) ∨ ((Itc lo c n).go i H ∧ ∃ Nx : Hp → Prop, (∀ H', Nx H' → ∃ m', m' < m ∧ W (i + 1) m' H') ∧ ∀ x H', (Itc lo c n).yld i H x H' → g x (wipe σ vs) H' fun σ2 H2 => wipe σ2 vs = wipe σ vs ∧ tt σ2 H2 fun b H3 =>
        if b = true then te σ2 H3 fun y H4 => ∃ acc, H4 D = some (.lst acc) ∧ acc.length < sizeLine ∧ Nx (upd H4 D (.lst (acc ++ [y]))) else Nx H3) := by
  refine ⟨fun i m H => m = n - i ∧ i ≤ n ∧ Pv i H, ⟨_, rfl, Nat.zero_le _, h0⟩, ?_⟩
  rintro i m H ⟨rfl, hi, pw⟩
  by_cases hlt : i < n
  · refine .inr ⟨hlt, Pv (i + 1), fun H' p' => ⟨_, by omega, rfl, hlt, p'⟩, fun x H' y => ?_⟩
    obtain ⟨e, y⟩ := y
    subst e y
    exact hs i _ hlt pw
  · have e : i = n := by omega
    subst e
    exact .inl ⟨Nat.le_refl _, hd H pw⟩
theorem small_up {a b c : Int} (ha : -(2 ^ 61) ≤ a) (ha' : a < 2 ^ 61) (hb : -(2 ^ 61) ≤ b) (hb' : b < 2 ^ 61) (hc : 0 < c) (hc' : c < 1073741824) : Builtin.Range.small a b c = true := by
  have h1 : a < b → 0 ≤ (b - a - 1) / c ∧ (b - a - 1) / c ≤ b - a - 1 := fun h => ⟨Int.ediv_nonneg (by omega) (by omega), Int.ediv_le_self _ (by omega)⟩
  unfold Builtin.Range.small Builtin.Range.rangeSize
  simp only [Builtin.Range.rangeFitsLong, Bool.and_eq_true, Bool.or_eq_true, decide_eq_true_eq, beq_iff_eq, gt_iff_lt, if_pos hc]
  by_cases h : a < b
  · have := h1 h
    simp only [if_pos h]
    omega
  · simp only [if_neg h]
    omega
/-- t[i:j] -/
theorem slice_S (a : List Nat) (i j : Nat) : Txt.slice (SX.S a) (some (i : Int)) (some (j : Int)) = SX.S ((a.drop i).take (j - i)) := by
  rw [← C8.cutS_slice]
  apply TL.ext_tl
  show (a.drop (HT.sIx (SX.S a).length 0 (some (i : Int)))).take (HT.sIx (SX.S a).length (SX.S a).length (some (j : Int)) - HT.sIx (SX.S a).length 0 (some (i : Int))) = (a.drop i).take (j - i)
  rw [HT.sIx_nat, HT.sIx_nat, SX.S_len]
  by_cases hi : i ≤ a.length
  · rw [Nat.min_eq_left hi]
    by_cases hj : j ≤ a.length
    · rw [Nat.min_eq_left hj]
    · rw [Nat.min_eq_right (by omega), List.take_of_length_le (by rw [List.length_drop]; omega), List.take_of_length_le (by rw [List.length_drop]; omega)]
  · rw [List.drop_eq_nil_of_le (show a.length ≤ min i a.length by omega), List.drop_eq_nil_of_le (show a.length ≤ i by omega), List.take_nil, List.take_nil]
end Fw

namespace M01
/-- the code of a digit -/
def dg (i : Nat) : Nat := if i < 10 then 48 + i else 87 + i
/-- digits, the first one first -/
def digs (b n : Nat) : List Nat := if h : 2 ≤ b ∧ b ≤ n then digs b (n / b) ++ [dg (n % b)] else [dg n]
termination_by n
decreasing_by
  have h1 : 0 < n := by omega
  exact Nat.div_lt_self h1 (by omega)
theorem digs_lt {b n : Nat} (h : n < b) : digs b n = [dg n] := by
  unfold digs
  rw [dif_neg (by omega)]
theorem digs_ge {b n : Nat} (hb : 2 ≤ b) (h : b ≤ n) : digs b n = digs b (n / b) ++ [dg (n % b)] := by
  conv => lhs; unfold digs
  rw [dif_pos ⟨hb, h⟩]
/-- the digits ahead of the last one -/
def front (b n : Nat) : List Nat := if n < b then [] else digs b (n / b)
theorem digs_front {b n : Nat} (hb : 2 ≤ b) : digs b n = front b n ++ [dg (n % b)] := by
  unfold front
  by_cases h : n < b
  · rw [if_pos h, digs_lt h, Nat.mod_eq_of_lt h]; rfl
  · rw [if_neg h, digs_ge hb (by omega)]
theorem front_ge {b n : Nat} (hb : 2 ≤ b) (h : b ≤ n) : front b n = front b (n / b) ++ [dg (n / b % b)] := by
  rw [← digs_front hb]
  unfold front
  rw [if_neg (by omega)]
theorem front_lt {b n : Nat} (h : n < b) : front b n = [] := if_pos h
theorem digs_ne (b n : Nat) : digs b n ≠ [] := by
  unfold digs
  split
  · simp
  · simp
/-- a bound on how many digits there are -/
theorem digs_len {b : Nat} (hb : 2 ≤ b) : ∀ (k n : Nat), n < 2 ^ k → (digs b n).length ≤ k + 1 := by
  intro k
  induction k with
  | zero =>
    intro n h
    have : n = 0 := by simpa using h
    rw [digs_lt (by omega)]; simp
  | succ k ih =>
    intro n h
    by_cases hn : n < b
    · rw [digs_lt hn]; simp
    · rw [digs_ge hb (by omega), List.length_append]
      have : n / b < 2 ^ k := by
        have h1 : n / b ≤ n / 2 := Nat.div_le_div_left hb (by decide)
        have h2 : n / 2 < 2 ^ k := by
          rw [Nat.div_lt_iff_lt_mul (by decide)]
          rw [Nat.pow_succ] at h; exact h
        omega
      have := ih _ this
      simp; omega
/-- all digits are of the base -/
theorem digs_mem {b : Nat} (hb : 2 ≤ b) : ∀ (n : Nat) (c : Nat), c ∈ digs b n → ∃ i, i < b ∧ c = dg i := by
  intro n
  induction n using Nat.strongRecOn with
  | _ n ih =>
    intro c hc
    by_cases hn : n < b
    · rw [digs_lt hn] at hc
      exact ⟨n, hn, by simpa using hc⟩
    · rw [digs_ge hb (by omega)] at hc
      rcases List.mem_append.mp hc with h | h
      · exact ih _ (Nat.div_lt_self (by omega) (by omega)) c h
      · exact ⟨n % b, Nat.mod_lt _ (by omega), by simpa using h⟩
/-- what digits are worth -/
def undg (c : Nat) : Nat := if c < 58 then c - 48 else c - 87
theorem undg_dg {i : Nat} (h : i < 36) : undg (dg i) = i := by
  unfold undg dg
  by_cases h1 : i < 10
  · rw [if_pos h1, if_pos (by omega)]; omega
  · rw [if_neg h1, if_neg (by omega)]; omega
def val (b : Nat) (l : List Nat) : Nat := l.foldl (fun a c => a * b + undg c) 0
theorem val_append (b : Nat) (l : List Nat) (c : Nat) : val b (l ++ [c]) = val b l * b + undg c := by
  unfold val
  rw [List.foldl_append]; rfl
theorem val_digs {b : Nat} (hb : 2 ≤ b) (hb2 : b ≤ 36) : ∀ n : Nat, val b (digs b n) = n := by
  intro n
  induction n using Nat.strongRecOn with
  | _ n ih =>
    by_cases hn : n < b
    · rw [digs_lt hn]
      show 0 * b + undg (dg n) = n
      rw [undg_dg (by omega)]; omega
    · rw [digs_ge hb (by omega), val_append, ih _ (Nat.div_lt_self (by omega) (by omega)), undg_dg (by have := Nat.mod_lt n (show b > 0 by omega); omega)]
      exact Nat.div_add_mod' n b
theorem val_noughts (b : Nat) (l : List Nat) : ∀ k : Nat, val b (List.replicate k 48 ++ l) = val b l := by
  intro k
  unfold val
  rw [List.foldl_append]
  have : ∀ k : Nat, (List.replicate k 48).foldl (fun a c => a * b + undg c) 0 = 0 := by
    intro k
    induction k with
    | zero => rfl
    | succ k ih =>
      rw [List.replicate_succ, List.foldl_cons]
      have : 0 * b + undg 48 = 0 := by unfold undg; simp
      rw [this]; exact ih
  rw [this k]
/-! groups -/
def gr (mark m : Nat) : List Nat → List Nat
  | [] => []
  | c :: r => c :: (if r ≠ [] ∧ r.length % m = 0 then mark :: gr mark m r else gr mark m r)
def joinL (sep : List Nat) : List (List Nat) → List Nat
  | [] => []
  | [x] => x
  | x :: y :: r => x ++ (sep ++ joinL sep (y :: r))
def chunks (m : Nat) (l : List Nat) : List (List Nat) := if h : 0 < m ∧ l ≠ [] then l.take m :: chunks m (l.drop m) else []
termination_by l.length
decreasing_by
  rw [List.length_drop]
  have := List.length_pos_iff.mpr h.2
  omega
theorem chunks_nil (m : Nat) : chunks m [] = [] := by
  unfold chunks
  rw [dif_neg (by simp)]
theorem chunks_cons {m : Nat} {l : List Nat} (hm : 0 < m) (h : l ≠ []) : chunks m l = l.take m :: chunks m (l.drop m) := by
  conv => lhs; unfold chunks
  rw [dif_pos ⟨hm, h⟩]
theorem gr_part {mark m : Nat} : ∀ (v u : List Nat), v ≠ [] → v.length ≤ m → u.length % m = 0 → gr mark m (v ++ u) = v ++ (if u = [] then [] else mark :: gr mark m u)
  | [], _, h, _, _ => absurd rfl h
  | [c], u, _, _, hu => by
    show c :: (if u ≠ [] ∧ u.length % m = 0 then mark :: gr mark m u else gr mark m u) = c :: (if u = [] then [] else mark :: gr mark m u)
    by_cases h : u = []
    · subst h; rfl
    · rw [if_pos ⟨h, hu⟩, if_neg h]
  | c :: d :: v, u, _, hl, hu => by
    have ih := gr_part (mark := mark) (d :: v) u (by simp) (by simp at hl ⊢; omega) hu
    show c :: (if (d :: v ++ u) ≠ [] ∧ (d :: v ++ u).length % m = 0 then mark :: gr mark m (d :: v ++ u) else gr mark m (d :: v ++ u)) = c :: (d :: v ++ (if u = [] then [] else mark :: gr mark m u))
    have hne : ¬ ((d :: v ++ u) ≠ [] ∧ (d :: v ++ u).length % m = 0) := by
      rintro ⟨_, h⟩
      simp only [List.length_append, List.length_cons] at h hl
      rw [Nat.add_mod, hu, Nat.add_zero, Nat.mod_mod, Nat.mod_eq_of_lt (by omega)] at h
      omega
    rw [if_neg hne, ih]
theorem joinL_chunks {mark m : Nat} (hm : 0 < m) : ∀ (k : Nat) (u : List Nat), u.length = k * m → joinL [mark] (chunks m u) = gr mark m u := by
  intro k
  induction k with
  | zero =>
    intro u h
    have : u = [] := List.length_eq_zero_iff.mp (by omega)
    subst this; rw [chunks_nil]; rfl
  | succ k ih =>
    intro u h
    have hne : u ≠ [] := by
      intro e; subst e
      rw [Nat.succ_mul] at h
      simp at h; omega
    have hl : m ≤ u.length := by rw [h, Nat.succ_mul]; omega
    have hd : (u.drop m).length = k * m := by rw [List.length_drop, h, Nat.succ_mul]; omega
    have e := ih (u.drop m) hd
    rw [chunks_cons hm hne]
    have ht : (u.take m).length = m := by rw [List.length_take]; omega
    have key := gr_part (mark := mark) (m := m) (u.take m) (u.drop m) (by intro e; rw [e] at ht; simp at ht; omega) (by omega) (by rw [hd]; exact Nat.mul_mod_left k m)
    rw [List.take_append_drop] at key
    rw [key]
    by_cases hz : u.drop m = []
    · rw [hz, chunks_nil, if_pos rfl]
      show u.take m = u.take m ++ []
      rw [List.append_nil]
    · rw [if_neg hz, ← e, chunks_cons hm hz]
      rfl
/-- the pieces that the program cuts -/
def pieces (m : Nat) (t : List Nat) : List (List Nat) := (if 0 < t.length % m then [t.take (t.length % m)] else []) ++ chunks m (t.drop (t.length % m))
theorem join_pieces {mark m : Nat} (hm : 0 < m) (t : List Nat) : joinL [mark] (pieces m t) = gr mark m t := by
  unfold pieces
  have hd : (t.drop (t.length % m)).length = t.length / m * m := by
    rw [List.length_drop]
    have := Nat.div_add_mod' t.length m
    omega
  have e := joinL_chunks (mark := mark) hm _ _ hd
  by_cases h : 0 < t.length % m
  · rw [if_pos h]
    have hlt := Nat.mod_lt t.length hm
    have hle : t.length % m ≤ t.length := Nat.mod_le _ _
    have ht : (t.take (t.length % m)).length = t.length % m := by rw [List.length_take]; omega
    have key := gr_part (mark := mark) (m := m) (t.take (t.length % m)) (t.drop (t.length % m)) (by intro e; rw [e] at ht; simp at ht; omega) (by omega) (by rw [hd]; exact Nat.mul_mod_left _ m)
    rw [List.take_append_drop] at key
    rw [key]
    by_cases hz : t.drop (t.length % m) = []
    · rw [hz, chunks_nil, if_pos rfl, List.append_nil, List.append_nil]; rfl
    · rw [if_neg hz, ← e, chunks_cons hm hz]; rfl
  · have h0 : t.length % m = 0 := by omega
    rw [if_neg h]
    rw [h0] at e ⊢
    rw [List.drop_zero] at e ⊢
    exact e
/-- what is still to come behind i signs -/
def rest (mark m : Nat) (r : List Nat) (first : Bool) : List Nat := if first = false ∧ r ≠ [] ∧ r.length % m = 0 then mark :: gr mark m r else gr mark m r
theorem rest_cons (mark m c : Nat) (r : List Nat) (first : Bool) : rest mark m (c :: r) first = (if first = false ∧ (c :: r).length % m = 0 then [mark] else []) ++ (c :: rest mark m r false) := by
  have e : gr mark m (c :: r) = c :: rest mark m r false := by
    unfold rest
    simp only [gr, true_and]
  unfold rest
  rw [e]
  by_cases h : first = false ∧ (c :: r).length % m = 0
  · rw [if_pos ⟨h.1, by simp, h.2⟩, if_pos h]; rfl
  · rw [if_neg (fun z => h ⟨z.1, z.2.2⟩), if_neg h]; rfl
theorem rest_first (mark m : Nat) (r : List Nat) : rest mark m r true = gr mark m r := by
  unfold rest
  rw [if_neg (by simp)]
theorem gr_len (mark m : Nat) : ∀ l : List Nat, (gr mark m l).length ≤ 2 * l.length
  | [] => Nat.le_refl _
  | c :: r => by
    have ih := gr_len mark m r
    unfold gr
    split <;> simp <;> omega
end M01

namespace Lw
open PySem PySem.Spec PyProof.Rows L2 Fw
def top (i : Nat) : Stmt := PySem.Challenge.pw_formatwords_k01_digits_and_numbers.main.body.getD i (.Pass ⟨0, 0, 0, 0⟩)
abbrev FnP (K : PySem.W.Frag) (x : Str) (st : Stmt) (f : Addr) (fd : FuncData) : Prop := FunD K x x (defArgs st) (defBody st) (defScope st) [] [] f fd
/-! ### the feed -/
def fdK (c : Addr) (at_ left : Int) : List (Key × V) := [(.inr "cells", .ref c), (.inr "at", .int at_), (.inr "left", .int left)]
/-- a feed stands at p: at most n draws were made -/
def Feed (H : Hp) (p : Addr) (n : Nat) : Prop := ∃ (c : Addr) (ns : List Int) (at_ left : Int), H p = some (.dK (fdK c at_ left)) ∧ H c = some (.lst (ns.map V.int)) ∧ 0 ≤ at_ ∧ at_ ≤ n ∧ 0 ≤ left
/-- all but what stands at p is as it was -/
def But (p : Addr) (H H' : Hp) : Prop := ∀ b o, H b = some o → b ≠ p → H' b = some o
theorem But.refl (p : Addr) (H : Hp) : But p H H := fun _ _ h _ => h
theorem But.trans {p : Addr} {H H1 H2 : Hp} (a : But p H H1) (b : But p H1 H2) : But p H H2 := fun c o h n => b c o (a c o h n) n
theorem But.new {p q : Addr} {o : HO} {H : Hp} (h : H q = none) : But p H (upd H q o) := fun b u e _ => by
  rw [upd_ne (ne_of_none e h)]; exact e
theorem But.at {p : Addr} {o : HO} {H : Hp} : But p H (upd H p o) := fun b u e n => by
  rw [upd_ne n]; exact e
theorem Same.but {p : Addr} {H H' : Hp} (a : Same H H') : But p H H' := fun c o h _ => a c o h
theorem Feed.mono {H : Hp} {p : Addr} {n m : Nat} (f : Feed H p n) (h : n ≤ m) : Feed H p m := by
  obtain ⟨c, ns, a, l, h1, h2, h3, h4, h5⟩ := f
  exact ⟨c, ns, a, l, h1, h2, h3, by omega, h5⟩
theorem Feed.same {H H' : Hp} {p : Addr} {n : Nat} (f : Feed H p n) (s : Same H H') : Feed H' p n := by
  obtain ⟨c, ns, a, l, h1, h2, h3, h4, h5⟩ := f
  exact ⟨c, ns, a, l, s _ _ h1, s _ _ h2, h3, h4, h5⟩
theorem same_new {H : Hp} {q : Addr} {o : HO} (h : H q = none) : Same H (upd H q o) := fun b u e => by
  rw [upd_ne (ne_of_none e h)]; exact e
theorem Feed.new {H : Hp} {p q : Addr} {o : HO} {n : Nat} (f : Feed H p n) (h : H q = none) : Feed (upd H q o) p n := f.same (same_new h)
theorem Feed.ex {H : Hp} {p : Addr} {n : Nat} (f : Feed H p n) : ∃ kvs, H p = some (.dK kvs) := by
  obtain ⟨c, ns, a, l, h1, _⟩ := f
  exact ⟨_, h1⟩
theorem Feed.ne {H : Hp} {p q : Addr} {n : Nat} {o : HO} (f : Feed H p n) (h : H q = some o) (ho : ∀ kvs, o ≠ .dK kvs) : q ≠ p := by
  obtain ⟨kvs, e⟩ := f.ex
  exact ne_of h e (ho kvs)
theorem s_ne1 : ¬ ("cells" : Str) = "at" := by decide +kernel
theorem s_ne2 : ¬ ("cells" : Str) = "left" := by decide +kernel
theorem s_ne3 : ¬ ("at" : Str) = "left" := by decide +kernel
theorem k_ne1 : ¬ (Sum.inr (Str.ofString "cells") : Key) = Sum.inr (Str.ofString "at") := fun e => s_ne1 (Sum.inr.inj e)
theorem k_ne2 : ¬ (Sum.inr (Str.ofString "cells") : Key) = Sum.inr (Str.ofString "left") := fun e => s_ne2 (Sum.inr.inj e)
theorem k_ne3 : ¬ (Sum.inr (Str.ofString "at") : Key) = Sum.inr (Str.ofString "left") := fun e => s_ne3 (Sum.inr.inj e)
theorem v_cells (c : Addr) (a l : Int) : valV (fdK c a l) (Sum.inr "cells") = some (.ref c) := by
  unfold fdK; rw [valV_pos rfl]
theorem v_at (c : Addr) (a l : Int) : valV (fdK c a l) (Sum.inr "at") = some (.int a) := by
  unfold fdK; rw [valV_neg k_ne1, valV_pos rfl]
theorem v_left (c : Addr) (a l : Int) : valV (fdK c a l) (Sum.inr "left") = some (.int l) := by
  unfold fdK; rw [valV_neg k_ne2, valV_neg k_ne3, valV_pos rfl]
theorem p_at (c : Addr) (a l b : Int) : putK (fdK c a l) (Sum.inr "at") (.int b) = fdK c b l := by
  unfold putK fdK
  rw [if_pos (by simp)]
  simp [s_ne1, Ne.symm s_ne3]
theorem p_left (c : Addr) (a l b : Int) : putK (fdK c a l) (Sum.inr "left") (.int b) = fdK c a b := by
  unfold putK fdK
  rw [if_pos (by simp)]
  simp [s_ne2, s_ne3]
theorem fdK_len (c : Addr) (a l : Int) : (fdK c a l).length < sizeLine := by
  show 3 < sizeLine
  decide
/-- a draw: some number from 0 on, less than m -/
def spDraw : Sp := fun vs H Q _ => ∃ (p : Addr) (m : Int) (n : Nat), vs = [.ref p, .int m] ∧ 0 < m ∧ m < 1073741824 ∧ Feed H p n ∧ n < 1000000000 ∧
  ∀ (r : Int) (H' : Hp), 0 ≤ r → r < m → Feed H' p (n + 1) → But p H H' → Q (.int r) H'
theorem dp_ints {K : PySem.W.Frag} {H : Hp} : ∀ ns : List Int, DpAll K H (ns.map V.int) (ns.map PyData.int)
  | [] => .nil
  | n :: r => .cons (.int n) (dp_ints r)
theorem lay_ints : ∀ ns : List Int, PyData.canLayAll0 (ns.map PyData.int) = true
  | [] => rfl
  | n :: r => by
    show (PyData.canLay0 (.int n) && PyData.canLayAll0 (r.map PyData.int)) = true
    rw [lay_ints r]; rfl
theorem depth_ints : ∀ ns : List Int, PyData.depthAll (ns.map PyData.int) = 0
  | [] => rfl
  | n :: r => by
    show max (PyData.depth (.int n)) (PyData.depthAll (r.map PyData.int)) = 0
    rw [depth_ints r]; rfl
theorem shaped_ints (ns : List Int) : SeqAt.shaped (.list (ns.map PyData.int)) = true := by
  show (PyData.canLayAll0 (ns.map PyData.int) && decide (PyData.depthAll (ns.map PyData.int) + 1 ≤ 64)) = true
  rw [lay_ints, depth_ints]; rfl
section
variable {P : Program} {w : World} {K : PySem.W.Frag} {mg : Str → Option Value} {base : Heap}
abbrev s_draw : Stmt := top 11
theorem sc__law_draw : FnScope ["_law_feed_here", "_law_many", "_law_digit", "_law_at", "_law_cell", "_law_number", "_law_turn"] ["_law_feed_here", "_law_many"] (defScope s_draw) :=
  ⟨rfl, rfl, rfl, by decide +kernel, rfl, by decide +kernel,
    by decide +kernel⟩
theorem ok_draw {f : Addr} {fd : FuncData} (F : FnP K "_law_draw" s_draw f fd) (mg_len : mg "len" = none) (mg_abs : mg "abs" = none) (mg_range : mg "range" = none) :
    FnOk P w K mg base CX0 1 f fd ["_law_feed_here", "_law_many"] spDraw := by
  refine F.ok sc__law_draw (fun vs H Q E h => ?_) (fun cdv A outer s H vs Q E hr h => ?_)
  · obtain ⟨p, m, n, rfl, _⟩ := h
    rfl
  · obtain ⟨p, m, n, rfl, hm, hm2, hF, hn, k⟩ := h
    have hu := hu_of hr
    refine ⟨_, PSs.nox (pss_cons (ps_if (pt_cmpR op_gt (pe_dget hu (pv 0) pe_str (fun _ _ => rfl)) pe_int (nomark _))
    (pss_cons (ps_set (i := 2) sc__law_draw.nd rfl (Or.inl rfl) (pe_op op_mod (pe_dget hu (pv 0) pe_str (fun _ _ => rfl)) (pv 1)))
      (pss_cons (ps_dput hu (pv 0) pe_str (pe_op op_fdiv (pe_dget hu (pv 0) pe_str (fun _ _ => rfl)) (pv 1)) rfl)
      (pss_one (ps_ret (pv 2)))))
    pss_nil)
  (pss_cons (ps_set (i := 3) sc__law_draw.nd rfl (Or.inl rfl) (pe_dget hu (pv 0) pe_str (fun _ _ => rfl)))
  (pss_cons (ps_dput hu (pv 0) pe_str (pe_op op_add (pv 3) pe_int) rfl)
  (pss_cons (ps_set (i := 4) sc__law_draw.nd rfl (Or.inl rfl) (pe_op op_add (pe_op op_mul (pv 3) (pv 3)) pe_int))
  (C8.pss_cut (ps_if (pt_cmpR (op_neD hr.units) (pe_dget hu (pv 0) pe_str (fun _ _ => rfl)) (pe_lst pa_nil) (nomark _))
    (pss_one (ps_set (i := 4) sc__law_draw.nd rfl (Or.inl rfl) (pe_ix ix_list (pe_dget hu (pv 0) pe_str (fun _ _ => rfl)) (pe_op op_mod (pv 3) (pe_callB call_len_seq (by rfl) mg_len (by decide +kernel) (pa_cons (pe_dget hu (pv 0) pe_str (fun _ _ => rfl)) pa_nil))) (fun _ _ => rfl))))
    pss_nil)
  (C8.pss_cut (ps_if (PW.pt (pw_and (pt_cmpR op_lt (pv 3) (pe_callB call_len_seq (by rfl) mg_len (by decide +kernel) (pa_cons (pe_dget hu (pv 0) pe_str (fun _ _ => rfl)) pa_nil)) (nomark _)) (pw_and1 (pt_cmpR op_ge (pe_callB call_abs (by rfl) mg_abs (by decide +kernel) (pa_cons (pv 4) pa_nil)) (pe_op op_pow pe_int pe_int) (nomark _)))))
    (pss_cons (ps_dput hu (pv 0) pe_str (pe_op op_fdiv (pe_callB call_abs (by rfl) mg_abs (by decide +kernel) (pa_cons (pv 4) pa_nil)) (pv 1)) rfl)
      (pss_one (ps_ret (pe_op op_mod (pe_callB call_abs (by rfl) mg_abs (by decide +kernel) (pa_cons (pv 4) pa_nil)) (pv 1)))))
    pss_nil)
  (pss_cons (ps_set (i := 5) sc__law_draw.nd rfl (Or.inl rfl) (pe_op op_mod (pe_op op_mul (pe_op op_add (pe_op op_add (pe_op op_mod (pv 4) pe_int) (pe_op op_mul pe_int (pv 3))) pe_int) pe_int) pe_int))
  (pss_cons (ps_for PassesOwn.never rfl (pi_range1 (by rfl) mg_range (pa_cons pe_int pa_nil)) (pg_name (i := 6) sc__law_draw.nd rfl (.inl rfl))
    (pss_cons (ps_set (i := 5) sc__law_draw.nd rfl (Or.inl rfl) (pe_op op_add (pe_op op_add (pe_op op_add (pe_op op_mul (pv 5) (pv 5)) (pe_op op_mul pe_int (pv 5))) (pv 3)) (pv 6)))
      (pss_one (ps_set (i := 5) sc__law_draw.nd rfl (Or.inl rfl) (pe_op op_mod (pv 5) pe_int)))))
  (pss_one (ps_ret (pe_op op_mod (pe_op op_fdiv (pv 5) pe_int) (pv 1)))))))))))), ?_⟩
    obtain ⟨c, ns, a, l, h1, h2, ha, han, hl⟩ := hF
    have g1 : ∀ H1 : Hp, H1 p = some (.dK (fdK c a l)) → DGet H1 p (.str "left") (some (.int l)) := fun H1 e => by
      have z := DGet.k (k := Sum.inr "left") e; rw [v_left] at z; exact z
    have g2 : ∀ (H1 : Hp) (a l : Int), H1 p = some (.dK (fdK c a l)) → DGet H1 p (.str "at") (some (.int a)) := fun H1 a l e => by
      have z := DGet.k (k := Sum.inr "at") e; rw [v_at] at z; exact z
    have g3 : ∀ (H1 : Hp) (a l : Int), H1 p = some (.dK (fdK c a l)) → DGet H1 p (.str "cells") (some (.ref c)) := fun H1 a l e => by
      have z := DGet.k (k := Sum.inr "cells") e; rw [v_cells] at z; exact z
    have ncp : c ≠ p := ne_of h2 h1 (by intro z; cases z)
    -- left > 0
    refine ⟨_, rfl, p, _, rfl, g1 H h1, _, _, rfl, rfl, _, rfl, ?_⟩
    refine ite2 (fun _ => ?_) (fun _ => ?_)
    · refine ⟨_, rfl, p, _, rfl, g1 H h1, _, rfl, _, _, rfl, rfl, hm, ?_⟩
      refine ⟨_, rfl, p, _, rfl, g1 H h1, _, rfl, _, _, rfl, rfl, ⟨hm, hm2⟩, _, rfl, p, _, rfl, DPut.k (k := Sum.inr "left") h1 (fdK_len _ _ _), ?_⟩
      refine ⟨_, rfl, ?_⟩
      refine k _ _ (Int.emod_nonneg _ (by omega)) (Int.emod_lt_of_pos _ hm) ⟨c, ns, a, l / m, ?_, ?_, ha, by omega, Int.ediv_nonneg hl (by omega)⟩ But.at
      · rw [upd_same, p_left]
      · rw [upd_ne ncp]; exact h2
    · -- at; at + 1
      refine ⟨_, rfl, p, _, rfl, g2 H a l h1, ?_⟩
      refine ⟨_, rfl, _, _, rfl, rfl, _, rfl, p, _, rfl, DPut.k (k := Sum.inr "at") h1 (fdK_len _ _ _), ?_⟩
      have e1 : upd H p (.dK (putK (fdK c a l) (Sum.inr "at") (.int (a + 1)))) = upd H p (.dK (fdK c (a + 1) l)) := by rw [p_at]
      rw [e1]
      generalize hH1 : upd H p (.dK (fdK c (a + 1) l)) = H1
      have i1 : H1 p = some (.dK (fdK c (a + 1) l)) := by rw [← hH1]; exact upd_same
      have i2 : H1 c = some (.lst (ns.map V.int)) := by rw [← hH1, upd_ne ncp]; exact h2
      have i3 : But p H H1 := by rw [← hH1]; exact But.at
      refine ⟨_, rfl, _, rfl, _, _, rfl, rfl, .inl ⟨by omega, by omega⟩, _, _, rfl, rfl, ?_⟩
      -- behind the first if: some cell, the feed as it is but for a new list
      refine ⟨fun σ' H2 => ∃ z : Int, σ' = [some (.ref p), some (.int m), none, some (.int a), some (.int z), none, none] ∧ H2 p = some (.dK (fdK c (a + 1) l)) ∧ H2 c = some (.lst (ns.map V.int)) ∧ But p H H2, ?_, ?_⟩
      · refine ⟨_, rfl, p, _, rfl, g3 H1 _ _ i1, (by show 0 ≤ sizeLine; decide), fun q hq => ?_⟩
        have j1 := same_new (o := HO.lst []) hq _ _ i1
        have j2 := same_new (o := HO.lst []) hq _ _ i2
        have j3 : But p H (upd H1 q (.lst [])) := i3.trans (But.new hq)
        generalize hH2 : upd H1 q (.lst []) = H2 at j1 j2 j3 ⊢
        have jq : H2 q = some (.lst []) := by rw [← hH2]; exact upd_same
        refine ⟨_, _, .lst (SqL.of j2) (dp_ints ns), .lst (SqL.of jq) .nil, shaped_ints ns, rfl, _, rfl, ?_⟩
        cases ns with
        | nil =>
          refine iteF ?_
          exact ⟨_, rfl, j1, j2, j3⟩
        | cons n0 nr =>
          refine iteT ?_
          have hpos : (0 : Int) < (((n0 :: nr).map V.int).length : Int) := by simp
          have hlt := Int.emod_lt_of_pos a hpos
          have hge := Int.emod_nonneg a (Int.ne_of_gt hpos)
          obtain ⟨i, hi⟩ : ∃ i : Nat, a % (((n0 :: nr).map V.int).length : Int) = i := ⟨(a % (((n0 :: nr).map V.int).length : Int)).toNat, by omega⟩
          have hil : i < ((n0 :: nr).map V.int).length := by omega
          refine ⟨_, rfl, p, _, rfl, g3 H2 _ _ j1, _, rfl, _, rfl, p, _, rfl, g3 H2 _ _ j1, c, _, rfl, .inl (SqL.of j2), _, _, rfl, rfl, hpos, c, _, _, V.int ((n0 :: nr).getD i 0), rfl, rfl, SqL.of j2, ?_, ?_⟩
          · rw [hi]
            apply atI_nat
            rw [List.getElem?_map]
            rw [List.length_map] at hil
            rw [List.getD_eq_getElem?_getD, List.getElem?_eq_getElem hil]
            rfl
          · exact ⟨_, rfl, j1, j2, j3⟩
      · rintro σ' H2 ⟨z, rfl, j1, j2, j3⟩
        have fin : ∀ (r l' : Int) (H3 : Hp), 0 ≤ r → r < m → 0 ≤ l' → H3 p = some (.dK (fdK c (a + 1) l')) → H3 c = some (.lst (ns.map V.int)) → But p H H3 → Q (.int r) H3 := fun r l' H3 q1 q2 q3 q4 q5 q6 =>
          k r H3 q1 q2 ⟨c, ns, a + 1, l', q4, q5, by omega, by omega, q3⟩ q6
        refine ⟨fun σ' H2 => ∃ z : Int, σ' = [some (.ref p), some (.int m), none, some (.int a), some (.int z), none, none] ∧ H2 p = some (.dK (fdK c (a + 1) l)) ∧ H2 c = some (.lst (ns.map V.int)) ∧ But p H H2, ?_, ?_⟩
        · -- at < len(cells) and abs(cell) >= 10 ** 18
          refine ⟨_, rfl, _, rfl, p, _, rfl, g3 H2 _ _ j1, c, _, rfl, .inl (SqL.of j2), _, _, rfl, rfl, _, rfl, ?_⟩
          refine ite2 (fun _ => ?_) (fun _ => ?_)
          · refine ⟨_, rfl, _, rfl, _, _, rfl, rfl, ⟨by decide, by decide, by decide⟩, _, _, rfl, rfl, _, rfl, ?_⟩
            have habs : (0 : Int) ≤ (if z < 0 then -z else z) := by split <;> omega
            refine ite2 (fun _ => ?_) (fun _ => ?_)
            · refine ⟨_, rfl, _, rfl, _, rfl, _, _, rfl, rfl, ⟨hm, hm2⟩, _, rfl, p, _, rfl, DPut.k (k := Sum.inr "left") j1 (fdK_len _ _ _), ?_⟩
              refine ⟨_, rfl, _, rfl, _, rfl, _, _, rfl, rfl, hm, ?_⟩
              refine fin _ ((if z < 0 then -z else z) / m) _ (Int.emod_nonneg _ (by omega)) (Int.emod_lt_of_pos _ hm) (Int.ediv_nonneg habs (by omega)) (by rw [upd_same, p_left]) (by rw [upd_ne ncp]; exact j2) (j3.trans But.at)
            · exact ⟨z, rfl, j1, j2, j3⟩
          · exact ⟨z, rfl, j1, j2, j3⟩
        · rintro σ' H2 ⟨z, rfl, j1, j2, j3⟩
          -- the number that is mixed
          have w1 := Int.emod_nonneg z (show (4294967311 : Int) ≠ 0 by decide)
          have w2 := Int.emod_lt_of_pos z (show (0 : Int) < 4294967311 by decide)
          refine ⟨_, rfl, _, _, rfl, rfl, (by show (0 : Int) < 4294967311; decide), _, rfl, _, _, rfl, rfl, .inl ⟨by decide, by decide⟩, _, _, rfl, rfl, _, _, rfl, rfl, _, _, rfl, rfl, .inr ⟨by decide, by decide⟩, _, _, rfl, rfl, (by show (0 : Int) < 4294967311; decide), ?_⟩
          have inv := fun (b : Int) => Int.emod_nonneg b (show (4294967311 : Int) ≠ 0 by decide)
          have inv2 := fun (b : Int) => Int.emod_lt_of_pos b (show (0 : Int) < 4294967311 by decide)
          refine ⟨3, rfl, by decide, by decide, for_range (lo := 0) (n := 3) (fun i σ' H' => H' = H2 ∧ ∃ (y : Int) (v : Option V), 0 ≤ y ∧ y < 4294967311 ∧ σ' = [some (.ref p), some (.int m), none, some (.int a), some (.int z), some (.int y), v])
            ⟨rfl, _, none, inv _, inv2 _, rfl⟩ ?_ ?_⟩
          · rintro i σ' H' hi ⟨rfl, y, v, y0, y1, rfl⟩
            refine ⟨_, rfl, _, rfl, _, _, rfl, rfl, .inl ⟨by omega, by omega⟩, _, rfl, _, _, rfl, rfl, .inl ⟨by decide, by decide⟩, _, _, rfl, rfl, _, rfl, _, _, rfl, rfl, _, rfl, _, _, rfl, rfl, ?_⟩
            refine ⟨_, rfl, _, _, rfl, rfl, (by show (0 : Int) < 4294967311; decide), ?_⟩
            exact ⟨rfl, _, _, inv _, inv2 _, rfl⟩
          · rintro σ' H' ⟨rfl, y, v, y0, y1, rfl⟩
            refine ⟨_, rfl, _, _, rfl, rfl, ⟨by decide, by decide⟩, _, rfl, _, _, rfl, rfl, hm, ?_⟩
            exact fin _ _ _ (Int.emod_nonneg _ (by omega)) (Int.emod_lt_of_pos _ hm) hl j1 j2 j3
end
end Lw

/-! ### the feed is made -/
namespace Lw
open PySem PySem.Spec PyProof.Rows L2 Fw
def spFeed (K : PySem.W.Frag) : Sp := fun vs H Q _ => ∃ (a : Addr) (ns : List Int), vs = [.ref a] ∧ SqL K H a (ns.map V.int) ∧ ns.length ≤ 63 ∧
  ∀ (p : Addr) (H' : Hp), H p = none → Same H H' → Feed H' p 0 → Q (.ref p) H'
theorem merge_fd (D : Addr) : mergeK [] [((Sum.inr (Str.ofString "cells") : Key), V.ref D), (Sum.inr (Str.ofString "at"), V.int 0), (Sum.inr (Str.ofString "left"), V.int 0)] = fdK D 0 0 := by
  simp [mergeK, putK, fdK, s_ne1, s_ne2, s_ne3]
theorem cut_ints (ns : List Int) (lo hi : Option Int) : ∃ ms : List Int, cutV (ns.map V.int) lo hi = ms.map V.int := by
  unfold cutV
  rw [List.length_map]
  exact ⟨(ns.drop _).take _, by rw [List.map_take, List.map_drop]⟩
theorem take_succ_of {α : Type} {l : List α} {i : Nat} {x : α} (h : l[i]? = some x) : l.take (i + 1) = l.take i ++ [x] := by
  rw [List.take_succ, h]; rfl
section
variable {P : Program} {w : World} {K : PySem.W.Frag} {mg : Str → Option Value} {base : Heap}
abbrev s_feed : Stmt := top 10
theorem sc__law_feed : FnScope ["_law_script", "_law_cell"] ["_law_script"] (defScope s_feed) :=
  ⟨rfl, rfl, rfl, by decide +kernel, rfl, by decide +kernel,
    by decide +kernel⟩
theorem ok_feed {f : Addr} {fd : FuncData} (F : FnP K "_law_feed" s_feed f fd) : FnOk P w K mg base CX0 1 f fd ["_law_script"] (spFeed K) := by
  refine F.ok sc__law_feed (fun vs H Q E h => ?_) (fun cdv A outer s H vs Q E hr h => ?_)
  · obtain ⟨a, ns, rfl, _⟩ := h
    rfl
  · obtain ⟨a, ns, rfl, hS, hlen, k⟩ := h
    refine ⟨_, PSs.nox (pss_one (ps_ret (pe_disp (pps_cons pe_str (pe_lc (own := [("_law_cell", 1)]) (g := gName 1) (tt := tYes) (by rfl) sc__law_feed.nd (pi_list (pe_slice sl_list (pv 0) po_none (po_some pe_int))) (blkOk_by (own := [("_law_cell", 1)]) (N := ["_law_script", "_law_cell"]) (sc := defScope (top 10)) (by decide +kernel)) (fun _ _ _ _ _ => (pg_name (i := 1) sc__law_feed.nd rfl (.inl rfl))) (fun _ _ _ _ _ => pts_nil) (fun _ _ _ _ _ => (pv 1))) (pps_cons pe_str pe_int (pps_cons pe_str pe_int pps_nil))) (by rfl) (by rfl) (fun z => by cases z) (by decide)))), ?_⟩
    intro p hp
    obtain ⟨ms, hms⟩ := cut_ints ns none (some 63)
    have s1 : Same H (upd H p (.dK [])) := same_new hp
    refine ⟨_, rfl, _, rfl, a, _, rfl, s1.seq hS, fun q hq => ⟨q, rfl, ⟨_, SqL.of upd_same⟩, fun D hD => ?_⟩⟩
    rw [hms] at hD ⊢
    have n1 : p ≠ q := ne_of_none upd_same hq
    have n2 : q ≠ D := ne_of_none upd_same hD
    have n3 : p ≠ D := ne_of_none (by rw [upd_ne n1]; exact upd_same) hD
    have hD0 : H D = none := (s1.trans (same_new hq)).free hD
    refine lc_list (K := K) (a := q) (xs := ms.map V.int) (fun i H' => Same H H' ∧ H' q = some (.lst (ms.map V.int)) ∧ H' p = some (.dK []) ∧ H' D = some (.lst ((ms.map V.int).take i)))
      ⟨(s1.trans (same_new hq)).trans (same_new hD), ?_, ?_, upd_same⟩ (fun i H' _ h => SqL.of h.2.1) ?_ ?_
    · rw [upd_ne n2, upd_same]
    · rw [upd_ne n3, upd_ne n1, upd_same]
    · rintro i x H' hx ⟨k1, k2, k3, k4⟩
      refine ⟨rfl, ?_⟩
      refine ⟨_, rfl, _, k4, ?_, ?_, ?_, ?_, ?_⟩
      · rw [List.length_take]
        have h1 := cutV_length (ns.map V.int) none (some 63)
        rw [hms, List.length_map, List.length_map] at h1
        have h2 : 1000 < sizeLine := by decide
        rw [List.length_map]
        omega
      · intro b o e
        rw [upd_ne (ne_of_none e hD0)]; exact k1 b o e
      · rw [upd_ne n2]; exact k2
      · rw [upd_ne n3]; exact k3
      · rw [upd_same, take_succ_of hx]
    · rintro H' ⟨k1, k2, k3, k4⟩
      refine ⟨k3, [(Sum.inr (Str.ofString "cells"), .ref D), (Sum.inr (Str.ofString "at"), .int 0), (Sum.inr (Str.ofString "left"), .int 0)], rfl, by show 3 ≤ 15; decide, ?_⟩
      rw [merge_fd]
      refine k p _ hp (fun b o e => by rw [upd_ne (ne_of_none e hp)]; exact k1 b o e) ⟨D, ms, 0, 0, upd_same, ?_, by decide, by decide, by decide⟩
      rw [upd_ne n3.symm, k4, List.take_length]
end
end Lw

/-! ### a great number -/
namespace Lw
open PySem PySem.Spec PyProof.Rows L2 Fw
def spFar : Sp := fun vs H Q _ => ∃ (p : Addr) (n : Nat), vs = [.ref p] ∧ Feed H p n ∧ n < 100000000 ∧
  ∀ (r : Int) (H' : Hp), 0 ≤ r → r < 10 ^ 54 → Feed H' p (n + 7) → But p H H' → Q (.int r) H'
section
variable {P : Program} {w : World} {K : PySem.W.Frag} {mg : Str → Option Value} {base : Heap}
abbrev s_far : Stmt := top 12
theorem sc__law_far : FnScope ["_law_feed_here", "_law_found", "_law_turn"] ["_law_feed_here"] (defScope s_far) :=
  ⟨rfl, rfl, rfl, by decide +kernel, rfl, by decide +kernel,
    by decide +kernel⟩
theorem ok_far {f : Addr} {fd : FuncData} (F : FnP K "_law_far" s_far f fd) (mg_range : mg "range" = none) (D__law_draw : Dn P w K mg base CX0 1 "_law_draw" ["_law_feed_here", "_law_many"] [] spDraw) :
    FnOk P w K mg base CX0 2 f fd ["_law_feed_here"] spFar := by
  refine F.ok sc__law_far (fun vs H Q E h => ?_) (fun cdv A outer s H vs Q E hr h => ?_)
  · obtain ⟨p, n, rfl, _⟩ := h
    rfl
  · obtain ⟨p, n, rfl, hF, hn, k⟩ := h
    refine ⟨_, PSs.nox (pss_cons (ps_set (i := 1) sc__law_far.nd rfl (Or.inl rfl) pe_int)
  (pss_cons (ps_for PassesOwn.never rfl (pi_range1 (by rfl) mg_range (pa_cons (pe_op op_add pe_int (pe_dn D__law_draw (hr.mono (by decide)) rfl (pa_cons (pv 0) (pa_cons pe_int pa_nil)))) pa_nil)) (pg_name (i := 2) sc__law_far.nd rfl (.inl rfl))
    (pss_one (ps_set (i := 1) sc__law_far.nd rfl (Or.inl rfl) (pe_op op_add (pe_op op_mul (pv 1) (pe_op op_pow pe_int pe_int)) (pe_dn D__law_draw (hr.mono (by decide)) rfl (pa_cons (pv 0) (pa_cons (pe_op op_pow pe_int pe_int) pa_nil)))))))
  (pss_one (ps_ret (pv 1))))), ?_⟩
    have e9 : (10 : Int) ^ Int.toNat 9 = 1000000000 := by decide
    refine ⟨_, rfl, p, 6, n, rfl, by decide, by decide, hF, by omega, fun r H1 r0 r1 F1 B1 => ⟨_, _, rfl, rfl, _, rfl, by omega, by omega, ?_⟩⟩
    refine for_range (lo := 0) (n := (1 + r).toNat) (fun i σ' H' => ∃ (y : Int) (v : Option V), 0 ≤ y ∧ y < 10 ^ (9 * i) ∧ σ' = [some (.ref p), some (.int y), v] ∧ Feed H' p (n + 1 + i) ∧ But p H H')
      ⟨0, none, by decide, by simp, rfl, F1, B1⟩ ?_ ?_
    · rintro i σ' H' hi ⟨y, v, y0, y1, rfl, F2, B2⟩
      refine ⟨_, rfl, _, _, rfl, rfl, ⟨by decide, by decide, by decide⟩, _, _, rfl, rfl, .inr ⟨by decide, by decide⟩, _, rfl, _, _, rfl, rfl, ⟨by decide, by decide, by decide⟩, p, 10 ^ Int.toNat 9, n + 1 + i, rfl, by decide, by decide, F2, by omega, fun r' H2 q0 q1 F3 B3 => ?_⟩
      refine ⟨_, _, rfl, rfl, ?_⟩
      rw [e9] at q1
      refine ⟨y * 10 ^ Int.toNat 9 + r', _, ?_, ?_, rfl, F3, B2.trans B3⟩
      · rw [e9]; omega
      · rw [e9]
        have e : (10 : Int) ^ (9 * (i + 1)) = 10 ^ (9 * i) * 1000000000 := by
          rw [Nat.mul_succ, Int.pow_add]; rfl
        rw [e]
        generalize (10 : Int) ^ (9 * i) = B at y1 ⊢
        omega
    · rintro σ' H' ⟨y, v, y0, y1, rfl, F2, B2⟩
      refine ⟨_, rfl, k y H' y0 ?_ (F2.mono (by omega)) B2⟩
      have hi : 9 * (1 + r).toNat ≤ 54 := by omega
      have h1 := Nat.pow_le_pow_right (show 10 > 0 by decide) hi
      have h2 : (10 : Int) ^ (9 * (1 + r).toNat) ≤ 10 ^ 54 := by exact_mod_cast h1
      omega
end
end Lw

/-! ### texts of digits -/
namespace Lw
open PySem PySem.Spec PyProof.Rows L2 Fw SX
open M01 (dg digs)
abbrev sg : Str := "0123456789abcdefghijklmnopqrstuvwxyz"
theorem sg_at : ∀ i : Fin 36, sg.cps.toList[i.val]? = some (dg i.val) := by decide +kernel
theorem sg_len : sg.length ≤ sizeLine := by decide +kernel
theorem sg_atI {n : Nat} (h : n < 36) : atI sg.cps.toList (n : Int) = some (dg n) := atI_nat (sg_at ⟨n, h⟩)
theorem sg_find : ∀ i : Fin 36, Txt.find sg ⟨#[dg i.val]⟩ = (i.val : Int) := by decide +kernel
theorem empty_S : (Str.ofString "") = S [] := by decide +kernel
theorem join_ones (l : List Nat) : Txt.join (Str.ofString "") (l.map fun c => S [c]) = S l := by
  have e : (l.map fun c => S [c]) = (l.map fun c => [c]).map S := by rw [List.map_map]; rfl
  rw [empty_S, e, join_S]
  congr 1
  induction l with
  | nil => rfl
  | cons c r ih =>
    cases r with
    | nil => rfl
    | cons d r =>
      show [c] ++ ([] ++ TL.joinL [] ((d :: r).map fun c => [c])) = c :: d :: r
      rw [ih (by rw [List.map_map]; rfl)]
      rfl
theorem toDigits_digs (n : Nat) : (Nat.toDigits 10 n).map Char.toNat = digs 10 n := by
  induction n using Nat.strongRecOn with
  | _ n ih =>
    have hd : ∀ i : Fin 10, (Nat.digitChar i.val).toNat = dg i.val := by decide
    by_cases h : n < 10
    · rw [Nat.toDigits_of_lt_base h, M01.digs_lt h]
      show [(Nat.digitChar n).toNat] = _
      rw [hd ⟨n, h⟩]
    · rw [Nat.toDigits_of_base_le (by decide) (by omega), M01.digs_ge (by decide) (by omega), List.map_append, ih _ (by omega)]
      show _ ++ [(Nat.digitChar (n % 10)).toNat] = _
      rw [hd ⟨n % 10, by omega⟩]
theorem str_num (n : Nat) : (Str.ofString (toString ((n : Nat) : Int))) = S (digs 10 n) := by
  apply TL.ext_tl
  show (Str.ofString (toString ((n : Nat) : Int))).cps.toList = digs 10 n
  rw [← toDigits_digs]
  exact PySem.W.KIN.signs_num n
/-- digits of a number, in a base from 2 to 36 -/
def spDigits : Sp := fun vs H Q _ => ∃ n b : Nat, vs = [.int n, .int b] ∧ 2 ≤ b ∧ b ≤ 36 ∧ n < 2 ^ 4000 ∧ ∀ H', Same H H' → Q (.str (S (digs b n))) H'
section
variable {P : Program} {w : World} {K : PySem.W.Frag} {mg : Str → Option Value} {base : Heap}
abbrev s_digits : Stmt := top 14
theorem sc__law_digits : FnScope ["_law_number", "_law_radix_here", "_law_signs_here", "_law_found"] ["_law_number", "_law_radix_here"] (defScope s_digits) :=
  ⟨rfl, rfl, rfl, by decide +kernel, rfl, by decide +kernel,
    by decide +kernel⟩
theorem ok_digits {f : Addr} {fd : FuncData} (F : FnP K "_law_digits" s_digits f fd) : FnOk P w K mg base CX0 1 f fd ["_law_number", "_law_radix_here"] spDigits := by
  refine F.ok sc__law_digits (fun vs H Q E h => ?_) (fun cdv A outer s H vs Q E hr h => ?_)
  · obtain ⟨n, b, rfl, _⟩ := h
    rfl
  · obtain ⟨n, b, rfl, hb, hb2, hn, k⟩ := h
    refine ⟨_, PSs.nox (pss_cons (ps_set (i := 2) sc__law_digits.nd rfl (Or.inl rfl) pe_str)
  (pss_cons (ps_set (i := 3) sc__law_digits.nd rfl (Or.inl rfl) (pe_ix ix_str (pv 2) (pe_op op_mod (pv 0) (pv 1)) (fun _ _ => rfl)))
  (pss_cons (ps_while PassesOwn.never (pt_cmpR op_ge (pv 0) (pv 1) (nomark _))
    (pss_cons (ps_set (i := 0) sc__law_digits.nd rfl (Or.inl rfl) (pe_op op_fdiv (pv 0) (pv 1)))
      (pss_one (ps_set (i := 3) sc__law_digits.nd rfl (Or.inl rfl) (pe_op op_add_str (pe_ix ix_str (pv 2) (pe_op op_mod (pv 0) (pv 1)) (fun _ _ => rfl)) (pv 3))))))
  (pss_one (ps_ret (pv 3)))))), ?_⟩
    have hb0 : (0 : Int) < (b : Int) := by omega
    have hlen := M01.digs_len hb 4000 n hn
    have at_ : ∀ m : Nat, atI sg.cps.toList ((m : Int) % (b : Int)) = some (dg (m % b)) := fun m => by
      have := Nat.mod_lt m (show b > 0 by omega)
      exact sg_atI (n := m % b) (by omega)
    refine ⟨_, rfl, _, rfl, _, rfl, _, _, rfl, rfl, hb0, sg, _, _, rfl, rfl, sg_len, at_ n, ?_⟩
    refine ⟨fun z σ' H' => H' = H ∧ ∃ (m : Nat) (l : List Nat), z = m ∧ σ' = [some (.int (m : Nat)), some (.int b), some (.str sg), some (.str (S l))] ∧ digs b n = M01.front b m ++ l,
      ⟨n, rfl, n, [dg (n % b)], rfl, rfl, M01.digs_front hb⟩, ?_⟩
    rintro m σ' H' ⟨rfl, m', l, rfl, rfl, e⟩
    have hl : l.length ≤ 4001 := by
      have := congrArg List.length e
      rw [List.length_append] at this
      omega
    refine ⟨_, rfl, _, rfl, _, _, rfl, rfl, _, rfl, ?_⟩
    refine ite2 (fun c => ?_) (fun c => ?_)
    · have hc : b ≤ m := by have := of_decide_eq_true c; omega
      refine ⟨_, fun _ _ h => h, ?_⟩
      refine ⟨_, rfl, _, rfl, _, _, rfl, rfl, ⟨hb0, by omega⟩, ?_⟩
      refine ⟨_, rfl, _, rfl, _, rfl, _, _, rfl, rfl, hb0, sg, _, _, rfl, rfl, sg_len, at_ (m / b), _, rfl, S [dg (m / b % b)], S l, rfl, rfl, ?_, ?_⟩
      · rw [S_len, S_len]
        have : 5000 ≤ sizeLine := by decide
        simp only [List.length_cons, List.length_nil]
        omega
      · refine ⟨m / b, Nat.div_lt_self (by omega) (by omega), rfl, m / b, dg (m / b % b) :: l, rfl, ?_, ?_⟩
        · rw [S_cat]; rfl
        · rw [e, M01.front_ge hb hc, List.append_assoc]; rfl
    · have hc : m < b := by have := of_decide_eq_false (Bool.not_eq_true _ ▸ c); omega
      rw [M01.front_lt hc, List.nil_append] at e
      refine ⟨_, rfl, ?_⟩
      rw [← e]
      exact k H' (Same.refl _)
abbrev s_digits_of : Stmt := top 5
theorem sc_digits_of : FnScope ["number", "base", "found", "last"] ["number", "base"] (defScope s_digits_of) :=
  ⟨rfl, rfl, rfl, by decide +kernel, rfl, by decide +kernel,
    by decide +kernel⟩
theorem ok_digits_of {f : Addr} {fd : FuncData} {dv : List V} {kv : List (Str × V)} (F : FunD K "digits_of" "digits_of" (defArgs s_digits_of) (defBody s_digits_of) (defScope s_digits_of) dv kv f fd) {ts : Tok} (mg_SIGNS : mg "SIGNS" = some (.str sg ts)) (mg_divmod : mg "divmod" = none) :
    FnOk P w K mg base CX0 1 f fd ["number", "base"] spDigits := by
  refine F.ok sc_digits_of (fun vs H Q E h => ?_) (fun cdv A outer s H vs Q E hr h => ?_)
  · obtain ⟨n, b, rfl, _⟩ := h
    rfl
  · obtain ⟨n, b, rfl, hb, hb2, hn, k⟩ := h
    refine ⟨_, PSs.nox (pss_cons (ps_set (i := 2) sc_digits_of.nd rfl (Or.inl rfl) (pe_lst pa_nil))
  (pss_cons (ps_while PassesOwn.never (pt_cmpR op_ge (pv 0) (pv 1) (nomark _))
    (pss_cons (ps_asg (pe_callB call_divmod (by rfl) mg_divmod (by decide +kernel) (pa_cons (pv 0) (pa_cons (pv 1) pa_nil))) (pg_tup (by rfl) (pgs_cons (pg_name (i := 0) sc_digits_of.nd rfl (.inl rfl)) (pgs_cons (pg_name (i := 3) sc_digits_of.nd rfl (.inl rfl)) pgs_nil))))
      (pss_one (ps_expr (pe_bm PySem.F.plainAttrs_list PySem.F.slot_list_append PySem.F.type_list_append mt_append (pv 2) (pa_cons (pe_ix ix_str (pe_glob (v := .str "0123456789abcdefghijklmnopqrstuvwxyz") rfl mg_SIGNS ⟨_, rfl⟩) (pv 3) (fun _ _ => rfl)) pa_nil))))))
  (pss_cons (ps_expr (pe_bm PySem.F.plainAttrs_list PySem.F.slot_list_append PySem.F.type_list_append mt_append (pv 2) (pa_cons (pe_ix ix_str (pe_glob (v := .str "0123456789abcdefghijklmnopqrstuvwxyz") rfl mg_SIGNS ⟨_, rfl⟩) (pv 0) (fun _ _ => rfl)) pa_nil)))
  (pss_one (ps_ret (pe_join pe_str (pe_revL (pv 2)))))))), ?_⟩
    have hb0 : (0 : Int) < (b : Int) := by omega
    have hlen := M01.digs_len hb 4000 n hn
    have hs : 5000 < sizeLine := by decide
    refine ⟨by show 0 ≤ sizeLine; decide, fun q hq => ?_⟩
    refine ⟨fun z σ' H' => Same H H' ∧ ∃ (m : Nat) (l : List Nat) (v : Option V), z = m ∧ σ' = [some (.int (m : Nat)), some (.int b), some (.ref q), v] ∧ H' q = some (.lst (l.map fun c => V.str (S [c]))) ∧ digs b n = digs b m ++ l.reverse,
      ⟨n, same_new hq, n, [], none, rfl, rfl, upd_same, by simp⟩, ?_⟩
    rintro m σ' H' ⟨hs1, m', l, v, rfl, rfl, hl, e⟩
    have hl5 : l.length ≤ 4001 := by
      have := congrArg List.length e
      rw [List.length_append, List.length_reverse] at this
      omega
    refine ⟨_, rfl, _, rfl, _, _, rfl, rfl, _, rfl, ?_⟩
    refine ite2 (fun c => ?_) (fun c => ?_)
    · have hc : b ≤ m := by have := of_decide_eq_true c; omega
      refine ⟨_, fun _ _ h => h, ?_⟩
      refine ⟨_, rfl, _, rfl, _, _, rfl, ⟨hb0, by omega⟩, fun t ht => ?_⟩
      have nqt : q ≠ t := ne_of_none hl ht
      refine ⟨t, _, rfl, SqT.of upd_same, rfl, _, _, rfl, _, _, rfl, rfl, ?_⟩
      refine ⟨_, rfl, .inl ⟨rfl, _, SqL.of (by rw [upd_ne nqt]; exact hl)⟩, _, rfl, sg, _, _, rfl, rfl, sg_len, sg_atI (n := m % b) (by have := Nat.mod_lt m (show b > 0 by omega); omega), q, _, _, rfl, rfl, by rw [upd_ne nqt]; exact hl, ?_, ?_⟩
      · rw [List.length_map]; omega
      · refine ⟨m / b, Nat.div_lt_self (by omega) (by omega), ?_, m / b, l ++ [dg (m % b)], _, rfl, rfl, ?_, ?_⟩
        · intro a o ha
          rw [upd_ne (ne_of_none ha hq), upd_ne (ne_of_none (hs1 a o ha) ht)]
          exact hs1 a o ha
        · rw [upd_same, List.map_append]; rfl
        · rw [e, M01.digs_ge hb hc, List.reverse_append, List.append_assoc]; rfl
    · have hc : m < b := by have := of_decide_eq_false (Bool.not_eq_true _ ▸ c); omega
      refine ⟨_, rfl, .inl ⟨rfl, _, SqL.of hl⟩, _, rfl, sg, _, _, rfl, rfl, sg_len, sg_atI (n := m) (by omega), q, _, _, rfl, rfl, hl, by rw [List.length_map]; omega, ?_⟩
      refine ⟨⟨_, rfl⟩, _, rfl, q, _, rfl, SqL.of upd_same, fun t ht => ?_⟩
      have e2 : digs b n = (l ++ [dg m]).reverse := by
        rw [e, M01.digs_lt hc, List.reverse_append]; rfl
      refine ⟨_, t, (digs b n).map fun c => S [c], rfl, rfl, .inl (SqL.of ?_), ?_, ?_⟩
      · rw [upd_same, e2, List.map_map, List.map_reverse]
        simp only [List.map_append]
        rfl
      · have : ∀ l : List Nat, ((l.map fun c => S [c]).map (·.length)).sum = l.length := fun l => by
          induction l with
          | nil => rfl
          | cons a r ih =>
            rw [List.map_cons, List.map_cons, List.sum_cons, ih, S_len]
            simp; omega
        rw [this]
        have e0 : (Str.ofString "").length = 0 := by decide +kernel
        rw [e0]
        omega
      · rw [join_ones]
        refine k _ fun a o ha => ?_
        rw [upd_ne (ne_of_none (by rw [upd_ne (ne_of_none ha hq)]; exact hs1 a o ha) ht), upd_ne (ne_of_none ha hq)]
        exact hs1 a o ha
end
end Lw

namespace Lw
open PySem PySem.Spec PyProof.Rows L2 Fw SX
open M01 (dg digs)
/-- the number that digits write (they are digits) -/
def spNumber : Sp := fun vs H Q _ => ∃ (l : List Nat) (b : Nat), vs = [.str (S l), .int b] ∧ 2 ≤ b ∧ b ≤ 36 ∧ l ≠ [] ∧ l.length ≤ 10000 ∧ (∀ c ∈ l, ∃ i, i < b ∧ c = dg i) ∧ ∀ H', Same H H' → Q (.int (M01.val b l : Nat)) H'
theorem S_get {l : List Nat} {i c : Nat} (h : (S l).cps[i]? = some c) : l[i]? = some c := by
  rw [← Array.getElem?_toList] at h
  exact h
theorem at_ints {ns : List Int} {i : Int} (h0 : 0 ≤ i) (h1 : i < ns.length) : ∃ n ∈ ns, atI (ns.map V.int) i = some (.int n) := by
  obtain ⟨j, rfl⟩ : ∃ j : Nat, i = j := ⟨i.toNat, by omega⟩
  have hj : j < ns.length := by omega
  refine ⟨ns[j], List.getElem_mem hj, atI_nat ?_⟩
  rw [List.getElem?_map, List.getElem?_eq_getElem hj]
  rfl
section
variable {P : Program} {w : World} {K : PySem.W.Frag} {mg : Str → Option Value} {base : Heap}
abbrev s_number_of : Stmt := top 6
theorem sc_number_of : FnScope ["text", "base", "number", "at", "sign", "digit"] ["text", "base"] (defScope s_number_of) :=
  ⟨rfl, rfl, rfl, by decide +kernel, rfl, by decide +kernel,
    by decide +kernel⟩
theorem ok_number_of {f : Addr} {fd : FuncData} {dv : List V} {kv : List (Str × V)} (F : FunD K "number_of" "number_of" (defArgs s_number_of) (defBody s_number_of) (defScope s_number_of) dv kv f fd) {ts : Tok} (mg_SIGNS : mg "SIGNS" = some (.str sg ts))
    (mg_isinstance : mg "isinstance" = none) (mg_str : mg "str" = none) (mg_enumerate : mg "enumerate" = none) : FnOk P w K mg base CX0 1 f fd ["text", "base"] spNumber := by
  refine F.ok sc_number_of (fun vs H Q E h => ?_) (fun cdv A outer s H vs Q E hr h => ?_)
  · obtain ⟨l, b, rfl, _⟩ := h
    rfl
  · obtain ⟨l, b, rfl, hb, hb2, hne, hlen, hm, k⟩ := h
    refine ⟨_, PSs.nox (pss_cons (ps_if (PW.pt (pw_or (pt_not (pt_val (pe_callB call_isi (by rfl) mg_isinstance (by decide +kernel) (pa_cons (pv 0) (pa_cons (pe_bltn (v := .ty "str") (u := .type "str") (by rfl) mg_str (by decide +kernel) rfl) pa_nil))))) (pw_or1 (pt_cmpR op_eq (pv 0) pe_str (nomark _)))))
    (pss_one ps_never)
    pss_nil)
  (pss_cons (ps_set (i := 2) sc_number_of.nd rfl (Or.inl rfl) pe_int)
  (pss_cons (ps_for PassesOwn.never rfl (pi_enumS (by rfl) mg_enumerate (pa_cons (pv 0) pa_nil)) (pg_tup (by rfl) (pgs_cons (pg_name (i := 3) sc_number_of.nd rfl (.inl rfl)) (pgs_cons (pg_name (i := 4) sc_number_of.nd rfl (.inl rfl)) pgs_nil)))
    (pss_cons (ps_set (i := 5) sc_number_of.nd rfl (Or.inl rfl) (pe_m1 PySem.F.slot_str_find PySem.F.type_str_find mt_find (pe_glob (v := .str "0123456789abcdefghijklmnopqrstuvwxyz") rfl mg_SIGNS ⟨_, rfl⟩) (pv 4)))
      (pss_cons (ps_if (pt_not (pt_chain op_le op_lt pe_int (pv 5) (pv 1)))
        (pss_one ps_never)
        pss_nil)
      (pss_one (ps_set (i := 2) sc_number_of.nd rfl (Or.inl rfl) (pe_op op_add (pe_op op_mul (pv 2) (pv 1)) (pv 5)))))))
  (pss_one (ps_ret (pv 2)))))), ?_⟩
    refine ⟨_, rfl, _, _, _, _, true, rfl, .ty _, .base (.str _), kit_ty (by decide +kernel), _, rfl, iteF ?_⟩
    refine ⟨_, rfl, rfl, _, rfl, ?_⟩
    rw [decide_eq_false (by
      intro e
      have e2 := V.str.inj e
      rw [empty_S] at e2
      exact hne (S_inj e2))]
    refine iteF ?_
    refine ⟨_, rfl, S l, rfl, ?_⟩
    refine for_enumS (x := S l) (fun i σ' H' => Same H H' ∧ ∃ (v3 v4 v5 : Option V), σ' = [some (.str (S l)), some (.int b), some (.int (M01.val b (l.take i) : Nat)), v3, v4, v5]) ⟨Same.refl _, none, none, none, rfl⟩ ?_ ?_
    · rintro i c T σ' H' hc hT ⟨hs, v3, v4, v5, rfl⟩
      have hc2 := S_get hc
      obtain ⟨d, hd, rfl⟩ := hm c (List.mem_of_getElem? hc2)
      refine ⟨T, _, rfl, SqT.of upd_same, rfl, _, _, rfl, _, _, rfl, rfl, ?_⟩
      refine ⟨⟨_, rfl⟩, _, rfl, sg, S [dg d], rfl, rfl, ?_⟩
      have hf : Txt.find sg (S [dg d]) = (d : Int) := sg_find ⟨d, by omega⟩
      rw [hf]
      refine ⟨_, rfl, _, _, rfl, rfl, _, rfl, ?_⟩
      rw [decide_eq_true (by omega : (0 : Int) ≤ (d : Int))]
      refine iteT ?_
      refine ⟨_, rfl, _, _, rfl, rfl, _, rfl, ?_⟩
      rw [decide_eq_true (by omega : (d : Int) < (b : Int))]
      refine iteF ?_
      refine ⟨_, rfl, _, rfl, _, _, rfl, rfl, .inr ⟨by omega, by omega⟩, _, rfl, _, _, rfl, rfl, ?_⟩
      refine ⟨hs.trans (same_new hT), some (.int i), some (.str ⟨#[dg d]⟩), some (.int d), ?_⟩
      have e : M01.val b (l.take (i + 1)) = M01.val b (l.take i) * b + d := by
        rw [take_succ_of hc2, M01.val_append, M01.undg_dg (by omega)]
      rw [e]
      rfl
    · rintro σ' H' ⟨hs, v3, v4, v5, rfl⟩
      refine ⟨_, rfl, ?_⟩
      have e : (S l).cps.size = l.length := S_len l
      rw [e, List.take_length]
      exact k H' hs
/-! power, radix, size -/
def spPower : Sp := fun vs H Q _ => ∃ (b m : Int), vs = [.int b, .int m] ∧ 0 ≤ b ∧ b ≤ 1000 ∧ 0 ≤ m ∧ m ≤ 1000 ∧ Q (.int (b ^ m.toNat)) H
abbrev s_power : Stmt := top 13
theorem sc__law_power : FnScope ["_law_radix_here", "_law_many", "_law_found", "_law_turn"] ["_law_radix_here", "_law_many"] (defScope s_power) :=
  ⟨rfl, rfl, rfl, by decide +kernel, rfl, by decide +kernel,
    by decide +kernel⟩
theorem ok_power {f : Addr} {fd : FuncData} (F : FnP K "_law_power" s_power f fd) (mg_range : mg "range" = none) : FnOk P w K mg base CX0 1 f fd ["_law_radix_here", "_law_many"] spPower := by
  refine F.ok sc__law_power (fun vs H Q E h => ?_) (fun cdv A outer s H vs Q E hr h => ?_)
  · obtain ⟨b, m, rfl, _⟩ := h
    rfl
  · obtain ⟨b, m, rfl, h1, h2, h3, h4, k⟩ := h
    refine ⟨_, PSs.nox (pss_cons (ps_set (i := 2) sc__law_power.nd rfl (Or.inl rfl) pe_int)
  (pss_cons (ps_for PassesOwn.never rfl (pi_range1 (by rfl) mg_range (pa_cons (pv 1) pa_nil)) (pg_name (i := 3) sc__law_power.nd rfl (.inl rfl))
    (pss_one (ps_set (i := 2) sc__law_power.nd rfl (Or.inl rfl) (pe_op op_mul (pv 2) (pv 0)))))
  (pss_one (ps_ret (pv 2))))), ?_⟩
    refine ⟨_, rfl, _, rfl, by omega, by omega, ?_⟩
    refine for_range (lo := 0) (n := m.toNat) (fun i σ' H' => H' = H ∧ ∃ v : Option V, σ' = [some (.int b), some (.int m), some (.int (b ^ i)), v]) ⟨rfl, none, by rw [Int.pow_zero]; rfl⟩ ?_ ?_
    · rintro i σ' H' hi ⟨rfl, v, rfl⟩
      refine ⟨_, rfl, _, rfl, _, _, rfl, rfl, .inr ⟨by omega, by omega⟩, ?_⟩
      exact ⟨rfl, some (.int (0 + i)), by rw [Int.pow_succ]; rfl⟩
    · rintro σ' H' ⟨rfl, v, rfl⟩
      exact ⟨_, rfl, k⟩
def spRadix : Sp := fun vs H Q _ => ∃ (p : Addr) (n : Nat), vs = [.ref p] ∧ Feed H p n ∧ n < 100000000 ∧
  ∀ (r : Nat) (H' : Hp), 2 ≤ r → r ≤ 36 → Feed H' p (n + 2) → But p H H' → Q (.int r) H'
abbrev s_radix : Stmt := top 15
theorem sc__law_radix : FnScope ["_law_feed_here"] ["_law_feed_here"] (defScope s_radix) :=
  ⟨rfl, rfl, rfl, by decide +kernel, rfl, by decide +kernel,
    by decide +kernel⟩
theorem ok_radix {f : Addr} {fd : FuncData} (F : FnP K "_law_radix" s_radix f fd) (D__law_draw : Dn P w K mg base CX0 1 "_law_draw" ["_law_feed_here", "_law_many"] [] spDraw) : FnOk P w K mg base CX0 2 f fd ["_law_feed_here"] spRadix := by
  refine F.ok sc__law_radix (fun vs H Q E h => ?_) (fun cdv A outer s H vs Q E hr h => ?_)
  · obtain ⟨p, n, rfl, _⟩ := h
    rfl
  · obtain ⟨p, n, rfl, hF, hn, k⟩ := h
    refine ⟨_, PSs.nox (pss_one (ps_ret (pe_ix ix_list (pe_lst (pa_cons pe_int (pa_cons pe_int (pa_cons pe_int (pa_cons pe_int (pa_cons pe_int (pa_cons (pe_op op_add pe_int (pe_dn D__law_draw (hr.mono (by decide)) rfl (pa_cons (pv 0) (pa_cons pe_int pa_nil)))) pa_nil))))))) (pe_dn D__law_draw (hr.mono (by decide)) rfl (pa_cons (pv 0) (pa_cons pe_int pa_nil))) (fun _ _ => rfl)))), ?_⟩
    refine ⟨_, rfl, p, 35, n, rfl, by decide, by decide, hF, by omega, fun r H1 r0 r1 F1 B1 => ⟨_, _, rfl, rfl, by show 6 ≤ sizeLine; decide, fun q hq => ?_⟩⟩
    refine ⟨_, rfl, p, 6, n + 1, rfl, by decide, by decide, F1.new hq, by omega, fun i H2 i0 i1 F2 B2 => ?_⟩
    obtain ⟨x, hx, e⟩ := at_ints (ns := [10, 10, 2, 16, 36, 2 + r]) i0 (by simpa using i1)
    have hqp : q ≠ p := by
      obtain ⟨kvs, z⟩ := F1.ex
      exact (ne_of_none z hq).symm
    refine ⟨q, _, _, _, rfl, rfl, SqL.of (B2 q _ upd_same hqp), e, ?_⟩
    obtain ⟨y, rfl⟩ : ∃ y : Nat, x = y := ⟨x.toNat, by simp at hx; omega⟩
    exact k y H2 (by simp at hx; omega) (by simp at hx; omega) F2 ((B1.trans (But.new hq)).trans B2)
def spSize : Sp := fun vs H Q _ => ∃ (p : Addr) (b n : Nat), vs = [.ref p, .int b] ∧ 2 ≤ b ∧ b ≤ 36 ∧ Feed H p n ∧ n < 10000000 ∧
  ∀ (r : Nat) (H' : Hp), r < 2 ^ 241 → Feed H' p (n + 20) → But p H H' → Q (.int r) H'
abbrev s_size : Stmt := top 16
theorem sc__law_size : FnScope ["_law_feed_here", "_law_radix_here", "_law_big", "_law_some"] ["_law_feed_here", "_law_radix_here"] (defScope s_size) :=
  ⟨rfl, rfl, rfl, by decide +kernel, rfl, by decide +kernel,
    by decide +kernel⟩
theorem ok_size {f : Addr} {fd : FuncData} (F : FnP K "_law_size" s_size f fd) (D__law_draw : Dn P w K mg base CX0 1 "_law_draw" ["_law_feed_here", "_law_many"] [] spDraw) (D__law_power : Dn P w K mg base CX0 1 "_law_power" ["_law_radix_here", "_law_many"] [] spPower)
    (D__law_far : Dn P w K mg base CX0 2 "_law_far" ["_law_feed_here"] [] spFar) : FnOk P w K mg base CX0 3 f fd ["_law_feed_here", "_law_radix_here"] spSize := by
  refine F.ok sc__law_size (fun vs H Q E h => ?_) (fun cdv A outer s H vs Q E hr h => ?_)
  · obtain ⟨p, b, n, rfl, _⟩ := h
    rfl
  · obtain ⟨p, b, n, rfl, hb, hb2, hF, hn, k⟩ := h
    refine ⟨_, PSs.nox (pss_cons (ps_set (i := 2) sc__law_size.nd rfl (Or.inl rfl) (pe_dn D__law_power (hr.mono (by decide)) rfl (pa_cons (pv 1) (pa_cons (pe_dn D__law_draw (hr.mono (by decide)) rfl (pa_cons (pv 0) (pa_cons pe_int pa_nil))) pa_nil))))
  (pss_cons (ps_set (i := 3) sc__law_size.nd rfl (Or.inl rfl) (pe_lst (pa_cons (pe_dn D__law_draw (hr.mono (by decide)) rfl (pa_cons (pv 0) (pa_cons pe_int pa_nil))) (pa_cons (pe_dn D__law_draw (hr.mono (by decide)) rfl (pa_cons (pv 0) (pa_cons pe_int pa_nil))) (pa_cons (pv 2) (pa_cons (pe_op op_sub (pv 2) pe_int) (pa_cons (pe_op op_add (pv 2) (pe_dn D__law_draw (hr.mono (by decide)) rfl (pa_cons (pv 0) (pa_cons pe_int pa_nil)))) (pa_cons (pe_dn D__law_far (hr.mono (by decide)) rfl (pa_cons (pv 0) pa_nil)) pa_nil))))))))
  (pss_one (ps_ret (pe_ix ix_list (pv 3) (pe_dn D__law_draw (hr.mono (by decide)) rfl (pa_cons (pv 0) (pa_cons pe_int pa_nil))) (fun _ _ => rfl)))))), ?_⟩
    refine ⟨_, rfl, _, rfl, p, 27, n, rfl, by decide, by decide, hF, by omega, fun m H1 m0 m1 F1 B1 => ⟨b, m, rfl, by omega, by omega, m0, by omega, ?_⟩⟩
    have hbig : ∃ g : Nat, ((b : Int) ^ m.toNat) = g ∧ 1 ≤ g ∧ g < 2 ^ 240 := by
      refine ⟨b ^ m.toNat, by norm_cast, Nat.one_le_pow _ _ (by omega), ?_⟩
      have h1 : b ^ m.toNat ≤ 36 ^ m.toNat := Nat.pow_le_pow_left hb2 _
      have h2 : (36 : Nat) ^ m.toNat ≤ 36 ^ 26 := Nat.pow_le_pow_right (by decide) (by omega)
      have h3 : (36 : Nat) ^ 26 < 2 ^ 240 := by decide
      omega
    obtain ⟨g, eg, g1, g2⟩ := hbig
    rw [eg]
    refine ⟨_, rfl, p, 3, n + 1, rfl, by decide, by decide, F1, by omega, fun a H2 a0 a1 F2 B2 => ?_⟩
    refine ⟨_, rfl, p, 2000, n + 2, rfl, by decide, by decide, F2, by omega, fun c H3 c0 c1 F3 B3 => ?_⟩
    refine ⟨_, rfl, _, rfl, _, _, rfl, rfl, _, rfl, _, rfl, p, 9, n + 3, rfl, by decide, by decide, F3, by omega, fun d H4 d0 d1 F4 B4 => ⟨_, _, rfl, rfl, ?_⟩⟩
    refine ⟨_, rfl, p, n + 4, rfl, F4, by omega, fun x H5 x0 x1 F5 B5 => ⟨by show 6 ≤ sizeLine; decide, fun q hq => ?_⟩⟩
    refine ⟨_, rfl, _, rfl, p, 6, n + 11, rfl, by decide, by decide, F5.new hq, by omega, fun i H6 i0 i1 F6 B6 => ?_⟩
    obtain ⟨y, hy, e⟩ := at_ints (ns := [a, c, (g : Int), (g : Int) - 1, (g : Int) + d, x]) i0 (by simpa using i1)
    have hqp : q ≠ p := by
      obtain ⟨kvs, z⟩ := F5.ex
      exact (ne_of_none z hq).symm
    refine ⟨q, _, _, _, rfl, rfl, SqL.of (B6 q _ upd_same hqp), e, ?_⟩
    have hx : x < 2 ^ 240 := by
      have : (10 : Int) ^ 54 < 2 ^ 240 := by decide
      omega
    have g3 : (g : Int) < 2 ^ 240 := by exact_mod_cast g2
    have hp : (2000 : Int) < 2 ^ 240 := by decide
    have hp2 : (2 : Int) ^ 241 = 2 * 2 ^ 240 := by decide
    have hy2 : 0 ≤ y ∧ y < 2 ^ 241 := by
      rw [hp2]
      generalize (2 : Int) ^ 240 = B at *
      simp at hy
      omega
    obtain ⟨z, rfl⟩ : ∃ z : Nat, y = z := ⟨y.toNat, by omega⟩
    refine k z H6 ?_ (F6.mono (by omega)) ((((((B1.trans B2).trans B3).trans B4).trans B5).trans (But.new hq)).trans B6)
    exact_mod_cast hy2.2
end
end Lw

namespace Lw
open PySem PySem.Spec PyProof.Rows L2 Fw SX
open M01 (dg digs)
/-! ### groups -/
theorem joinL_eq (s : List Nat) : ∀ ps : List (List Nat), TL.joinL s ps = M01.joinL s ps
  | [] => rfl
  | [_] => rfl
  | p :: q :: r => by
    show p ++ (s ++ TL.joinL s (q :: r)) = p ++ (s ++ M01.joinL s (q :: r))
    rw [joinL_eq s (q :: r)]
/-- chunks by places -/
theorem chunks_take {m : Nat} (hm : 0 < m) : ∀ (k : Nat) (u : List Nat), u.length = k * m → M01.chunks m u = (List.range k).map fun i => (u.drop (i * m)).take m
  | 0, u, h => by
    have : u = [] := List.length_eq_zero_iff.mp (by omega)
    subst this
    rw [M01.chunks_nil]; rfl
  | k + 1, u, h => by
    rw [Nat.succ_mul] at h
    have hne : u ≠ [] := by intro e; subst e; simp at h; omega
    rw [M01.chunks_cons hm hne, chunks_take hm k (u.drop m) (by rw [List.length_drop]; omega), List.range_succ_eq_map, List.map_cons, List.map_map]
    rw [Nat.zero_mul, List.drop_zero]
    congr 1
    apply List.map_congr_left
    intro i _
    show ((u.drop m).drop (i * m)).take m = (u.drop ((i + 1) * m)).take m
    rw [List.drop_drop, Nat.succ_mul, Nat.add_comm m]
def spIn : Sp := fun vs H Q _ => ∃ (l : List Nat) (m : Nat), vs = [.str (S l), .int m] ∧ 1 ≤ m ∧ m ≤ 100 ∧ l.length ≤ 10000 ∧
  ∀ (p : Addr) (H' : Hp), H p = none → Same H H' → H' p = some (.lst ((M01.pieces m l).map fun x => V.str (S x))) → Q (.ref p) H'
def spGrouped : Sp := fun vs H Q _ => ∃ (l : List Nat) (c m : Nat), vs = [.str (S l), .str (S [c]), .int m] ∧ 1 ≤ m ∧ m ≤ 100 ∧ l.length ≤ 10000 ∧ ∀ H', Same H H' → Q (.str (S (M01.gr c m l))) H'
theorem pieces_range {m : Nat} (hm : 0 < m) (l : List Nat) : M01.pieces m l = (if 0 < l.length % m then [l.take (l.length % m)] else []) ++ (List.range (l.length / m)).map fun i => (l.drop (l.length % m + i * m)).take m := by
  unfold M01.pieces
  congr 1
  rw [chunks_take hm (l.length / m)]
  · apply List.map_congr_left
    intro i _
    rw [List.drop_drop]
  · rw [List.length_drop]
    have := Nat.div_add_mod' l.length m
    omega
theorem pieces_sum {m : Nat} (hm : 0 < m) (l : List Nat) : ((M01.pieces m l).map (·.length)).sum ≤ l.length ∧ (M01.pieces m l).length ≤ l.length := by
  have ch : ∀ (k : Nat) (u : List Nat), u.length = k * m → ((M01.chunks m u).map (·.length)).sum = u.length ∧ (M01.chunks m u).length = k := by
    intro k
    induction k with
    | zero =>
      intro u h
      have : u = [] := List.length_eq_zero_iff.mp (by omega)
      subst this
      rw [M01.chunks_nil]; exact ⟨rfl, rfl⟩
    | succ k ih =>
      intro u h
      rw [Nat.succ_mul] at h
      have hne : u ≠ [] := by intro e; subst e; simp at h; omega
      obtain ⟨h1, h2⟩ := ih (u.drop m) (by rw [List.length_drop]; omega)
      rw [M01.chunks_cons hm hne, List.map_cons, List.sum_cons, List.length_cons, h1, h2, List.length_take, List.length_drop]
      constructor
      · omega
      · rfl
  have hd := Nat.div_add_mod' l.length m
  obtain ⟨h1, h2⟩ := ch (l.length / m) (l.drop (l.length % m)) (by rw [List.length_drop]; omega)
  have hle : l.length / m ≤ l.length / m * m := Nat.le_mul_of_pos_right _ hm
  unfold M01.pieces
  rw [List.map_append, List.sum_append, h1, List.length_append, h2, List.length_drop]
  split
  · simp only [List.map_cons, List.map_nil, List.sum_cons, List.sum_nil, List.length_take, List.length_cons, List.length_nil]
    omega
  · simp
    omega
section
variable {P : Program} {w : World} {K : PySem.W.Frag} {mg : Str → Option Value} {base : Heap}
theorem rgC_up {h m n : Nat} (hm : 1 ≤ m) (hm2 : m ≤ 100) (hn : n ≤ 10000) (hh : h = n % m) : RgC (h : Int) (n : Int) (m : Int) (n / m) := by
  refine ⟨by omega, by omega, ?_, ?_⟩
  · have hle := Nat.mod_le n m
    subst hh
    exact small_up (by omega) (by omega) (by omega) (by omega) (by omega) (by omega)
  · have e := Nat.div_add_mod' n m
    show (if (m : Int) > 0 then (if (h : Int) < (n : Int) then ((n : Int) - h - 1) / m + 1 else 0) else _) = ((n / m : Nat) : Int)
    rw [if_pos (by omega)]
    subst hh
    by_cases c : n % m < n
    · rw [if_pos (by omega)]
      have hq : (n : Int) - ((n % m : Nat) : Int) - 1 = ((m : Int) - 1) + ((n / m : Nat) - 1 : Int) * m := by
        have e2 : ((n / m : Nat) : Int) * m + ((n % m : Nat) : Int) = n := by exact_mod_cast e
        rw [Int.sub_mul]; omega
      rw [hq, Int.add_mul_ediv_right _ _ (by omega), Int.ediv_eq_zero_of_lt (by omega) (by omega)]
      omega
    · rw [if_neg (by omega)]
      have hz : n / m = 0 := by
        have : n / m * m = 0 := by omega
        rcases Nat.mul_eq_zero.mp this with z | z
        · exact z
        · omega
      rw [hz]; rfl
abbrev s_in_groups : Stmt := top 7
theorem sc_in_groups : FnScope ["row", "size", "head", "at"] ["row", "size"] (defScope s_in_groups) :=
  ⟨rfl, rfl, rfl, by decide +kernel, rfl, by decide +kernel,
    by decide +kernel⟩
theorem ok_in_groups {f : Addr} {fd : FuncData} (F : FnP K "in_groups" s_in_groups f fd) (mg_len : mg "len" = none) (mg_int : mg "int" = none) (mg_range : mg "range" = none) : FnOk P w K mg base CX0 1 f fd ["row", "size"] spIn := by
  refine F.ok sc_in_groups (fun vs H Q E h => ?_) (fun cdv A outer s H vs Q E hr h => ?_)
  · obtain ⟨l, m, rfl, _⟩ := h
    rfl
  · obtain ⟨l, m, rfl, hm, hm2, hlen, k⟩ := h
    have hsz : 20000 < sizeLine := by decide
    refine ⟨_, PSs.nox (pss_cons (ps_set (i := 2) sc_in_groups.nd rfl (Or.inl rfl) (pe_op op_mod (pe_callB call_len_str (by rfl) mg_len (by decide +kernel) (pa_cons (pv 0) pa_nil)) (pv 1)))
  (pss_one (ps_ret (pe_op op_cat (pe_op op_rep (pe_lst (pa_cons (pe_slice C8.sl_txt (pv 0) po_none (po_some (pv 2))) pa_nil)) (pe_callTy call_int1 (by rfl) mg_int (by decide +kernel) (pa_cons (pe_cmpR op_gt (pv 2) pe_int (nomark _)) pa_nil))) (pe_lc (own := [("at", 3)]) (g := gName 3) (tt := tYes) (by rfl) sc_in_groups.nd (pi_range3 (by rfl) mg_range (pa_cons (pv 2) (pa_cons (pe_callB call_len_str (by rfl) mg_len (by decide +kernel) (pa_cons (pv 0) pa_nil)) (pa_cons (pv 1) pa_nil)))) (blkOk_by (own := [("at", 3)]) (N := ["row", "size", "head", "at"]) (sc := defScope (top 7)) (by decide +kernel)) (fun _ _ _ _ _ => (pg_name (i := 3) sc_in_groups.nd rfl (.inl rfl))) (fun _ _ _ _ _ => pts_nil) (fun _ _ _ _ _ => (pe_slice C8.sl_txt (pv 0) (po_some (pv 3)) (po_some (pe_op op_add (pv 3) (pv 1)))))))))), ?_⟩
    have hl : (S l).length ≤ sizeLine := by rw [S_len]; omega
    have e0 : (((S l).length : Nat) : Int) = (l.length : Int) := by rw [S_len]
    refine ⟨_, rfl, S l, rfl, hl, _, rfl, _, _, rfl, rfl, by omega, ?_⟩
    rw [e0]
    refine ⟨_, rfl, _, rfl, _, rfl, S l, rfl, hl, by show 1 ≤ sizeLine; decide, fun q hq => ?_⟩
    have et : Txt.slice (S l) none (some ((l.length : Int) % (m : Int))) = S (l.take (l.length % m)) := by
      rw [slice_to (by omega)]
      congr 2
    refine ⟨_, rfl, _, _, rfl, rfl, .inr ⟨_, rfl, q, _, _, rfl, rfl, upd_same, ?_, ?_, ?_, fun q2 hq2 => ?_⟩⟩
    · split <;> decide
    · split <;> decide
    · split
      · show 1 * Int.toNat 1 ≤ sizeLine; decide
      · show 1 * Int.toNat 0 ≤ sizeLine; decide
    rw [et] at hq2 ⊢
    have el : (List.replicate (Int.toNat (if decide ((0 : Int) < (l.length : Int) % (m : Int)) = true then 1 else 0)) [V.str (S (l.take (l.length % m)))]).flatten = (if 0 < l.length % m then [l.take (l.length % m)] else []).map fun x => V.str (S x) := by
      by_cases c : 0 < l.length % m
      · have c2 : (0 : Int) < (l.length : Int) % (m : Int) := by omega
        rw [if_pos c, if_pos (decide_eq_true c2)]; rfl
      · have c2 : ¬ (0 : Int) < (l.length : Int) % (m : Int) := by omega
        rw [if_neg c, if_neg (by simpa using c2)]; rfl
    rw [el]
    generalize hl1 : ((if 0 < l.length % m then [l.take (l.length % m)] else []).map fun x => V.str (S x)) = L1 at hq2 ⊢
    generalize hH2 : upd (upd H q (HO.lst [V.str (S (l.take (l.length % m)))])) q2 (HO.lst L1) = H2
    have s2 : Same H H2 := by rw [← hH2]; exact (same_new hq).trans (same_new hq2)
    have g2 : H2 q2 = some (.lst L1) := by rw [← hH2]; exact upd_same
    have hL1 : L1.length ≤ 1 := by rw [← hl1, List.length_map]; split <;> simp
    refine ⟨_, rfl, _, rfl, S l, rfl, hl, _, rfl, _, _, _, l.length / m, rfl, ?_, fun D hD => ?_⟩
    · rw [e0]; exact rgC_up hm hm2 hlen rfl
    have n1 : q2 ≠ D := ne_of_none g2 hD
    have hD0 := s2.free hD
    have pr := pieces_range hm l
    refine lc_rangeC (fun i H' => Same H H' ∧ H' q2 = some (.lst L1) ∧ H' D = some (.lst ((List.range i).map fun j => V.str (S ((l.drop (l.length % m + j * m)).take m)))))
      ⟨s2.trans (same_new hD), by rw [upd_ne n1]; exact g2, upd_same⟩ ?_ ?_
    · rintro i H' hi ⟨k1, k2, k3⟩
      refine ⟨rfl, ?_⟩
      have eS : Txt.slice (S l) (some ((l.length : Int) % (m : Int) + (i : Int) * (m : Int))) (some ((l.length : Int) % (m : Int) + (i : Int) * (m : Int) + (m : Int))) = S ((l.drop (l.length % m + i * m)).take m) := by
        have z1 : (l.length : Int) % (m : Int) + (i : Int) * (m : Int) = ((l.length % m + i * m : Nat) : Int) := by
          rw [Int.natCast_add, Int.natCast_emod, Int.natCast_mul]
        have z2 : ((l.length % m + i * m : Nat) : Int) + (m : Int) = ((l.length % m + i * m + m : Nat) : Int) := by
          omega
        rw [z1, z2, slice_S, Nat.add_sub_cancel_left]
      refine ⟨_, rfl, _, rfl, _, rfl, _, rfl, _, rfl, _, _, rfl, rfl, _, rfl, S l, rfl, hl, _, k3, ?_, ?_⟩
      · rw [List.length_map, List.length_range]
        have : l.length / m ≤ l.length := Nat.div_le_self _ _
        omega
      · refine ⟨fun b o e => by rw [upd_ne (ne_of_none e hD0)]; exact k1 b o e, by rw [upd_ne n1]; exact k2, ?_⟩
        rw [upd_same, List.range_succ, List.map_append]
        rw [eS]
        rfl
    · rintro H' ⟨k1, k2, k3⟩
      refine ⟨q2, D, _, _, rfl, rfl, k2, k3, ?_, fun t ht => ?_⟩
      · rw [List.length_map, List.length_range]
        have : l.length / m ≤ l.length := Nat.div_le_self _ _
        omega
      · refine k t _ (k1.free ht) (k1.trans (same_new ht)) ?_
        rw [upd_same, pr, List.map_append, hl1, List.map_map]
        rfl
abbrev s_grouped : Stmt := top 8
theorem sc_grouped : FnScope ["digits", "sign", "size"] ["digits", "sign", "size"] (defScope s_grouped) :=
  ⟨rfl, rfl, rfl, by decide +kernel, rfl, by decide +kernel,
    by decide +kernel⟩
theorem ok_grouped {f : Addr} {fd : FuncData} (F : FnP K "grouped" s_grouped f fd) (D_in_groups : Dn P w K mg base CX0 1 "in_groups" ["row", "size"] [] spIn) : FnOk P w K mg base CX0 2 f fd ["digits", "sign", "size"] spGrouped := by
  refine F.ok sc_grouped (fun vs H Q E h => ?_) (fun cdv A outer s H vs Q E hr h => ?_)
  · obtain ⟨l, c, m, rfl, _⟩ := h
    rfl
  · obtain ⟨l, c, m, rfl, hm, hm2, hlen, k⟩ := h
    refine ⟨_, PSs.nox (pss_one (ps_ret (pe_join (pv 1) (pe_dn D_in_groups (hr.mono (by decide)) rfl (pa_cons (pv 0) (pa_cons (pv 2) pa_nil)))))), ?_⟩
    refine ⟨_, rfl, ⟨_, rfl⟩, _, rfl, _, rfl, l, m, rfl, hm, hm2, hlen, fun p H' hp hs hl => ?_⟩
    obtain ⟨h1, h2⟩ := pieces_sum hm l
    refine ⟨S [c], p, (M01.pieces m l).map S, rfl, rfl, .inl (SqL.of ?_), ?_, ?_⟩
    · rw [hl, List.map_map]; rfl
    · rw [lens, S_len, List.length_map]
      simp only [List.length_cons, List.length_nil]
      omega
    · rw [join_S, joinL_eq, M01.join_pieces hm]
      exact k H' hs
def spSigns : Sp := fun vs H Q _ => vs = [] ∧ Q (.str (Str.ofString " !\"#$&'()*+,-./0123456789:;<=>?@ABCDEFGHIJKLMNOPQRSTUVWXYZ[\\]^_`abcdefghijklmnopqrstuvwxyz{|}~")) H
abbrev s_signs : Stmt := top 17
theorem sc__law_signs : FnScope ["_law_signs_here"] [] (defScope s_signs) :=
  ⟨rfl, rfl, rfl, by decide +kernel, rfl, by decide +kernel,
    by decide +kernel⟩
theorem ok_signs {f : Addr} {fd : FuncData} (F : FnP K "_law_signs" s_signs f fd) : FnOk P w K mg base CX0 1 f fd [] spSigns := by
  refine F.ok sc__law_signs (fun vs H Q E h => ?_) (fun cdv A outer s H vs Q E hr h => ?_)
  · obtain ⟨rfl, _⟩ := h
    rfl
  · obtain ⟨rfl, k⟩ := h
    refine ⟨_, PSs.nox (pss_cons (ps_set (i := 0) sc__law_signs.nd rfl (Or.inl rfl) pe_str)
  (pss_one (ps_ret (pe_op op_add_str (pv 0) pe_str)))), ?_⟩
    refine ⟨_, rfl, _, _, rfl, rfl, by decide +kernel, ?_⟩
    have e : ∀ x y : Str, x = y → Q (.str y) H → Q (.str x) H := fun x y e q => by rw [e]; exact q
    exact e _ _ (by decide +kernel) k
abbrev s_lgrouped : Stmt := top 18
theorem sc__law_grouped : FnScope ["_law_text", "_law_mark", "_law_many", "_law_found", "_law_k"] ["_law_text", "_law_mark", "_law_many"] (defScope s_lgrouped) :=
  ⟨rfl, rfl, rfl, by decide +kernel, rfl, by decide +kernel,
    by decide +kernel⟩
theorem ok_lgrouped {f : Addr} {fd : FuncData} (F : FnP K "_law_grouped" s_lgrouped f fd) (mg_len : mg "len" = none) (mg_range : mg "range" = none) : FnOk P w K mg base CX0 1 f fd ["_law_text", "_law_mark", "_law_many"] spGrouped := by
  refine F.ok sc__law_grouped (fun vs H Q E h => ?_) (fun cdv A outer s H vs Q E hr h => ?_)
  · obtain ⟨l, c, m, rfl, _⟩ := h
    rfl
  · obtain ⟨l, c, m, rfl, hm, hm2, hlen, k⟩ := h
    have hsz : 100000 < sizeLine := by decide
    refine ⟨_, PSs.nox (pss_cons (ps_set (i := 3) sc__law_grouped.nd rfl (Or.inl rfl) pe_str)
  (pss_cons (ps_for PassesOwn.never rfl (pi_range1 (by rfl) mg_range (pa_cons (pe_callB call_len_str (by rfl) mg_len (by decide +kernel) (pa_cons (pv 0) pa_nil)) pa_nil)) (pg_name (i := 4) sc__law_grouped.nd rfl (.inl rfl))
    (C8.pss_cut (ps_if (PW.pt (pw_and (pt_cmpR op_gt (pv 4) pe_int (nomark _)) (pw_and1 (pt_cmpR op_eq (pe_op op_mod (pe_op op_sub (pe_callB call_len_str (by rfl) mg_len (by decide +kernel) (pa_cons (pv 0) pa_nil)) (pv 4)) (pv 2)) pe_int (nomark _)))))
        (pss_one (ps_set (i := 3) sc__law_grouped.nd rfl (Or.inl rfl) (pe_op op_add_str (pv 3) (pv 1))))
        pss_nil)
      (pss_one (ps_set (i := 3) sc__law_grouped.nd rfl (Or.inl rfl) (pe_op op_add_str (pv 3) (pe_ix ix_str (pv 0) (pv 4) (fun _ _ => rfl)))))))
  (pss_one (ps_ret (pv 3))))), ?_⟩
    have hl : (S l).length ≤ sizeLine := by rw [S_len]; omega
    have e0 : (((S l).length : Nat) : Int) = (l.length : Int) := by rw [S_len]
    refine ⟨_, rfl, S l, rfl, hl, _, rfl, by rw [e0]; omega, by rw [e0]; omega, ?_⟩
    have e1 : (((S l).length : Nat) : Int).toNat = l.length := by rw [S_len]; rfl
    rw [e1]
    refine for_range (lo := 0) (n := l.length) (fun i σ' H' => H' = H ∧ ∃ (v : Option V) (x : List Nat), σ' = [some (.str (S l)), some (.str (S [c])), some (.int m), some (.str (S x)), v] ∧ x.length ≤ 2 * i ∧ M01.gr c m l = x ++ M01.rest c m (l.drop i) (decide (i = 0)))
      ⟨rfl, none, [], by rw [← empty_S]; rfl, by decide, (M01.rest_first c m l).symm⟩ ?_ ?_
    · rintro i σ' H' hi ⟨rfl, v, x, rfl, hx, e⟩
      have hdrop : l.drop i = l[i] :: l.drop (i + 1) := List.drop_eq_getElem_cons hi
      rw [hdrop, M01.rest_cons] at e
      have hlen2 : (l[i] :: l.drop (i + 1)).length = l.length - i := by rw [← hdrop, List.length_drop]
      rw [hlen2] at e
      refine ⟨fun σ' H2 => H2 = H' ∧ σ' = [some (.str (S l)), some (.str (S [c])), some (.int m), some (.str (S (x ++ (if decide (i = 0) = false ∧ (l.length - i) % m = 0 then [c] else [])))), some (.int (0 + i))], ?_, ?_⟩
      · refine ⟨_, rfl, _, _, rfl, rfl, _, rfl, ?_⟩
        refine ite2 (fun c1 => ?_) (fun c1 => ?_)
        · have c1' : ¬ i = 0 := by have := of_decide_eq_true c1; omega
          refine ⟨_, rfl, S l, rfl, hl, _, rfl, _, _, rfl, rfl, _, rfl, _, _, rfl, rfl, by omega, rfl, _, rfl, ?_⟩
          have e2 : ((((S l).length : Nat) : Int) - (0 + (i : Int))) % (m : Int) = (((l.length - i) % m : Nat) : Int) := by
            rw [e0, Int.natCast_emod, Int.natCast_sub (by omega), Int.zero_add]
          refine ite2 (fun c2 => ?_) (fun c2 => ?_)
          · have c2' : (l.length - i) % m = 0 := by
              have c3 : ((((S l).length : Nat) : Int) - (0 + (i : Int))) % (m : Int) = 0 := V.int.inj (of_decide_eq_true c2)
              rw [e2] at c3
              omega
            refine ⟨_, rfl, _, rfl, _, _, rfl, rfl, ?_, rfl, ?_⟩
            · rw [S_len, S_len]; simp only [List.length_cons, List.length_nil]; omega
            · rw [if_pos ⟨decide_eq_false c1', c2'⟩, ← S_cat]; rfl
          · have c2' : ¬ (l.length - i) % m = 0 := fun z => by
              apply c2
              apply decide_eq_true
              show V.int (((((S l).length : Nat) : Int) - (0 + (i : Int))) % (m : Int)) = V.int 0
              rw [e2, z]; rfl
            refine ⟨rfl, ?_⟩
            rw [if_neg (fun z => c2' z.2), List.append_nil]; rfl
        · have c1' : i = 0 := by
            have := of_decide_eq_false (Bool.not_eq_true _ ▸ c1)
            omega
          refine ⟨rfl, ?_⟩
          rw [if_neg (fun z => by rw [c1'] at z; exact absurd z.1 (by decide)), List.append_nil]; rfl
      · rintro σ' H2 ⟨rfl, rfl⟩
        have hY : (if decide (i = 0) = false ∧ (l.length - i) % m = 0 then [c] else []).length ≤ 1 := by split <;> simp
        generalize (if decide (i = 0) = false ∧ (l.length - i) % m = 0 then [c] else []) = Y at e hY ⊢
        refine ⟨_, rfl, _, rfl, _, rfl, S l, _, l[i], rfl, rfl, hl, ?_, _, _, rfl, rfl, ?_, ?_⟩
        · rw [Int.zero_add]
          exact atI_nat (List.getElem?_eq_getElem hi)
        · show (S _).length + (S [l[i]]).length ≤ sizeLine
          rw [S_len, S_len, List.length_append]
          simp only [List.length_cons, List.length_nil]; omega
        · refine ⟨rfl, some (.int (0 + i)), (x ++ Y) ++ [l[i]], ?_, ?_, ?_⟩
          · rw [show S ((x ++ Y) ++ [l[i]]) = S (x ++ Y) ++ ⟨#[l[i]]⟩ from (S_cat _ _).symm]; rfl
          · rw [List.length_append, List.length_append]
            simp only [List.length_cons, List.length_nil]; omega
          · rw [e]
            have : decide (i + 1 = 0) = false := decide_eq_false (by omega)
            rw [this, List.append_assoc, List.append_assoc]
            rfl
    · rintro σ' H' ⟨rfl, v, x, rfl, hx, e⟩
      refine ⟨_, rfl, ?_⟩
      rw [List.drop_length] at e
      have : M01.rest c m [] (decide (l.length = 0)) = [] := by
        unfold M01.rest
        rw [if_neg (by simp)]
        rfl
      rw [this, List.append_nil] at e
      rw [← e]
      exact k H' (Same.refl _)
end
end Lw

namespace Lw
open PySem PySem.Spec PyProof.Rows L2 Fw SX
open M01 (dg digs)
theorem iteD {c A B : Prop} [Decidable c] (hc : c) (h : A) : if decide c = true then A else B := by
  rw [if_pos (decide_eq_true hc)]; exact h
theorem log2_lt {n k : Nat} (hk : 0 < k) (h : n < 2 ^ k) : n.log2 < k := by
  by_cases z : n = 0
  · subst z
    rw [Nat.log2_zero]; exact hk
  · exact (Nat.log2_lt z).mpr h
theorem noughts (d : Int) : mulS (Str.ofString "0") d = S (List.replicate d.toNat 48) := by
  apply TL.ext_tl
  show (mulS (Str.ofString "0") d).cps.toList = List.replicate d.toNat 48
  rw [mulS_tl, show (Str.ofString "0").cps.toList = [48] by decide +kernel]
  induction d.toNat with
  | zero => rfl
  | succ k ih => rw [List.replicate_succ, List.flatten_cons, ih]; rfl
abbrev allSigns : Str := " !\"#$&'()*+,-./0123456789:;<=>?@ABCDEFGHIJKLMNOPQRSTUVWXYZ[\\]^_`abcdefghijklmnopqrstuvwxyz{|}~"
theorem signs_at {i : Int} (h0 : 0 ≤ i) (h1 : i < 94) : ∃ c, atI allSigns.cps.toList i = some c := by
  obtain ⟨j, rfl⟩ : ∃ j : Nat, i = j := ⟨i.toNat, by omega⟩
  have hl : allSigns.cps.toList.length = 94 := by decide +kernel
  have hj : j < allSigns.cps.toList.length := by omega
  exact ⟨_, atI_nat (List.getElem?_eq_getElem hj)⟩
theorem signs_len : allSigns.length ≤ sizeLine := by decide +kernel
def spLaw (K : PySem.W.Frag) : Sp := fun vs H Q _ => ∃ (a : Addr) (ns : List Int), vs = [.ref a] ∧ SqL K H a (ns.map V.int) ∧ ns.length ≤ 63 ∧ ∀ H', Q (.bl true) H'
section
variable {P : Program} {w : World} {K : PySem.W.Frag} {mg : Str → Option Value} {base : Heap}
abbrev s_law : Stmt := top 19
theorem sc_law : FnScope ["_law_script", "_law_feed_here", "_law_turn", "_law_radix_here", "_law_number", "_law_due", "_law_ahead", "_law_mark", "_law_many"] ["_law_script"] (defScope s_law) :=
  ⟨rfl, rfl, rfl, by decide +kernel, rfl, by decide +kernel,
    by decide +kernel⟩
theorem ok_law {f : Addr} {fd : FuncData} (F : FnP K "law" s_law f fd) (mg_len : mg "len" = none) (mg_range : mg "range" = none) (mg_max : mg "max" = none) (mg_min : mg "min" = none) (mg_repr : mg "repr" = none) (mg_str : mg "str" = none)
    {tt : Tok} (mg_TEN : mg "TEN" = some (.int 10 tt))
    (D__law_feed : Dn P w K mg base CX0 1 "_law_feed" ["_law_script"] [] (spFeed K)) (D__law_draw : Dn P w K mg base CX0 1 "_law_draw" ["_law_feed_here", "_law_many"] [] spDraw)
    (D__law_radix : Dn P w K mg base CX0 2 "_law_radix" ["_law_feed_here"] [] spRadix) (D__law_size : Dn P w K mg base CX0 3 "_law_size" ["_law_feed_here", "_law_radix_here"] [] spSize)
    (D__law_digits : Dn P w K mg base CX0 1 "_law_digits" ["_law_number", "_law_radix_here"] [] spDigits) (D__law_signs : Dn P w K mg base CX0 1 "_law_signs" [] [] spSigns)
    (D__law_grouped : Dn P w K mg base CX0 1 "_law_grouped" ["_law_text", "_law_mark", "_law_many"] [] spGrouped) (D_grouped : Dn P w K mg base CX0 2 "grouped" ["digits", "sign", "size"] [] spGrouped)
    (D_digits_of : Dn P w K mg base CX0 1 "digits_of" ["number", "base"] [.int 10] spDigits) (D_digits_of_base : Dk P w K mg base CX0 1 "digits_of" 1 ["base"] (fun vs zs => vs ++ zs) spDigits)
    (D_number_of : Dn P w K mg base CX0 1 "number_of" ["text", "base"] [.int 10] spNumber) (D_number_of_base : Dk P w K mg base CX0 1 "number_of" 1 ["base"] (fun vs zs => vs ++ zs) spNumber) :
    FnOk P w K mg base CX0 4 f fd ["_law_script"] (spLaw K) := by
  refine F.ok sc_law (fun vs H Q E h => ?_) (fun cdv A outer s H vs Q E hr h => ?_)
  · obtain ⟨a, ns, rfl, _⟩ := h
    rfl
  · obtain ⟨a, ns, rfl, hS, hlen, k⟩ := h
    have hsz : 100000 < sizeLine := by decide
    refine ⟨_, PSs.nox (pss_cons (ps_set (i := 1) sc_law.nd rfl (Or.inl rfl) (pe_dn D__law_feed (hr.mono (by decide)) rfl (pa_cons (pv 0) pa_nil)))
  (pss_cons (ps_for PassesOwn.never rfl (pi_range1 (by rfl) mg_range (pa_cons (pe_callB (call_max2 rfl) (by rfl) mg_max (by decide +kernel) (pa_cons pe_int (pa_cons (pe_callB (call_min2 rfl) (by rfl) mg_min (by decide +kernel) (pa_cons pe_int (pa_cons (pe_callB call_len_seq (by rfl) mg_len (by decide +kernel) (pa_cons (pv 0) pa_nil)) pa_nil))) pa_nil))) pa_nil)) (pg_name (i := 2) sc_law.nd rfl (.inl rfl))
    (pss_cons (ps_set (i := 3) sc_law.nd rfl (Or.inl rfl) (pe_dn D__law_radix (hr.mono (by decide)) rfl (pa_cons (pv 1) pa_nil)))
      (pss_cons (ps_set (i := 4) sc_law.nd rfl (Or.inl rfl) (pe_dn D__law_size (hr.mono (by decide)) rfl (pa_cons (pv 1) (pa_cons (pv 3) pa_nil))))
      (pss_cons (ps_set (i := 5) sc_law.nd rfl (Or.inl rfl) (pe_dn D__law_digits (hr.mono (by decide)) rfl (pa_cons (pv 4) (pa_cons (pv 3) pa_nil))))
      (pss_cons (ps_if (pt_cmpR op_ne (pe_dk D_digits_of_base (hr.mono (by decide)) rfl (pa_cons (pv 4) pa_nil) (pk_cons (pv 3) pk_nil)) (pv 5) (nomark _))
        (pss_one (ps_ret pe_bl))
        pss_nil)
      (pss_cons (ps_set (i := 6) sc_law.nd rfl (Or.inl rfl) (pe_op op_mul_str pe_str (pe_dn D__law_draw (hr.mono (by decide)) rfl (pa_cons (pv 1) (pa_cons pe_int pa_nil)))))
      (pss_cons (ps_if (pt_cmpR op_ne (pe_callB SkE.call_repr_int (by rfl) mg_repr (by decide +kernel) (pa_cons (pe_dk D_number_of_base (hr.mono (by decide)) rfl (pa_cons (pe_op op_add_str (pv 6) (pv 5)) pa_nil) (pk_cons (pv 3) pk_nil)) pa_nil)) (pe_callB SkE.call_repr_int (by rfl) mg_repr (by decide +kernel) (pa_cons (pv 4) pa_nil)) (nomark _))
        (pss_one (ps_ret pe_bl))
        pss_nil)
      (pss_cons (ps_if (PW.pt (pw_or (pt_cmpR op_ne (pe_dn D_digits_of (hr.mono (by decide)) rfl (pa_cons (pv 4) pa_nil)) (pe_callTy call_str_int (by rfl) mg_str (by decide +kernel) (pa_cons (pv 4) pa_nil)) (nomark _)) (pw_or1 (pt_cmpR op_ne (pe_callB SkE.call_repr_int (by rfl) mg_repr (by decide +kernel) (pa_cons (pe_dn D_number_of (hr.mono (by decide)) rfl (pa_cons (pe_callTy call_str_int (by rfl) mg_str (by decide +kernel) (pa_cons (pv 4) pa_nil)) pa_nil)) pa_nil)) (pe_callB SkE.call_repr_int (by rfl) mg_repr (by decide +kernel) (pa_cons (pv 4) pa_nil)) (nomark _)))))
        (pss_one (ps_ret pe_bl))
        pss_nil)
      (pss_cons (ps_par (by rfl) sc_law.nd (i := 7) (j := 8) rfl rfl (by decide) rfl rfl (pa_cons (pe_ix ix_str (pe_dn0 D__law_signs (hr.mono (by decide)) rfl) (pe_dn D__law_draw (hr.mono (by decide)) rfl (pa_cons (pv 1) (pa_cons pe_int pa_nil))) (fun _ _ => rfl)) (pa_cons (pe_op op_add pe_int (pe_dn D__law_draw (hr.mono (by decide)) rfl (pa_cons (pv 1) (pa_cons pe_int pa_nil)))) pa_nil)) (by rfl))
      (pss_cons (ps_if (pt_cmpR op_ne (pe_dn D_grouped (hr.mono (by decide)) rfl (pa_cons (pv 5) (pa_cons (pv 7) (pa_cons (pv 8) pa_nil)))) (pe_dn D__law_grouped (hr.mono (by decide)) rfl (pa_cons (pv 5) (pa_cons (pv 7) (pa_cons (pv 8) pa_nil)))) (nomark _))
        (pss_one (ps_ret pe_bl))
        pss_nil)
      (pss_one (ps_if (pt_cmpR op_ne (pe_dn D_grouped (hr.mono (by decide)) rfl (pa_cons (pe_op op_add_str (pv 6) (pv 5)) (pa_cons (pv 7) (pa_cons (pv 8) pa_nil)))) (pe_dn D__law_grouped (hr.mono (by decide)) rfl (pa_cons (pe_op op_add_str (pv 6) (pv 5)) (pa_cons (pv 7) (pa_cons (pv 8) pa_nil)))) (nomark _))
        (pss_one (ps_ret pe_bl))
        pss_nil))))))))))))
  (pss_one (ps_ret (pe_and (pe_cmpR op_eq (pe_glob (v := .int 10) rfl mg_TEN ⟨_, rfl⟩) pe_int (nomark _)) (pe_and (pe_cmpR op_eq (pe_dk D_digits_of_base (hr.mono (by decide)) rfl (pa_cons pe_int pa_nil) (pk_cons (pe_glob (v := .int 10) rfl mg_TEN ⟨_, rfl⟩) pk_nil)) pe_str (nomark _)) (pe_one (pe_cmpR op_eq (pe_dk D_digits_of_base (hr.mono (by decide)) rfl (pa_cons pe_int pa_nil) (pk_cons pe_int pk_nil)) pe_str (nomark _))))))))), ?_⟩
    refine ⟨_, rfl, a, ns, rfl, hS, hlen, fun p H1 hp s1 F1 => ?_⟩
    refine ⟨_, rfl, a, _, rfl, .inl (s1.seq hS), _, _, rfl, _, _, rfl, _, rfl, ?_, ?_, ?_⟩
    · split <;> omega
    · rw [List.length_map]; split <;> split <;> omega
    have hT : (if (if (((ns.map V.int).length : Nat) : Int) < 16 then (((ns.map V.int).length : Nat) : Int) else 16) > 4 then (if (((ns.map V.int).length : Nat) : Int) < 16 then (((ns.map V.int).length : Nat) : Int) else 16) else 4).toNat ≤ 16 := by
      rw [List.length_map]; split <;> split <;> omega
    generalize (if (if (((ns.map V.int).length : Nat) : Int) < 16 then (((ns.map V.int).length : Nat) : Int) else 16) > 4 then (if (((ns.map V.int).length : Nat) : Int) < 16 then (((ns.map V.int).length : Nat) : Int) else 16) else 4).toNat = T at hT ⊢
    refine for_range (lo := 0) (n := T) (fun i σ' H' => ∃ v2 v3 v4 v5 v6 v7 v8 : Option V, σ' = [some (.ref a), some (.ref p), v2, v3, v4, v5, v6, v7, v8] ∧ Feed H' p (30 * i))
      ⟨none, none, none, none, none, none, none, rfl, F1⟩ ?_ ?_
    · rintro i σ' H' hi ⟨v2, v3, v4, v5, v6, v7, v8, rfl, hF⟩
      refine ⟨_, rfl, p, _, rfl, hF, by omega, fun r H2 r1 r2 F2 B2 => ?_⟩
      refine ⟨_, rfl, _, rfl, p, r, _, rfl, r1, r2, F2, by omega, fun x H3 hx F3 B3 => ?_⟩
      have hx2 : x < 2 ^ 4000 := Nat.lt_of_lt_of_le hx (Nat.pow_le_pow_right (by decide) (by decide))
      refine ⟨_, rfl, _, rfl, x, r, rfl, r1, r2, hx2, fun H4 S4 => ?_⟩
      have hdl := M01.digs_len r1 241 x hx
      have hdm := M01.digs_mem r1 x
      have hdn := M01.digs_ne r x
      -- digits_of(number, base=radix) != due
      refine ⟨_, rfl, _, rfl, rfl, rfl, x, r, rfl, r1, r2, hx2, fun H5 S5 => ⟨_, rfl, rfl, _, rfl, iteNS rfl ?_⟩⟩
      have F5 := (F3.same S4).same S5
      -- noughts ahead
      refine ⟨_, rfl, p, 4, _, rfl, by decide, by decide, F5, by omega, fun d H6 d0 d1 F6 B6 => ⟨_, d, rfl, rfl, by omega, ?_, ?_⟩⟩
      · rw [show (Str.ofString "0").length = 1 by decide +kernel]; omega
      rw [noughts]
      have hd4 : d.toNat ≤ 4 := by omega
      generalize d.toNat = e at hd4 ⊢
      have hz : ∀ z ∈ List.replicate e 48 ++ digs r x, ∃ j, j < r ∧ z = dg j := fun z hz => by
        rcases List.mem_append.mp hz with h | h
        · exact ⟨0, by omega, (List.mem_replicate.mp h).2⟩
        · exact hdm z h
      have hlog : ((x : Nat) : Int).natAbs.log2 < 1920 := by
        have : x.log2 < 241 := log2_lt (by decide) hx
        show x.log2 < 1920
        omega
      refine ⟨_, rfl, _, rfl, S (List.replicate e 48), S (digs r x), rfl, rfl, ?_, _, rfl, rfl, rfl, List.replicate e 48 ++ digs r x, r, ?_, r1, r2, by simp [hdn], ?_, hz, fun H7 S7 => ?_⟩
      · rw [S_len, S_len, List.length_replicate]; omega
      · rw [← S_cat]; rfl
      · rw [List.length_append, List.length_replicate]; omega
      rw [M01.val_noughts, M01.val_digs r1 r2]
      refine ⟨_, rfl, hlog, _, rfl, _, rfl, hlog, rfl, _, rfl, iteNS rfl ?_⟩
      have F7 := F6.same S7
      -- digits_of(number) != str(number) or ..
      refine ⟨_, rfl, x, 10, rfl, by decide, by decide, hx2, fun H8 S8 => ⟨_, rfl, _, rfl, hlog, rfl, _, rfl, iteNS (by rw [str_num]) ?_⟩⟩
      have hdl10 := M01.digs_len (show 2 ≤ 10 by decide) 241 x hx
      refine ⟨_, rfl, _, rfl, hlog, digs 10 x, 10, ?_, by decide, by decide, M01.digs_ne _ _, by omega, M01.digs_mem (by decide) x, fun H9 S9 => ?_⟩
      · rw [← str_num]; rfl
      rw [M01.val_digs (by decide) (by decide)]
      refine ⟨_, rfl, hlog, _, rfl, _, rfl, hlog, rfl, _, rfl, iteNS rfl ?_⟩
      have F9 := (F7.same S8).same S9
      -- a sign, a size
      refine ⟨rfl, _, rfl, p, 94, _, rfl, by decide, by decide, F9, by omega, fun j H10 j0 j1 F10 B10 => ?_⟩
      obtain ⟨c, hc⟩ := signs_at j0 j1
      refine ⟨_, _, c, rfl, rfl, signs_len, hc, ?_⟩
      refine ⟨_, rfl, p, 9, _, rfl, by decide, by decide, F10, by omega, fun m0 H11 q0 q1 F11 B11 => ?_⟩
      obtain ⟨m, hm, hm1, hm2⟩ : ∃ m : Nat, 1 + m0 = (m : Int) ∧ 1 ≤ m ∧ m ≤ 100 := ⟨(1 + m0).toNat, by omega, by omega, by omega⟩
      refine ⟨_, _, rfl, rfl, .str ⟨#[c]⟩, .int m, by rw [← hm], ?_⟩
      -- groups
      refine ⟨_, rfl, _, rfl, _, rfl, digs r x, c, m, rfl, hm1, hm2, by omega, fun H12 S12 => ⟨_, rfl, _, rfl, _, rfl, digs r x, c, m, rfl, hm1, hm2, by omega, fun H13 S13 => ⟨rfl, _, rfl, iteNS rfl ?_⟩⟩⟩
      have hl2 : (S (List.replicate e 48)).length + (S (digs r x)).length ≤ sizeLine := by rw [S_len, S_len, List.length_replicate]; omega
      have hl3 : (List.replicate e 48 ++ digs r x).length ≤ 10000 := by rw [List.length_append, List.length_replicate]; omega
      refine ⟨_, rfl, _, rfl, S (List.replicate e 48), S (digs r x), rfl, rfl, hl2, _, rfl, _, rfl, List.replicate e 48 ++ digs r x, c, m, by rw [← S_cat]; rfl, hm1, hm2, hl3, fun H14 S14 => ?_⟩
      refine ⟨_, rfl, _, rfl, S (List.replicate e 48), S (digs r x), rfl, rfl, hl2, _, rfl, _, rfl, List.replicate e 48 ++ digs r x, c, m, by rw [← S_cat]; rfl, hm1, hm2, hl3, fun H15 S15 => ⟨rfl, _, rfl, iteNS rfl ?_⟩⟩
      exact ⟨_, _, _, _, _, _, _, rfl, (((F11.same S12).same S13).same S14 |>.same S15).mono (by omega)⟩
    · rintro σ' H' ⟨v2, v3, v4, v5, v6, v7, v8, rfl, hF⟩
      refine ⟨rfl, _, rfl, iteD rfl ?_⟩
      refine ⟨rfl, rfl, 0, 10, rfl, by decide, by decide, by decide, fun H2 S2 => ⟨rfl, _, rfl, iteD ?_ ?_⟩⟩
      · rw [M01.digs_lt (by decide)]; decide +kernel
      refine ⟨rfl, rfl, 35, 36, rfl, by decide, by decide, Nat.lt_of_lt_of_le (show 35 < 2 ^ 6 by decide) (Nat.pow_le_pow_right (by decide) (by decide)), fun H3 S3 => ⟨rfl, ?_⟩⟩
      have e : S (digs 36 35) = Str.ofString "z" := by rw [M01.digs_lt (by decide)]; decide +kernel
      have e2 : decide (V.str (S (digs 36 35)) = V.str (Str.ofString "z")) = true := by rw [e]; exact decide_eq_true rfl
      show Q (.bl (decide (V.str (S (digs 36 35)) = V.str (Str.ofString "z")))) H3
      rw [e2]
      exact k H3
end
end Lw

/-! ### the head -/
namespace Hd
open PySem PySem.Spec PyProof.Rows L2 Fw Lw
def tabs : List He.Tab := []
def extra (_ : PySem.W.Frag) : Bool := true
def d_digits_of : He.DefD := ⟨("digits_of", none), "digits_of", "digits_of", defArgs (top 5), defBody (top 5), defScope (top 5), [], [("base", .int 10)]⟩
def d_number_of : He.DefD := ⟨("number_of", none), "number_of", "number_of", defArgs (top 6), defBody (top 6), defScope (top 6), [], [("base", .int 10)]⟩
def d_in_groups : He.DefD := ⟨("in_groups", none), "in_groups", "in_groups", defArgs (top 7), defBody (top 7), defScope (top 7), [], []⟩
def d_grouped : He.DefD := ⟨("grouped", none), "grouped", "grouped", defArgs (top 8), defBody (top 8), defScope (top 8), [], []⟩
def d__law_feed : He.DefD := ⟨("_law_feed", none), "_law_feed", "_law_feed", defArgs (top 10), defBody (top 10), defScope (top 10), [], []⟩
def d__law_draw : He.DefD := ⟨("_law_draw", none), "_law_draw", "_law_draw", defArgs (top 11), defBody (top 11), defScope (top 11), [], []⟩
def d__law_far : He.DefD := ⟨("_law_far", none), "_law_far", "_law_far", defArgs (top 12), defBody (top 12), defScope (top 12), [], []⟩
def d__law_power : He.DefD := ⟨("_law_power", none), "_law_power", "_law_power", defArgs (top 13), defBody (top 13), defScope (top 13), [], []⟩
def d__law_digits : He.DefD := ⟨("_law_digits", none), "_law_digits", "_law_digits", defArgs (top 14), defBody (top 14), defScope (top 14), [], []⟩
def d__law_radix : He.DefD := ⟨("_law_radix", none), "_law_radix", "_law_radix", defArgs (top 15), defBody (top 15), defScope (top 15), [], []⟩
def d__law_size : He.DefD := ⟨("_law_size", none), "_law_size", "_law_size", defArgs (top 16), defBody (top 16), defScope (top 16), [], []⟩
def d__law_signs : He.DefD := ⟨("_law_signs", none), "_law_signs", "_law_signs", defArgs (top 17), defBody (top 17), defScope (top 17), [], []⟩
def d__law_grouped : He.DefD := ⟨("_law_grouped", none), "_law_grouped", "_law_grouped", defArgs (top 18), defBody (top 18), defScope (top 18), [], []⟩
def d_law : He.DefD := ⟨("law", none), "law", "law", defArgs (top 19), defBody (top 19), defScope (top 19), [], []⟩
def d_NoDigits___init__ : He.DefD := ⟨("NoDigits", some "__init__"), "__init__", "NoDigits.__init__", defArgs (inClass (top 1) 0), defBody (inClass (top 1) 0), defScope (inClass (top 1) 0), [], []⟩
def fn_0 : List He.DefD := [d_digits_of, d_number_of, d_in_groups, d_grouped, d__law_feed, d__law_draw, d__law_far, d__law_power, d__law_digits, d__law_radix, d__law_size, d__law_signs, d__law_grouped, d_law, d_NoDigits___init__]
def fn : List He.DefD := fn_0
def fa_0 : List He.Fa := [.glo "digits_of", .glo "number_of", .glo "in_groups", .glo "grouped", .glo "_law_feed", .glo "_law_draw", .glo "_law_far", .glo "_law_power", .glo "_law_digits", .glo "_law_radix", .glo "_law_size", .glo "_law_signs", .glo "_law_grouped", .glo "law", .glo "NoDigits", .free "len", .free "abs", .free "range", .free "divmod", .free "enumerate", .free "isinstance", .free "int", .free "str", .free "repr", .free "max", .free "min", .str "SIGNS" "0123456789abcdefghijklmnopqrstuvwxyz", .int "TEN" 10]
def fa : List He.Fa := fa_0
def loose_0 : List Str := ["NoDigits", "SIGNS", "TEN", "digits_of", "number_of", "in_groups", "grouped", "_law_feed", "_law_draw", "_law_far", "_law_power", "_law_digits", "_law_radix", "_law_size", "_law_signs", "_law_grouped"]
def loose : List Str := loose_0
abbrev R : PySem.W.OpenRow := PySem.W.OpenLaw.row PySem.Challenge.rw_formatwords_k01_digits_and_numbers
abbrev hk : PySem.W.Hook := He.hookX 4 fa fn tabs [] extra
def ob (s : PySem.W.SharedT) : He.AlX := He.obsX 4 fa fn tabs [] extra (HandSHeadRun.getT s)
theorem ob_eq (s : PySem.W.SharedT) : ob s = hk.obs s.abs := He.obsX_eq (HandSHeadRun.getT_eq s)
theorem run (w : World) : HandSHeadRun.RunEq R (PySem.W.view R.prog [19]) hk ob 2000 loose w := by
  intro os
  kernel_rfl
section
variable {K : PySem.W.Frag} {h : Heap} {mg : Str → Option Value} (X : K.In h) (G : h.Ns mainGlobals mg) (c : He.SaysD fa fn K)
include X G c in
theorem gl_digits_of : mg "digits_of" = some (.ref (He.ga K "digits_of")) := He.glo_ok X G (c.fact 0 (f := .glo "digits_of") rfl)
include X G c in
theorem gl_number_of : mg "number_of" = some (.ref (He.ga K "number_of")) := He.glo_ok X G (c.fact 1 (f := .glo "number_of") rfl)
include X G c in
theorem gl_in_groups : mg "in_groups" = some (.ref (He.ga K "in_groups")) := He.glo_ok X G (c.fact 2 (f := .glo "in_groups") rfl)
include X G c in
theorem gl_grouped : mg "grouped" = some (.ref (He.ga K "grouped")) := He.glo_ok X G (c.fact 3 (f := .glo "grouped") rfl)
include X G c in
theorem gl__law_feed : mg "_law_feed" = some (.ref (He.ga K "_law_feed")) := He.glo_ok X G (c.fact 4 (f := .glo "_law_feed") rfl)
include X G c in
theorem gl__law_draw : mg "_law_draw" = some (.ref (He.ga K "_law_draw")) := He.glo_ok X G (c.fact 5 (f := .glo "_law_draw") rfl)
include X G c in
theorem gl__law_far : mg "_law_far" = some (.ref (He.ga K "_law_far")) := He.glo_ok X G (c.fact 6 (f := .glo "_law_far") rfl)
include X G c in
theorem gl__law_power : mg "_law_power" = some (.ref (He.ga K "_law_power")) := He.glo_ok X G (c.fact 7 (f := .glo "_law_power") rfl)
include X G c in
theorem gl__law_digits : mg "_law_digits" = some (.ref (He.ga K "_law_digits")) := He.glo_ok X G (c.fact 8 (f := .glo "_law_digits") rfl)
include X G c in
theorem gl__law_radix : mg "_law_radix" = some (.ref (He.ga K "_law_radix")) := He.glo_ok X G (c.fact 9 (f := .glo "_law_radix") rfl)
include X G c in
theorem gl__law_size : mg "_law_size" = some (.ref (He.ga K "_law_size")) := He.glo_ok X G (c.fact 10 (f := .glo "_law_size") rfl)
include X G c in
theorem gl__law_signs : mg "_law_signs" = some (.ref (He.ga K "_law_signs")) := He.glo_ok X G (c.fact 11 (f := .glo "_law_signs") rfl)
include X G c in
theorem gl__law_grouped : mg "_law_grouped" = some (.ref (He.ga K "_law_grouped")) := He.glo_ok X G (c.fact 12 (f := .glo "_law_grouped") rfl)
include X G c in
theorem gl_law : mg "law" = some (.ref (He.ga K "law")) := He.glo_ok X G (c.fact 13 (f := .glo "law") rfl)
include X G c in
theorem gl_NoDigits : mg "NoDigits" = some (.ref (He.ga K "NoDigits")) := He.glo_ok X G (c.fact 14 (f := .glo "NoDigits") rfl)
include X G c in
theorem fr_len : mg "len" = none := He.free_ok X G (c.fact 15 (f := .free "len") rfl)
include X G c in
theorem fr_abs : mg "abs" = none := He.free_ok X G (c.fact 16 (f := .free "abs") rfl)
include X G c in
theorem fr_range : mg "range" = none := He.free_ok X G (c.fact 17 (f := .free "range") rfl)
include X G c in
theorem fr_divmod : mg "divmod" = none := He.free_ok X G (c.fact 18 (f := .free "divmod") rfl)
include X G c in
theorem fr_enumerate : mg "enumerate" = none := He.free_ok X G (c.fact 19 (f := .free "enumerate") rfl)
include X G c in
theorem fr_isinstance : mg "isinstance" = none := He.free_ok X G (c.fact 20 (f := .free "isinstance") rfl)
include X G c in
theorem fr_int : mg "int" = none := He.free_ok X G (c.fact 21 (f := .free "int") rfl)
include X G c in
theorem fr_str : mg "str" = none := He.free_ok X G (c.fact 22 (f := .free "str") rfl)
include X G c in
theorem fr_repr : mg "repr" = none := He.free_ok X G (c.fact 23 (f := .free "repr") rfl)
include X G c in
theorem fr_max : mg "max" = none := He.free_ok X G (c.fact 24 (f := .free "max") rfl)
include X G c in
theorem fr_min : mg "min" = none := He.free_ok X G (c.fact 25 (f := .free "min") rfl)
include X G c in
theorem co_SIGNS : ∃ t, mg "SIGNS" = some (.str "0123456789abcdefghijklmnopqrstuvwxyz" t) := He.str_ok X G (c.fact 26 (f := .str "SIGNS" "0123456789abcdefghijklmnopqrstuvwxyz") rfl)
include X G c in
theorem co_TEN : ∃ t, mg "TEN" = some (.int 10 t) := He.int_ok X G (c.fact 27 (f := .int "TEN" 10) rfl)
include c in
theorem de_digits_of : ∃ fd, FunD K d_digits_of.name d_digits_of.qual d_digits_of.params d_digits_of.body d_digits_of.scope (d_digits_of.dvs K) (d_digits_of.kws K) (He.fAd K d_digits_of.at_) fd := c.def_ 0 (d := d_digits_of) rfl
include c in
theorem de_number_of : ∃ fd, FunD K d_number_of.name d_number_of.qual d_number_of.params d_number_of.body d_number_of.scope (d_number_of.dvs K) (d_number_of.kws K) (He.fAd K d_number_of.at_) fd := c.def_ 1 (d := d_number_of) rfl
include c in
theorem de_in_groups : ∃ fd, FunD K d_in_groups.name d_in_groups.qual d_in_groups.params d_in_groups.body d_in_groups.scope (d_in_groups.dvs K) (d_in_groups.kws K) (He.fAd K d_in_groups.at_) fd := c.def_ 2 (d := d_in_groups) rfl
include c in
theorem de_grouped : ∃ fd, FunD K d_grouped.name d_grouped.qual d_grouped.params d_grouped.body d_grouped.scope (d_grouped.dvs K) (d_grouped.kws K) (He.fAd K d_grouped.at_) fd := c.def_ 3 (d := d_grouped) rfl
include c in
theorem de__law_feed : ∃ fd, FunD K d__law_feed.name d__law_feed.qual d__law_feed.params d__law_feed.body d__law_feed.scope (d__law_feed.dvs K) (d__law_feed.kws K) (He.fAd K d__law_feed.at_) fd := c.def_ 4 (d := d__law_feed) rfl
include c in
theorem de__law_draw : ∃ fd, FunD K d__law_draw.name d__law_draw.qual d__law_draw.params d__law_draw.body d__law_draw.scope (d__law_draw.dvs K) (d__law_draw.kws K) (He.fAd K d__law_draw.at_) fd := c.def_ 5 (d := d__law_draw) rfl
include c in
theorem de__law_far : ∃ fd, FunD K d__law_far.name d__law_far.qual d__law_far.params d__law_far.body d__law_far.scope (d__law_far.dvs K) (d__law_far.kws K) (He.fAd K d__law_far.at_) fd := c.def_ 6 (d := d__law_far) rfl
include c in
theorem de__law_power : ∃ fd, FunD K d__law_power.name d__law_power.qual d__law_power.params d__law_power.body d__law_power.scope (d__law_power.dvs K) (d__law_power.kws K) (He.fAd K d__law_power.at_) fd := c.def_ 7 (d := d__law_power) rfl
include c in
theorem de__law_digits : ∃ fd, FunD K d__law_digits.name d__law_digits.qual d__law_digits.params d__law_digits.body d__law_digits.scope (d__law_digits.dvs K) (d__law_digits.kws K) (He.fAd K d__law_digits.at_) fd := c.def_ 8 (d := d__law_digits) rfl
include c in
theorem de__law_radix : ∃ fd, FunD K d__law_radix.name d__law_radix.qual d__law_radix.params d__law_radix.body d__law_radix.scope (d__law_radix.dvs K) (d__law_radix.kws K) (He.fAd K d__law_radix.at_) fd := c.def_ 9 (d := d__law_radix) rfl
include c in
theorem de__law_size : ∃ fd, FunD K d__law_size.name d__law_size.qual d__law_size.params d__law_size.body d__law_size.scope (d__law_size.dvs K) (d__law_size.kws K) (He.fAd K d__law_size.at_) fd := c.def_ 10 (d := d__law_size) rfl
include c in
theorem de__law_signs : ∃ fd, FunD K d__law_signs.name d__law_signs.qual d__law_signs.params d__law_signs.body d__law_signs.scope (d__law_signs.dvs K) (d__law_signs.kws K) (He.fAd K d__law_signs.at_) fd := c.def_ 11 (d := d__law_signs) rfl
include c in
theorem de__law_grouped : ∃ fd, FunD K d__law_grouped.name d__law_grouped.qual d__law_grouped.params d__law_grouped.body d__law_grouped.scope (d__law_grouped.dvs K) (d__law_grouped.kws K) (He.fAd K d__law_grouped.at_) fd := c.def_ 12 (d := d__law_grouped) rfl
include c in
theorem de_law : ∃ fd, FunD K d_law.name d_law.qual d_law.params d_law.body d_law.scope (d_law.dvs K) (d_law.kws K) (He.fAd K d_law.at_) fd := c.def_ 13 (d := d_law) rfl
include c in
theorem de_NoDigits___init__ : ∃ fd, FunD K d_NoDigits___init__.name d_NoDigits___init__.qual d_NoDigits___init__.params d_NoDigits___init__.body d_NoDigits___init__.scope (d_NoDigits___init__.dvs K) (d_NoDigits___init__.kws K) (He.fAd K d_NoDigits___init__.at_) fd := c.def_ 14 (d := d_NoDigits___init__) rfl
end
abbrev lawAt : Nat := 19
/-- a def without defaults, by its name -/
theorem dn_of {P : Program} {w : World} {K : PySem.W.Frag} {mg : Str → Option Value} {base : Heap} {CX : CXT} {k : Nat} {x : Str} {ps : List Str} {dvs : List V} {sp : Sp} {f : Addr} {fd : FuncData} {ds : List Value}
    (F : FnOk P w K mg base CX k f fd ps sp) (hm : mg x = some (.ref f)) (kp : PySem.W.keepIn K (.ref f) = true) (b : Binds K fd ps ds) (v : Vals dvs ds) : Dn P w K mg base CX k x ps dvs sp := ⟨f, fd, ds, F, hm, kp, b, v⟩
theorem facts {P : Program} {w : World} {K : PySem.W.Frag} {h : Heap} {mg : Str → Option Value} {f : Addr} (X : K.In h) (G : h.Ns mainGlobals mg) (hfa : mg ("law" : Str) = some (.ref f)) (c : He.SaysD fa fn K) :
    ∃ fd : FuncData, (∀ (s : Shared) (v : Value), BindsTo s fd ⟨[v], []⟩ [("_law_script", v)]) ∧ ∀ base : Heap, K.In base → base.Ns mainGlobals mg → FnOk P w K mg base CX0 4 f fd ["_law_script"] (spLaw K) := by
  obtain ⟨ts, gS⟩ := co_SIGNS X G c
  obtain ⟨tt, gT⟩ := co_TEN X G c
  have nl := fr_len X G c
  have nr := fr_range X G c
  obtain ⟨_, f1⟩ := de_digits_of c
  obtain ⟨_, f2⟩ := de_number_of c
  obtain ⟨_, f3⟩ := de_in_groups c
  obtain ⟨_, f4⟩ := de_grouped c
  obtain ⟨_, f5⟩ := de__law_feed c
  obtain ⟨_, f6⟩ := de__law_draw c
  obtain ⟨_, f7⟩ := de__law_far c
  obtain ⟨_, f8⟩ := de__law_power c
  obtain ⟨_, f9⟩ := de__law_digits c
  obtain ⟨_, f10⟩ := de__law_radix c
  obtain ⟨_, f11⟩ := de__law_size c
  obtain ⟨_, f12⟩ := de__law_signs c
  obtain ⟨_, f13⟩ := de__law_grouped c
  obtain ⟨fd, f14⟩ := de_law c
  have e := hfa.symm.trans (gl_law X G c)
  cases e
  have b1 : ∃ ds, Vals [V.int 10] ds ∧ Binds K _ ["number", "base"] ds := f1.binds0 1 (by simp [He.DefD.kws, d_digits_of]) rfl fun D doc pm an cdv ct us ks hu hk => match us, ks, hu, hk with | [_], [_], _, _ => ⟨_, _, _, _, _, _, rfl, rfl, rfl⟩
  have b2 : ∃ ds, Vals [V.int 10] ds ∧ Binds K _ ["text", "base"] ds := f2.binds0 1 (by simp [He.DefD.kws, d_number_of]) rfl fun D doc pm an cdv ct us ks hu hk => match us, ks, hu, hk with | [_], [_], _, _ => ⟨_, _, _, _, _, _, rfl, rfl, rfl⟩
  obtain ⟨ds1, v1, b1⟩ := b1
  obtain ⟨ds2, v2, b2⟩ := b2
  have k1 : ∃ mv : List Value, KBn K _ ["number", "base"] 1 ["base"] (fun us ws => us ++ ws) (fun vs zs => vs ++ zs) := f1.kbinds0 1 ["base"] [] (fun us _ ws => us ++ ws) (by simp [He.DefD.kws, d_digits_of]) (by simp) (fun a _ b => a.append b) fun D doc pm an cdv ct us mv ws hu hm hw => match us, mv, ws, hu, hm, hw with | [_], [], [_], _, _, _ => rfl
  have k2 : ∃ mv : List Value, KBn K _ ["text", "base"] 1 ["base"] (fun us ws => us ++ ws) (fun vs zs => vs ++ zs) := f2.kbinds0 1 ["base"] [] (fun us _ ws => us ++ ws) (by simp [He.DefD.kws, d_number_of]) (by simp) (fun a _ b => a.append b) fun D doc pm an cdv ct us mv ws hu hm hw => match us, mv, ws, hu, hm, hw with | [_], [], [_], _, _, _ => rfl
  obtain ⟨_, k1⟩ := k1
  obtain ⟨_, k2⟩ := k2
  have b3 : Binds K _ ["row", "size"] [] := f3.bindsN fun _ _ _ _ _ _ us hl => match us, hl with | [_, _], _ => rfl
  have b4 : Binds K _ ["digits", "sign", "size"] [] := f4.bindsN fun _ _ _ _ _ _ us hl => match us, hl with | [_, _, _], _ => rfl
  have b5 : Binds K _ ["_law_script"] [] := f5.bindsN fun _ _ _ _ _ _ us hl => match us, hl with | [_], _ => rfl
  have b6 : Binds K _ ["_law_feed_here", "_law_many"] [] := f6.bindsN fun _ _ _ _ _ _ us hl => match us, hl with | [_, _], _ => rfl
  have b7 : Binds K _ ["_law_feed_here"] [] := f7.bindsN fun _ _ _ _ _ _ us hl => match us, hl with | [_], _ => rfl
  have b8 : Binds K _ ["_law_radix_here", "_law_many"] [] := f8.bindsN fun _ _ _ _ _ _ us hl => match us, hl with | [_, _], _ => rfl
  have b9 : Binds K _ ["_law_number", "_law_radix_here"] [] := f9.bindsN fun _ _ _ _ _ _ us hl => match us, hl with | [_, _], _ => rfl
  have b10 : Binds K _ ["_law_feed_here"] [] := f10.bindsN fun _ _ _ _ _ _ us hl => match us, hl with | [_], _ => rfl
  have b11 : Binds K _ ["_law_feed_here", "_law_radix_here"] [] := f11.bindsN fun _ _ _ _ _ _ us hl => match us, hl with | [_, _], _ => rfl
  have b12 : Binds K _ [] [] := f12.bindsN fun _ _ _ _ _ _ us hl => match us, hl with | [], _ => rfl
  have b13 : Binds K _ ["_law_text", "_law_mark", "_law_many"] [] := f13.bindsN fun _ _ _ _ _ _ us hl => match us, hl with | [_, _, _], _ => rfl
  have b := FunD.bindsA (ps := ["_law_script"]) f14 fun _ _ _ _ _ _ us hl => match us, hl with | [_], _ => rfl
  refine ⟨fd, fun s v => b s [v] rfl, fun base _ _ => ?_⟩
  have Ddraw := dn_of (x := "_law_draw") (ok_draw (P := P) (w := w) (base := base) f6 nl (fr_abs X G c) nr) (gl__law_draw X G c) f6.kp b6 .nil
  have Dpow := dn_of (x := "_law_power") (ok_power (P := P) (w := w) (base := base) f8 nr) (gl__law_power X G c) f8.kp b8 .nil
  have Dfar := dn_of (x := "_law_far") (ok_far (P := P) (w := w) (base := base) f7 nr Ddraw) (gl__law_far X G c) f7.kp b7 .nil
  have Din := dn_of (x := "in_groups") (ok_in_groups (P := P) (w := w) (base := base) f3 nl (fr_int X G c) nr) (gl_in_groups X G c) f3.kp b3 .nil
  have o1 := ok_digits_of (P := P) (w := w) (base := base) f1 gS (fr_divmod X G c)
  have o2 := ok_number_of (P := P) (w := w) (base := base) f2 gS (fr_isinstance X G c) (fr_str X G c) (fr_enumerate X G c)
  exact ok_law f14 nl nr (fr_max X G c) (fr_min X G c) (fr_repr X G c) (fr_str X G c) gT
    (dn_of (ok_feed f5) (gl__law_feed X G c) f5.kp b5 .nil) Ddraw
    (dn_of (ok_radix f10 Ddraw) (gl__law_radix X G c) f10.kp b10 .nil) (dn_of (ok_size f11 Ddraw Dpow Dfar) (gl__law_size X G c) f11.kp b11 .nil)
    (dn_of (ok_digits f9) (gl__law_digits X G c) f9.kp b9 .nil) (dn_of (ok_signs f12) (gl__law_signs X G c) f12.kp b12 .nil)
    (dn_of (ok_lgrouped f13 nl nr) (gl__law_grouped X G c) f13.kp b13 .nil) (dn_of (ok_grouped f4 Din) (gl_grouped X G c) f4.kp b4 .nil)
    (dn_of o1 (gl_digits_of X G c) f1.kp b1 v1) ⟨_, _, _, _, o1, gl_digits_of X G c, f1.kp, k1⟩
    (dn_of o2 (gl_number_of X G c) f2.kp b2 v2) ⟨_, _, _, _, o2, gl_number_of X G c, f2.kp, k2⟩
end Hd

open PySem PySem.W PySem.Calls PyProof.Rows
set_option maxRecDepth 100000 in
set_option maxHeartbeats 8000000 in
theorem PySem.Challenge.cw_formatwords_k01_digits_and_numbers_holds : PySem.Challenge.rw_formatwords_k01_digits_and_numbers.Holds := by
  w_on; o_law
  refine HandSHeadRun.head_any (r := Hd.R) (q := view Hd.R.prog [Hd.lawAt]) (H := Hd.hk) (ob := Hd.ob) (M := 2000) (loose := Hd.loose) (d := HandSHeadRun.topDef Hd.R.prog Hd.lawAt) (kwd := []) Hd.ob_eq
    (by kernel_rfl) (fun s => by kernel_rfl) Hd.run (by kernel_rfl) (by kernel_rfl) (by kernel_rfl) (by rfl) (by first | assumption | decide +kernel) (by decide +kernel)
    ⟨rfl, rfl, rfl, rfl, rfl, by decide +kernel⟩ ?hw ?hc
  case hw => w_witness2
  case hc =>
    refine L2.walk_ofE (l := PySem.Challenge.rw_formatwords_k01_digits_and_numbers) (n := 63) (k := 4) (x := "_law_script") (CX := L2.CX0) rfl (by decide) (by kernel_rfl) ⟨rfl, by decide, by decide⟩ ?F (fun _ _ _ _ z => z)
    intro w mg fa h Y G hmg0
    obtain ⟨K, KX, c⟩ := Y
    have hmg : mg ("law" : PySem.Str) = some (.ref fa) := by
      have e : (HandSHeadRun.topDef Hd.R.prog Hd.lawAt).name = ("law" : PySem.Str) := by kernel_rfl
      rw [← e]; exact hmg0
    obtain ⟨fd, hb, hF⟩ := Hd.facts (P := (PySem.Challenge.rw_formatwords_k01_digits_and_numbers).prog) (w := w) KX G hmg c.t.d
    exact ⟨K, fd, Lw.spLaw K, KX, hb, fun H a ns hl _ hS => ⟨a, ns, rfl, hS, hl, fun _ => rfl⟩, hF⟩
