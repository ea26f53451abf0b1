import PyProof.Rows.All
import Wide.All
import OpenK.AllK
import Wide.FinOn
import PyProof.Draws
import PyProof.EnumMake
import PyProof.StrOps2
import KE.KStateDown
import HandS.Base
import HandS.Call
import HandS.List
import HandS.Comp
import HandS.Ends
import HandS.Dict
import HandS.Iter
import HandS.Text
import HandS.Words
import HandS.WordsList
import HandS.WordsDict
import HandS.Flow
import HandS.Style
import HandS.Codes
import HandS.IsInst
import HandS.RaiseMore
import HandS.Wide
import HandS.WideBits
import HandS.Defaults
import HandS.TupAny
import HandS.More
import HandS.WordsExc
import HandS.Exc
import HandS.MakeKwOnly
import HandS.Head0
import HandS.Head1
import HandS.Head2
import HandS.HeadEnd
import HandS.HeadHook1
import HandS.HeadHook2
import HandS.HeadHook3
import HandS.HeadHook4
import PyProof.ReprRoads
import KE.KExcIs
import KE.KExcInit
import HandS.ExcOwn
import HandS.ExcInit
import HandS.ExcField
import HandS.TryOnly
import HandS.StrMore
import KE.KRevSl
import PyProof.SliceStr2
import HandS.CallLocal
import HandS.Conv

import PySem.Challenge.RW_formatwords_k25_where_two_modes_part

set_option Elab.async false
set_option linter.all false
set_option maxRecDepth 100000
set_option maxHeartbeats 4000000
namespace Fw
open PySem PySem.Spec PyProof.Rows L2
/-! ### defs by their names -/
/-- the def that the module's name x holds: n values are written in a call, dvs fill up -/
structure Dn (P : Program) (w : World) (K : PySem.W.Frag) (mg : Str → Option Value) (base : Heap) (CX : CXT) (k : Nat) (x : Str) (ps : List Str) (dvs : List V) (sp : Sp) : Prop where
  ex : ∃ (f : Addr) (fd : FuncData) (ds : List Value), FnOk P w K mg base CX k f fd ps sp ∧ mg x = some (.ref f) ∧ PySem.W.keepIn K (.ref f) = true ∧ Binds K fd ps ds ∧ Vals dvs ds
section
variable {X : Cx} {k : Nat} {x : Str} {ps : List Str} {dvs : List V} {sp : Sp} {p pos : Pos} {e : Expr} {es : List Expr} {t : TA}
theorem pe_dn (D : Dn X.prog X.w X.K X.mg X.base CX0 k x ps dvs sp) (hr : Room k X.A) (hg : Gl X x) (ha : PA X (e :: es) t)
    (hdb : (x == ("__debug__" : Str)) = false := by decide) (he : starEach (e :: es) X.env = (false, eval e X.env) :: starEach es X.env := by rfl)
    (hpl : (backTo pos (starEach es X.env)).any (·.1) = false := by rfl) : PE X (.Call (.Name x p) (e :: es) [] pos) (tCall sp dvs E0 t) := by
  obtain ⟨f, fd, ds, F, hm, hk, hb, hd⟩ := D.ex
  exact pe_call F hr hg hm hk hb hd pass0 ha hdb he hpl
theorem pe_dn0 (D : Dn X.prog X.w X.K X.mg X.base CX0 k x ps dvs sp) (hr : Room k X.A) (hg : Gl X x)
    (hdb : (x == ("__debug__" : Str)) = false := by decide) : PE X (.Call (.Name x p) [] [] pos) (tCall sp dvs E0 tNil) := by
  obtain ⟨f, fd, ds, F, hm, hk, hb, hd⟩ := D.ex
  exact pe_call0 F hr hg hm hk hb hd pass0 hdb
end
/-- the same called with keywords -/
structure Dk (P : Program) (w : World) (K : PySem.W.Frag) (mg : Str → Option Value) (base : Heap) (CX : CXT) (k : Nat) (x : Str) (n : Nat) (ks : List Str) (gV : List V → List V → List V) (sp : Sp) : Prop where
  ex : ∃ (f : Addr) (fd : FuncData) (ps : List Str) (g : List Value → List Value → List Value), FnOk P w K mg base CX k f fd ps sp ∧ mg x = some (.ref f) ∧ PySem.W.keepIn K (.ref f) = true ∧ KBn K fd ps n ks g gV
theorem pe_dk {X : Cx} {k n : Nat} {x : Str} {ks : List Str} {gV : List V → List V → List V} {sp : Sp} {p pos : Pos} {e : Expr} {es : List Expr} {kws : List Keyword} {t tk : TA}
    (D : Dk X.prog X.w X.K X.mg X.base CX0 k x n ks gV sp) (hr : Room k X.A) (hg : Gl X x) (ha : PA X (e :: es) t) (hkw : PK X kws tk)
    (hall : (backToKw pos (keywordEach kws X.env)).all (·.1.isSome) = true := by rfl) (hks : (backToKw pos (keywordEach kws X.env)).filterMap (·.1) = ks := by rfl)
    (hdb : (x == ("__debug__" : Str)) = false := by decide) (he : starEach (e :: es) X.env = (false, eval e X.env) :: starEach es X.env := by rfl)
    (hpl : ((backTo pos (starEach (e :: es) X.env)).any (·.1) || (backToKw pos (keywordEach kws X.env)).any (·.1.isNone)) = false := by rfl) :
    PE X (.Call (.Name x p) (e :: es) kws pos) (tCallN n ks.length sp gV E0 t tk) := by
  obtain ⟨f, fd, ps, g, F, hm, hk, hb⟩ := D.ex
  exact pe_callN F hr hg hm hk hb pass0 ha hkw hall hks hdb he hpl
/-! ### text * number -/
def mulS (z : Str) (n : Int) : Str := ⟨(List.replicate n.toNat z.cps).foldl (· ++ ·) #[]⟩
theorem foldl_cat (a : Array Nat) : ∀ (k : Nat) (acc : Array Nat), ((List.replicate k a).foldl (· ++ ·) acc).toList = acc.toList ++ (List.replicate k a.toList).flatten
  | 0, acc => by simp
  | k + 1, acc => by
    rw [List.replicate_succ, List.foldl_cons, foldl_cat a k, List.replicate_succ, List.flatten_cons, Array.toList_append, List.append_assoc]
theorem mulS_tl (z : Str) (n : Int) : (mulS z n).cps.toList = (List.replicate n.toNat z.cps.toList).flatten := by
  unfold mulS
  rw [foldl_cat]
  simp
theorem mulS_len (z : Str) (n : Int) : (mulS z n).length = n.toNat * z.length := by
  show (mulS z n).cps.size = _
  rw [← Array.length_toList, mulS_tl, List.length_flatten, List.map_replicate, List.sum_replicate_nat, Array.length_toList]
  rfl
theorem op_mul_str {X : Cx} : OpR X (binaryOp .Mult) (fun x y H Q => ∃ (z : Str) (n : Int), x = .str z ∧ y = .int n ∧ (-(2 ^ 62) ≤ n ∧ n < 2 ^ 62) ∧ n.toNat * z.length ≤ sizeLine ∧ Q (.str (mulS z n)) H) := by
  intro pins s σ H x y v u Q I rx ry h
  obtain ⟨z, n, rfl, rfl, ⟨h1, h2⟩, hz, q⟩ := h
  obtain ⟨t, rfl⟩ := rx
  obtain ⟨t', rfl⟩ := ry
  have hsz : (sizeLine : Int) ≤ 2 ^ 40 := by decide
  refine PySem.P.mul_str ?_ (fun g1 g2 => ?_) (fun g1 g2 => ?_) ?_
  · rw [decide_eq_false (by omega), decide_eq_false (by omega)]; rfl
  · intro hc
    have hc' : (z.length : Int) > (2 ^ 63 - 1) / n := hc
    have hn : 0 < n := by omega
    have e1 : (2 ^ 63 - 1 : Int) < n * z.length := by
      have := Int.lt_mul_of_ediv_lt hn hc'
      rw [Int.mul_comm] at this
      exact this
    have e2 : n * (z.length : Int) = ((n.toNat * z.length : Nat) : Int) := by
      rw [Int.natCast_mul, Int.toNat_of_nonneg (by omega)]
    have e3 : ((n.toNat * z.length : Nat) : Int) ≤ (sizeLine : Int) := by exact_mod_cast hz
    omega
  · show decide (z.length * n.toNat > sizeLine) = false
    rw [Nat.mul_comm]
    exact decide_eq_false (by omega)
  · have hl := mulS_len z n
    by_cases c1 : n < 1
    · rw [if_pos c1]
      have e0 : mulS z n = Str.empty := by
        have : n.toNat = 0 := by omega
        unfold mulS; rw [this]; rfl
      refine ⟨by decide, ⟨.str (mulS z n), H, I.tok _, ⟨_, by rw [e0]⟩, q⟩⟩
    · rw [if_neg c1]
      by_cases c2 : (n == 1 || z.length == 0) = true
      · rw [if_pos c2]
        have e0 : mulS z n = z := by
          apply TL.ext_tl
          show (mulS z n).cps.toList = z.cps.toList
          rw [mulS_tl]
          rw [Bool.or_eq_true] at c2
          rcases c2 with c | c
          · have : n = 1 := by simpa using c
            subst this
            simp
          · have : z.cps.toList = [] := by
              apply List.length_eq_zero_iff.mp
              rw [Array.length_toList]
              exact eq_of_beq c
            rw [this]
            simp
        exact ⟨.str (mulS z n), H, I, ⟨t, by rw [e0]⟩, q⟩
      · rw [if_neg c2]
        exact ⟨by show (mulS z n).length ≤ sizeLine; omega, ⟨.str (mulS z n), H, I.tok _, ⟨_, rfl⟩, q⟩⟩
/-! ### enumerate(text) -/
def IteS (x : Str) : It :=
  ⟨fun i _ => i < x.cps.size, fun i H v H' => ∃ T c, v = .ref T ∧ H T = none ∧ x.cps[i]? = some c ∧ H' = upd H T (.tup [.int (i : Nat), .str ⟨#[c]⟩]), fun i _ => x.cps.size ≤ i⟩
theorem iterType_or (x : Str) : strIterType x = "str_ascii_iterator" ∨ strIterType x = "str_iterator" := by
  unfold strIterType
  split
  · exact .inl rfl
  · exact .inr rfl
theorem drawsS {prog : Program} {w : World} {A : Around} (hh : A.handled = none) (it : Addr) (x : Str) (t : Tok) :
    Draws prog w A it [it] x.cps.size (fun i v => ∃ c u, x.cps[i]? = some c ∧ v = .str ⟨#[c]⟩ u) (fun i h => h.IsStrIter it (strIterType x) x t i) := by
  rcases iterType_or x with e | e
  · rw [e]; exact Draws.strAscii hh it x t
  · rw [e]; exact Draws.strWide hh it x t
theorem turn_enumS {P : Program} {w : World} {K : PySem.W.Frag} {elts : List Expr} {kk : Nat} {tpos : Pos} (x : Str) (t : Tok) (e it : Addr) (hne : e ≠ it) :
    Turn P w K (.Tuple elts kk tpos) (IteS x) [e, it] e (fun i h => (∃ old, IsEnum h e it ((i : Nat) : Int) old) ∧ h.IsStrIter it (strIterType x) x t i) where
  mem := by simp
  obj := fun i h st b hb => by
    obtain ⟨⟨old, he⟩, ⟨o, ho, hc, hd⟩⟩ := st
    have e' : b = e ∨ b = it := by simpa using hb
    rcases e' with z | z
    · subst z; exact ⟨_, he, fun v q => nomatch q⟩
    · subst z; exact ⟨o, ho, fun v q => by rw [hd] at q; cases q⟩
  keep := fun i h h' st k => by
    obtain ⟨⟨old, he⟩, ⟨o, ho, r⟩⟩ := st
    exact ⟨⟨old, k e (by simp) _ he⟩, ⟨o, k it (by simp) o ho, r⟩⟩
  item := by
    intro X hP hw hK hc i pins s σ H E I hf st hg
    subst hP hw hK
    obtain ⟨⟨old, he⟩, hit⟩ := st
    have hel : e < s.heap.objs.size := Heap.lt_size he
    have hil : it < s.heap.objs.size := by obtain ⟨_, q, _⟩ := hit; exact Heap.lt_size q
    have hlt : i < x.cps.size := hg
    have D1 := drawsS (prog := X.prog) (w := X.w) (A := X.A.in1) (I.ok.hd hc) it x t
    refine wpAny_pyNext_enum_itemD D1 he hit hlt hne (by simpa using hne) fun v h' tk hv ho hit' hT hsz hk => ?_
    obtain ⟨c, u, hcx, rfl⟩ := hv
    refine ⟨_, rfl, wpAny_letOwnedTupleGo_enum (s := { s with heap := h', toks := tk + 1 }) ho fun h2 he2 sb => ?_⟩
    have hT2 : h2.get? s.heap.objs.size = some { cls := .type "tuple", data := .seq #[.int i tk, .str ⟨#[c]⟩ u] } := (sb.2 _ (Nat.ne_of_gt hel)).trans hT
    have new : ObjOk X.prog X.w (upd H s.heap.objs.size (.tup [.int (i : Nat), .str ⟨#[c]⟩])) h2 s.heap.objs.size (.tup [.int (i : Nat), .str ⟨#[c]⟩]) :=
      ⟨by show 2 ≤ sizeLine; decide, [.int i tk, .str ⟨#[c]⟩ u], .cons ⟨_, rfl⟩ (.cons ⟨_, rfl⟩ .nil), ⟨_, hT2, rfl, _, rfl⟩⟩
    have J : Inv X pins σ (upd H s.heap.objs.size (.tup [.int (i : Nat), .str ⟨#[c]⟩])) { s with heap := h2, toks := tk + 1 } :=
      I.turnedNew (ch := [e, it]) (fun b ob hb q => by
        have hb1 : b ≠ e := fun z => hb (by simp [z])
        have hb2 : b ≠ it := fun z => hb (by simp [z])
        exact (sb.2 b hb1).trans (hk b ob hb1 hb2 q)) hf (Nat.le_refl _) new
    refine ⟨.ref s.heap.objs.size, _, J, rfl, ⟨_, c, rfl, I.hok.fresh (Nat.le_refl _), hcx, rfl⟩, ⟨⟨.str ⟨#[c]⟩ u, ?_⟩, ?_⟩, fun b hb => ?_⟩
    · have e1 : ((i + 1 : Nat) : Int) = (i : Int) + 1 := by omega
      rw [e1]; exact he2
    · obtain ⟨o, q, r⟩ := hit'
      exact ⟨o, (sb.2 it (Ne.symm hne)).trans q, r⟩
    · have hlt : b < s.heap.objs.size := by
        have e' : b = e ∨ b = it := by simpa using hb
        rcases e' with z | z
        · subst z; exact hel
        · subst z; exact hil
      rw [upd_ne (Nat.ne_of_lt hlt)]
      exact (hf b hb).1
  done := by
    intro X hP hw hK hc i pins s σ H E I hf st hg
    subst hP hw hK
    obtain ⟨⟨old, he⟩, hit⟩ := st
    have hz : x.cps.size ≤ i := hg
    obtain ⟨f0, f1, f2, f3, f4, f5⟩ := hf it (by simp)
    by_cases q : i = x.cps.size
    · subst q
      have D1 := drawsS (prog := X.prog) (w := X.w) (A := X.A.in1) (I.ok.hd hc) it x t
      exact wpAny_pyNext_enum_endD D1 he hit fun h' eb => ⟨rfl, I.turned (t' := s.toks) (fun b o hb q => eb b o hb q) f0 f1 f3 f4 f5⟩
    · -- the iterator stands nowhere beyond its end
      have D2 : Draws X.prog X.w X.A.in1 it [it] i (fun _ _ => False) (fun j h => j = i ∧ h.IsStrIter it (strIterType x) x t i) :=
        ⟨fun _ _ st => by obtain ⟨_, o, ho, _⟩ := st; exact ⟨o, ho⟩, fun _ _ _ st hk => by
          obtain ⟨z, o, ho, r⟩ := st
          exact ⟨z, o, hk it (by simp) o ho, r⟩, fun j s Q E hj st _ => absurd st.1 (Nat.ne_of_lt hj), fun s Q E st hE => by
          have hx : x.cps[i]? = none := Array.getElem?_eq_none hz
          obtain ⟨_, st⟩ := st
          rcases iterType_or x with e | e
          · rw [e] at st; exact wpAny_nextOf_ascii_end (I.ok.hd hc) st hx hE
          · rw [e] at st; exact wpAny_nextOf_wide_end (I.ok.hd hc) st hx hE⟩
      exact wpAny_pyNext_enum_endD D2 he ⟨rfl, hit⟩ fun h' eb => ⟨rfl, I.turned (t' := s.toks) (fun b o hb q => eb b o hb q) f0 f1 f3 f4 f5⟩
  self := fun A i s Q E st h => by
    obtain ⟨⟨_, he⟩, _⟩ := st
    exact wpAny_pyIter_enum he h
def iEnumS (ta : TA) : TI := fun σ H R => ta σ H fun vs H1 => ∃ x, vs = [.str x] ∧ R (IteS x) H1
theorem pi_enumS {X : Cx} {e : Expr} {ta : TA} {p pos tpos : Pos} {elts : List Expr} {kk : Nat} (hg : Gl X "enumerate") (hm : X.mg "enumerate" = none) (ha : PA X [e] ta) (hs : starEach [e] X.env = [(false, eval e X.env)] := by rfl) :
    PI X (.Tuple elts kk tpos) (.Call (.Name "enumerate" p) [e] [] pos) (iEnumS ta) := by
  refine ⟨fun pins s σ H R I h => ?_⟩
  refine Call_ (ld_blt I hg hm boot_enumerate (PyProof.Rows.callWith_type1 (thn (ha.run pos pins s σ H _ I h) fun us s1 ⟨vs, H1, I1, r1, q1⟩ => ?_) hs rfl))
  obtain ⟨x, rfl, q⟩ := q1
  obtain ⟨u, rfl, t, rfl⟩ := vals1 r1
  refine call_enumerate_str fun h' he hit hsz hk => wpAny_pyIter_enum he ?_
  have J : Inv X pins σ H1 { s1 with heap := h' } := I1.kept (t' := s1.toks) hk
  refine ⟨s1.heap.objs.size + 1, [s1.heap.objs.size + 1, s1.heap.objs.size], _, _, H1, rfl, J, turn_enumS x t _ _ (Nat.succ_ne_self _), ⟨⟨.none, he⟩, hit⟩, fun b hb => ?_, q⟩
  have hle : s1.heap.objs.size ≤ b := by
    have e' : b = s1.heap.objs.size + 1 ∨ b = s1.heap.objs.size := by simpa using hb
    rcases e' with z | z
    · rw [z]; exact Nat.le_succ _
    · rw [z]; exact Nat.le_refl _
  exact I1.fpOk hle (I1.hok.fresh hle)
/-- the reading of such a for -/
theorem for_enumS {x : Str} {g : TG} {tb : TS} {D : Ends} {σ : L2.St} {H : Hp} (Pv : Nat → L2.St → Hp → Prop) (h0 : Pv 0 σ H)
    (hs : ∀ i c T σ H, x.cps[i]? = some c → H T = none → Pv i σ H → g (.ref T) σ (upd H T (.tup [.int (i : Nat), .str ⟨#[c]⟩])) fun σ2 H2 => tb { D with nx := Pv (i + 1), ct := Pv (i + 1), bk := D.nx } σ2 H2)
    (hd : ∀ σ H, Pv x.cps.size σ H → D.nx σ H) :
    ∃ W : Nat → Nat → L2.St → Hp → Prop, (∃ m, W 0 m σ H) ∧ ∀ i m σ H, W i m σ H →
      ((IteS x).stop i H ∧ D.nx σ H) ∨ ((IteS x).go i H ∧ ∃ N : L2.St → Hp → Prop, (∀ σ' H', N σ' H' → ∃ m', m' < m ∧ W (i + 1) m' σ' H') ∧ ∀ v H', (IteS x).yld i H v H' → g v σ H' fun σ2 H2 => tb { D with nx := N, ct := N, bk := D.nx } σ2 H2) := by
  refine ⟨fun i m σ H => m = x.cps.size - i ∧ i ≤ x.cps.size ∧ Pv i σ H, ⟨_, rfl, Nat.zero_le _, h0⟩, ?_⟩
  rintro i m σ H ⟨rfl, hi, pv⟩
  by_cases hlt : i < x.cps.size
  · refine .inr ⟨hlt, Pv (i + 1), fun σ' H' p' => ⟨_, by omega, rfl, hlt, p'⟩, fun v H' y => ?_⟩
    obtain ⟨T, c, rfl, hT, hc, rfl⟩ := y
    exact hs i c T σ H hc hT pv
  · have e : i = x.cps.size := by omega
    subst e
    exact .inl ⟨Nat.le_refl _, hd σ H pv⟩
/-- a comprehension over range(a, b, c) -/
theorem lc_rangeC {lo c : Int} {n : Nat} {g : TG} {tt : TT} {te : TE} {vs : List Nat} {σ : L2.St} {H1 : Hp} {D : Addr} {Qd : Hp → Prop} (Pv : Nat → Hp → Prop) (h0 : Pv 0 (upd H1 D (.lst [])))
    (hs : ∀ i H, i < n → Pv i H → g (.int (lo + (i : Nat) * c)) (wipe σ vs) H fun σ2 H2 => wipe σ2 vs = wipe σ vs ∧ tt σ2 H2 fun b H3 =>
      if b = true then te σ2 H3 fun y H4 => ∃ acc, H4 D = some (.lst acc) ∧ acc.length < sizeLine ∧ Pv (i + 1) (upd H4 D (.lst (acc ++ [y]))) else Pv (i + 1) H3) (hd : ∀ H, Pv n H → Qd H) :
    ∃ W : Nat → Nat → Hp → Prop, (∃ m, W 0 m (upd H1 D (.lst []))) ∧ ∀ i m H, W i m H →
      ((Itc lo c n).stop i H ∧ Qd H) ∨ ((Itc lo c n).go i H ∧ ∃ Nx : Hp → Prop, (∀ H', Nx H' → ∃ m', m' < m ∧ W (i + 1) m' H') ∧ ∀ x H', (Itc lo c n).yld i H x H' → g x (wipe σ vs) H' fun σ2 H2 => wipe σ2 vs = wipe σ vs ∧ tt σ2 H2 fun b H3 =>
        if b = true then te σ2 H3 fun y H4 => ∃ acc, H4 D = some (.lst acc) ∧ acc.length < sizeLine ∧ Nx (upd H4 D (.lst (acc ++ [y]))) else Nx H3) := by
  refine ⟨fun i m H => m = n - i ∧ i ≤ n ∧ Pv i H, ⟨_, rfl, Nat.zero_le _, h0⟩, ?_⟩
  rintro i m H ⟨rfl, hi, pw⟩
  by_cases hlt : i < n
  · refine .inr ⟨hlt, Pv (i + 1), fun H' p' => ⟨_, by omega, rfl, hlt, p'⟩, fun x H' y => ?_⟩
    obtain ⟨e, y⟩ := y
    subst e y
    exact hs i _ hlt pw
  · have e : i = n := by omega
    subst e
    exact .inl ⟨Nat.le_refl _, hd H pw⟩
theorem small_up {a b c : Int} (ha : -(2 ^ 61) ≤ a) (ha' : a < 2 ^ 61) (hb : -(2 ^ 61) ≤ b) (hb' : b < 2 ^ 61) (hc : 0 < c) (hc' : c < 1073741824) : Builtin.Range.small a b c = true := by
  have h1 : a < b → 0 ≤ (b - a - 1) / c ∧ (b - a - 1) / c ≤ b - a - 1 := fun h => ⟨Int.ediv_nonneg (by omega) (by omega), Int.ediv_le_self _ (by omega)⟩
  unfold Builtin.Range.small Builtin.Range.rangeSize
  simp only [Builtin.Range.rangeFitsLong, Bool.and_eq_true, Bool.or_eq_true, decide_eq_true_eq, beq_iff_eq, gt_iff_lt, if_pos hc]
  by_cases h : a < b
  · have := h1 h
    simp only [if_pos h]
    omega
  · simp only [if_neg h]
    omega
/-- t[i:j] -/
theorem slice_S (a : List Nat) (i j : Nat) : Txt.slice (SX.S a) (some (i : Int)) (some (j : Int)) = SX.S ((a.drop i).take (j - i)) := by
  rw [← C8.cutS_slice]
  apply TL.ext_tl
  show (a.drop (HT.sIx (SX.S a).length 0 (some (i : Int)))).take (HT.sIx (SX.S a).length (SX.S a).length (some (j : Int)) - HT.sIx (SX.S a).length 0 (some (i : Int))) = (a.drop i).take (j - i)
  rw [HT.sIx_nat, HT.sIx_nat, SX.S_len]
  by_cases hi : i ≤ a.length
  · rw [Nat.min_eq_left hi]
    by_cases hj : j ≤ a.length
    · rw [Nat.min_eq_left hj]
    · rw [Nat.min_eq_right (by omega), List.take_of_length_le (by rw [List.length_drop]; omega), List.take_of_length_le (by rw [List.length_drop]; omega)]
  · rw [List.drop_eq_nil_of_le (show a.length ≤ min i a.length by omega), List.drop_eq_nil_of_le (show a.length ≤ i by omega), List.take_nil, List.take_nil]
end Fw

namespace Fw
open PySem PySem.Spec PyProof.Rows L2
/-! ### defs called where no repr is under way -/
/-- FnOk, where the caller knows that no repr is under way -/
structure FnG (P : Program) (w : World) (K : PySem.W.Frag) (mg : Str → Option Value) (base : Heap) (CX : CXT) (k : Nat) (f : Addr) (fd : FuncData) (ps : List Str) (sp : Sp) : Prop where
  len : ∀ vs H Q E, sp vs H Q E → vs.length = ps.length
  run : ∀ (A : Around) (outer : List Env) (s : Shared) (H : Hp) (args : Args) (us : List Value) (vs : List V) (Q : VK) (E : XK), A.guards = some [] → Room k A → Env0 P w K mg base A outer s H →
    BindsTo s fd args (ps.zip us) → Vals vs us → sp vs H Q E → codeAny (model P w) A (.call (.ref f) args) (CR CX outer P w H s Q E) s
section
variable {P : Program} {w : World} {K : PySem.W.Frag} {mg : Str → Option Value} {base : Heap} {CX : CXT} {k : Nat} {f : Addr} {fd : FuncData} {ps : List Str} {sp : Sp}
theorem FnG.of (F : FnOk P w K mg base CX k f fd ps sp) : FnG P w K mg base CX k f fd ps sp := ⟨F.len, fun A outer s H args us vs Q E _ => F.run A outer s H args us vs Q E⟩
theorem FnG.mono {j : Nat} (F : FnG P w K mg base CX j f fd ps sp) (h : j ≤ k) : FnG P w K mg base CX k f fd ps sp :=
  ⟨F.len, fun A outer s H args us vs Q E g hr => F.run A outer s H args us vs Q E g (hr.mono h)⟩
/-- the rule for a def's body -/
theorem fnG {x qual : Str} {params : Arguments} {body : List Stmt} {scope : Scope} {dvs : List V} {kws : List (Str × V)} {N : List Str} (F : FunD K x qual params body scope dvs kws f fd) (S : FnScope N ps scope)
    (len : ∀ vs H Q E, sp vs H Q E → vs.length = ps.length)
    (hb : ∀ (cdv : Value) (A : Around) (outer : List Env) (s : Shared) (H : Hp) (vs : List V) (Q : VK) (E : XK), A.guards = some [] → Room k (A.deeper (envOfC qual scope s.heap.objs.size f cdv)) → sp vs H Q E →
      ∃ t, PSs (cxOf CX P w K mg base N qual scope f cdv A outer s H E) body t ∧ t { nx := fun _ H' => Q .non H', rt := Q } (start N vs) H) : FnG P w K mg base CX (k + 1) f fd ps sp := by
  obtain ⟨oc, od, dV, kV, doc, pm, an, cdv, ct, osl, rfl, lk, hcd, _, _⟩ := F.ex
  refine ⟨len, ?_⟩
  intro A outer s H args us vs Q E hg hr e0 bt rv hsp
  have stay : ∀ b o, base.get? b = some o → s.heap.get? b = some o := fun b o e => (e0.bs b o e).1
  have KX : K.In s.heap := e0.mod.kin.keeps stay
  have lim : s.heap.NoLimit := e0.mod.nolimit.keeps stay
  refine codeAny_call_function hr.depth (KX _ _ lk) rfl S.co S.gen rfl (PySem.W.codeRec_of KX hcd) (bt _ _ _ _ ?_)
  refine wpAny_newFunctionEnv_cells S.kind (fun y hy => ?_) fun env he s1 ic => ?_
  · rcases S.par y.1 (List.of_mem_zip hy).1 with q | q
    · exact Or.inl q
    · exact Or.inr ⟨q, PySem.W.cellsFrom_some _ _ _ (Or.inl q)⟩
  subst he
  refine ⟨lim.keeps ic.toInCall.keep, codeAny_func ?_⟩
  obtain ⟨t, ht, hq⟩ := hb cdv A outer s H vs Q E hg (hr.deeper _) hsp
  have J := inv_start (CX := CX) (N := N) (qual := qual) (f := f) (cd := cdv) (E := E) S hr.hd e0 (len _ _ _ _ hsp) rv ic
  refine wpAny_mono (ht.run [] s1 (start N vs) H _ J hq) (fun fl s' z => ?_) fun _ _ z => z
  cases fl with
  | ret u =>
    obtain ⟨v, _, H', J', r', q'⟩ := z
    exact ⟨v, H', J'.os, J'.bare, J'.base, J'.hok, r', q'⟩
  | next =>
    obtain ⟨_, H', J', q'⟩ := z
    exact ⟨.non, H', J'.os, J'.bare, J'.base, J'.hok, rfl, q'⟩
  | brk =>
    obtain ⟨_, _, _, q'⟩ := z
    exact q'.elim
  | cont =>
    obtain ⟨_, _, _, q'⟩ := z
    exact q'.elim
end
/-- such a def by its name -/
structure Dg (P : Program) (w : World) (K : PySem.W.Frag) (mg : Str → Option Value) (base : Heap) (CX : CXT) (k : Nat) (x : Str) (ps : List Str) (dvs : List V) (sp : Sp) : Prop where
  ex : ∃ (f : Addr) (fd : FuncData) (ds : List Value), FnG P w K mg base CX k f fd ps sp ∧ mg x = some (.ref f) ∧ PySem.W.keepIn K (.ref f) = true ∧ Binds K fd ps ds ∧ Vals dvs ds
section
variable {X : Cx} {k : Nat} {x : Str} {ps : List Str} {dvs : List V} {sp : Sp} {p pos : Pos} {e : Expr} {es : List Expr} {t : TA}
theorem run_g {CX : CXT} {E : XK} {f : Addr} {fd : FuncData} {ds : List Value} {pins : List (Addr × Obj)} {σ : L2.St} {H : Hp} {s : Shared} {Q : VK} {us : List Value} {vs : List V} (F : FnG X.prog X.w X.K X.mg X.base CX k f fd ps sp) (hg : X.A.guards = some []) (hr : Room k X.A)
    (hb : Binds X.K fd ps ds) (hd : Vals dvs ds) (hx : Passes CX X E) (I : Inv X pins σ H s) (r : Vals vs us) (h : sp (vs ++ dvs) H Q E) : wpAny (model X.prog X.w) X.A (call (.ref f) us) (EP X pins σ Q) X.xe s := by
  have rr := r.append hd
  have hl : (us ++ ds).length = ps.length := rr.length.symm.trans (F.len _ _ _ _ h)
  refine wpAny_call (codeAny_mono (F.run X.A X.stack s H ⟨us, []⟩ (us ++ ds) (vs ++ dvs) Q E hg hr I.env0 (hb s us I.kIn hl) rr h) fun r s' z => ?_)
  rcases r with e | (_ | _ | _ | _)
  · exact hx pins σ H s e s' I z
  all_goals first | exact I.after z | exact False.elim z
theorem pe_dg (D : Dg X.prog X.w X.K X.mg X.base CX0 k x ps dvs sp) (gd : X.A.guards = some []) (hr : Room k X.A) (hg : Gl X x) (ha : PA X (e :: es) t)
    (hdb : (x == ("__debug__" : Str)) = false := by decide) (he : starEach (e :: es) X.env = (false, eval e X.env) :: starEach es X.env := by rfl)
    (hpl : (backTo pos (starEach es X.env)).any (·.1) = false := by rfl) : PE X (.Call (.Name x p) (e :: es) [] pos) (tCall sp dvs E0 t) := by
  obtain ⟨f, fd, ds, F, hm, hk, hb, hd⟩ := D.ex
  refine ⟨fun pins s σ H Q I h => wpAny_Call_Name_kw (ld_glob I hg hm ?_ hdb)⟩
  refine PySem.W.callWith_K (h₀ := X.base) I.ok.mod.kin hk (thn (ha.run pos pins s σ H _ I h) fun us s1 z => ?_) he hpl
  obtain ⟨vs, H1, I1, r, q⟩ := z
  exact ⟨I1.kIn, run_g F gd hr hb hd pass0 I1 r q⟩
end
/-- the script as it is tracked: what K does not hold -/
def scriptH (K : PySem.W.Frag) (a : Addr) (o : Obj) (ns : List Int) : Hp := fun b => if b = a ∧ K.lookup a = none then some (.frz o (.lst (ns.map V.int))) else none
theorem law_g {P : Program} {w : World} {K : PySem.W.Frag} {mg mb : Str → Option Value} {k : Nat} {fa a : Addr} {fd : FuncData} {x : Str} {sp : Sp} {s1 : Shared} {vs : List Value} {ns : List Int}
    (KX : K.In s1.heap) (hns : s1.heap.Ns mainGlobals mg) (hb : s1.heap.Ns builtinsNs mb) (hbb : ∀ x : Str, x ≠ "__name__" → mb x = bootBuiltins x) (hlim : s1.heap.NoLimit) (hg : s1.gens = #[])
    (ha : s1.heap.get? a = some { cls := .type "list", data := .seq vs.toArray }) (hi : IntsAre vs ns) (hl : ns.length ≤ sizeLine) (hr : Room k callerA)
    (F : ∀ base : Heap, K.In base → base.Ns mainGlobals mg → FnG P w K mg base CX0 k fa fd [x] sp) (hbind : ∀ (s : Shared) (u : Value), BindsTo s fd ⟨[u], []⟩ [(x, u)])
    (hsp : ∀ H : Hp, Only H → SqL K H a (ns.map V.int) → sp [.ref a] H (fun v _ => v = .bl true) fun _ _ _ => False) :
    codeAny (model P w) callerA (.call (.ref fa) ⟨[.ref a], []⟩) (fun r s' => r = .ok (.ret (.bool true)) ∧ OldK s1.heap s'.heap ∧ s'.os = s1.os ∧ AllBare s'.gens) s1 := by
  have rv := vals_ints hi
  generalize ho : ({ cls := .type "list", data := .seq vs.toArray } : Obj) = o at ha
  generalize hH : scriptH K a o ns = H
  have only : ∀ b, H b = none ∨ (b = a ∧ K.lookup a = none ∧ H b = some (.frz o (.lst (ns.map V.int)))) := fun b => by
    rw [← hH]
    unfold scriptH
    by_cases c : b = a ∧ K.lookup a = none
    · rw [if_pos c]; exact Or.inr ⟨c.1, c.2, rfl⟩
    · rw [if_neg c]; exact Or.inl rfl
  have hO : Only H := fun b => by
    rcases only b with z | ⟨_, _, z⟩
    · exact Or.inl z
    · exact Or.inr ⟨_, _, z⟩
  have hS : SqL K H a (ns.map V.int) := by
    cases q : K.lookup a with
    | none => exact Or.inl (Or.inr ⟨o, by rw [← hH]; unfold scriptH; rw [if_pos ⟨rfl, q⟩]⟩)
    | some ob =>
      have e := KX a ob q
      rw [ha] at e
      cases e
      subst ho
      exact Or.inr ⟨_, vs.toArray, _, q, rfl, rfl, rfl, by rw [List.size_toArray, hi.length]; exact hl, by simpa using rv⟩
  have hok : HOk P w H s1.heap := fun b u e => by
    rcases only b with z | ⟨rfl, _, z⟩
    · rw [z] at e; cases e
    · rw [z] at e
      cases e
      exact ⟨ha, by rw [List.length_map]; exact hl, vs, _, rv, by rw [ha, ← ho]⟩
  have up : ∀ {b : Addr} {u : Obj}, s1.heap.get? b = some u → H b = none → (hidT s1.heap H).get? b = some u := fun e n => hidT_get e n
  have dictFree : ∀ {b : Addr} {u : Obj} {es : Array DictEntry} {ep : Nat}, s1.heap.get? b = some u → u.data = .dict es ep → H b = none := fun {b u es ep} e d => by
    rcases only b with z | ⟨rfl, _, _⟩
    · exact z
    · rw [ha] at e
      cases e
      rw [← ho] at d
      exact absurd d (by intro z; cases z)
  have ns1 : ∀ {b : Addr} {m : Str → Option Value}, s1.heap.Ns b m → (hidT s1.heap H).Ns b m := fun {b m} z => by
    obtain ⟨u, es, ep, e, d, r⟩ := z
    exact ⟨u, es, ep, up e (dictFree e d), d, r⟩
  have KB : K.In (hidT s1.heap H) := fun b u e => up (KX b u e) (by
    rcases only b with z | ⟨rfl, q, _⟩
    · exact z
    · rw [q] at e; cases e)
  obtain ⟨mc, l1, l2⟩ := hlim
  have e0 : Env0 P w K mg (hidT s1.heap H) callerA [] s1 H :=
    ⟨rfl, ⟨KB, ns1 hns, ⟨mb, ns1 hb, hbb⟩, ⟨mc, ns1 l1, l2⟩⟩, fun b u e => of_hidT e, Nat.le_of_eq (hidT_size _ _), trivial, fun b hm => absurd (show b ∈ ([] : List Addr) from hm) (by simp), hok, .of_eq hg⟩
  refine codeAny_mono ((F _ KB (ns1 hns)).run callerA [] s1 H ⟨[.ref a], []⟩ [.ref a] [.ref a] _ _ rfl hr e0 (hbind s1 (.ref a)) (.cons rfl .nil) (hsp H hO hS)) fun r s' z => ?_
  rcases r with e | (_ | _ | _ | u)
  · exact False.elim z
  all_goals first | exact False.elim z | skip
  obtain ⟨v, H', os, bare, un, hok', r', q⟩ := z
  have q' : v = .bl true := q
  subst q'
  obtain rfl : _ = Value.bool true := r'
  refine ⟨rfl, OldK.of_keep fun b ob e => ?_, os, bare⟩
  rcases only b with z | ⟨rfl, _, z⟩
  · exact un.keep b ob e z (fun hm => absurd (show b ∈ ([] : List Addr) from hm) (by simp)) (by simp)
  · have z2 := hok' b _ (un.frzs b o _ z)
    rw [ha] at e
    cases e
    exact z2.1
theorem walk_g {l : PySem.W.OpenLaw} {n k : Nat} {q : Program} {loose : List Str} {XP : (Str → Option Value) → Heap → Prop} {YP : World → Heap → Prop} {d : DefRec} {x : Str}
    (hn : l.most = some n) (hn2 : n ≤ sizeLine) (hdf : d.params.defaults = []) (hr : Room k callerA)
    (F : ∀ (w : World) (mg : Str → Option Value) (fa : Addr) (h : Heap), YP w h → h.Ns mainGlobals mg → mg d.name = some (.ref fa) →
      ∃ (K : PySem.W.Frag) (fd : FuncData) (sp : Sp), K.In h ∧ (∀ (s : Shared) (u : Value), BindsTo s fd ⟨[u], []⟩ [(x, u)]) ∧
        (∀ (H : Hp) (a : Addr) (ns : List Int), ns.length ≤ n → Only H → SqL K H a (ns.map V.int) → sp [.ref a] H (fun v _ => v = .bl true) fun _ _ _ => False) ∧
        ∀ base : Heap, K.In base → base.Ns mainGlobals mg → FnG l.prog w K mg base CX0 k fa fd [x] sp) :
    PySem.W.WalkO q loose XP YP l.row.toRowW d [] (fun f vs => PySem.call f vs) := by
  refine Att.attach_call hn hdf ?_
  intro w s0 s1 mg mb fa o pm cd doc a vs ns G Y ho hd hcd hmg hobj hints hlen hg
  obtain ⟨K, fd, sp, KX, hb, hsp, hF⟩ := F w mg fa _ Y G.T.g hmg
  exact law_g KX G.T.g G.T.b G.T.builtins G.T.nolimit hg hobj hints (Nat.le_trans hlen hn2) hr hF hb fun H hO hS => hsp H a ns hlen hO hS
/-! ### repr of data -/
theorem call_reprD {X : Cx} (hg : X.A.guards = some []) (hu : X.A.units + 64 < cLine) : CallR X (.builtin "repr")
    (fun xs H Q => ∃ (v : V) (d : PyData), xs = [v] ∧ Dp X.K H v d ∧ d.showable = true ∧ d.hasDict = false ∧ d.depth ≤ 60 ∧ d.shown.length ≤ sizeLine ∧ Q (.str d.shown) H) := by
  intro pins s σ H xs us Q I r h
  obtain ⟨v, d, rfl, hd, hs, hn, hdp, hz, q⟩ := h
  obtain ⟨u, rfl, ru⟩ := vals1 r
  obtain ⟨as, rd⟩ := Dp.reads I d v u hd ru
  cases hd with
  | non =>
    cases ru
    exact PySem.P.repr_of_none ⟨.str _, H, I.tok _, ⟨_, rfl⟩, q⟩
  | bl b =>
    cases ru
    exact PySem.P.repr_of_bool ⟨.str _, H, I.tok _, ⟨_, rfl⟩, q⟩
  | int i =>
    obtain ⟨t, rfl⟩ := ru
    exact PySem.P.repr_of_int (of_decide_eq_true hs) ⟨.str _, H, I.tok _, ⟨_, rfl⟩, q⟩
  | str x =>
    obtain ⟨t, rfl⟩ := ru
    exact PySem.P.repr_of_str ⟨.str _, H, I.tok _, ⟨_, rfl⟩, q⟩ hz
  | lst h1 h2 =>
    cases ru
    exact repr_of_reads' rd hs (fun z => by rw [hn] at z; cases z) hg (by omega) (fun _ _ z => z) (fun h' u tk k => ⟨.str _, H, I.kept (t' := tk) k, ⟨_, rfl⟩, q⟩) hz
  | tup h1 h2 =>
    cases ru
    exact repr_of_reads' rd hs (fun z => by rw [hn] at z; cases z) hg (by omega) (fun _ _ z => z) (fun h' u tk k => ⟨.str _, H, I.kept (t' := tk) k, ⟨_, rfl⟩, q⟩) hz
end Fw

namespace Fw
open PySem PySem.Spec PyProof.Rows L2
/-! ### an exception that was caught and is kept -/
/-- at a: an exception of the class cls, its dict at d -/
def ExK (a : Addr) (cls : Value) (d : Option Addr) : HO := .ext fun h => ∃ (oe : Obj) (vs : Array Value), h.get? a = some oe ∧ Zc cls d oe ∧ oe.data = .fields vs
theorem exK_ok {P : Program} {w : World} {H : Hp} {h : Heap} {a : Addr} {cls : Value} {d : Option Addr} {oe : Obj} {vs : Array Value} (e : h.get? a = some oe) (z : Zc cls d oe) (q : oe.data = .fields vs) : ObjOk P w H h a (ExK a cls d) :=
  ⟨⟨oe, vs, e, z, q⟩, ⟨oe, e⟩, fun _ _ y k => by
    obtain ⟨o, v, y1, y2⟩ := y
    exact ⟨o, v, k o y1, y2⟩⟩
theorem exK_at {P : Program} {w : World} {H : Hp} {h : Heap} {a : Addr} {cls : Value} {d : Option Addr} (hok : HOk P w H h) (e : H a = some (ExK a cls d)) : ∃ (oe : Obj) (vs : Array Value), h.get? a = some oe ∧ Zc cls d oe ∧ oe.data = .fields vs := by
  have x : ObjOk P w H h a (.ext fun h => ∃ (oe : Obj) (vs : Array Value), h.get? a = some oe ∧ Zc cls d oe ∧ oe.data = .fields vs) := hok a _ e
  exact x.1
section
variable {X : Cx} {pins : List (Addr × Obj)} {σ : L2.St} {H : Hp} {s : Shared}
/-- an object that came since the entry and is not tracked is tracked from now on -/
theorem track {a : Addr} {oe : Obj} {o : HO} (I : Inv X pins σ H s) (ha : s.heap.get? a = some oe) (hn : H a = none) (h0 : X.s_0.heap.get? a = none) (nL : a ≠ X.env.locals) (nC : ∀ v, oe.data ≠ .cell v) (nP : ∀ p ∈ X.pn ++ pins, p.1 ≠ a)
    (ok : ObjOk X.prog X.w (upd H a o) s.heap a o) : Inv X pins σ (upd H a o) s := by
  have old : ∀ {b : Addr} {ob : Obj}, X.s_0.heap.get? b = some ob → b ≠ a := fun {b ob} e z => by
    rw [z, h0] at e; cases e
  have oldH : ∀ {b : Addr} {u : HO}, H b = some u → b ≠ a := fun {b u} e => ne_of_none e hn
  refine ⟨I.ok, I.os, I.bare, ⟨I.base.keep, I.base.slot, fun b ob e n x => ?_, I.base.there, fun b xs e => ?_, fun b ob u e => ?_, fun b ps e => ?_⟩, I.loc, I.cell, ?_, fun x c e => ?_, fun p hp => ?_, fun b u e => ?_, I.len⟩
  · rw [upd_ne (old e)]; exact I.base.free b ob e n x
  · have q := I.base.tups b xs e
    rw [upd_ne (oldH q)]; exact q
  · have q := I.base.frzs b ob u e
    rw [upd_ne (oldH q)]; exact q
  · obtain ⟨more, q⟩ := I.base.tbls b ps e
    exact ⟨more, by rw [upd_ne (oldH q)]; exact q⟩
  · rw [upd_ne (Ne.symm nL)]; exact I.free
  · have : c ≠ a := fun z => by
      obtain ⟨v, q⟩ := I.cell x c e
      obtain ⟨oc, q1, q2⟩ := q
      rw [z, ha] at q1
      cases q1
      exact nC _ q2
    rw [upd_ne this]; exact I.freeC x c e
  · obtain ⟨p1, p2, p3⟩ := I.pin p hp
    exact ⟨p1, by rw [upd_ne (nP p hp)]; exact p2, p3⟩
  · by_cases hb : b = a
    · subst hb
      rw [upd_same] at e
      cases e
      exact ok
    · rw [upd_ne hb] at e
      exact (I.hok b u e).stay (fun _ _ _ q => q) (fun c q => by rw [upd_ne (oldH q)]; exact q) fun c xs q => by rw [upd_ne (oldH q)]; exact q
end
/-- what «except x as n» wishes of an exception of the body, where it is kept behind the suite -/
def wKeep (K : PySem.W.Frag) (c : Value) (i : Nat) (ts : Addr → Value → Option Addr → TS) (Wout : WX) (D : Ends) : WX := fun cls d σ H =>
  ∃ b, PySem.W.exmOne K cls c = some b ∧ (b = true → ∀ a, H a = none → ts a cls d { nx := fun σ' H' => D.nx (σ'.set i none) (upd H' a (ExK a cls d)), rt := D.rt, bk := fun σ' H' => D.bk (σ'.set i none) H', ct := fun σ' H' => D.ct (σ'.set i none) H' } (σ.set i (some (.ref a))) H) ∧
    (b = false → Wout cls d σ H)
section
variable {X : Cx} {x n : Str} {c : Value} {i : Nat} {body suite : List Stmt} {b₀ : Stmt} {np pos pos' : Pos} {tb : WX → TS} {ts : Addr → Value → Option Addr → TS} {Wout : WX}
/-- try: body, except x as n: suite; the exception stands, tracked, behind it -/
theorem ps_try_keep (hs : X.stack = X.env :: X.outer) (hf : X.env.frame = some X.env.locals) (hex : X.ex = []) (hN : X.N.Nodup) (hi : X.N[i]? = some n) (hln : X.env.kindOf n = some .local) (hc : Names X x c) (tk : Takes X Wout)
    (hb : ∀ (W : WX) (pn : List (Addr × Obj)) (xe : Value → Shared → Prop), Takes (X.tr pn xe) W → PassesOwn (model X.prog X.w) X.A X.env xe → PSs (X.tr pn xe) body (tb W))
    (hsu : ∀ (a : Addr) (oe : Obj) (cls : Value) (d : Option Addr) (pn : List (Addr × Obj)), Zc cls d oe → (∃ vs, oe.data = .fields vs) → PSs (X.suite a ((a, oe) :: pn)) (b₀ :: suite) (ts a cls d)) :
    PS X (.Try body [.ExceptHandler (some (.Name x np)) (some n) (b₀ :: suite) pos'] [] [] pos) (fun D σ H => tb (wKeep X.K c i ts Wout D) D σ H) := by
  refine ⟨?_⟩
  intro pins s σ H D I h
  have ok := I.ok
  have hfr : X.A.frames = some (X.env :: X.outer) := by rw [← hs]; exact ok.frames
  refine wpAny_Try_except ?_
  -- what is done with an exception of the body
  generalize hxe : (fun (e : Value) (s1 : Shared) => wpAny (model X.prog X.w) X.A (noteFrame e X.env) (fun _ s2 => wpAny (model X.prog X.w) X.A (setFlight e none) (fun _ s3 =>
    wpAny (model X.prog X.w) X.A (handleBy e X.env [.ExceptHandler (some (.Name x np)) (some n) (b₀ :: suite) pos']) (SP X pins D) X.xe s3) X.xe s2) X.xe s1) = xe
  have look : PassesOwn (model X.prog X.w) X.A X.env xe := by rw [← hxe]; exact PassesOwn.looking
  have caught : Takes (X.tr (X.pn ++ pins) xe) (wKeep X.K c i ts Wout D) := by
    intro u s' xx
    obtain ⟨a, B, sI, pins', σ', H', cls, d, rfl, J', nb, up, sky, na, os, ag, b, hb1, hyes, hno⟩ := xx
    have J : Inv X pins σ' H' sI := J'.ofTry ok
    have sky2 : Sky B (X.env :: X.outer) a (Zc cls d) X.env.locals s'.heap := hs ▸ sky
    show xe (.ref a) s'
    rw [← hxe]
    refine Sky.land Zc.steady hfr hf sky2 fun h3 fl3 up3 => ?_
    have J3 : Inv X pins σ' H' { s' with heap := h3 } := J.landed nb fl3.1 (up.trans up3) os ag
    obtain ⟨oe3, vs3, he3, hz3, hd3⟩ := fl3.there
    have nfr : a ∉ frs (X.env :: X.outer) := fun hm => by
      obtain ⟨_, o2, e2, hnf⟩ := fl3.2.2.1.mem hm
      rw [he3] at e2; cases e2
      exact hnf _ hd3
    have nL : a ≠ X.env.locals := fun z => nfr (List.mem_filterMap.mpr ⟨X.env, List.mem_cons_self, by rw [hf, z]⟩)
    have nF : a ∉ X.fs := fun hm => by
      obtain ⟨e, he, q⟩ := List.mem_filterMap.mp hm
      exact nfr (List.mem_filterMap.mpr ⟨e, List.mem_cons_of_mem _ he, q⟩)
    have noI : sI.heap.get? a = none := by
      cases q : sI.heap.get? a with
      | none => rfl
      | some o2 =>
        have z := nb a o2 q (by rw [hs]; exact nfr)
        rw [fl3.2.1] at z; cases z
    have no0 : X.s_0.heap.get? a = none := by
      cases q : X.s_0.heap.get? a with
      | none => rfl
      | some o2 =>
        obtain ⟨o3, z⟩ := J.base.there a o2 q (by rw [hex]; exact List.not_mem_nil)
        rw [noI] at z; cases z
    have noP : ∀ p ∈ X.pn ++ pins, p.1 ≠ a := fun p hp z => by
      have q := (J.pin p hp).1
      rw [z, noI] at q; cases q
    have S3 := J3.suite he3 hd3 na nL nF
    refine wpAny_handleBy_cons (codeAny_handlers_test ?_) (by intro q; cases q)
    have LT : PySem.W.Looks (model X.prog X.w) h3 (typeOf (.ref a)) cls := fun A Q E s k q => wpAny_typeOf_ref (k _ _ he3) (by rw [hz3.1]; exact q)
    have LM := PySem.W.exm_one (M := model X.prog X.w) J3.kIn LT hb1
    have test : ∀ {Q : Value → Shared → Prop} {E : Value → Shared → Prop}, Q c { s' with heap := h3 } → wpAny (model X.prog X.w) (X.A.mark (some (.ref a))) (eval (.Name x np) X.env) Q E { s' with heap := h3 } := by
      intro Q E q
      obtain ⟨hg, hdbg, hm | ⟨hm, hv, hnn⟩⟩ := hc
      · exact ld_glob (X := X.suite a ((a, oe3) :: (X.pn ++ pins))) S3 hg hm q hdbg
      · exact ld_blt (X := X.suite a ((a, oe3) :: (X.pn ++ pins))) S3 hg hm hv q hnn hdbg
    refine test (LM.here ?_)
    cases b with
    | false =>
      show wpAny _ X.A (handleBy (.ref a) X.env []) _ _ _
      refine wpAny_handleBy_nil ?_
      obtain ⟨k1, k2, k3, oe, vs, T, oT, ts', he, hz, hd, h1, hr⟩ := id fl3
      unfold PySem.passOn
      refine wpAny_bind (wpAny_field he hd h1 ?_)
      rw [if_neg (show ¬ ((Value.ref T == Value.none) = true) from by simp)]
      have fin : wpAny (model X.prog X.w) X.A (setFlight (.ref a) X.env.frame) (fun _ s4 => wpAny (model X.prog X.w) X.A (throw (.ref a) : Sem Flow) (SP X pins D) X.xe s4) X.xe { s' with heap := h3 } := by
        rw [hf]
        refine HandSPX.setFlight_upZ fl3 fun h4 hh4 up4 => wpAny_throw (tk _ _ ?_)
        exact ⟨a, B, sI, pins, σ', H', cls, d, rfl, J, nb, (up.trans up3).trans up4, .inr (.inr (by rw [hs]; exact hh4)), na, os, ag, hno rfl⟩
      first
        | exact wpAny_bind (wpAny_pure (wpAny_bind fin))
        | exact wpAny_bind fin
    | true =>
      refine codeAny_handlers_suite_as ?_
      refine HandSPX.lands_againZ fl3 fun h4 fl4 up4 => ?_
      have J4 : Inv X pins σ' H' { s' with heap := h4 } := J.landed nb fl4.1 ((up.trans up3).trans up4) os ag
      obtain ⟨oe4, vs4, he4, hz4, hd4⟩ := fl4.there
      have S4 := J4.suite he4 hd4 na nL nF
      refine store_ok (X := X.suite a ((a, oe4) :: (X.pn ++ pins))) (v := .ref a) S4 hN hi (.inl hln) rfl (fun s5 S5 => ?_) (.inr hln)
      refine wpAny_mono ((hsu a oe4 cls d (X.pn ++ pins) hz4 ⟨_, hd4⟩).run [] s5 _ H' _ S5 (hyes rfl a na)) (fun f s6 hsp => ?_) (fun _ _ z => False.elim z)
      have behind : ∀ {σ6 : L2.St} {H6 : Hp} {Q : Shared → Prop}, Inv X pins σ6 H6 s6 → (∀ s7, Inv X pins (σ6.set i none) H6 s7 → Q s7) →
          wpAny (model X.prog X.w) X.A (do bindName X.env n .none; unbindBehindTheSuite X.env n pos') (fun _ s7 => Q s7) X.xe s6 := fun {σ6 H6 Q} S6 hq => gone_ok S6 hN hi hln hq
      cases f with
      | next =>
        obtain ⟨σ6, H6, S6, q6⟩ := hsp
        obtain ⟨g1, g2, _⟩ := S6.pin (a, oe4) (List.mem_append_left _ List.mem_cons_self)
        have T6 := track (o := ExK a cls d) (S6.unsuite ok) g1 g2 no0 nL (fun v z => by rw [hd4] at z; cases z) noP (exK_ok g1 hz4 hd4)
        exact behind T6 fun s7 J7 => ⟨_, _, J7, q6⟩
      | brk =>
        obtain ⟨σ6, H6, S6, q6⟩ := hsp
        exact behind (S6.unsuite ok) fun s7 J7 => ⟨_, _, J7, q6⟩
      | cont =>
        obtain ⟨σ6, H6, S6, q6⟩ := hsp
        exact behind (S6.unsuite ok) fun s7 J7 => ⟨_, _, J7, q6⟩
      | ret u =>
        obtain ⟨v6, σ6, H6, S6, r6, q6⟩ := hsp
        exact behind (S6.unsuite ok) fun s7 J7 => ⟨_, _, _, J7, r6, q6⟩
  refine wpAny_mono ((hb _ (X.pn ++ pins) xe caught look).run [] s σ H D (I.toTry _) h) (fun f s1 z => ?_) (fun e s1 he => he)
  cases f with
  | next =>
    obtain ⟨σ', H', J', q⟩ := z
    exact wpAny_execs_nil ⟨σ', H', J'.ofTry ok, q⟩
  | brk =>
    obtain ⟨σ', H', J', q⟩ := z
    exact ⟨σ', H', J'.ofTry ok, q⟩
  | cont =>
    obtain ⟨σ', H', J', q⟩ := z
    exact ⟨σ', H', J'.ofTry ok, q⟩
  | ret u =>
    obtain ⟨v, σ', H', J', r, q⟩ := z
    exact ⟨v, σ', H', J'.ofTry ok, r, q⟩
end
/-! ### isinstance, fields of a kept exception -/
/-- what the class of an exception says -/
structure ExcK (K : PySem.W.Frag) (D : Addr) : Prop where
  hc : (PySem.W.clsIn K D).isSome = true
  hg : PySem.W.findIn K (.ref D) "__getattribute__" = some (some (.builtin "BaseException.__getattribute__"))
  hk : PySem.W.findIn K (.ref D) "__getattr__" = some none
  hs : PySem.W.subIn K (.ref D) (.type "BaseException") = some true
  hd : PySem.W.hasDictIn K D = true
  ha : PySem.W.findIn K (.ref D) "__class__" = some (some (.builtin "object.__class__"))
  hn : PySem.W.specialIn K (.builtin "object.__class__") "__get__" = some (some (.builtin "getset_descriptor.__get__"))
  ht : PySem.W.takesIn K (.builtin "object.__class__") = some true
  hm : PySem.W.mroIn K D (.type "object") = some true
def excKB (K : PySem.W.Frag) (D : Addr) : Bool :=
  (PySem.W.clsIn K D).isSome && decide (PySem.W.findIn K (.ref D) "__getattribute__" = some (some (.builtin "BaseException.__getattribute__"))) && decide (PySem.W.findIn K (.ref D) "__getattr__" = some none) &&
    decide (PySem.W.subIn K (.ref D) (.type "BaseException") = some true) && PySem.W.hasDictIn K D && decide (PySem.W.findIn K (.ref D) "__class__" = some (some (.builtin "object.__class__"))) &&
    decide (PySem.W.specialIn K (.builtin "object.__class__") "__get__" = some (some (.builtin "getset_descriptor.__get__"))) && decide (PySem.W.takesIn K (.builtin "object.__class__") = some true) && decide (PySem.W.mroIn K D (.type "object") = some true)
theorem excKB_ok {K : PySem.W.Frag} {D : Addr} (h : excKB K D = true) : ExcK K D := by
  unfold excKB at h
  simp only [Bool.and_eq_true, decide_eq_true_eq] at h
  obtain ⟨⟨⟨⟨⟨⟨⟨⟨h1, h2⟩, h3⟩, h4⟩, h5⟩, h6⟩, h7⟩, h8⟩, h9⟩ := h
  exact ⟨h1, h2, h3, h4, h5, h6, h7, h8, h9⟩
/-- the exception at a, of the class at D, its dict (if it has one) with the fields fs -/
def Kept (H : Hp) (a D : Addr) (d : Option Addr) (fs : List (Str × V)) : Prop := H a = some (ExK a (.ref D) d) ∧ ((d = none ∧ fs = []) ∨ ∃ dd, d = some dd ∧ H dd = some (.xd fs))
theorem kept_inst {X : Cx} {pins : List (Addr × Obj)} {σ : L2.St} {H : Hp} {s : Shared} {a D : Addr} {d : Option Addr} {fs : List (Str × V)} (I : Inv X pins σ H s) (k : Kept H a D d fs) : ∃ oe od, PySem.W.InstAt s.heap a oe D od := by
  obtain ⟨oe, vs, e, z, q⟩ := exK_at I.hok k.1
  obtain ⟨oc, od0, odt, osl⟩ := oe
  obtain ⟨z1, z2⟩ := z
  dsimp only at z1 z2 q
  subst z1 z2 q
  rcases k.2 with ⟨rfl, _⟩ | ⟨dd, rfl, hd⟩
  · exact ⟨_, none, e, rfl, rfl, trivial⟩
  · have x : ObjOk X.prog X.w H s.heap dd (.xd fs) := I.hok dd _ hd
    obtain ⟨mA, hns, _⟩ := x
    obtain ⟨od, ho, _⟩ := lookIn_ns hns
    exact ⟨_, some od, e, rfl, rfl, ho⟩
section
variable {X : Cx}
theorem call_isK : CallR X (.builtin "isinstance") (fun xs H Q => ∃ (a D : Addr) (d : Option Addr) (fs : List (Str × V)) (c : V) (cv : Value) (b : Bool), xs = [.ref a, c] ∧ Kept H a D d fs ∧ ExcK X.K D ∧ ClsV c cv ∧ PySem.W.kitOne X.K (.ref D) cv = some b ∧ Q (.bl b) H) := by
  intro pins s σ H xs us Q I r h
  obtain ⟨a, D, d, fs, c, cv, b, rfl, k, C, hcv, e, q⟩ := h
  obtain ⟨u1, u2, rfl, r1, r2⟩ := vals2 r
  cases r1
  have e2 := hcv.eq r2
  subst e2
  obtain ⟨oe, od, J⟩ := kept_inst I k
  exact PySem.W.kia_one (PySem.W.kitx_exc C.hc C.hg C.hk C.hs C.ha C.hn C.ht C.hm) I.kIn J e (fun z => nomatch z) fun tk => ⟨.bl b, H, I.tok tk, rfl, q⟩
theorem call_isKT : CallR X (.builtin "isinstance") (fun xs H Q => ∃ (a D : Addr) (d : Option Addr) (fs : List (Str × V)) (tp : Addr) (cs : List V) (us : List Value) (b : Bool), xs = [.ref a, .ref tp] ∧ Kept H a D d fs ∧ ExcK X.K D ∧ H tp = some (.tup cs) ∧ Paired ClsV cs us ∧ PySem.W.kitAny X.K (.ref D) us = some b ∧ Q (.bl b) H) := by
  intro pins s σ H xs us Q I r h
  obtain ⟨a, D, d, fs, tp, cs, us, b, rfl, k, C, ht, hp, e, q⟩ := h
  obtain ⟨u1, u2, rfl, r1, r2⟩ := vals2 r
  cases r1
  cases r2
  obtain ⟨oe, od, J⟩ := kept_inst I k
  have x : ObjOk X.prog X.w H s.heap tp (.tup cs) := I.hok tp _ ht
  obtain ⟨_, its, rv, ob, he, hcl, n, hd⟩ := x
  have ei := ClsV.all hp rv
  subst ei
  obtain ⟨oc, odd, odt, osl⟩ := ob
  dsimp only at hcl hd
  subst hcl hd
  exact PySem.W.kia_tup (PySem.W.kitx_exc C.hc C.hg C.hk C.hs C.ha C.hn C.ht C.hm) I.kIn J he e (fun z => nomatch z) fun tk => ⟨.bl b, H, I.tok tk, rfl, q⟩
/-- e.f -/
def tKf (K : PySem.W.Frag) (f : Str) (te : TE) : TE := fun σ H Q => te σ H fun x H1 => ∃ (a D : Addr) (d : Option Addr) (fs : List (Str × V)) (v : V), x = .ref a ∧ Kept H1 a D d fs ∧ ExcK K D ∧ PySem.W.findIn K (.ref D) f = some none ∧ fs.lookup f = some v ∧ Q v H1
theorem pe_kf {e : Expr} {te : TE} {pos : Pos} {n : Str} (he : PE X e te) (hb : attributeBase e n X.env (eval e X.env) = eval e X.env := by rfl) : PE X (.Attribute e n pos) (tKf X.K n te) := by
  refine ⟨fun pins s σ H Q I h => ?_⟩
  refine attr_of hb (thn (he.run pins s σ H _ I h) fun u s1 hh => ?_)
  obtain ⟨x, H1, I1, rx, a, D, d, fs, v, rfl, k, C, hno, l, q⟩ := hh
  cases rx
  obtain ⟨oe, vs, e1, z, qd⟩ := exK_at I1.hok k.1
  rcases k.2 with ⟨rfl, rfl⟩ | ⟨dd, rfl, hd⟩
  · cases l
  · have hx : ObjOk X.prog X.w H1 s1.heap dd (.xd fs) := I1.hok dd _ hd
    obtain ⟨mA, hns, hr⟩ := hx
    obtain ⟨od, ho, hl⟩ := lookIn_ns hns
    obtain ⟨u, hu, ru⟩ := RelO.some_of (v := v) (o := mA n) (by rw [← l]; exact hr n)
    have J : PySem.W.InstAt s1.heap a oe D (some od) := ⟨e1, z.1, by unfold PySem.W.notCls; rw [qd] <;> rfl, by rw [z.2]; exact ho⟩
    exact HandSPX.exc_get I1.kIn J C.hg C.hk C.hs (PySem.W.findObj_own C.hd hno rfl (by rw [hl, hu])) (handed_of ru) ⟨v, H1, I1.tok _, ru, q⟩
end
end Fw

namespace Fw
open PySem PySem.Spec PyProof.Rows L2
open Builtin.ObjectAttr in
/-- a base class of Python's, straight over own exceptions -/
structure ExB (B newId initId : String) (bm : List Value) : Prop where
  F : ExcBaseFacts B newId initId bm
  ob : bm.contains (.type "object") = true
  pass : ∀ self : Value, refuseLoop self "__setattr__" bm = pure ()
theorem exB_of {B newId initId : String} {bm : List Value} (F : ExcBaseFacts B newId initId bm) (S : StoreFacts B bm "object.__setattr__" "object") : ExB B newId initId bm := ⟨F, S.hasOwner, S.passes⟩
/-- an own class straight over such a base -/
structure OexB (K : PySem.W.Frag) (C : Addr) (newId : String) (bm : List Value) : Prop where
  cls : ∃ nm q N bs sn sub ab col dd k0 k1 k2 k3 k5, K.lookup C = some (excClassObj nm q C N bs bm true sn sub ab col dd k0 k1 k2 k3 k5 newId)
  sa : PySem.W.findIn K (.ref C) "__setattr__" = some (some (.builtin "object.__setattr__"))
  exC : PySem.W.subIn K (.ref C) (.type "BaseException") = some true
  tyC : PySem.W.typeIn K (.ref C) = some (.type "type")
  kC : PySem.W.keepIn K (.ref C) = true
section
open Builtin Builtin.ObjectAttr
variable {prog : Program} {w : World} {A : Around} {R : Result → Shared → Prop} {hp : Heap} {g : Array GenState} {d : Drawn} {t : Nat} {os : OsState} {K : PySem.W.Frag} {name : Str} {tk : Tok} {v : Value} {x C : Addr} {fv : Array Value} {cd : ClassData}
/-- how a store to an exception of an own class goes, up to its own dict -/
theorem osa_any {od : Option Obj} {dx : Option Addr} (X : K.In hp) (I : PySem.W.InstAt hp x { cls := .ref C, dict := dx, data := .fields fv } C od) (hcd : PySem.W.clsIn K C = some cd)
    (m1 : ∀ self : Value, refuseLoop self "__setattr__" cd.mro = pure ()) (m2 : cd.mro.isEmpty = false) (m3 : cd.mro.contains (.type "object") = true) (ha : PySem.W.findIn K (.ref C) name = some none)
    (hq : wpAny (model prog w) A.in1 (storeInOwnDict (.ref x) (.ref C) (.str name tk) name v false) (fun fin s' => match fin with | .done f => R (.ok f) s' | .again c' => c'.quiet = true ∧ codeAny (model prog w) A c' R s') (fun e s' => R (.error e) s') ⟨hp, g, d, t, os⟩) :
    codeAny (model prog w) A (.call (.builtin "object.__setattr__") ⟨[.ref x, .str name tk, v], []⟩) R ⟨hp, g, d, t, os⟩ := by
  have SF := F.store_object
  have sub : PySem.W.Looks (model prog w) hp (isInstance (.ref x) (.type "object")) true := by
    refine I.type.andThen (PySem.W.looks_mroIn X ?_)
    unfold PySem.W.mroIn
    rw [hcd, Option.bind_some, if_neg (by rw [m2]; decide), m3]
  refine codeAny_call_builtin SF.slot.plain SF.entry ?_
  refine @PySem.W.check_slot (model prog w) _ _ ⟨hp, g, d, t, os⟩ "object.__setattr__" "object" "__setattr__" (.ref x) [.str name tk, v] [] _ SF.kind SF.split sub (SF.args (.ref x) (.str name tk) v) ?_
  have hmr : PySem.W.Looks (model prog w) hp (mroOf (.ref C)) cd.mro := (PySem.W.looks_clsIn X hcd).andThen .now
  have none_ : PySem.W.Looks (model prog w) hp (storeTaker? none) none := .now
  rw [PySem.W.osa_eq, refuse_eq]
  refine wpAny_bind (wpAny_bind (I.type.at (wpAny_bind (hmr.at ?_))))
  rw [m1]
  exact wpAny_pure (wpAny_bind (I.type.at (wpAny_bind ((PySem.W.looks_findIn X ha).at (wpAny_bind (none_.at hq))))))
theorem osa_first (X : K.In hp) (hx : hp.get? x = some { cls := .ref C, data := .fields fv }) (hcd : PySem.W.clsIn K C = some cd)
    (m1 : ∀ self : Value, refuseLoop self "__setattr__" cd.mro = pure ()) (m2 : cd.mro.isEmpty = false) (m3 : cd.mro.contains (.type "object") = true) (hh : cd.hasDict = true) (ha : PySem.W.findIn K (.ref C) name = some none)
    (hq : ∀ h' tk' dx, (∀ b o, b ≠ x → hp.get? b = some o → h'.get? b = some o) → hp.objs.size ≤ dx → dx ≠ x → h'.get? x = some { cls := .ref C, dict := some dx, data := .fields fv } →
      h'.Ns1 dx (fun y => if y = name then some v else none) → R (.ok (.ret .none)) ⟨h', g, d, tk', os⟩) :
    codeAny (model prog w) A (.call (.builtin "object.__setattr__") ⟨[.ref x, .str name tk, v], []⟩) R ⟨hp, g, d, t, os⟩ := by
  have I : PySem.W.InstAt hp x { cls := .ref C, data := .fields fv } C none := ⟨hx, rfl, rfl, trivial⟩
  have hxs : x ≠ hp.objs.size := Nat.ne_of_lt (Heap.lt_size hx)
  refine osa_any X I hcd m1 m2 m3 ha ?_
  have hcls : PySem.W.Looks (model prog w) hp (classData C) cd := PySem.W.looks_clsIn X hcd
  obtain ⟨nm, bs, mro, ns, qn, hd, sn, sb, ab, col, del⟩ := cd
  dsimp only at hh
  subst hh
  unfold storeInOwnDict ownDictForStores
  repeat (first | with_reducible refine HandSPX.store_in_new ?_ ?_ | with_reducible refine wpAny_loadPart_at hx ?_ | with_reducible refine hcls.at ?_ | wp_step)
  · exact ⟨_, #[], _, (Heap.get?_update_ne _ _ _ _ hxs.symm).trans (Heap.get?_push_at rfl rfl), rfl, fun e he => absurd he (by simp), fun _ => rfl⟩
  · intro h' tk' hn' hs
    have hx1 : (hp.push { cls := .type "dict", data := .dict #[] }).get? x = some { cls := .ref C, data := .fields fv } := Heap.get?_push_of_some _ hx
    refine hq h' tk' hp.objs.size (fun b o hb ho => ?_) (Nat.le_refl _) hxs.symm ?_ hn'
    · exact (hs.2 b (Nat.ne_of_lt (Heap.lt_size ho))).trans ((Heap.get?_update_ne _ _ _ _ hb).trans (Heap.get?_push_of_some _ ho))
    · exact (hs.2 x hxs).trans (Heap.get?_update_self _ hx1 rfl)
theorem osa_next {dx : Addr} {m0 : Str → Option Value} {nl : List Str} (X : K.In hp) (hx : hp.get? x = some { cls := .ref C, dict := some dx, data := .fields fv }) (hns : hp.Ns1 dx m0) (hw : Within m0 nl) (hz : nl.length ≤ 1000) (hcd : PySem.W.clsIn K C = some cd)
    (m1 : ∀ self : Value, refuseLoop self "__setattr__" cd.mro = pure ()) (m2 : cd.mro.isEmpty = false) (m3 : cd.mro.contains (.type "object") = true) (hh : cd.hasDict = true) (ha : PySem.W.findIn K (.ref C) name = some none)
    (hq : ∀ h' tk', (∀ b o, b ≠ dx → hp.get? b = some o → h'.get? b = some o) → h'.Ns1 dx (fun y => if y = name then some v else m0 y) → R (.ok (.ret .none)) ⟨h', g, d, tk', os⟩) :
    codeAny (model prog w) A (.call (.builtin "object.__setattr__") ⟨[.ref x, .str name tk, v], []⟩) R ⟨hp, g, d, t, os⟩ := by
  obtain ⟨oD, esD, epD, hoD, hdD, _⟩ := hns.count hw
  have I : PySem.W.InstAt hp x { cls := .ref C, dict := some dx, data := .fields fv } C (some oD) := ⟨hx, rfl, rfl, hoD⟩
  refine osa_any X I hcd m1 m2 m3 ha ?_
  have hcls : PySem.W.Looks (model prog w) hp (classData C) cd := PySem.W.looks_clsIn X hcd
  obtain ⟨nm, bs, mro, ns, qn, hd, sn, sb, ab, col, del⟩ := cd
  dsimp only at hh
  subst hh
  unfold storeInOwnDict ownDictForStores
  repeat (first | with_reducible refine PySem.OEX.store_in_old hns hw hz ?_ | with_reducible refine wpAny_loadPart_at hx ?_ | with_reducible refine hcls.at ?_ | wp_step)
  intro h' tk' hn' hs
  exact hq h' tk' (fun b o hb ho => (hs.2 b hb).trans ho) hn'
end
section
variable {X : Cx} {pins : List (Addr × Obj)} {σ : L2.St} {H : Hp} {s : Shared} {a C dx : Addr} {f : Str} {y : V} {u : Value} {fs : List (Str × V)} {E : Value → Shared → Prop} {A : Around} {B newId initId : String} {bm : List Value}
theorem mro_pass (T : ExB B newId initId bm) (C : Addr) (self : Value) : refuseLoop self "__setattr__" (.ref C :: bm) = pure () := by
  rw [refuseLoop_ref]; exact T.pass self
theorem mro_ob (T : ExB B newId initId bm) (C : Addr) : (Value.ref C :: bm).contains (.type "object") = true := by
  rw [List.contains_cons, T.ob, Bool.or_true]
/-- self.f = y, the first store -/
theorem put_first {Q : Unit → Shared → Prop} (T : ExB B newId initId bm) (O : OexB X.K C newId bm) (I : Inv X pins σ H s) (e : H a = some (exo a C none)) (hno : PySem.W.findIn X.K (.ref C) f = some none) (ry : RelV y u)
    (h : ∀ dx s', H dx = none → dx ≠ a → Inv X pins σ (upd (upd H dx (exd dx [(f, y)])) a (exo a C (some dx))) s' → Q () s') : wpAny (model X.prog X.w) A (setAttr (.ref a) f u) Q E s := by
  obtain ⟨nm, q, N, bs, sn, sub, ab, col, dd, k0, k1, k2, k3, k5, hC⟩ := O.cls
  have hcl : PySem.W.clsIn X.K C = some { name := nm, bases := bs, mro := .ref C :: bm, ns := N, qualname := q, hasDict := true, slotNames := sn, subclasses := sub, abstract := ab, collection := col, hasDel := false } := by
    unfold PySem.W.clsIn; rw [hC] <;> rfl
  obtain ⟨t1, ho⟩ := exo_at I.hok e
  obtain ⟨hp, g, dr, tk, os⟩ := s
  refine PySem.W.set_plain I.kIn (ox := { cls := .ref C, dict := none, data := .fields #[.ref t1, .none, .none, .none, .bool false, .none] }) (od := none) ⟨ho, rfl, rfl, trivial⟩ O.sa ?_
  refine osa_first I.kIn ho hcl (mro_pass T C) rfl (mro_ob T C) rfl hno ?_
  intro h' tk' dx k dn dne hx hn
  have hnd : H dx = none := I.hok.fresh dn
  have ndx : ∀ {b : Addr} {o : Obj}, hp.get? b = some o → b ≠ dx := fun {b o} q => Nat.ne_of_lt (Nat.lt_of_lt_of_le (Heap.lt_size q) dn)
  have na : ∀ {b : Addr}, H b = none → b ≠ a := fun {b} n z => by
    rw [z, e] at n; cases n
  have two : ∀ {b : Addr} {o : HO}, H b = some o → o ≠ exo a C none → upd (upd H dx (exd dx [(f, y)])) a (exo a C (some dx)) b = some o := fun {b o} q n => by
    have hb : b ≠ a := fun z => by
      rw [z, e] at q
      exact n (Option.some.inj q).symm
    rw [upd_ne hb, upd_ne (ne_of_none q hnd)]; exact q
  have U : Un X.fs [] H (upd (upd H dx (exd dx [(f, y)])) a (exo a C (some dx))) hp h' := by
    refine ⟨fun b o q n _ _ => k b o (na n) q, fun b o q n _ _ => ⟨o.slots, k b o (na n) q⟩, fun b o q n _ => ?_, fun b o q _ => ?_, fun b xs q => two q (Ne.symm exo_tup), fun b o v q => two q (Ne.symm exo_frz), fun b ps q => ⟨#[], ?_⟩⟩
    · rw [upd_ne (na n), upd_ne (ndx q)]; exact n
    · by_cases hb : b = a
      · exact ⟨_, by rw [hb]; exact hx⟩
      · exact ⟨o, k b o hb q⟩
    · have z := two q (Ne.symm exo_tbl)
      rw [z]; simp
  refine h dx _ hnd dne (I.un (t' := tk') U fun b o q => ?_)
  by_cases hb : b = a
  · subst hb
    rw [upd_same] at q; cases q
    exact exo_ok hx
  · rw [upd_ne hb] at q
    by_cases hd : b = dx
    · subst hd
      rw [upd_same] at q; cases q
      exact exd_ok hn (relO_put (fs := []) ry fun g => True.intro)
    · rw [upd_ne hd] at q
      refine (I.hok b o q).stay (fun c v hc z => k c v ?_ z) (fun c hc => two hc (Ne.symm exo_own)) fun c xs hc => two hc (Ne.symm exo_tup)
      rcases hc with hc | hc
      · rw [hc]; exact hb
      · exact at_ne e hc exo_own
/-- self.f = y, a further store -/
theorem put_next {Q : Unit → Shared → Prop} (T : ExB B newId initId bm) (O : OexB X.K C newId bm) (I : Inv X pins σ H s) (e : H a = some (exo a C (some dx))) (ed : H dx = some (exd dx fs)) (hl : fs.length ≤ 900) (hno : PySem.W.findIn X.K (.ref C) f = some none) (ry : RelV y u)
    (h : ∀ s', Inv X pins σ (upd H dx (exd dx ((f, y) :: fs))) s' → Q () s') : wpAny (model X.prog X.w) A (setAttr (.ref a) f u) Q E s := by
  obtain ⟨nm, q, N, bs, sn, sub, ab, col, dd, k0, k1, k2, k3, k5, hC⟩ := O.cls
  have hcl : PySem.W.clsIn X.K C = some { name := nm, bases := bs, mro := .ref C :: bm, ns := N, qualname := q, hasDict := true, slotNames := sn, subclasses := sub, abstract := ab, collection := col, hasDel := false } := by
    unfold PySem.W.clsIn; rw [hC] <;> rfl
  obtain ⟨t1, ho⟩ := exo_at I.hok e
  obtain ⟨mA, hns, rel⟩ := exd_at I.hok ed
  have hw := within_of rel
  obtain ⟨hp, g, dr, tk, os⟩ := s
  obtain ⟨oD, _, _, hoD, _, _⟩ := hns.count hw
  refine PySem.W.set_plain I.kIn (ox := { cls := .ref C, dict := some dx, data := .fields #[.ref t1, .none, .none, .none, .bool false, .none] }) (od := some oD) ⟨ho, rfl, rfl, hoD⟩ O.sa ?_
  refine osa_next I.kIn ho hns hw (by rw [List.length_map]; omega) hcl (mro_pass T C) rfl (mro_ob T C) rfl hno ?_
  intro h' tk' k hn
  have hd : ∃ o, h'.get? dx = some o := by
    obtain ⟨o, _, _, e', _⟩ := hn
    exact ⟨o, e'⟩
  exact h _ (I.write (t' := tk') (x := dx) (e := dx) (o := exd dx ((f, y) :: fs)) (by rw [ed]; exact True.intro) (.inl rfl) k hd (exd_ok hn (relO_put ry rel)))
/-- B.__init__(self, ..) -/
theorem init_up {us : List Value} {Q : Value → Shared → Prop} (T : ExB B newId initId bm) (O : OexB X.K C newId bm) (I : Inv X pins σ H s) (e : H a = some (exo a C none)) (hl : us.length ≤ sizeLine) (h : ∀ s', Inv X pins σ H s' → Q .none s') :
    wpAny (model X.prog X.w) A (call (.builtin initId) (.ref a :: us)) Q E s := by
  obtain ⟨nm, q, N, bs, sn, sub, ab, col, dd, k0, k1, k2, k3, k5, hC⟩ := O.cls
  obtain ⟨t1, ho⟩ := exo_at I.hok e
  obtain ⟨hp, g, dr, tk, os⟩ := s
  refine wpAny_call (HandSPX.init_base T.F (fun Y => rfl) (I.kIn _ _ hC) ho hl fun h' t2 k hx => ?_)
  have J := I.write (t' := tk) (x := a) (e := a) (o := exo a C none) (by rw [e]; exact True.intro) (.inl rfl) k ⟨_, hx⟩ (exo_ok hx)
  have eu : upd H a (exo a C none) = H := by
    funext b
    by_cases hb : b = a
    · rw [hb, upd_same, e]
    · rw [upd_ne hb]
  rw [eu] at J
  exact h _ J
end
/-- B.__init__(self, ..) -/
def tUp (K : PySem.W.Frag) (newId : String) (bm : List Value) (ta : TA) : TE := fun σ H Q => ta σ H fun vs H1 => ∃ (a C : Addr) (ws : List V), vs = .ref a :: ws ∧ ws.length ≤ 1000 ∧ OexB K C newId bm ∧ H1 a = some (exo a C none) ∧ Q .non H1
/-- self.f = e -/
def tPut (K : PySem.W.Frag) (newId : String) (bm : List Value) (f : Str) (to te : TE) : TS := fun D σ H => te σ H fun y H1 => to σ H1 fun x H2 => ∃ a C : Addr, x = .ref a ∧ OexB K C newId bm ∧ PySem.W.findIn K (.ref C) f = some none ∧
  ((H2 a = some (exo a C none) ∧ ∀ dx, H2 dx = none → dx ≠ a → D.nx σ (upd (upd H2 dx (exd dx [(f, y)])) a (exo a C (some dx)))) ∨
    ∃ (dx : Addr) (fs : List (Str × V)), H2 a = some (exo a C (some dx)) ∧ H2 dx = some (exd dx fs) ∧ fs.length ≤ 900 ∧ D.nx σ (upd H2 dx (exd dx ((f, y) :: fs))))
section
variable {X : Cx} {o e : Expr} {es : List Expr} {to te : TE} {ta : TA} {f : Str} {p p' p1 p2 pos : Pos} {B newId initId : String} {bm : List Value} {bs : Str}
theorem pe_up {pl : Sem Bool} (T : ExB B newId initId bm) (hg : Gl X bs) (hm : X.mg bs = none) (hv : bootBuiltins bs = some (.type B)) (ty : typeOf (.type B) = pure (.type "type"))
    (vV : PySem.W.findCls X.K (.type B) (.type "type") "__init__" = some (.val (.builtin initId))) (ha : PA X (e :: es) ta) (h1 : (bs == ("__debug__" : Str)) = false := by decide) (h2 : bs ≠ "__name__" := by decide)
    (ga : Manifest.isStub B = false := by decide +kernel) (hh : PySem.W.handedIn (.builtin initId) = true := by decide +kernel)
    (hc : eval (.Call (.Attribute (.Name bs p1) "__init__" p2) (e :: es) [] pos) X.env = (do
      let ov ← eval (.Name bs p1) X.env
      standAt p2.atName
      let (f, first) ← holding [ov] (getMethod ov "__init__" pl)
      callWith pos f first (backTo pos (starEach (e :: es) X.env)) (backToKw pos (keywordEach [] X.env))) := by rfl)
    (he : starEach (e :: es) X.env = (false, eval e X.env) :: starEach es X.env := by rfl) (hpl : (backTo pos (starEach es X.env)).any (·.1) = false := by rfl) :
    PE X (.Call (.Attribute (.Name bs p1) "__init__" p2) (e :: es) [] pos) (tUp X.K newId bm ta) := by
  refine ⟨fun pins s σ H Q I h => ?_⟩
  refine PySem.W.methodCall_KW (ld_blt I hg hm hv ?_ h2 h1) hc
  obtain ⟨m, fr⟩ := I.fr
  refine PySem.W.method_type fr I.ok.mod.kin ty ga vV hh ?_
  show wpAny _ _ (callWith pos (Value.builtin initId) [] (backTo pos (starEach (e :: es) X.env)) []) _ _ _
  refine PyProof.Rows.callWith_method1 (thn (ha.run pos pins _ σ H _ (I.tok _) h) fun us s1 z => ?_) he hpl
  obtain ⟨vs, H1, I1, r1, a, C, ws, ev, hl, O, ea, q⟩ := z
  subst ev
  cases r1 with
  | @cons _ u0 _ ur ra rw' =>
    obtain rfl : u0 = Value.ref a := ra
    have hlen : ur.length ≤ sizeLine := by
      rw [← Paired.length rw', sizeLine_eq]
      omega
    exact init_up T O I1 ea hlen fun s' J => ⟨.non, H1, J, rfl, q⟩
theorem ps_put (T : ExB B newId initId bm) (ho : PE X o to) (he : PE X e te) (hs : swapsWith e (some (.Attribute o f p')) pos.line X.env = pure false := by rfl) : PS X (.Assign [.Attribute o f p'] e pos) (tPut X.K newId bm f to te) := by
  refine ⟨fun pins s σ H D I h => ?_⟩
  refine plainObj_wpAny_Assign_Attribute (thn (he.run pins s σ H _ I h) fun v s1 z1 => ?_) hs
  obtain ⟨y, H1, I1, r1, q1⟩ := z1
  refine thn (ho.run pins s1 σ H1 _ I1 q1) fun u s2 z2 => ?_
  obtain ⟨x, H2, I2, r2, a, C, rfl, O, hno, q⟩ := z2
  cases r2
  rcases q with ⟨ea, q⟩ | ⟨dx, fs, ea, ed, hl, q⟩
  · exact put_first T O I2 ea hno r1 fun dx s' n ne J => ⟨σ, _, J, q dx n ne⟩
  · exact put_next T O I2 ea ed hl hno r1 fun s' J => ⟨σ, _, J, q⟩
/-- C(e, ..) of an own exception class whose __init__ keeps sp, to be raised -/
theorem pmk_up {CX : CXT} {x : Str} {C fI : Addr} {k : Nat} {fd : FuncData} {ps : List Str} {sp : Sp} {ds : List Value} {dvs : List V} (T : ExB B newId initId bm) (O : OexB X.K C newId bm) (iC : PySem.W.findIn X.K (.ref C) "__init__" = some (some (.ref fI))) (tI : PySem.W.typeIn X.K (.ref fI) = some (.type "function"))
    (F1 : FnOk X.prog X.w X.K X.mg X.base CX k fI fd ps sp) (hr : Room (k + 1) X.A) (hb : Binds X.K fd ps ds) (hd : Vals dvs ds) (hx : Passes CX X (fun _ _ _ => False)) (hg : Gl X x) (hm : X.mg x = some (.ref C)) (ha : PA X (e :: es) ta)
    (hdb : (x == ("__debug__" : Str)) = false := by decide) (he : starEach (e :: es) X.env = (false, eval e X.env) :: starEach es X.env := by rfl) (hpl : (backTo pos (starEach es X.env)).any (·.1) = false := by rfl) :
    PMk X (.Call (.Name x p) (e :: es) [] pos) (tMkO C sp dvs ta) := by
  intro pins s σ H Q I h
  obtain ⟨nm, q, N, bs, sn, sub, ab, col, dd, k0, k1, k2, k3, k5, hC⟩ := O.cls
  refine wpAny_Call_Name_kw (ld_glob I hg hm ?_ hdb)
  refine PySem.W.callWith_K (h₀ := X.base) I.ok.mod.kin O.kC (thn (ha.run pos pins s σ H _ I h) fun us s1 z => ?_) he hpl
  obtain ⟨vs, H1, I1, r1, hz, q1⟩ := z
  refine ⟨I1.kIn, ?_⟩
  show wpAny _ _ (call (.ref C) us) _ _ _
  obtain ⟨hp, g, dr, tk, os⟩ := s1
  have hsz : hp.objs.size ≤ hp.objs.size + 1 := Nat.le_succ _
  have hq := q1 (hp.objs.size + 1) (I1.hok.fresh hsz)
  generalize hG : (hp.push (PySem.W.kdv_tup us)).push (HandSPX.excO C hp.objs.size) = G
  have kk : ∀ b o, hp.get? b = some o → G.get? b = some o := fun b o e => by rw [← hG]; exact Heap.get?_push_of_some _ (Heap.get?_push_of_some _ e)
  have hget : G.get? (hp.objs.size + 1) = some (HandSPX.excO C hp.objs.size) := by rw [← hG]; heap_get
  have I2 : Inv X pins σ (upd H1 (hp.objs.size + 1) (exo (hp.objs.size + 1) C none)) ⟨G, g, dr, tk, os⟩ :=
    I1.laid (t' := tk) (a := hp.objs.size + 1) (o := exo (hp.objs.size + 1) C none) (h' := G) kk hsz (exo_ok hget)
  have r2 : Vals (V.ref (hp.objs.size + 1) :: (vs ++ dvs)) (Value.ref (hp.objs.size + 1) :: (us ++ ds)) := .cons rfl (r1.append hd)
  have hl : (Value.ref (hp.objs.size + 1) :: us ++ ds).length = ps.length := r2.length.symm.trans (F1.len _ _ _ _ hq)
  have hus : us.length ≤ sizeLine := by
    rw [← Paired.length r1, sizeLine_eq]; omega
  have call := F1.run _ X.stack _ _ ⟨Value.ref (hp.objs.size + 1) :: us, []⟩ (Value.ref (hp.objs.size + 1) :: (us ++ ds)) _ _ (fun _ _ _ => False) (hr.make C us []) (I2.env0.make C us []) (hb _ (Value.ref (hp.objs.size + 1) :: us) I2.kIn hl) r2 hq
  refine wpAny_call (HandSPX.call_own T.F (fun Y => rfl) (I1.kIn _ _ hC) (PySem.W.looks_findIn I1.kIn iC) (fun self => PySem.W.bind_fn I1.kIn self tI) hus ?_)
  rw [hG]
  refine codeAny_mono call fun r s' z => ?_
  rcases r with er | (_ | _ | _ | u)
  · exact hx pins σ _ _ er s' I2 z
  all_goals first | exact False.elim z | skip
  obtain ⟨v, H2, os2, bare2, un2, hok2, rv, ev, d, fs, ea, ed, hd1, q2⟩ := z
  subst ev
  obtain ⟨h2, g2, d2, t2, os'⟩ := s'
  exact ⟨rv, mk_end (raises_own O.exC O.tyC) I1 hsz kk un2 hok2 os2 bare2 ea ed hd1 q2⟩
end
end Fw

namespace Fw
open PySem PySem.Spec PyProof.Rows L2
/-! ### calls of defs that may let an exception out -/
def tCallSd (sp : Sp) (dvs : List V) (E : L2.St → XK) (t : TA) : TE := fun σ H Q => t σ H fun vs H1 => sp (vs ++ dvs) H1 Q (E σ)
def tCallNS (n m : Nat) (sp : Sp) (gV : List V → List V → List V) (E : L2.St → XK) (t tk : TA) : TE := fun σ H Q => t σ H fun vs H1 => tk σ H1 fun zs H2 => vs.length = n ∧ zs.length = m ∧ sp (gV vs zs) H2 Q (E σ)
section
variable {X : Cx} {W : WX} {k n : Nat} {x : Str} {ps : List Str} {dvs : List V} {sp : Sp} {p pos : Pos} {e : Expr} {es : List Expr} {t tk : TA} {ks : List Str} {gV : List V → List V → List V} {kws : List Keyword}
theorem pe_dnS (D : Dn X.prog X.w X.K X.mg X.base (L2.CX X.prog X.w) k x ps dvs sp) (tk : Takes X W) (hr : Room k X.A) (hg : Gl X x) (ha : PA X (e :: es) t)
    (hdb : (x == ("__debug__" : Str)) = false := by decide) (he : starEach (e :: es) X.env = (false, eval e X.env) :: starEach es X.env := by rfl)
    (hpl : (backTo pos (starEach es X.env)).any (·.1) = false := by rfl) : PE X (.Call (.Name x p) (e :: es) [] pos) (tCallSd sp dvs (WE W) t) := by
  obtain ⟨f, fd, ds, F, hm, hk, hb, hd⟩ := D.ex
  refine ⟨fun pins s σ H Q I h => ?_⟩
  refine wpAny_Call_Name_kw (ld_glob I hg hm ?_ hdb)
  refine PySem.W.callWith_K (h₀ := X.base) I.ok.mod.kin hk (thn (ha.run pos pins s σ H _ I h) fun us s1 z => ?_) he hpl
  obtain ⟨vs, H1, I1, r, q⟩ := z
  refine ⟨I1.kIn, ?_⟩
  have r2 : Vals (vs ++ dvs) (us ++ ds) := r.append hd
  have hl : (us ++ ds).length = ps.length := r2.length.symm.trans (F.len _ _ _ _ q)
  refine wpAny_call (codeAny_mono (F.run X.A X.stack s1 H1 ⟨us, []⟩ (us ++ ds) (vs ++ dvs) Q _ hr I1.env0 (hb s1 us I1.kIn hl) r2 q) fun r s' hq => ?_)
  rcases r with er | (_ | _ | _ | u)
  · exact passAt tk σ pins H1 s1 er s' I1 hq
  all_goals first | exact I1.after hq | exact False.elim hq
theorem pe_dkS (D : Dk X.prog X.w X.K X.mg X.base (L2.CX X.prog X.w) k x n ks gV sp) (tkk : Takes X W) (hr : Room k X.A) (hg : Gl X x) (ha : PA X (e :: es) t) (hkw : PK X kws tk)
    (hall : (backToKw pos (keywordEach kws X.env)).all (·.1.isSome) = true := by rfl) (hks : (backToKw pos (keywordEach kws X.env)).filterMap (·.1) = ks := by rfl)
    (hdb : (x == ("__debug__" : Str)) = false := by decide) (he : starEach (e :: es) X.env = (false, eval e X.env) :: starEach es X.env := by rfl)
    (hpl : ((backTo pos (starEach (e :: es) X.env)).any (·.1) || (backToKw pos (keywordEach kws X.env)).any (·.1.isNone)) = false := by rfl) :
    PE X (.Call (.Name x p) (e :: es) kws pos) (tCallNS n ks.length sp gV (WE W) t tk) := by
  obtain ⟨f, fd, ps, g, F, hm, hk, hb⟩ := D.ex
  refine ⟨fun pins s σ H Q I h => ?_⟩
  refine wpAny_Call_Name_kw (ld_glob I hg hm ?_ hdb)
  refine PySem.W.callWith_KW (h₀ := X.base) I.ok.mod.kin hk hall (thn (ha.run pos pins s σ H _ I h) fun us s1 z1 => ?_) hpl he
  obtain ⟨vs, H1, I1, r, q⟩ := z1
  refine thn (hkw.run pos pins s1 σ H1 _ I1 q) fun ws s2 z2 => ?_
  obtain ⟨zs, H2, I2, rz, l1, l2, q2⟩ := z2
  refine ⟨I2.kIn, ?_⟩
  rw [hks]
  have r2 := hb.rel r rz
  refine wpAny_call (codeAny_mono (F.run X.A X.stack s2 H2 ⟨us, ks.zip ws⟩ (g us ws) (gV vs zs) Q _ hr I2.env0 (hb.to s2 us ws I2.kIn (r.length.symm.trans l1) (rz.length.symm.trans l2)) r2 q2) fun r s' hq => ?_)
  rcases r with er | (_ | _ | _ | u)
  · exact passAt tkk σ pins H2 s2 er s' I2 hq
  all_goals first | exact I2.after hq | exact False.elim hq
end
/-! ### own exception classes, raised -/
/-- the class that the module's name x holds is raised by x(e, ..): its __init__ keeps sp -/
structure Rz (P : Program) (w : World) (K : PySem.W.Frag) (mg : Str → Option Value) (base : Heap) (k : Nat) (x : Str) (C : Addr) (sp : Sp) : Prop where
  ex : ∃ (B newId initId : String) (bm : List Value) (fI : Addr) (fd : FuncData) (ps : List Str), ExB B newId initId bm ∧ OexB K C newId bm ∧ PySem.W.findIn K (.ref C) "__init__" = some (some (.ref fI)) ∧ PySem.W.typeIn K (.ref fI) = some (.type "function") ∧
    FnOk P w K mg base CX0 k fI fd ps sp ∧ Binds K fd ps [] ∧ mg x = some (.ref C)
theorem pm_rz {X : Cx} {k : Nat} {x : Str} {C : Addr} {sp : Sp} {e : Expr} {es : List Expr} {ta : TA} {p pos : Pos} (D : Rz X.prog X.w X.K X.mg X.base k x C sp) (hr : Room (k + 1) X.A) (hg : Gl X x) (ha : PA X (e :: es) ta)
    (hdb : (x == ("__debug__" : Str)) = false := by decide) (he : starEach (e :: es) X.env = (false, eval e X.env) :: starEach es X.env := by rfl) (hpl : (backTo pos (starEach es X.env)).any (·.1) = false := by rfl) :
    PMk X (.Call (.Name x p) (e :: es) [] pos) (tMkO C sp [] ta) := by
  obtain ⟨B, newId, initId, bm, fI, fd, ps, T, O, iC, tI, F, hb, hm⟩ := D.ex
  exact pmk_up T O iC tI F hr hb .nil pass0 hg hm ha hdb he hpl
/-- what the class says, as a Bool -/
def oexIn (K : PySem.W.Frag) (C : Addr) (newId : String) (bm : List Value) : Bool := match K.lookup C with
  | some ⟨.type "type", _, .cls cd, sl⟩ => (match cd.mro, sl.toList with
    | .ref C' :: bm', [_, _, _, _, some (.builtin n), _] => C' == C && n == newId && !cd.hasDel && cd.hasDict && decide (bm' = bm)
    | _, _ => false)
  | _ => false
theorem oexIn_ok {K : PySem.W.Frag} {C : Addr} {newId : String} {bm : List Value} (q : oexIn K C newId bm = true) : ∃ nm q N bs sn sub ab col dd k0 k1 k2 k3 k5, K.lookup C = some (excClassObj nm q C N bs bm true sn sub ab col dd k0 k1 k2 k3 k5 newId) := by
  unfold oexIn at q
  split at q
  · rename_i dd cd sl ho
    split at q
    · rename_i C' bm' k0 k1 k2 k3 n k5 hm hs
      simp only [Bool.and_eq_true, beq_iff_eq, Bool.not_eq_true', decide_eq_true_eq] at q
      obtain ⟨⟨⟨⟨rfl, rfl⟩, hdel⟩, hdi⟩, rfl⟩ := q
      obtain ⟨nm, bs, mro, ns, qn, hd, sn, sub, ab, col, del⟩ := cd
      dsimp only at hm hdel hdi
      subst hm hdel hdi
      have hsl : sl = #[k0, k1, k2, k3, some (.builtin n), k5] := by
        obtain ⟨l⟩ := sl
        simp only at hs
        rw [hs]
      subst hsl
      exact ⟨nm, qn, ns, bs, sn, sub, ab, col, dd, k0, k1, k2, k3, k5, ho⟩
    · cases q
  · cases q
def oexB (K : PySem.W.Frag) (C : Addr) (newId : String) (bm : List Value) : Bool :=
  oexIn K C newId bm && decide (PySem.W.findIn K (.ref C) "__setattr__" = some (some (.builtin "object.__setattr__"))) && decide (PySem.W.subIn K (.ref C) (.type "BaseException") = some true) && decide (PySem.W.typeIn K (.ref C) = some (.type "type")) && PySem.W.keepIn K (.ref C)
theorem oexB_ok {K : PySem.W.Frag} {C : Addr} {newId : String} {bm : List Value} (h : oexB K C newId bm = true) : OexB K C newId bm := by
  unfold oexB at h
  simp only [Bool.and_eq_true, decide_eq_true_eq] at h
  obtain ⟨⟨⟨⟨h1, h2⟩, h3⟩, h4⟩, h5⟩ := h
  exact ⟨oexIn_ok h1, h2, h3, h4, h5⟩
/-- an own exception class with an own __init__ at fI that stores the field f: all that is asked, as a Bool -/
def ownB (K : PySem.W.Frag) (C fI : Addr) (B newId initId : String) (bm : List Value) (f : Str) : Bool :=
  oexB K C newId bm && excKB K C && decide (PySem.W.findIn K (.ref C) "__init__" = some (some (.ref fI))) && decide (PySem.W.typeIn K (.ref fI) = some (.type "function")) && decide (PySem.W.findIn K (.ref C) f = some none) &&
    (match PySem.W.findCls K (.type B) (.type "type") "__init__" with | some (.val (.builtin n)) => n == initId | _ => false)
structure Own (K : PySem.W.Frag) (C fI : Addr) (B newId initId : String) (bm : List Value) (f : Str) : Prop where
  O : OexB K C newId bm
  k : ExcK K C
  iC : PySem.W.findIn K (.ref C) "__init__" = some (some (.ref fI))
  tI : PySem.W.typeIn K (.ref fI) = some (.type "function")
  no : PySem.W.findIn K (.ref C) f = some none
  up : PySem.W.findCls K (.type B) (.type "type") "__init__" = some (.val (.builtin initId))
theorem ownB_ok {K : PySem.W.Frag} {C fI : Addr} {B newId initId : String} {bm : List Value} {f : Str} (h : ownB K C fI B newId initId bm f = true) : Own K C fI B newId initId bm f := by
  unfold ownB at h
  simp only [Bool.and_eq_true, decide_eq_true_eq] at h
  obtain ⟨⟨⟨⟨⟨h1, h2⟩, h3⟩, h4⟩, h5⟩, h6⟩ := h
  refine ⟨oexB_ok h1, excKB_ok h2, h3, h4, h5, ?_⟩
  split at h6
  · rename_i n e
    rw [e, eq_of_beq h6]
  · cases h6
/-- __init__ of one field -/
def spIni (C : Addr) (f : Str) : Sp := fun vs H Q _ => ∃ (a : Addr) (v : V), vs = [.ref a, v] ∧ H a = some (exo a C none) ∧ ∀ dx, H dx = none → dx ≠ a → Q .non (upd (upd H dx (exd dx [(f, v)])) a (exo a C (some dx)))
/-- x(e) raised: what is wished of the exception -/
theorem mk_ini {C : Addr} {f : Str} {v : V} {H1 : Hp} {Q : XK} (h : ∀ d H2, H1 d = none → (∀ b o, H1 b = some o → H2 b = some o) → (∀ b, b ≠ d → H2 b = H1 b) → H2 d = some (.xd [(f, v)]) → Q (.ref C) (some d) H2) :
    [v].length ≤ 1000 ∧ ∀ a, H1 a = none → spIni C f (.ref a :: ([v] ++ [])) (upd H1 a (exo a C none))
      (fun u H2 => u = .non ∧ ∃ (d : Addr) (fs : List (Str × V)), H2 a = some (exo a C (some d)) ∧ H2 d = some (exd d fs) ∧ H1 d = none ∧ Q (.ref C) (some d) (upd (del H2 a) d (.xd fs))) (fun _ _ _ => False) := by
  refine ⟨by show 1 ≤ 1000; omega, fun a ha => ⟨a, v, rfl, upd_same, fun dx hd hn => ⟨rfl, dx, [(f, v)], upd_same, ?_, ?_, ?_⟩⟩⟩
  · rw [upd_ne hn, upd_same]
  · rw [upd_ne hn] at hd; exact hd
  · rw [upd_ne hn] at hd
    have far : ∀ b, b ≠ dx → upd (del (upd (upd (upd H1 a (exo a C none)) dx (exd dx [(f, v)])) a (exo a C (some dx))) a) dx (.xd [(f, v)]) b = H1 b := fun b hb => by
      rw [upd_ne hb]
      by_cases c : b = a
      · subst c
        rw [ha]
        exact del_same
      · rw [del_ne c, upd_ne c, upd_ne hb, upd_ne c]
    exact h dx _ hd (fun b o e => by rw [far b (ne_of_none e hd)]; exact e) far upd_same
/-! ### text[::-1] -/
def revS (z : Str) : Str := ⟨z.cps.toList.reverse.toArray⟩
theorem revS_len (z : Str) : (revS z).length = z.length := by
  show (z.cps.toList.reverse.toArray).size = z.cps.size
  simp
theorem pick_rev (z : Str) : ((Builtin.Str.strSliceIndices none none (-1) z.length).filterMap (z.cps[·]?)).toArray = z.cps.toList.reverse.toArray := by
  have e : Builtin.Str.strSliceIndices none none (-1) z.length = (List.range z.cps.size).reverse := by
    show sliceRange ((z.cps.size : Int) - 1) (-1) (-1) = _
    rw [PySem.W.krv_sliceRange, PySem.W.krv_range]
  rw [e, List.filterMap_reverse, PySem.W.krv_all]
def tRevS (te : TE) : TE := fun σ H Q => te σ H fun x H1 => ∃ z, x = .str z ∧ z.length ≤ sizeLine ∧ Q (.str (revS z)) H1
theorem pe_revS {X : Cx} {e : Expr} {te : TE} {k : Nat} {p1 p2 p3 pos : Pos} (he : PE X e te) : PE X (.Subscript e (.Slice none none (some (.UnaryOp .USub (.Constant (.int 1) k p1) p2)) p3) pos) (tRevS te) := by
  refine ⟨fun pins s σ H Q I h => ?_⟩
  refine Subscript_ (thn (he.run pins s σ H _ I h) fun v s1 z1 => ?_)
  obtain ⟨x, H1, I1, r1, z, rfl, hz, q⟩ := z1
  obtain ⟨t, rfl⟩ := r1
  have hst : PO X (some (.UnaryOp .USub (.Constant (.int 1) k p1) p2)) (tPart (tUn (rU fun i => .int (-i)) (tC (.int 1)))) := po_some (pe_un un_neg pe_int)
  refine wpAny_Slice (thn (po_none.run pins s1 σ H1 (fun o H2 => o = none ∧ H2 = H1) I1 ⟨rfl, rfl⟩) fun vl s2 z2 => ?_)
  obtain ⟨l, H2, I2, pl, rfl, rfl⟩ := z2
  refine thn (po_none.run pins s2 σ H2 (fun o H3 => o = none ∧ H3 = H2) I2 ⟨rfl, rfl⟩) fun vu s3 z3 => ?_
  obtain ⟨u, H3, I3, pu, rfl, rfl⟩ := z3
  refine thn (hst.run pins s3 σ H3 (fun o H4 => o = some (-1) ∧ H4 = H3) I3 ⟨1, rfl, -1, rfl, rfl, rfl⟩) fun vs s4 z4 => ?_
  obtain ⟨o, H4, I4, ps, rfl, rfl⟩ := z4
  have I5 : Inv X pins σ H4 { s4 with heap := s4.heap.push { cls := .type "slice", data := .fields #[vl, vu, vs] } } := I4.kept (t' := s4.toks) fun b ob q => Heap.get?_push_of_some _ q
  show wpAny (model X.prog X.w) X.A (subscriptTail e (.Slice none none (some (.UnaryOp .USub (.Constant (.int 1) k p1) p2)) p3) (.str z t) (.ref s4.heap.objs.size)) (EP X pins σ Q) X.xe { s4 with heap := s4.heap.push { cls := .type "slice", data := .fields #[vl, vu, vs] } }
  refine tail_any (ops := [.str z t, .ref s4.heap.objs.size]) (typeIs_str _ _ _) (PySem.F.slot_str_getitem.lookup) ?_ (by with_unfolding_all rfl)
  obtain ⟨l, rfl, el⟩ := IsPart.raw pl
  obtain ⟨u, rfl, eu⟩ := IsPart.raw pu
  obtain ⟨w, rfl, ew⟩ := IsPart.raw ps
  refine wpAny_getItem_str_slice (l := l) (u := u) (st := w) ⟨_, Heap.get?_push_size _ rfl, rfl, rfl⟩ (by rw [ew]; rfl) ?_
  unfold sliceMade slicePicked
  rw [el, eu, ew]
  show Made.post (if ((-1 : Int) == 1 && _) = true then _ else Made.str ⟨((Builtin.Str.strSliceIndices none none (-1) z.length).filterMap (z.cps[·]?)).toArray⟩) _ _
  rw [if_neg (by simp), pick_rev]
  exact ⟨by show (revS z).length ≤ sizeLine; rw [revS_len]; exact hz, .str (revS z), H4, I5.tok _, ⟨_, rfl⟩, q⟩
end Fw
namespace Fw
open PySem PySem.Spec PyProof.Rows L2
/-! ### // of any ints; a def in a slot -/
def CDivA (_ j : Int) : Prop := j ≠ 0 ∧ j.natAbs.log2 < 9000
theorem op_fdivA {X : Cx} : OpR X (binaryOp .FloorDiv) (rI CDivA fun i j => .int (i.fdiv j)) := opI fun _ _ _ _ _ _ _ hc q => floordiv_int hc.1 q (.inl (PyProof.noPylong_of_log2 hc.2))
theorem divP {i j : Int} (h : 0 < j) (hb : j.natAbs.log2 < 9000) : CDivP i j := ⟨h, PyProof.noPylong_of_log2 hb⟩
def tCallR (i : Nat) (S : Addr → Sp → Prop) (t : TA) : TE := fun σ H Q => ∃ f sp, σ[i]? = some (some (.ref f)) ∧ S f sp ∧ t σ H fun vs H1 => sp vs H1 Q (fun _ _ _ => False)
theorem pe_callR {X : Cx} {k i : Nat} {x : Str} {p pos : Pos} {e : Expr} {es : List Expr} {t : TA} {S : Addr → Sp → Prop} (A : ∀ f sp, S f sp → Held X.prog X.w X.K X.mg X.base k f sp) (hr : Room k X.A) (hN : X.N[i]? = some x) (hv : Vis X.env.scope x) (ha : PA X (e :: es) t)
    (hdb : (x == ("__debug__" : Str)) = false := by decide) (hcd : (x == ("__classdict__" : Str)) = false := by decide)
    (he : starEach (e :: es) X.env = (false, eval e X.env) :: starEach es X.env := by rfl) (hpl : (backTo pos (starEach es X.env)).any (·.1) = false := by rfl) : PE X (.Call (.Name x p) (e :: es) [] pos) (tCallR i S t) := by
  refine ⟨fun pins s σ H Q I h => ?_⟩
  obtain ⟨f, sp, hs, hS, ht⟩ := h
  obtain ⟨fd, ps, F, hk, hb⟩ := (A f sp hS).ex
  refine (pe_callL (i := i) (f := f) (sp := sp) (dvs := []) (E := fun _ _ _ => False) F hr hN hv hk hb .nil (fun _ _ _ _ _ _ _ z => z.elim) ha hdb hcd he hpl).run pins s σ H Q I ⟨hs, ?_⟩
  have e0 : (fun (vs : List V) (H1 : Hp) => sp (vs ++ []) H1 Q (fun _ _ _ => False)) = fun vs H1 => sp vs H1 Q (fun _ _ _ => False) := by
    funext vs H1
    rw [List.append_nil]
  show t σ H (fun vs H1 => sp (vs ++ []) H1 Q (fun _ _ _ => False))
  rw [e0]
  exact ht
end Fw
namespace Fw
open PySem PySem.Spec PyProof.Rows L2
/-! ### range(i, j), 0 ≤ i, j to nearly 2 ** 63 -/
theorem small_w {a b : Int} (ha : 0 ≤ a) (ha' : a < 2 ^ 62) (hb : 0 ≤ b) (hb' : b < 2 ^ 63 - 2) : Builtin.Range.small a b 1 = true := by
  unfold Builtin.Range.small
  rw [rangeSize_one]
  simp only [Builtin.Range.rangeFitsLong, Bool.and_eq_true, Bool.or_eq_true, decide_eq_true_eq, beq_iff_eq, show (1 : Int) > 0 by decide, if_true]
  split <;> omega
def iRng2W (ta : TA) : TI := fun σ H R => ta σ H fun vs H1 => ∃ i j : Int, vs = [.int i, .int j] ∧ (0 ≤ i ∧ i < 2 ^ 62 ∧ 0 ≤ j ∧ j < 2 ^ 63 - 2) ∧ R (Itr i (j - i).toNat) H1
/-- the range object -/
def rgO (lo hi : Int) (t u v : Tok) : Obj := { cls := .type "range", data := .fields #[.int lo t, .int hi u, .int 1 v] }
theorem range_itW {X : Cx} {tg : Expr} {pins : List (Addr × Obj)} {σ : L2.St} {H : Hp} {s : Shared} {R : It → Hp → Prop} {E : Value → Shared → Prop} {lo hi : Int} {t u v : Tok} {tk : Nat} (I : Inv X pins σ H s) (h1 : 0 ≤ lo) (h2 : lo < 2 ^ 62) (h3 : 0 ≤ hi) (h4 : hi < 2 ^ 63 - 2)
    (q : R (Itr lo (hi - lo).toNat) H) : wpAny (model X.prog X.w) X.A (pyIter (.ref s.heap.objs.size)) (PIE X pins σ tg R) E { s with heap := s.heap.push (rgO lo hi t u v), toks := tk } := by
  have J := I.kept (h' := s.heap.push (rgO lo hi t u v)) (t' := tk) fun b o e => Heap.get?_push_of_some _ e
  have hz : ((hi - lo).toNat : Int) - 0 = Builtin.Range.rangeSize lo hi 1 := by
    rw [rangeSize_one]
    split <;> omega
  refine wpAny_pyIter_range (IsRange.new ..) (small_w h1 h2 h3 h4) ?_
  generalize hn : (s.heap.push (rgO lo hi t u v)).objs.size = n
  refine ⟨_, [n], _, _, H, rfl, J.kept (t' := tk) (fun b o e => Heap.get?_push_of_some _ e), turn_range n lo (hi - lo).toNat, ?_, ?_, q⟩
  · show IsRangeIter _ n (lo + (0 : Int) * 1) (((hi - lo).toNat : Int) - 0) 1
    rw [hz, Int.zero_mul, Int.add_zero, ← hn]
    exact Heap.get?_push_size _ rfl
  · intro b hb
    rw [List.mem_singleton.mp hb, ← hn]
    exact J.fpOk (Nat.le_refl _) (J.hok.fresh (Nat.le_refl _))
theorem pi_range2W {X : Cx} {tg a b : Expr} {ta : TA} {p pos : Pos} (hg : Gl X "range") (hm : X.mg "range" = none) (ha : PA X [a, b] ta) (hs : starEach [a, b] X.env = (false, eval a X.env) :: starEach [b] X.env := by rfl) (hs2 : starEach [b] X.env = [(false, eval b X.env)] := by rfl) :
    PI X tg (.Call (.Name "range" p) [a, b] [] pos) (iRng2W ta) := by
  refine ⟨fun pins s σ H R I h => ?_⟩
  refine Call_ (ld_blt I hg hm boot_range (PyProof.Rows.callWith_type1 (thn (ha.run pos pins s σ H _ I h) fun us s1 z => ?_) (by rw [hs, hs2]) (by rw [hs2]; rfl)))
  obtain ⟨vs, H1, I1, r1, i, j, rfl, ⟨q1, q2, q3, q4⟩, q⟩ := z
  cases r1 with
  | cons r rr =>
    cases rr with
    | cons r' rr =>
      cases rr
      obtain ⟨t, rfl⟩ := r
      obtain ⟨t', rfl⟩ := r'
      exact call_range_2 (range_itW I1 q1 q2 q3 q4 q)
end Fw

namespace Lw
open PySem PySem.Spec PyProof.Rows L2 Fw
def top (i : Nat) : Stmt := PySem.Challenge.pw_formatwords_k25_where_two_modes_part.main.body.getD i (.Pass ⟨0, 0, 0, 0⟩)
abbrev FnP (K : PySem.W.Frag) (x : Str) (st : Stmt) (f : Addr) (fd : FuncData) : Prop := FunD K x x (defArgs st) (defBody st) (defScope st) [] [] f fd
/-! ### the feed -/
def fdK (c : Addr) (at_ left : Int) : List (Key × V) := [(.inr "cells", .ref c), (.inr "at", .int at_), (.inr "left", .int left)]
/-- a feed stands at p: at most n draws were made -/
def Feed (H : Hp) (p : Addr) (n : Nat) : Prop := ∃ (c : Addr) (ns : List Int) (at_ left : Int), H p = some (.dK (fdK c at_ left)) ∧ H c = some (.lst (ns.map V.int)) ∧ 0 ≤ at_ ∧ at_ ≤ n ∧ 0 ≤ left
/-- all but what stands at p is as it was; the feed at p keeps its cells -/
structure But (p : Addr) (H H' : Hp) : Prop where
  to : ∀ b o, H b = some o → b ≠ p → H' b = some o
  cells : ∀ c a l, H p = some (.dK (fdK c a l)) → ∃ a' l', H' p = some (.dK (fdK c a' l'))
instance {p : Addr} {H H' : Hp} : CoeFun (But p H H') fun _ => ∀ b o, H b = some o → b ≠ p → H' b = some o := ⟨But.to⟩
theorem But.refl (p : Addr) (H : Hp) : But p H H := ⟨fun _ _ h _ => h, fun _ a l h => ⟨a, l, h⟩⟩
theorem But.trans {p : Addr} {H H1 H2 : Hp} (a : But p H H1) (b : But p H1 H2) : But p H H2 := ⟨fun c o h n => b c o (a c o h n) n, fun c x y h => by
  obtain ⟨x', y', h'⟩ := a.cells c x y h
  exact b.cells c x' y' h'⟩
theorem But.of {p : Addr} {H H' : Hp} (h : ∀ b o, H b = some o → H' b = some o) : But p H H' := ⟨fun b o e _ => h b o e, fun c a l e => ⟨a, l, h _ _ e⟩⟩
theorem But.new {p q : Addr} {o : HO} {H : Hp} (h : H q = none) : But p H (upd H q o) := But.of fun b u e => by
  rw [upd_ne (ne_of_none e h)]; exact e
theorem But.at {p c : Addr} {a l : Int} {o : HO} {H : Hp} (h : H p = some (.dK (fdK c a l))) (ho : ∃ a' l', o = .dK (fdK c a' l')) : But p H (upd H p o) := by
  refine ⟨fun b u e n => by rw [upd_ne n]; exact e, fun c' a' l' e => ?_⟩
  obtain ⟨x, y, rfl⟩ := ho
  rw [h] at e
  have z := congrArg (fun o => match o with | some (HO.dK ((_, V.ref c) :: _)) => c | _ => 0) e
  have z' : c = c' := z
  subst z'
  exact ⟨x, y, upd_same⟩
theorem Same.but {p : Addr} {H H' : Hp} (a : Same H H') : But p H H' := But.of a
/-- something of one's own, made behind the feed, is changed -/
theorem Feed.put {H0 H : Hp} {p D : Addr} {n m : Nat} {o : HO} (F : Feed H0 p n) (hD : H0 D = none) (B : But p H0 H) (F2 : Feed H p m) : Feed (upd H D o) p m := by
  obtain ⟨c, ns, a, l, h1, h2, _⟩ := F
  obtain ⟨c', ns', a', l', g1, g2, g3, g4, g5⟩ := F2
  obtain ⟨x, y, e⟩ := B.cells c a l h1
  rw [g1] at e
  have z := congrArg (fun o => match o with | some (HO.dK ((_, V.ref c) :: _)) => c | _ => 0) e
  have z' : c' = c := z
  subst z'
  exact ⟨c', ns', a', l', by rw [upd_ne (ne_of_none h1 hD)]; exact g1, by rw [upd_ne (ne_of_none h2 hD)]; exact g2, g3, g4, g5⟩
/-- .. and so all else is as it was -/
theorem But.put {H0 H : Hp} {p D : Addr} {o : HO} (B : But p H0 H) (hD : H0 D = none) (hp : ∃ u, H0 p = some u) : But p H0 (upd H D o) := by
  obtain ⟨u, hu⟩ := hp
  refine ⟨fun b v e n => by rw [upd_ne (ne_of_none e hD)]; exact B b v e n, fun c a l e => ?_⟩
  obtain ⟨a', l', z⟩ := B.cells c a l e
  exact ⟨a', l', by rw [upd_ne (ne_of_none hu hD)]; exact z⟩
theorem Feed.mono {H : Hp} {p : Addr} {n m : Nat} (f : Feed H p n) (h : n ≤ m) : Feed H p m := by
  obtain ⟨c, ns, a, l, h1, h2, h3, h4, h5⟩ := f
  exact ⟨c, ns, a, l, h1, h2, h3, by omega, h5⟩
theorem Feed.same {H H' : Hp} {p : Addr} {n : Nat} (f : Feed H p n) (s : Same H H') : Feed H' p n := by
  obtain ⟨c, ns, a, l, h1, h2, h3, h4, h5⟩ := f
  exact ⟨c, ns, a, l, s _ _ h1, s _ _ h2, h3, h4, h5⟩
theorem same_new {H : Hp} {q : Addr} {o : HO} (h : H q = none) : Same H (upd H q o) := fun b u e => by
  rw [upd_ne (ne_of_none e h)]; exact e
theorem Feed.new {H : Hp} {p q : Addr} {o : HO} {n : Nat} (f : Feed H p n) (h : H q = none) : Feed (upd H q o) p n := f.same (same_new h)
theorem Feed.ex {H : Hp} {p : Addr} {n : Nat} (f : Feed H p n) : ∃ kvs, H p = some (.dK kvs) := by
  obtain ⟨c, ns, a, l, h1, _⟩ := f
  exact ⟨_, h1⟩
theorem Feed.ne {H : Hp} {p q : Addr} {n : Nat} {o : HO} (f : Feed H p n) (h : H q = some o) (ho : ∀ kvs, o ≠ .dK kvs) : q ≠ p := by
  obtain ⟨kvs, e⟩ := f.ex
  exact ne_of h e (ho kvs)
theorem s_ne1 : ¬ ("cells" : Str) = "at" := by decide +kernel
theorem s_ne2 : ¬ ("cells" : Str) = "left" := by decide +kernel
theorem s_ne3 : ¬ ("at" : Str) = "left" := by decide +kernel
theorem k_ne1 : ¬ (Sum.inr (Str.ofString "cells") : Key) = Sum.inr (Str.ofString "at") := fun e => s_ne1 (Sum.inr.inj e)
theorem k_ne2 : ¬ (Sum.inr (Str.ofString "cells") : Key) = Sum.inr (Str.ofString "left") := fun e => s_ne2 (Sum.inr.inj e)
theorem k_ne3 : ¬ (Sum.inr (Str.ofString "at") : Key) = Sum.inr (Str.ofString "left") := fun e => s_ne3 (Sum.inr.inj e)
theorem v_cells (c : Addr) (a l : Int) : valV (fdK c a l) (Sum.inr "cells") = some (.ref c) := by
  unfold fdK; rw [valV_pos rfl]
theorem v_at (c : Addr) (a l : Int) : valV (fdK c a l) (Sum.inr "at") = some (.int a) := by
  unfold fdK; rw [valV_neg k_ne1, valV_pos rfl]
theorem v_left (c : Addr) (a l : Int) : valV (fdK c a l) (Sum.inr "left") = some (.int l) := by
  unfold fdK; rw [valV_neg k_ne2, valV_neg k_ne3, valV_pos rfl]
theorem p_at (c : Addr) (a l b : Int) : putK (fdK c a l) (Sum.inr "at") (.int b) = fdK c b l := by
  unfold putK fdK
  rw [if_pos (by simp)]
  simp [s_ne1, Ne.symm s_ne3]
theorem p_left (c : Addr) (a l b : Int) : putK (fdK c a l) (Sum.inr "left") (.int b) = fdK c a b := by
  unfold putK fdK
  rw [if_pos (by simp)]
  simp [s_ne2, s_ne3]
theorem fdK_len (c : Addr) (a l : Int) : (fdK c a l).length < sizeLine := by
  show 3 < sizeLine
  decide
/-- a draw: some number from 0 on, less than m -/
def spDraw : Sp := fun vs H Q _ => ∃ (p : Addr) (m : Int) (n : Nat), vs = [.ref p, .int m] ∧ 0 < m ∧ m < 1073741824 ∧ Feed H p n ∧ n < 1000000000 ∧
  ∀ (r : Int) (H' : Hp), 0 ≤ r → r < m → Feed H' p (n + 1) → But p H H' → Q (.int r) H'
theorem dp_ints {K : PySem.W.Frag} {H : Hp} : ∀ ns : List Int, DpAll K H (ns.map V.int) (ns.map PyData.int)
  | [] => .nil
  | n :: r => .cons (.int n) (dp_ints r)
theorem lay_ints : ∀ ns : List Int, PyData.canLayAll0 (ns.map PyData.int) = true
  | [] => rfl
  | n :: r => by
    show (PyData.canLay0 (.int n) && PyData.canLayAll0 (r.map PyData.int)) = true
    rw [lay_ints r]; rfl
theorem depth_ints : ∀ ns : List Int, PyData.depthAll (ns.map PyData.int) = 0
  | [] => rfl
  | n :: r => by
    show max (PyData.depth (.int n)) (PyData.depthAll (r.map PyData.int)) = 0
    rw [depth_ints r]; rfl
theorem shaped_ints (ns : List Int) : SeqAt.shaped (.list (ns.map PyData.int)) = true := by
  show (PyData.canLayAll0 (ns.map PyData.int) && decide (PyData.depthAll (ns.map PyData.int) + 1 ≤ 64)) = true
  rw [lay_ints, depth_ints]; rfl
section
variable {P : Program} {w : World} {K : PySem.W.Frag} {mg : Str → Option Value} {base : Heap}
abbrev s_draw : Stmt := top 22
theorem sc__law_draw : FnScope ["_law_feed_here", "_law_many", "_law_digit", "_law_at", "_law_cell", "_law_number", "_law_turn"] ["_law_feed_here", "_law_many"] (defScope s_draw) :=
  ⟨rfl, rfl, rfl, by decide +kernel, rfl, by decide +kernel,
    by decide +kernel⟩
theorem ok_draw {f : Addr} {fd : FuncData} (F : FnP K "_law_draw" s_draw f fd) (mg_len : mg "len" = none) (mg_abs : mg "abs" = none) (mg_range : mg "range" = none) :
    FnOk P w K mg base CX0 1 f fd ["_law_feed_here", "_law_many"] spDraw := by
  refine F.ok sc__law_draw (fun vs H Q E h => ?_) (fun cdv A outer s H vs Q E hr h => ?_)
  · obtain ⟨p, m, n, rfl, _⟩ := h
    rfl
  · obtain ⟨p, m, n, rfl, hm, hm2, hF, hn, k⟩ := h
    have hu := hu_of hr
    refine ⟨_, PSs.nox (pss_cons (ps_if (pt_cmpR op_gt (pe_dget hu (pv 0) pe_str (fun _ _ => rfl)) pe_int (nomark _))
    (pss_cons (ps_set (i := 2) sc__law_draw.nd rfl (Or.inl rfl) (pe_op op_mod (pe_dget hu (pv 0) pe_str (fun _ _ => rfl)) (pv 1)))
      (pss_cons (ps_dput hu (pv 0) pe_str (pe_op op_fdiv (pe_dget hu (pv 0) pe_str (fun _ _ => rfl)) (pv 1)) rfl)
      (pss_one (ps_ret (pv 2)))))
    pss_nil)
  (pss_cons (ps_set (i := 3) sc__law_draw.nd rfl (Or.inl rfl) (pe_dget hu (pv 0) pe_str (fun _ _ => rfl)))
  (pss_cons (ps_dput hu (pv 0) pe_str (pe_op op_add (pv 3) pe_int) rfl)
  (pss_cons (ps_set (i := 4) sc__law_draw.nd rfl (Or.inl rfl) (pe_op op_add (pe_op op_mul (pv 3) (pv 3)) pe_int))
  (C8.pss_cut (ps_if (pt_cmpR (op_neD hr.units) (pe_dget hu (pv 0) pe_str (fun _ _ => rfl)) (pe_lst pa_nil) (nomark _))
    (pss_one (ps_set (i := 4) sc__law_draw.nd rfl (Or.inl rfl) (pe_ix ix_list (pe_dget hu (pv 0) pe_str (fun _ _ => rfl)) (pe_op op_mod (pv 3) (pe_callB call_len_seq (by rfl) mg_len (by decide +kernel) (pa_cons (pe_dget hu (pv 0) pe_str (fun _ _ => rfl)) pa_nil))) (fun _ _ => rfl))))
    pss_nil)
  (C8.pss_cut (ps_if (PW.pt (pw_and (pt_cmpR op_lt (pv 3) (pe_callB call_len_seq (by rfl) mg_len (by decide +kernel) (pa_cons (pe_dget hu (pv 0) pe_str (fun _ _ => rfl)) pa_nil)) (nomark _)) (pw_and1 (pt_cmpR op_ge (pe_callB call_abs (by rfl) mg_abs (by decide +kernel) (pa_cons (pv 4) pa_nil)) (pe_op op_pow pe_int pe_int) (nomark _)))))
    (pss_cons (ps_dput hu (pv 0) pe_str (pe_op op_fdiv (pe_callB call_abs (by rfl) mg_abs (by decide +kernel) (pa_cons (pv 4) pa_nil)) (pv 1)) rfl)
      (pss_one (ps_ret (pe_op op_mod (pe_callB call_abs (by rfl) mg_abs (by decide +kernel) (pa_cons (pv 4) pa_nil)) (pv 1)))))
    pss_nil)
  (pss_cons (ps_set (i := 5) sc__law_draw.nd rfl (Or.inl rfl) (pe_op op_mod (pe_op op_mul (pe_op op_add (pe_op op_add (pe_op op_mod (pv 4) pe_int) (pe_op op_mul pe_int (pv 3))) pe_int) pe_int) pe_int))
  (pss_cons (ps_for PassesOwn.never rfl (pi_range1 (by rfl) mg_range (pa_cons pe_int pa_nil)) (pg_name (i := 6) sc__law_draw.nd rfl (.inl rfl))
    (pss_cons (ps_set (i := 5) sc__law_draw.nd rfl (Or.inl rfl) (pe_op op_add (pe_op op_add (pe_op op_add (pe_op op_mul (pv 5) (pv 5)) (pe_op op_mul pe_int (pv 5))) (pv 3)) (pv 6)))
      (pss_one (ps_set (i := 5) sc__law_draw.nd rfl (Or.inl rfl) (pe_op op_mod (pv 5) pe_int)))))
  (pss_one (ps_ret (pe_op op_mod (pe_op op_fdiv (pv 5) pe_int) (pv 1)))))))))))), ?_⟩
    obtain ⟨c, ns, a, l, h1, h2, ha, han, hl⟩ := hF
    have g1 : ∀ H1 : Hp, H1 p = some (.dK (fdK c a l)) → DGet H1 p (.str "left") (some (.int l)) := fun H1 e => by
      have z := DGet.k (k := Sum.inr "left") e; rw [v_left] at z; exact z
    have g2 : ∀ (H1 : Hp) (a l : Int), H1 p = some (.dK (fdK c a l)) → DGet H1 p (.str "at") (some (.int a)) := fun H1 a l e => by
      have z := DGet.k (k := Sum.inr "at") e; rw [v_at] at z; exact z
    have g3 : ∀ (H1 : Hp) (a l : Int), H1 p = some (.dK (fdK c a l)) → DGet H1 p (.str "cells") (some (.ref c)) := fun H1 a l e => by
      have z := DGet.k (k := Sum.inr "cells") e; rw [v_cells] at z; exact z
    have ncp : c ≠ p := ne_of h2 h1 (by intro z; cases z)
    -- left > 0
    refine ⟨_, rfl, p, _, rfl, g1 H h1, _, _, rfl, rfl, _, rfl, ?_⟩
    refine ite2 (fun _ => ?_) (fun _ => ?_)
    · refine ⟨_, rfl, p, _, rfl, g1 H h1, _, rfl, _, _, rfl, rfl, hm, ?_⟩
      refine ⟨_, rfl, p, _, rfl, g1 H h1, _, rfl, _, _, rfl, rfl, ⟨hm, hm2⟩, _, rfl, p, _, rfl, DPut.k (k := Sum.inr "left") h1 (fdK_len _ _ _), ?_⟩
      refine ⟨_, rfl, ?_⟩
      refine k _ _ (Int.emod_nonneg _ (by omega)) (Int.emod_lt_of_pos _ hm) ⟨c, ns, a, l / m, ?_, ?_, ha, by omega, Int.ediv_nonneg hl (by omega)⟩ (But.at h1 ⟨_, _, by rw [p_left]⟩)
      · rw [upd_same, p_left]
      · rw [upd_ne ncp]; exact h2
    · -- at; at + 1
      refine ⟨_, rfl, p, _, rfl, g2 H a l h1, ?_⟩
      refine ⟨_, rfl, _, _, rfl, rfl, _, rfl, p, _, rfl, DPut.k (k := Sum.inr "at") h1 (fdK_len _ _ _), ?_⟩
      have e1 : upd H p (.dK (putK (fdK c a l) (Sum.inr "at") (.int (a + 1)))) = upd H p (.dK (fdK c (a + 1) l)) := by rw [p_at]
      rw [e1]
      generalize hH1 : upd H p (.dK (fdK c (a + 1) l)) = H1
      have i1 : H1 p = some (.dK (fdK c (a + 1) l)) := by rw [← hH1]; exact upd_same
      have i2 : H1 c = some (.lst (ns.map V.int)) := by rw [← hH1, upd_ne ncp]; exact h2
      have i3 : But p H H1 := by rw [← hH1]; exact But.at h1 ⟨_, _, rfl⟩
      refine ⟨_, rfl, _, rfl, _, _, rfl, rfl, .inl ⟨by omega, by omega⟩, _, _, rfl, rfl, ?_⟩
      -- behind the first if: some cell, the feed as it is but for a new list
      refine ⟨fun σ' H2 => ∃ z : Int, σ' = [some (.ref p), some (.int m), none, some (.int a), some (.int z), none, none] ∧ H2 p = some (.dK (fdK c (a + 1) l)) ∧ H2 c = some (.lst (ns.map V.int)) ∧ But p H H2, ?_, ?_⟩
      · refine ⟨_, rfl, p, _, rfl, g3 H1 _ _ i1, (by show 0 ≤ sizeLine; decide), fun q hq => ?_⟩
        have j1 := same_new (o := HO.lst []) hq _ _ i1
        have j2 := same_new (o := HO.lst []) hq _ _ i2
        have j3 : But p H (upd H1 q (.lst [])) := i3.trans (But.new hq)
        generalize hH2 : upd H1 q (.lst []) = H2 at j1 j2 j3 ⊢
        have jq : H2 q = some (.lst []) := by rw [← hH2]; exact upd_same
        refine ⟨_, _, .lst (SqL.of j2) (dp_ints ns), .lst (SqL.of jq) .nil, shaped_ints ns, rfl, _, rfl, ?_⟩
        cases ns with
        | nil =>
          refine iteF ?_
          exact ⟨_, rfl, j1, j2, j3⟩
        | cons n0 nr =>
          refine iteT ?_
          have hpos : (0 : Int) < (((n0 :: nr).map V.int).length : Int) := by simp
          have hlt := Int.emod_lt_of_pos a hpos
          have hge := Int.emod_nonneg a (Int.ne_of_gt hpos)
          obtain ⟨i, hi⟩ : ∃ i : Nat, a % (((n0 :: nr).map V.int).length : Int) = i := ⟨(a % (((n0 :: nr).map V.int).length : Int)).toNat, by omega⟩
          have hil : i < ((n0 :: nr).map V.int).length := by omega
          refine ⟨_, rfl, p, _, rfl, g3 H2 _ _ j1, _, rfl, _, rfl, p, _, rfl, g3 H2 _ _ j1, c, _, rfl, .inl (SqL.of j2), _, _, rfl, rfl, hpos, c, _, _, V.int ((n0 :: nr).getD i 0), rfl, rfl, SqL.of j2, ?_, ?_⟩
          · rw [hi]
            apply atI_nat
            rw [List.getElem?_map]
            rw [List.length_map] at hil
            rw [List.getD_eq_getElem?_getD, List.getElem?_eq_getElem hil]
            rfl
          · exact ⟨_, rfl, j1, j2, j3⟩
      · rintro σ' H2 ⟨z, rfl, j1, j2, j3⟩
        have fin : ∀ (r l' : Int) (H3 : Hp), 0 ≤ r → r < m → 0 ≤ l' → H3 p = some (.dK (fdK c (a + 1) l')) → H3 c = some (.lst (ns.map V.int)) → But p H H3 → Q (.int r) H3 := fun r l' H3 q1 q2 q3 q4 q5 q6 =>
          k r H3 q1 q2 ⟨c, ns, a + 1, l', q4, q5, by omega, by omega, q3⟩ q6
        refine ⟨fun σ' H2 => ∃ z : Int, σ' = [some (.ref p), some (.int m), none, some (.int a), some (.int z), none, none] ∧ H2 p = some (.dK (fdK c (a + 1) l)) ∧ H2 c = some (.lst (ns.map V.int)) ∧ But p H H2, ?_, ?_⟩
        · -- at < len(cells) and abs(cell) >= 10 ** 18
          refine ⟨_, rfl, _, rfl, p, _, rfl, g3 H2 _ _ j1, c, _, rfl, .inl (SqL.of j2), _, _, rfl, rfl, _, rfl, ?_⟩
          refine ite2 (fun _ => ?_) (fun _ => ?_)
          · refine ⟨_, rfl, _, rfl, _, _, rfl, rfl, ⟨by decide, by decide, by decide⟩, _, _, rfl, rfl, _, rfl, ?_⟩
            have habs : (0 : Int) ≤ (if z < 0 then -z else z) := by split <;> omega
            refine ite2 (fun _ => ?_) (fun _ => ?_)
            · refine ⟨_, rfl, _, rfl, _, rfl, _, _, rfl, rfl, ⟨hm, hm2⟩, _, rfl, p, _, rfl, DPut.k (k := Sum.inr "left") j1 (fdK_len _ _ _), ?_⟩
              refine ⟨_, rfl, _, rfl, _, rfl, _, _, rfl, rfl, hm, ?_⟩
              refine fin _ ((if z < 0 then -z else z) / m) _ (Int.emod_nonneg _ (by omega)) (Int.emod_lt_of_pos _ hm) (Int.ediv_nonneg habs (by omega)) (by rw [upd_same, p_left]) (by rw [upd_ne ncp]; exact j2) (j3.trans (But.at j1 ⟨_, _, by rw [p_left]⟩))
            · exact ⟨z, rfl, j1, j2, j3⟩
          · exact ⟨z, rfl, j1, j2, j3⟩
        · rintro σ' H2 ⟨z, rfl, j1, j2, j3⟩
          -- the number that is mixed
          have w1 := Int.emod_nonneg z (show (4294967311 : Int) ≠ 0 by decide)
          have w2 := Int.emod_lt_of_pos z (show (0 : Int) < 4294967311 by decide)
          refine ⟨_, rfl, _, _, rfl, rfl, (by show (0 : Int) < 4294967311; decide), _, rfl, _, _, rfl, rfl, .inl ⟨by decide, by decide⟩, _, _, rfl, rfl, _, _, rfl, rfl, _, _, rfl, rfl, .inr ⟨by decide, by decide⟩, _, _, rfl, rfl, (by show (0 : Int) < 4294967311; decide), ?_⟩
          have inv := fun (b : Int) => Int.emod_nonneg b (show (4294967311 : Int) ≠ 0 by decide)
          have inv2 := fun (b : Int) => Int.emod_lt_of_pos b (show (0 : Int) < 4294967311 by decide)
          refine ⟨3, rfl, by decide, by decide, for_range (lo := 0) (n := 3) (fun i σ' H' => H' = H2 ∧ ∃ (y : Int) (v : Option V), 0 ≤ y ∧ y < 4294967311 ∧ σ' = [some (.ref p), some (.int m), none, some (.int a), some (.int z), some (.int y), v])
            ⟨rfl, _, none, inv _, inv2 _, rfl⟩ ?_ ?_⟩
          · rintro i σ' H' hi ⟨rfl, y, v, y0, y1, rfl⟩
            refine ⟨_, rfl, _, rfl, _, _, rfl, rfl, .inl ⟨by omega, by omega⟩, _, rfl, _, _, rfl, rfl, .inl ⟨by decide, by decide⟩, _, _, rfl, rfl, _, rfl, _, _, rfl, rfl, _, rfl, _, _, rfl, rfl, ?_⟩
            refine ⟨_, rfl, _, _, rfl, rfl, (by show (0 : Int) < 4294967311; decide), ?_⟩
            exact ⟨rfl, _, _, inv _, inv2 _, rfl⟩
          · rintro σ' H' ⟨rfl, y, v, y0, y1, rfl⟩
            refine ⟨_, rfl, _, _, rfl, rfl, ⟨by decide, by decide⟩, _, rfl, _, _, rfl, rfl, hm, ?_⟩
            exact fin _ _ _ (Int.emod_nonneg _ (by omega)) (Int.emod_lt_of_pos _ hm) hl j1 j2 j3
end
end Lw

/-! ### the feed is made -/
namespace Lw
open PySem PySem.Spec PyProof.Rows L2 Fw
def spFeed (K : PySem.W.Frag) : Sp := fun vs H Q _ => ∃ (a : Addr) (ns : List Int), vs = [.ref a] ∧ SqL K H a (ns.map V.int) ∧ ns.length ≤ 63 ∧
  ∀ (p : Addr) (H' : Hp), H p = none → Same H H' → Feed H' p 0 → Q (.ref p) H'
theorem merge_fd (D : Addr) : mergeK [] [((Sum.inr (Str.ofString "cells") : Key), V.ref D), (Sum.inr (Str.ofString "at"), V.int 0), (Sum.inr (Str.ofString "left"), V.int 0)] = fdK D 0 0 := by
  simp [mergeK, putK, fdK, s_ne1, s_ne2, s_ne3]
theorem cut_ints (ns : List Int) (lo hi : Option Int) : ∃ ms : List Int, cutV (ns.map V.int) lo hi = ms.map V.int := by
  unfold cutV
  rw [List.length_map]
  exact ⟨(ns.drop _).take _, by rw [List.map_take, List.map_drop]⟩
theorem take_succ_of {α : Type} {l : List α} {i : Nat} {x : α} (h : l[i]? = some x) : l.take (i + 1) = l.take i ++ [x] := by
  rw [List.take_succ, h]; rfl
section
variable {P : Program} {w : World} {K : PySem.W.Frag} {mg : Str → Option Value} {base : Heap}
abbrev s_feed : Stmt := top 21
theorem sc__law_feed : FnScope ["_law_script", "_law_cell"] ["_law_script"] (defScope s_feed) :=
  ⟨rfl, rfl, rfl, by decide +kernel, rfl, by decide +kernel,
    by decide +kernel⟩
theorem ok_feed {f : Addr} {fd : FuncData} (F : FnP K "_law_feed" s_feed f fd) : FnOk P w K mg base CX0 1 f fd ["_law_script"] (spFeed K) := by
  refine F.ok sc__law_feed (fun vs H Q E h => ?_) (fun cdv A outer s H vs Q E hr h => ?_)
  · obtain ⟨a, ns, rfl, _⟩ := h
    rfl
  · obtain ⟨a, ns, rfl, hS, hlen, k⟩ := h
    refine ⟨_, PSs.nox (pss_one (ps_ret (pe_disp (pps_cons pe_str (pe_lc (own := [("_law_cell", 1)]) (g := gName 1) (tt := tYes) (by rfl) sc__law_feed.nd (pi_list (pe_slice sl_list (pv 0) po_none (po_some pe_int))) (blkOk_by (own := [("_law_cell", 1)]) (N := ["_law_script", "_law_cell"]) (sc := defScope (top 21)) (by decide +kernel)) (fun _ _ _ _ _ => (pg_name (i := 1) sc__law_feed.nd rfl (.inl rfl))) (fun _ _ _ _ _ => pts_nil) (fun _ _ _ _ _ => (pv 1))) (pps_cons pe_str pe_int (pps_cons pe_str pe_int pps_nil))) (by rfl) (by rfl) (fun z => by cases z) (by decide)))), ?_⟩
    intro p hp
    obtain ⟨ms, hms⟩ := cut_ints ns none (some 63)
    have s1 : Same H (upd H p (.dK [])) := same_new hp
    refine ⟨_, rfl, _, rfl, a, _, rfl, s1.seq hS, fun q hq => ⟨q, rfl, ⟨_, SqL.of upd_same⟩, fun D hD => ?_⟩⟩
    rw [hms] at hD ⊢
    have n1 : p ≠ q := ne_of_none upd_same hq
    have n2 : q ≠ D := ne_of_none upd_same hD
    have n3 : p ≠ D := ne_of_none (by rw [upd_ne n1]; exact upd_same) hD
    have hD0 : H D = none := (s1.trans (same_new hq)).free hD
    refine lc_list (K := K) (a := q) (xs := ms.map V.int) (fun i H' => Same H H' ∧ H' q = some (.lst (ms.map V.int)) ∧ H' p = some (.dK []) ∧ H' D = some (.lst ((ms.map V.int).take i)))
      ⟨(s1.trans (same_new hq)).trans (same_new hD), ?_, ?_, upd_same⟩ (fun i H' _ h => SqL.of h.2.1) ?_ ?_
    · rw [upd_ne n2, upd_same]
    · rw [upd_ne n3, upd_ne n1, upd_same]
    · rintro i x H' hx ⟨k1, k2, k3, k4⟩
      refine ⟨rfl, ?_⟩
      refine ⟨_, rfl, _, k4, ?_, ?_, ?_, ?_, ?_⟩
      · rw [List.length_take]
        have h1 := cutV_length (ns.map V.int) none (some 63)
        rw [hms, List.length_map, List.length_map] at h1
        have h2 : 1000 < sizeLine := by decide
        rw [List.length_map]
        omega
      · intro b o e
        rw [upd_ne (ne_of_none e hD0)]; exact k1 b o e
      · rw [upd_ne n2]; exact k2
      · rw [upd_ne n3]; exact k3
      · rw [upd_same, take_succ_of hx]
    · rintro H' ⟨k1, k2, k3, k4⟩
      refine ⟨k3, [(Sum.inr (Str.ofString "cells"), .ref D), (Sum.inr (Str.ofString "at"), .int 0), (Sum.inr (Str.ofString "left"), .int 0)], rfl, by show 3 ≤ 15; decide, ?_⟩
      rw [merge_fd]
      refine k p _ hp (fun b o e => by rw [upd_ne (ne_of_none e hp)]; exact k1 b o e) ⟨D, ms, 0, 0, upd_same, ?_, by decide, by decide, by decide⟩
      rw [upd_ne n3.symm, k4, List.take_length]
end
end Lw

namespace Lw
open PySem PySem.Spec PyProof.Rows L2 Fw SX
theorem at_ints {ns : List Int} {i : Int} (h0 : 0 ≤ i) (h1 : i < ns.length) : ∃ n ∈ ns, atI (ns.map V.int) i = some (.int n) := by
  obtain ⟨j, rfl⟩ : ∃ j : Nat, i = j := ⟨i.toNat, by omega⟩
  have hj : j < ns.length := by omega
  refine ⟨ns[j], List.getElem_mem hj, atI_nat ?_⟩
  rw [List.getElem?_map, List.getElem?_eq_getElem hj]
  rfl
theorem iteD {c A B : Prop} [Decidable c] (hc : c) (h : A) : if decide c = true then A else B := by
  rw [if_pos (decide_eq_true hc)]; exact h
theorem log2_lt {n k : Nat} (hk : 0 < k) (h : n < 2 ^ k) : n.log2 < k := by
  by_cases z : n = 0
  · subst z
    rw [Nat.log2_zero]; exact hk
  · exact (Nat.log2_lt z).mpr h
def spLaw (K : PySem.W.Frag) : Sp := fun vs H Q _ => ∃ (a : Addr) (ns : List Int), vs = [.ref a] ∧ SqL K H a (ns.map V.int) ∧ ns.length ≤ 63 ∧ ∀ H', Q (.bl true) H'
theorem at_mem {α : Type} {l : List α} {i : Int} (h0 : 0 ≤ i) (h1 : i < l.length) : ∃ v ∈ l, atI l i = some v := by
  obtain ⟨j, rfl⟩ : ∃ j : Nat, i = j := ⟨i.toNat, by omega⟩
  have hj : j < l.length := by omega
  exact ⟨l[j], List.getElem_mem hj, atI_nat (List.getElem?_eq_getElem hj)⟩
theorem nul_S : (Str.ofString "") = S [] := by decide +kernel
theorem join_ones (l : List Nat) : Txt.join (Str.ofString "") (l.map fun c => S [c]) = S l := by
  have e : (l.map fun c => S [c]) = (l.map fun c => [c]).map S := by rw [List.map_map]; rfl
  rw [nul_S, e, join_S]
  congr 1
  induction l with
  | nil => rfl
  | cons c r ih =>
    cases r with
    | nil => rfl
    | cons d r =>
      show [c] ++ ([] ++ TL.joinL [] ((d :: r).map fun c => [c])) = c :: d :: r
      rw [ih (by rw [List.map_map]; rfl)]
      rfl
theorem ones_sum (l : List Nat) : ((l.map fun c => S [c]).map (·.length)).sum = l.length := by
  induction l with
  | nil => rfl
  | cons a r ih =>
    rw [List.map_cons, List.map_cons, List.sum_cons, ih, S_len]
    simp; omega
theorem nul_len : (Str.ofString "").length = 0 := by decide +kernel
/-- turns of the outer loop -/
theorem turns {n lo hi : Int} (h0 : 0 ≤ lo) (h1 : lo ≤ hi) : (if (if n < hi then n else hi) > lo then (if n < hi then n else hi) else lo).toNat ≤ hi.toNat := by
  split <;> split <;> omega
end Lw

/-! ### repr: sizes -/
namespace Lw
open PySem PySem.Spec PyProof.Rows L2 Fw SX
theorem sh_int {i : Int} (h : i.natAbs.log2 < 1920) : (PyData.int i).showable = true ∧ (PyData.int i).shown.length ≤ sizeLine := ⟨decide_eq_true h, Nat.le_trans (int_text_len_1921 h) (by decide)⟩
theorem lv_int {i : Int} (h : i.natAbs.log2 < 1920) : (PyData.int i).leavesShort 1921 = true := decide_eq_true (int_text_len_1921 h)
theorem wt_int {i : Int} (h : i.natAbs.log2 < 1920) : (PyData.int i).weight ≤ 1920 := by
  show (if (i == 0) = true then 0 else i.natAbs.log2 + 1) ≤ 1920
  split <;> omega
theorem sh_of {d : PyData} (h : d.leavesShort 1921 = true) (hw : d.weight ≤ 8000) : d.shown.length ≤ sizeLine := by
  have h1 := PyData.shown_le 1921 (by decide) d h
  have h2 : (1921 + 2) * d.weight ≤ (1921 + 2) * 8000 := Nat.mul_le_mul_left _ hw
  have h3 : (1921 + 2) * 8000 + 10000 ≤ sizeLine := by decide
  omega
/-- what call_reprD asks of data -/
structure Shows (d : PyData) : Prop where
  s : d.showable = true
  n : d.hasDict = false
  dp : d.depth ≤ 60
  z : d.shown.length ≤ sizeLine
theorem Shows.int {i : Int} (h : i.natAbs.log2 < 1920) : Shows (.int i) := ⟨(sh_int h).1, rfl, by show 0 ≤ 60; omega, (sh_int h).2⟩
/-- a pair of numbers -/
theorem Shows.two {i j : Int} (hi : i.natAbs.log2 < 1920) (hj : j.natAbs.log2 < 1920) : Shows (.tuple [.int i, .int j]) := by
  refine ⟨?_, rfl, by show (max 0 (max 0 0)) + 1 ≤ 60; decide, sh_of ?_ ?_⟩
  · show ((PyData.int i).showable && ((PyData.int j).showable && true)) = true
    rw [(sh_int hi).1, (sh_int hj).1]; rfl
  · show ((PyData.int i).leavesShort 1921 && ((PyData.int j).leavesShort 1921 && true)) = true
    rw [lv_int hi, lv_int hj]; rfl
  · show (PyData.int i).weight + 1 + ((PyData.int j).weight + 1 + 0) ≤ 8000
    have := wt_int hi
    have := wt_int hj
    omega
end Lw

namespace Lw
open PySem PySem.Spec PyProof.Rows L2 Fw SX
section
variable {P : Program} {w : World} {K : PySem.W.Frag} {mg : Str → Option Value} {base : Heap}
def spRadix : Sp := fun vs H Q _ => ∃ (p : Addr) (n : Nat), vs = [.ref p] ∧ Feed H p n ∧ n < 100000000 ∧
  ∀ (r : Nat) (H' : Hp), 2 ≤ r → r ≤ 36 → Feed H' p (n + 2) → But p H H' → Q (.int r) H'
abbrev s_radix : Stmt := top 26
theorem sc__law_radix : FnScope ["_law_feed_here"] ["_law_feed_here"] (defScope s_radix) :=
  ⟨rfl, rfl, rfl, by decide +kernel, rfl, by decide +kernel,
    by decide +kernel⟩
theorem ok_radix {f : Addr} {fd : FuncData} (F : FnP K "_law_radix" s_radix f fd) (D__law_draw : Dn P w K mg base CX0 1 "_law_draw" ["_law_feed_here", "_law_many"] [] spDraw) : FnOk P w K mg base CX0 2 f fd ["_law_feed_here"] spRadix := by
  refine F.ok sc__law_radix (fun vs H Q E h => ?_) (fun cdv A outer s H vs Q E hr h => ?_)
  · obtain ⟨p, n, rfl, _⟩ := h
    rfl
  · obtain ⟨p, n, rfl, hF, hn, k⟩ := h
    refine ⟨_, PSs.nox (pss_one (ps_ret (pe_ix ix_list (pe_lst (pa_cons pe_int (pa_cons pe_int (pa_cons pe_int (pa_cons pe_int (pa_cons pe_int (pa_cons (pe_op op_add pe_int (pe_dn D__law_draw (hr.mono (by decide)) rfl (pa_cons (pv 0) (pa_cons pe_int pa_nil)))) pa_nil))))))) (pe_dn D__law_draw (hr.mono (by decide)) rfl (pa_cons (pv 0) (pa_cons pe_int pa_nil))) (fun _ _ => rfl)))), ?_⟩
    refine ⟨_, rfl, p, 35, n, rfl, by decide, by decide, hF, by omega, fun r H1 r0 r1 F1 B1 => ⟨_, _, rfl, rfl, by show 6 ≤ sizeLine; decide, fun q hq => ?_⟩⟩
    refine ⟨_, rfl, p, 6, n + 1, rfl, by decide, by decide, F1.new hq, by omega, fun i H2 i0 i1 F2 B2 => ?_⟩
    obtain ⟨x, hx, e⟩ := at_ints (ns := [10, 10, 2, 16, 36, 2 + r]) i0 (by simpa using i1)
    have hqp : q ≠ p := by
      obtain ⟨kvs, z⟩ := F1.ex
      exact (ne_of_none z hq).symm
    refine ⟨q, _, _, _, rfl, rfl, SqL.of (B2 q _ upd_same hqp), e, ?_⟩
    obtain ⟨y, rfl⟩ : ∃ y : Nat, x = y := ⟨x.toNat, by simp at hx; omega⟩
    exact k y H2 (by simp at hx; omega) (by simp at hx; omega) F2 ((B1.trans (But.new hq)).trans B2)
end
end Lw

/-! ### fractions -/
namespace Lw
open PySem PySem.Spec PyProof.Rows L2 Fw SX
/-- the common divisor, with the sign of the bottom -/
def com (t b : Int) : Int := if b < 0 then -((Nat.gcd t.natAbs b.natAbs : Nat) : Int) else ((Nat.gcd t.natAbs b.natAbs : Nat) : Int)
def lowT (t b : Int) : Int := t.fdiv (com t b)
def lowB (t b : Int) : Int := b.fdiv (com t b)
theorem com_abs (t b : Int) : (com t b).natAbs = Nat.gcd t.natAbs b.natAbs := by
  unfold com
  split
  · rw [Int.natAbs_neg, Int.natAbs_natCast]
  · rw [Int.natAbs_natCast]
theorem gcd_pos {t b : Int} (h : b ≠ 0) : 0 < Nat.gcd t.natAbs b.natAbs := Nat.gcd_pos_of_pos_right _ (by omega)
theorem com_ne {t b : Int} (h : b ≠ 0) : com t b ≠ 0 := fun e => by
  have h1 := com_abs t b
  have h2 := gcd_pos (t := t) h
  rw [e] at h1
  simp at h1
  omega
theorem com_le {t b : Int} (h : b ≠ 0) : (com t b).natAbs ≤ b.natAbs := by
  rw [com_abs]
  exact Nat.le_of_dvd (by omega) (Nat.gcd_dvd_right _ _)
theorem com_dvd_t (t b : Int) : com t b ∣ t := by
  have h : ((Nat.gcd t.natAbs b.natAbs : Nat) : Int) ∣ t := Int.ofNat_dvd_left.mpr (Nat.gcd_dvd_left _ _)
  unfold com
  split
  · exact Int.neg_dvd.mpr h
  · exact h
theorem com_dvd_b (t b : Int) : com t b ∣ b := by
  have h : ((Nat.gcd t.natAbs b.natAbs : Nat) : Int) ∣ b := Int.ofNat_dvd_left.mpr (Nat.gcd_dvd_right _ _)
  unfold com
  split
  · exact Int.neg_dvd.mpr h
  · exact h
theorem lowT_eq (t b : Int) : lowT t b = t / com t b := Int.fdiv_eq_ediv_of_dvd (com_dvd_t t b)
theorem lowB_eq (t b : Int) : lowB t b = b / com t b := Int.fdiv_eq_ediv_of_dvd (com_dvd_b t b)
theorem lowT_mul (t b : Int) : lowT t b * com t b = t := by rw [lowT_eq]; exact Int.ediv_mul_cancel (com_dvd_t t b)
theorem lowB_mul (t b : Int) : lowB t b * com t b = b := by rw [lowB_eq]; exact Int.ediv_mul_cancel (com_dvd_b t b)
theorem lowB_pos {t b : Int} (h : b ≠ 0) : 0 < lowB t b := by
  have e := lowB_mul t b
  have hg := gcd_pos (t := t) h
  unfold com at e
  split at e
  · rename_i hb
    rw [Int.mul_neg] at e
    have e2 : lowB t b * ((Nat.gcd t.natAbs b.natAbs : Nat) : Int) = -b := by omega
    exact Int.pos_of_mul_pos_left (b := ((Nat.gcd t.natAbs b.natAbs : Nat) : Int)) (by rw [e2]; omega) (by omega)
  · rename_i hb
    exact Int.pos_of_mul_pos_left (b := ((Nat.gcd t.natAbs b.natAbs : Nat) : Int)) (by rw [e]; omega) (by omega)
theorem lowT_le {t b : Int} (h : b ≠ 0) : (lowT t b).natAbs ≤ t.natAbs := by
  have e := congrArg Int.natAbs (lowT_mul t b)
  rw [Int.natAbs_mul, com_abs] at e
  have := gcd_pos (t := t) h
  calc (lowT t b).natAbs ≤ (lowT t b).natAbs * Nat.gcd t.natAbs b.natAbs := Nat.le_mul_of_pos_right _ this
    _ = t.natAbs := e
theorem lowB_le {t b : Int} (h : b ≠ 0) : (lowB t b).natAbs ≤ b.natAbs := by
  have e := congrArg Int.natAbs (lowB_mul t b)
  rw [Int.natAbs_mul, com_abs] at e
  have := gcd_pos (t := t) h
  calc (lowB t b).natAbs ≤ (lowB t b).natAbs * Nat.gcd t.natAbs b.natAbs := Nat.le_mul_of_pos_right _ this
    _ = b.natAbs := e
theorem abs_eq (z : Int) : (if z < 0 then -z else z) = ((z.natAbs : Nat) : Int) := by
  split <;> omega
/-- modes of rounding -/
def modeS : Nat → Str
  | 0 => "down"
  | 1 => "up"
  | 2 => "floor"
  | 3 => "roof"
  | 4 => "half"
  | _ => "even"
def goes (m : Nat) (below twice bottom : Int) : Bool := match m with
  | 0 => decide (below < 0)
  | 1 => decide (below ≥ 0)
  | 2 => false
  | 3 => true
  | 4 => decide (twice > bottom) || (decide (twice = bottom) && decide (below ≥ 0))
  | _ => decide (twice > bottom) || (decide (twice = bottom) && decide (below % 2 = 1))
def rnd (m : Nat) (t b : Int) : Int := if t % b = 0 then t / b else t / b + (if goes m (t / b) (2 * (t % b)) b = true then 1 else 0)
def spDivisor : Sp := fun vs H Q _ => ∃ a b : Int, vs = [.int a, .int b] ∧ Q (.int ((Nat.gcd a.natAbs b.natAbs : Nat) : Int)) H
def spRoad (m : Nat) : Sp := fun vs H Q _ => ∃ x y z : Int, vs = [.int x, .int y, .int z] ∧ Q (.bl (goes m x y z)) H
def spFraction (C : Addr) : Sp := fun vs H Q E => ∃ t b : Int, vs = [.int t, .int b] ∧ t.natAbs < 2 ^ 8000 ∧ b.natAbs < 2 ^ 8000 ∧
  (b ≠ 0 → ∀ (T : Addr) (H' : Hp), H T = none → Same H H' → H' T = some (.tup [.int (lowT t b), .int (lowB t b)]) → Q (.ref T) H') ∧
  (b = 0 → ∀ d H2, H d = none → (∀ x o, H x = some o → H2 x = some o) → (∀ x, x ≠ d → H2 x = H x) → H2 d = some (.xd [("top", .int t)]) → E (.ref C) (some d) H2)
def spRounded (K : PySem.W.Frag) : Sp := fun vs H Q _ => ∃ (T : Addr) (m : Nat) (t b : Int), vs = [.ref T, .str (modeS m)] ∧ m < 6 ∧ SqT K H T [.int t, .int b] ∧ 0 < b ∧ b.natAbs < 2 ^ 8000 ∧ ∀ H', Same H H' → Q (.int (rnd m t b)) H'
section
variable {P : Program} {w : World} {K : PySem.W.Frag} {mg : Str → Option Value} {base : Heap}
abbrev s_divisor : Stmt := top 7
theorem sc_divisor : FnScope ["one", "other"] ["one", "other"] (defScope s_divisor) :=
  ⟨rfl, rfl, rfl, by decide +kernel, rfl, by decide +kernel,
    by decide +kernel⟩
theorem ok_divisor {f : Addr} {fd : FuncData} (F : FnP K "divisor" s_divisor f fd) (mg_abs : mg "abs" = none) : FnOk P w K mg base CX0 1 f fd ["one", "other"] spDivisor := by
  refine F.ok sc_divisor (fun vs H Q E h => ?_) (fun cdv A outer s H vs Q E hr h => ?_)
  · obtain ⟨a, b, rfl, _⟩ := h
    rfl
  · obtain ⟨a, b, rfl, k⟩ := h
    refine ⟨_, PSs.nox (pss_cons (ps_par (by rfl) sc_divisor.nd (i := 0) (j := 1) rfl rfl (by decide) rfl rfl (pa_cons (pe_callB call_abs (by rfl) mg_abs (by decide +kernel) (pa_cons (pv 0) pa_nil)) (pa_cons (pe_callB call_abs (by rfl) mg_abs (by decide +kernel) (pa_cons (pv 1) pa_nil)) pa_nil)) (by rfl))
  (pss_cons (ps_while PassesOwn.never (pt_cmpR op_gt (pv 1) pe_int (nomark _))
    (pss_one (ps_par (by rfl) sc_divisor.nd (i := 0) (j := 1) rfl rfl (by decide) rfl rfl (pa_cons (pv 1) (pa_cons (pe_op op_mod (pv 0) (pv 1)) pa_nil)) (by rfl))))
  (pss_one (ps_ret (pv 0))))), ?_⟩
    refine ⟨_, rfl, _, rfl, _, rfl, _, rfl, _, _, rfl, ?_⟩
    rw [abs_eq, abs_eq]
    refine ⟨fun z σ' H' => H' = H ∧ ∃ x y : Nat, z = y ∧ σ' = [some (.int (x : Nat)), some (.int (y : Nat))] ∧ Nat.gcd x y = Nat.gcd a.natAbs b.natAbs, ⟨b.natAbs, rfl, a.natAbs, b.natAbs, rfl, rfl, rfl⟩, ?_⟩
    rintro z σ' H' ⟨rfl, x, y, rfl, rfl, e⟩
    refine ⟨_, rfl, _, _, rfl, rfl, _, rfl, ?_⟩
    refine ite2 (fun c => ?_) (fun c => ?_)
    · have hc : 0 < z := by have := of_decide_eq_true c; omega
      refine ⟨_, fun _ _ h => h, ?_⟩
      refine ⟨_, rfl, _, rfl, _, rfl, _, _, rfl, rfl, (by show (0 : Int) < (z : Int); omega), _, _, rfl, ?_⟩
      refine ⟨x % z, Nat.mod_lt _ hc, rfl, z, x % z, rfl, ?_, ?_⟩
      · rw [Int.natCast_emod]; rfl
      · rw [Nat.gcd_comm, ← Nat.gcd_rec, Nat.gcd_comm, e]
    · have hc : z = 0 := by have := of_decide_eq_false (Bool.not_eq_true _ ▸ c); omega
      subst hc
      rw [Nat.gcd_zero_right] at e
      refine ⟨_, rfl, ?_⟩
      rw [e]
      exact k
abbrev s_nini : Stmt := inClass (top 1) 0
theorem sc_Nought___init__ : FnScope ["self", "top"] ["self", "top"] (defScope s_nini) :=
  ⟨rfl, rfl, rfl, by decide +kernel, rfl, by decide +kernel,
    by decide +kernel⟩
abbrev zdM : List Value := [.type "ZeroDivisionError", .type "ArithmeticError", .type "Exception", .type "BaseException", .type "object"]
theorem typ_ZD : typeOf (.type "ZeroDivisionError") = pure (.type "type") := by kernel_rfl
theorem ok_nini {C f : Addr} {fd : FuncData} (F : FunD K "__init__" "Nought.__init__" (defArgs s_nini) (defBody s_nini) (defScope s_nini) [] [] f fd) (W : Own K C f "ZeroDivisionError" "ZeroDivisionError.__new__" "ZeroDivisionError.__init__" zdM "top")
    (mg_ZeroDivisionError : mg "ZeroDivisionError" = none) : FnOk P w K mg base CX0 1 f fd ["self", "top"] (spIni C "top") := by
  have T := exB_of PySem.F.excBase_ZeroDivisionError PySem.F.store_ZeroDivisionError
  have ty := typ_ZD
  have up := W.up
  refine F.ok sc_Nought___init__ (fun vs H Q E h => ?_) (fun cdv A outer s H vs Q E hr h => ?_)
  · obtain ⟨a, v, rfl, _⟩ := h
    rfl
  · obtain ⟨a, v, rfl, ha, k⟩ := h
    refine ⟨_, PSs.nox (pss_cons (ps_expr (pe_up T rfl mg_ZeroDivisionError (by decide +kernel) ty up (pa_cons (pv 0) (pa_cons pe_str pa_nil))))
  (pss_one (ps_put T (pv 0) (pv 1)))), ?_⟩
    refine ⟨_, rfl, a, C, [_], rfl, by decide, W.O, ha, ?_⟩
    exact ⟨_, rfl, _, rfl, a, C, rfl, W.O, W.no, .inl ⟨ha, fun dx hd hn => k dx hd hn⟩⟩
abbrev s_fraction : Stmt := top 8
theorem sc_fraction : FnScope ["top", "bottom", "common"] ["top", "bottom"] (defScope s_fraction) :=
  ⟨rfl, rfl, rfl, by decide +kernel, rfl, by decide +kernel,
    by decide +kernel⟩
theorem ok_fraction {C f : Addr} {fd : FuncData} {dv : List V} {kv : List (Str × V)} (F : FunD K "fraction" "fraction" (defArgs s_fraction) (defBody s_fraction) (defScope s_fraction) dv kv f fd)
    (D_divisor : Dn P w K mg base CX0 1 "divisor" ["one", "other"] [] spDivisor) (R_Nought : Rz P w K mg base 1 "Nought" C (spIni C "top")) : FnOk P w K mg base (L2.CX P w) 3 f fd ["top", "bottom"] (spFraction C) := by
  refine F.ok sc_fraction (fun vs H Q E h => ?_) (fun cdv A outer s H vs Q E hr h => ?_)
  · obtain ⟨t, b, rfl, _⟩ := h
    rfl
  · obtain ⟨t, b, rfl, ht, hb, k, kE⟩ := h
    refine ⟨_, (pss_cons (ps_if (pt_cmpR op_eq (pv 1) pe_int (nomark _))
    (pss_one (ps_raise rfl (takes_of rfl rfl rfl rfl) (pm_rz R_Nought (hr.mono (by decide)) rfl (pa_cons (pv 0) pa_nil))))
    pss_nil)
  (pss_cons (ps_set (i := 2) sc_fraction.nd rfl (Or.inl rfl) (pe_dn D_divisor (hr.mono (by decide)) rfl (pa_cons (pv 0) (pa_cons (pv 1) pa_nil))))
  (pss_cons (ps_if (pt_cmpR op_lt (pv 1) pe_int (nomark _))
    (pss_one (ps_set (i := 2) sc_fraction.nd rfl (Or.inl rfl) (pe_un un_neg (pv 2))))
    pss_nil)
  (pss_one (ps_ret (pe_tup (pa_cons (pe_op op_fdivA (pv 0) (pv 2)) (pa_cons (pe_op op_fdivA (pv 1) (pv 2)) pa_nil)))))))), ?_⟩
    refine ⟨_, rfl, rfl, _, rfl, ?_⟩
    by_cases hz : b = 0
    · subst hz
      rw [decide_eq_true rfl]
      exact iteT ⟨_, rfl, mk_ini (kE rfl)⟩
    rw [decide_eq_false (fun e => hz (V.int.inj e))]
    refine iteF ?_
    refine ⟨_, rfl, _, rfl, t, b, rfl, ?_⟩
    have big : CDivA t (com t b) := ⟨com_ne hz, Nat.lt_of_lt_of_le (PySem.Flt.log2_lt_of (by decide) (Nat.lt_of_le_of_lt (com_le hz) hb)) (by decide)⟩
    refine ⟨_, rfl, _, _, rfl, rfl, _, rfl, ?_⟩
    have fin : ∀ σ : L2.St, σ = [some (.int t), some (.int b), some (.int (com t b))] → (tRet (tTup (tCons (tOp (rI CDivA fun i j => V.int (i.fdiv j)) (tVar 0) (tVar 2)) (tCons (tOp (rI CDivA fun i j => V.int (i.fdiv j)) (tVar 1) (tVar 2)) tNil)))) { nx := fun _ H' => Q .non H', rt := Q } σ H := by
      rintro σ rfl
      exact ⟨_, rfl, _, rfl, _, _, rfl, rfl, big, _, rfl, _, rfl, _, _, rfl, rfl, big, by show 2 ≤ sizeLine; decide, fun T hT => k hz T _ hT (same_new hT) upd_same⟩
    by_cases hn : b < 0
    · rw [decide_eq_true hn]
      refine iteT ⟨_, rfl, _, rfl, ?_⟩
      refine fin _ ?_
      unfold com
      rw [if_pos hn]
      rfl
    · rw [decide_eq_false hn]
      refine iteF ?_
      refine fin _ ?_
      unfold com
      rw [if_neg hn]
      rfl
abbrev s_by_down : Stmt := top 9
abbrev s_by_up : Stmt := top 10
abbrev s_by_floor : Stmt := top 11
abbrev s_by_roof : Stmt := top 12
abbrev s_by_half : Stmt := top 13
abbrev s_by_even : Stmt := top 14
theorem sc_by_down : FnScope ["below", "twice", "bottom"] ["below", "twice", "bottom"] (defScope s_by_down) := ⟨rfl, rfl, rfl, by decide +kernel, rfl, by decide +kernel, by decide +kernel⟩
theorem sc_by_up : FnScope ["below", "twice", "bottom"] ["below", "twice", "bottom"] (defScope s_by_up) := ⟨rfl, rfl, rfl, by decide +kernel, rfl, by decide +kernel, by decide +kernel⟩
theorem sc_by_floor : FnScope ["below", "twice", "bottom"] ["below", "twice", "bottom"] (defScope s_by_floor) := ⟨rfl, rfl, rfl, by decide +kernel, rfl, by decide +kernel, by decide +kernel⟩
theorem sc_by_roof : FnScope ["below", "twice", "bottom"] ["below", "twice", "bottom"] (defScope s_by_roof) := ⟨rfl, rfl, rfl, by decide +kernel, rfl, by decide +kernel, by decide +kernel⟩
theorem sc_by_half : FnScope ["below", "twice", "bottom"] ["below", "twice", "bottom"] (defScope s_by_half) := ⟨rfl, rfl, rfl, by decide +kernel, rfl, by decide +kernel, by decide +kernel⟩
theorem sc_by_even : FnScope ["below", "twice", "bottom"] ["below", "twice", "bottom"] (defScope s_by_even) := ⟨rfl, rfl, rfl, by decide +kernel, rfl, by decide +kernel, by decide +kernel⟩
theorem ok_by_down {f : Addr} {fd : FuncData} (F : FnP K "by_down" s_by_down f fd) : FnOk P w K mg base CX0 1 f fd ["below", "twice", "bottom"] (spRoad 0) := by
  refine F.ok sc_by_down (fun vs H Q E h => ?_) (fun cdv A outer s H vs Q E hr h => ?_)
  · obtain ⟨x, y, z, rfl, _⟩ := h
    rfl
  · obtain ⟨x, y, z, rfl, k⟩ := h
    exact ⟨_, PSs.nox (pss_one (ps_ret (pe_cmpR op_lt (pv 0) pe_int (nomark _)))), _, rfl, _, _, rfl, rfl, k⟩
theorem ok_by_up {f : Addr} {fd : FuncData} (F : FnP K "by_up" s_by_up f fd) : FnOk P w K mg base CX0 1 f fd ["below", "twice", "bottom"] (spRoad 1) := by
  refine F.ok sc_by_up (fun vs H Q E h => ?_) (fun cdv A outer s H vs Q E hr h => ?_)
  · obtain ⟨x, y, z, rfl, _⟩ := h
    rfl
  · obtain ⟨x, y, z, rfl, k⟩ := h
    exact ⟨_, PSs.nox (pss_one (ps_ret (pe_cmpR op_ge (pv 0) pe_int (nomark _)))), _, rfl, _, _, rfl, rfl, k⟩
theorem ok_by_floor {f : Addr} {fd : FuncData} (F : FnP K "by_floor" s_by_floor f fd) : FnOk P w K mg base CX0 1 f fd ["below", "twice", "bottom"] (spRoad 2) := by
  refine F.ok sc_by_floor (fun vs H Q E h => ?_) (fun cdv A outer s H vs Q E hr h => ?_)
  · obtain ⟨x, y, z, rfl, _⟩ := h
    rfl
  · obtain ⟨x, y, z, rfl, k⟩ := h
    exact ⟨_, PSs.nox (pss_one (ps_ret pe_bl)), k⟩
theorem ok_by_roof {f : Addr} {fd : FuncData} (F : FnP K "by_roof" s_by_roof f fd) : FnOk P w K mg base CX0 1 f fd ["below", "twice", "bottom"] (spRoad 3) := by
  refine F.ok sc_by_roof (fun vs H Q E h => ?_) (fun cdv A outer s H vs Q E hr h => ?_)
  · obtain ⟨x, y, z, rfl, _⟩ := h
    rfl
  · obtain ⟨x, y, z, rfl, k⟩ := h
    exact ⟨_, PSs.nox (pss_one (ps_ret pe_bl)), k⟩
theorem ok_by_half {f : Addr} {fd : FuncData} (F : FnP K "by_half" s_by_half f fd) : FnOk P w K mg base CX0 1 f fd ["below", "twice", "bottom"] (spRoad 4) := by
  refine F.ok sc_by_half (fun vs H Q E h => ?_) (fun cdv A outer s H vs Q E hr h => ?_)
  · obtain ⟨x, y, z, rfl, _⟩ := h
    rfl
  · obtain ⟨x, y, z, rfl, k⟩ := h
    refine ⟨_, PSs.nox (pss_one (ps_ret (pe_or (pe_cmpR op_gt (pv 1) (pv 2) (nomark _)) (pe_one (pe_and (pe_cmpR op_eq (pv 1) (pv 2) (nomark _)) (pe_one (pe_cmpR op_ge (pv 0) pe_int (nomark _)))))))), ?_⟩
    have e : goes 4 x y z = (decide (y > z) || (decide (y = z) && decide (x ≥ 0))) := rfl
    rw [e] at k
    refine ⟨_, rfl, _, rfl, _, _, rfl, rfl, _, rfl, ite2 (fun c => ?_) (fun c => ?_)⟩
    · have c' : y > z := of_decide_eq_true c
      rw [decide_eq_true c'] at k
      exact k
    · have c' : ¬ y > z := fun q => c (decide_eq_true q)
      rw [decide_eq_false c', Bool.false_or] at k
      refine ⟨_, rfl, _, rfl, rfl, _, rfl, ite2 (fun d => ?_) (fun d => ?_)⟩
      · have d' : y = z := V.int.inj (of_decide_eq_true d)
        rw [decide_eq_true d', Bool.true_and] at k
        exact ⟨_, rfl, _, _, rfl, rfl, k⟩
      · have d' : ¬ y = z := fun q => d (decide_eq_true (by rw [q]))
        rw [decide_eq_false d', Bool.false_and] at k
        exact k
theorem ok_by_even {f : Addr} {fd : FuncData} (F : FnP K "by_even" s_by_even f fd) : FnOk P w K mg base CX0 1 f fd ["below", "twice", "bottom"] (spRoad 5) := by
  refine F.ok sc_by_even (fun vs H Q E h => ?_) (fun cdv A outer s H vs Q E hr h => ?_)
  · obtain ⟨x, y, z, rfl, _⟩ := h
    rfl
  · obtain ⟨x, y, z, rfl, k⟩ := h
    refine ⟨_, PSs.nox (pss_one (ps_ret (pe_or (pe_cmpR op_gt (pv 1) (pv 2) (nomark _)) (pe_one (pe_and (pe_cmpR op_eq (pv 1) (pv 2) (nomark _)) (pe_one (pe_cmpR op_eq (pe_op op_mod (pv 0) pe_int) pe_int (nomark _)))))))), ?_⟩
    have e : goes 5 x y z = (decide (y > z) || (decide (y = z) && decide (x % 2 = 1))) := rfl
    rw [e] at k
    refine ⟨_, rfl, _, rfl, _, _, rfl, rfl, _, rfl, ite2 (fun c => ?_) (fun c => ?_)⟩
    · have c' : y > z := of_decide_eq_true c
      rw [decide_eq_true c'] at k
      exact k
    · have c' : ¬ y > z := fun q => c (decide_eq_true q)
      rw [decide_eq_false c', Bool.false_or] at k
      refine ⟨_, rfl, _, rfl, rfl, _, rfl, ite2 (fun d => ?_) (fun d => ?_)⟩
      · have d' : y = z := V.int.inj (of_decide_eq_true d)
        rw [decide_eq_true d', Bool.true_and] at k
        refine ⟨_, rfl, _, _, rfl, rfl, (by show (0 : Int) < 2; decide), rfl, ?_⟩
        have e2 : decide (V.int (x % 2) = V.int 1) = decide (x % 2 = 1) := by
          by_cases q : x % 2 = 1
          · rw [decide_eq_true q, decide_eq_true (by rw [q])]
          · rw [decide_eq_false q, decide_eq_false (fun z => q (V.int.inj z))]
        show Q (.bl (decide (V.int (x % 2) = V.int 1))) H
        rw [e2]
        exact k
      · have d' : ¬ y = z := fun q => d (decide_eq_true (by rw [q]))
        rw [decide_eq_false d', Bool.false_and] at k
        exact k
abbrev s_rounded : Stmt := top 16
theorem sc_rounded : FnScope ["number", "mode", "top", "bottom", "below", "rest", "goes_up"] ["number", "mode"] (defScope s_rounded) :=
  ⟨rfl, rfl, rfl, by decide +kernel, rfl, by decide +kernel,
    by decide +kernel⟩
/-- the roads, by their modes -/
def Road (P : Program) (w : World) (K : PySem.W.Frag) (mg : Str → Option Value) (base : Heap) (d : Addr) : Prop := ∀ m, m < 6 → ∃ f, Held P w K mg base 1 f (spRoad m) ∧ KDct K w d (modeS m) (.ref f)
theorem ok_rounded {f : Addr} {fd : FuncData} {dv : List V} {kv : List (Str × V)} (F : FunD K "rounded" "rounded" (defArgs s_rounded) (defBody s_rounded) (defScope s_rounded) dv kv f fd) (mg_divmod : mg "divmod" = none) (mg_int : mg "int" = none)
    (mg_ROADS : mg "ROADS" = some (.ref (He.ga K "ROADS"))) (R : Road P w K mg base (He.ga K "ROADS")) : FnOk P w K mg base CX0 2 f fd ["number", "mode"] (spRounded K) := by
  have A_goes_up : ∀ f sp, Held P w K mg base 1 f sp → Held P w K mg base 1 f sp := fun _ _ h => h
  refine F.ok sc_rounded (fun vs H Q E h => ?_) (fun cdv A outer s H vs Q E hr h => ?_)
  · obtain ⟨T, m, t, b, rfl, _⟩ := h
    rfl
  · obtain ⟨T, m, t, b, rfl, hm, hT, hb, hbb, k⟩ := h
    refine ⟨_, PSs.nox (pss_cons (ps_asg (pv 0) (pg_tup (by rfl) (pgs_cons (pg_name (i := 2) sc_rounded.nd rfl (.inl rfl)) (pgs_cons (pg_name (i := 3) sc_rounded.nd rfl (.inl rfl)) pgs_nil))))
  (pss_cons (ps_asg (pe_callB call_divmodW (by rfl) mg_divmod (by decide +kernel) (pa_cons (pv 2) (pa_cons (pv 3) pa_nil))) (pg_tup (by rfl) (pgs_cons (pg_name (i := 4) sc_rounded.nd rfl (.inl rfl)) (pgs_cons (pg_name (i := 5) sc_rounded.nd rfl (.inl rfl)) pgs_nil))))
  (pss_cons (ps_if (pt_cmpR op_eq (pv 5) pe_int (nomark _))
    (pss_one (ps_ret (pv 4)))
    pss_nil)
  (pss_cons (ps_set (i := 6) sc_rounded.nd rfl (Or.inl rfl) (pe_ix ix_kdict (pe_glob (v := .ref (He.ga K "ROADS")) rfl mg_ROADS rfl) (pv 1) (fun _ _ => rfl)))
  (pss_one (ps_ret (pe_op op_add (pv 4) (pe_callTy call_int1 (by rfl) mg_int (by decide +kernel) (pa_cons (pe_callR (i := 6) A_goes_up (hr.mono (by decide)) rfl (.inl rfl) (pa_cons (pv 4) (pa_cons (pe_op op_mul pe_int (pv 5)) (pa_cons (pv 3) pa_nil)))) pa_nil))))))))), ?_⟩
    refine ⟨_, rfl, T, _, rfl, hT, rfl, _, _, rfl, _, _, rfl, rfl, ?_⟩
    refine ⟨_, rfl, _, rfl, _, _, rfl, divP hb (Nat.lt_of_lt_of_le (PySem.Flt.log2_lt_of (by decide) hbb) (by decide)), fun T2 hT2 => ?_⟩
    refine ⟨T2, _, rfl, SqT.of upd_same, rfl, _, _, rfl, _, _, rfl, rfl, ?_⟩
    have hS := same_new (o := .tup [.int (t / b), .int (t % b)]) hT2
    generalize upd H T2 (.tup [.int (t / b), .int (t % b)]) = H2 at hS ⊢
    refine ⟨_, rfl, rfl, _, rfl, ?_⟩
    have e : rnd m t b = if t % b = 0 then t / b else t / b + (if goes m (t / b) (2 * (t % b)) b = true then 1 else 0) := rfl
    by_cases hz : t % b = 0
    · rw [decide_eq_true (by rw [hz])]
      rw [if_pos hz] at e
      refine iteT ⟨_, rfl, ?_⟩
      rw [← e]
      exact k _ hS
    · rw [decide_eq_false (fun z => hz (V.int.inj z))]
      rw [if_neg hz] at e
      obtain ⟨g, hh, hd⟩ := R m hm
      refine iteF ⟨_, rfl, _, _, _, rfl, rfl, hd, ?_⟩
      refine ⟨_, rfl, g, spRoad m, rfl, hh, _, rfl, _, rfl, _, _, rfl, rfl, .inl ⟨by decide, by decide⟩, _, rfl, _, _, _, rfl, .inr ⟨_, rfl, _, _, rfl, rfl, ?_⟩⟩
      rw [e] at k
      exact k _ hS
end
end Lw

/-! ### rounding by size and sign -/
namespace Lw
open PySem PySem.Spec PyProof.Rows L2 Fw SX
def farB (m : Nat) (neg : Bool) (least rest b : Int) : Bool :=
  if m = 4 ∨ m = 5 then decide (2 * rest > b) || (decide (2 * rest = b) && (decide (m = 4) || decide (least % 2 = 1)))
  else decide (m = 1) || (decide (m = 2) && neg || decide (m = 3) && !neg)
def lrnd (m : Nat) (t b : Int) : Int :=
  if ((t.natAbs : Nat) : Int) % b = 0 then (if t < 0 then -1 else 1) * (((t.natAbs : Nat) : Int) / b)
  else (if t < 0 then -1 else 1) * (((t.natAbs : Nat) : Int) / b + (if farB m (decide (t < 0)) (((t.natAbs : Nat) : Int) / b) (((t.natAbs : Nat) : Int) % b) b = true then 1 else 0))
theorem neg_div {n b : Int} (hb : 0 < b) (h : n % b ≠ 0) : (-n) / b = -(n / b) - 1 ∧ (-n) % b = b - n % b := by
  have h0 := Int.emod_nonneg n (show b ≠ 0 by omega)
  have h1 := Int.emod_lt_of_pos n hb
  have e := Int.mul_ediv_add_emod n b
  have e2 : -n = (b - n % b) + (-(n / b) - 1) * b := by
    rw [Int.sub_mul, Int.neg_mul, Int.mul_comm (n / b) b]
    omega
  refine ⟨?_, ?_⟩
  · rw [e2, Int.add_mul_ediv_right _ _ (by omega), Int.ediv_eq_zero_of_lt (by omega) (by omega)]
    omega
  · rw [e2, Int.add_mul_emod_self_right, Int.emod_eq_of_lt (by omega) (by omega)]
theorem lrnd_eq {m : Nat} {t b : Int} (hm : m < 6) (hb : 0 < b) : lrnd m t b = rnd m t b := by
  unfold lrnd rnd
  by_cases hn : t < 0
  · obtain ⟨n, hn1, rfl⟩ : ∃ n : Int, 0 < n ∧ t = -n := ⟨-t, by omega, by omega⟩
    have ea : (((-n).natAbs : Nat) : Int) = n := by omega
    rw [ea, if_pos hn, decide_eq_true hn]
    by_cases hz : n % b = 0
    · have hd : b ∣ n := Int.dvd_of_emod_eq_zero hz
      have hz2 : (-n) % b = 0 := Int.emod_eq_zero_of_dvd (Int.dvd_neg.mpr hd)
      rw [if_pos hz, if_pos hz2, Int.neg_ediv_of_dvd hd]
      omega
    · obtain ⟨e1, e2⟩ := neg_div hb hz
      have h0 := Int.emod_nonneg n (show b ≠ 0 by omega)
      have h1 := Int.emod_lt_of_pos n hb
      have hz2 : ¬ (-n) % b = 0 := by rw [e2]; omega
      rw [if_neg hz, if_neg hz2, e1, e2]
      have h3 : 0 ≤ n / b := Int.ediv_nonneg (by omega) (by omega)
      generalize n / b = q at *
      generalize n % b = r at *
      rcases m with _ | _ | _ | _ | _ | _ | m
      · simp [farB, goes]; split <;> omega
      · simp [farB, goes]; split <;> omega
      · simp [farB, goes]; omega
      · simp [farB, goes]
      · simp [farB, goes]; split <;> split <;> omega
      · simp [farB, goes]; split <;> split <;> omega
      · omega
  · have ea : ((t.natAbs : Nat) : Int) = t := by omega
    rw [ea, if_neg hn, decide_eq_false hn]
    have h3 : 0 ≤ t / b := Int.ediv_nonneg (by omega) (by omega)
    by_cases hz : t % b = 0
    · rw [if_pos hz, if_pos hz]; omega
    · rw [if_neg hz, if_neg hz]
      generalize t / b = q at *
      generalize t % b = r at *
      rcases m with _ | _ | _ | _ | _ | _ | m
      · simp [farB, goes]; omega
      · simp [farB, goes]; omega
      · simp [farB, goes]
      · simp [farB, goes]
      · simp [farB, goes]; split <;> split <;> omega
      · simp [farB, goes]
      · omega
/-- a truth's value -/
def VB (t : TE) (σ : L2.St) (H : Hp) (p : Bool) : Prop := ∀ Q : VK, Q (.bl p) H → t σ H Q
theorem VB.or {ta tb : TE} {σ : L2.St} {H : Hp} {p q : Bool} (a : VB ta σ H p) (b : VB tb σ H q) : VB (tOrV ta tb) σ H (p || q) := fun Q h => a _ ⟨p, rfl, by
  cases p with
  | true => exact iteT h
  | false => exact iteF (b _ h)⟩
theorem VB.and {ta tb : TE} {σ : L2.St} {H : Hp} {p q : Bool} (a : VB ta σ H p) (b : VB tb σ H q) : VB (tAndV ta tb) σ H (p && q) := fun Q h => a _ ⟨p, rfl, by
  cases p with
  | true => exact iteT (b _ h)
  | false => exact iteF h⟩
theorem VB.of {t : TE} {σ : L2.St} {H : Hp} {p q : Bool} (a : VB t σ H p) (e : p = q) : VB t σ H q := e ▸ a
theorem mode_eq : ∀ (m k : Fin 6), decide (V.str (modeS m.val) = V.str (modeS k.val)) = decide (m.val = k.val) := by decide +kernel
theorem dec_int (i j : Int) : decide (V.int i = V.int j) = decide (i = j) := by
  by_cases h : i = j
  · rw [decide_eq_true h, decide_eq_true (by rw [h])]
  · rw [decide_eq_false h, decide_eq_false (fun z => h (V.int.inj z))]
def spRound : Sp := fun vs H Q _ => ∃ (m : Nat) (t b : Int), vs = [.int t, .int b, .str (modeS m)] ∧ m < 6 ∧ 0 < b ∧ b.natAbs < 2 ^ 8000 ∧ ∀ H', Same H H' → Q (.int (rnd m t b)) H'
section
variable {P : Program} {w : World} {K : PySem.W.Frag} {mg : Str → Option Value} {base : Heap}
abbrev s_round : Stmt := top 25
theorem sc__law_round : FnScope ["_law_top", "_law_bottom", "_law_mood", "_law_size", "_law_turn", "_law_least", "_law_rest", "_law_farther"] ["_law_top", "_law_bottom", "_law_mood"] (defScope s_round) :=
  ⟨rfl, rfl, rfl, by decide +kernel, rfl, by decide +kernel,
    by decide +kernel⟩
theorem ok_round {f : Addr} {fd : FuncData} (F : FnP K "_law_round" s_round f fd) (mg_abs : mg "abs" = none) (mg_int : mg "int" = none) : FnOk P w K mg base CX0 1 f fd ["_law_top", "_law_bottom", "_law_mood"] spRound := by
  refine F.ok sc__law_round (fun vs H Q E h => ?_) (fun cdv A outer s H vs Q E hr h => ?_)
  · obtain ⟨m, t, b, rfl, _⟩ := h
    rfl
  · obtain ⟨m, t, b, rfl, hm, hb, hbb, k⟩ := h
    refine ⟨_, PSs.nox (pss_cons (ps_par (by rfl) sc__law_round.nd (i := 3) (j := 4) rfl rfl (by decide) rfl rfl (pa_cons (pe_callB call_abs (by rfl) mg_abs (by decide +kernel) (pa_cons (pv 0) pa_nil)) (pa_cons (pe_ix ix_list (pe_lst (pa_cons pe_int (pa_cons (pe_un un_neg pe_int) pa_nil))) (pe_callTy call_int1 (by rfl) mg_int (by decide +kernel) (pa_cons (pe_cmpR op_lt (pv 0) pe_int (nomark _)) pa_nil)) (fun _ _ => rfl)) pa_nil)) (by rfl))
  (pss_cons (ps_par (by rfl) sc__law_round.nd (i := 5) (j := 6) rfl rfl (by decide) rfl rfl (pa_cons (pe_op op_fdivW (pv 3) (pv 1)) (pa_cons (pe_op op_mod (pv 3) (pv 1)) pa_nil)) (by rfl))
  (pss_cons (ps_if (pt_cmpR op_eq (pv 6) pe_int (nomark _))
    (pss_one (ps_ret (pe_op op_mul (pv 4) (pv 5))))
    pss_nil)
  (pss_cons (ps_set (i := 7) sc__law_round.nd rfl (Or.inl rfl) (pe_or (pe_cmpR op_eq (pv 2) pe_str (nomark _)) (pe_or (pe_and (pe_cmpR op_eq (pv 2) pe_str (nomark _)) (pe_one (pe_cmpR op_lt (pv 4) pe_int (nomark _)))) (pe_one (pe_and (pe_cmpR op_eq (pv 2) pe_str (nomark _)) (pe_one (pe_cmpR op_gt (pv 4) pe_int (nomark _))))))))
  (C8.pss_cut (ps_if (pt_cmpR op_in_seq (pv 2) (pe_tup (pa_cons pe_str (pa_cons pe_str pa_nil))) rfl)
    (pss_one (ps_set (i := 7) sc__law_round.nd rfl (Or.inl rfl) (pe_or (pe_cmpR op_gt (pe_op op_mul pe_int (pv 6)) (pv 1) (nomark _)) (pe_one (pe_and (pe_cmpR op_eq (pe_op op_mul pe_int (pv 6)) (pv 1) (nomark _)) (pe_one (pe_or (pe_cmpR op_eq (pv 2) pe_str (nomark _)) (pe_one (pe_cmpR op_eq (pe_op op_mod (pv 5) pe_int) pe_int (nomark _))))))))))
    pss_nil)
  (pss_one (ps_ret (pe_op op_mul (pv 4) (pe_op op_add (pv 5) (pe_callTy call_int1 (by rfl) mg_int (by decide +kernel) (pa_cons (pv 7) pa_nil))))))))))), ?_⟩
    rw [← lrnd_eq hm hb] at k
    have k2 : ∀ H', Same H H' → ∀ z, z = lrnd m t b → Q (.int z) H' := fun H' s z e => by rw [e]; exact k H' s
    have hbw : ∀ i : Int, CDivW i b := fun i => ⟨hb, Nat.lt_of_lt_of_le (PySem.Flt.log2_lt_of (by decide) hbb) (by decide)⟩
    refine ⟨_, rfl, _, rfl, _, rfl, by show 2 ≤ sizeLine; decide, fun q hq => ?_⟩
    have hS := same_new (o := .lst [.int 1, .int (-1)]) hq
    have hqq : upd H q (.lst [.int 1, .int (-1)]) q = some (.lst [.int 1, .int (-1)]) := upd_same
    refine ⟨_, rfl, _, _, rfl, rfl, .inr ⟨_, rfl, q, _, _, .int (if t < 0 then -1 else 1), rfl, rfl, SqL.of upd_same, ?_, _, _, rfl, ?_⟩⟩
    · by_cases hn : t < 0
      · rw [if_pos hn, if_pos (decide_eq_true hn)]; rfl
      · rw [if_neg hn, if_neg (by rw [decide_eq_false hn]; decide)]; rfl
    rw [abs_eq]
    generalize upd H q (.lst [.int 1, .int (-1)]) = H1 at hS hqq ⊢
    refine ⟨_, rfl, _, rfl, _, _, rfl, rfl, hbw _, _, rfl, _, rfl, _, _, rfl, rfl, hb, .int (((t.natAbs : Nat) : Int) / b), .int (((t.natAbs : Nat) : Int) % b), rfl, ?_⟩
    unfold lrnd at k2
    generalize ((t.natAbs : Nat) : Int) / b = least at k2 ⊢
    generalize ((t.natAbs : Nat) : Int) % b = rest at k2 ⊢
    refine ⟨_, rfl, rfl, _, rfl, ?_⟩
    rw [dec_int]
    by_cases hz : rest = 0
    · rw [decide_eq_true hz]
      rw [if_pos hz] at k2
      refine iteT ⟨_, rfl, _, rfl, _, _, rfl, rfl, .inl ?_, k2 _ hS _ rfl⟩
      split <;> decide
    rw [decide_eq_false hz]
    rw [if_neg hz] at k2
    refine iteF ?_
    have vm : ∀ (σ : L2.St) (H0 : Hp) (k : Nat), k < 6 → σ[2]? = some (some (.str (modeS m))) → VB (tOp rEq (tVar 2) (tC (.str (modeS k)))) σ H0 (decide (m = k)) := fun σ H0 k hk hs Q h => by
      refine ⟨_, hs, rfl, ?_⟩
      show Q (.bl (decide (V.str (modeS m) = V.str (modeS k)))) H0
      rw [mode_eq ⟨m, hm⟩ ⟨k, hk⟩]
      exact h
    generalize hsz : ((t.natAbs : Nat) : Int) = size
    have ht1 : ∀ (σ : L2.St) (H0 : Hp), σ[4]? = some (some (.int (if t < 0 then -1 else 1))) → VB (tOp (rI0 fun i j => V.bl (decide (i < j))) (tVar 4) (tC (.int 0))) σ H0 (decide (t < 0)) := fun σ H0 hs Q h => by
      refine ⟨_, hs, _, _, rfl, rfl, ?_⟩
      have e : decide ((if t < 0 then -1 else 1 : Int) < 0) = decide (t < 0) := by
        by_cases c : t < 0
        · rw [if_pos c, decide_eq_true c]; rfl
        · rw [if_neg c, decide_eq_false c]; rfl
      show Q (.bl (decide ((if t < 0 then -1 else 1 : Int) < 0))) H0
      rw [e]; exact h
    have ht2 : ∀ (σ : L2.St) (H0 : Hp), σ[4]? = some (some (.int (if t < 0 then -1 else 1))) → VB (tOp (rI0 fun i j => V.bl (decide (j < i))) (tVar 4) (tC (.int 0))) σ H0 (!decide (t < 0)) := fun σ H0 hs Q h => by
      refine ⟨_, hs, _, _, rfl, rfl, ?_⟩
      have e : decide (0 < (if t < 0 then -1 else 1 : Int)) = !decide (t < 0) := by
        by_cases c : t < 0
        · rw [if_pos c, decide_eq_true c]; rfl
        · rw [if_neg c, decide_eq_false c]; rfl
      show Q (.bl (decide (0 < (if t < 0 then -1 else 1 : Int)))) H0
      rw [e]; exact h
    refine (VB.or (vm _ _ 1 (by decide) rfl) (VB.or (VB.and (vm _ _ 2 (by decide) rfl) (ht1 _ _ rfl)) (VB.and (vm _ _ 3 (by decide) rfl) (ht2 _ _ rfl)))) _ ?_
    refine ⟨fun σ' H' => σ' = [some (.int t), some (.int b), some (.str (modeS m)), some (.int size), some (.int (if t < 0 then -1 else 1)), some (.int least), some (.int rest), some (.bl (farB m (decide (t < 0)) least rest b))] ∧ Same H H', ?_, ?_⟩
    · refine ⟨_, rfl, by show 2 ≤ sizeLine; decide, fun q2 hq2 => ⟨q2, _, rfl, .inr (SqT.of upd_same), rfl, rfl, _, rfl, ?_⟩⟩
      have ein : ∀ m : Fin 6, inV (V.str (modeS m.val)) [V.str "half", V.str "even"] = decide (m.val = 4 ∨ m.val = 5) := by decide +kernel
      have hS2 := hS.trans (same_new (o := .tup [.str "half", .str "even"]) hq2)
      show if inV (V.str (modeS m)) [V.str "half", V.str "even"] = true then _ else _
      rw [ein ⟨m, hm⟩]
      by_cases c : m = 4 ∨ m = 5
      · rw [decide_eq_true c]
        have e : farB m (decide (t < 0)) least rest b = (decide (2 * rest > b) || (decide (2 * rest = b) && (decide (m = 4) || decide (least % 2 = 1)))) := by unfold farB; rw [if_pos c]
        refine iteT ?_
        refine (VB.or (p := decide (2 * rest > b)) (fun Q h => ⟨_, rfl, _, _, rfl, rfl, .inl ⟨by decide, by decide⟩, _, rfl, _, _, rfl, rfl, h⟩) (VB.and (p := decide (2 * rest = b)) (fun Q h => ⟨_, rfl, _, _, rfl, rfl, .inl ⟨by decide, by decide⟩, _, rfl, rfl, ?_⟩)
          (VB.or (vm _ _ 4 (by decide) rfl) (q := decide (least % 2 = 1)) (fun Q h => ⟨_, rfl, _, _, rfl, rfl, (by show (0 : Int) < 2; decide), rfl, ?_⟩)))) _ ?_
        · exact ⟨by rw [e]; rfl, hS2⟩
        · show Q (.bl (decide (V.int (2 * rest) = V.int b))) _
          rw [dec_int]; exact h
        · show Q (.bl (decide (V.int (least % 2) = V.int 1))) _
          rw [dec_int]; exact h
      · rw [decide_eq_false c]
        have e : farB m (decide (t < 0)) least rest b = (decide (m = 1) || (decide (m = 2) && decide (t < 0) || decide (m = 3) && !decide (t < 0))) := by unfold farB; rw [if_neg c]
        refine iteF ⟨by rw [e]; rfl, hS2⟩
    · rintro σ' H' ⟨rfl, hS2⟩
      refine ⟨_, rfl, _, rfl, _, rfl, .inr ⟨_, rfl, _, _, rfl, rfl, _, _, rfl, rfl, .inl ?_, k2 _ hS2 _ rfl⟩⟩
      split <;> decide
end
end Lw

/-! ### where two modes part: the plain part -/
namespace Lw
theorem rnd_scale {m : Nat} {t b c : Int} (hc : 0 < c) (hb : 0 < b) : rnd m (c * t) (c * b) = rnd m t b := by
  have e1 : c * t / (c * b) = t / b := Int.mul_ediv_mul_of_pos _ _ hc
  have e2 : c * t % (c * b) = c * (t % b) := Int.mul_emod_mul_of_pos _ _ hc
  have z : c * (t % b) = 0 ↔ t % b = 0 := by
    constructor
    · intro h
      rcases Int.mul_eq_zero.mp h with h | h
      · omega
      · exact h
    · intro h; rw [h, Int.mul_zero]
  have g1 : 2 * (c * (t % b)) = c * (2 * (t % b)) := by rw [Int.mul_left_comm]
  have g2 : c * (2 * (t % b)) > c * b ↔ 2 * (t % b) > b := ⟨fun h => Int.lt_of_mul_lt_mul_left h (by omega), fun h => Int.mul_lt_mul_of_pos_left h hc⟩
  have g3 : c * (2 * (t % b)) = c * b ↔ 2 * (t % b) = b := ⟨fun h => Int.eq_of_mul_eq_mul_left (by omega) h, fun h => by rw [h]⟩
  have eg : goes m (t / b) (2 * (c * (t % b))) (c * b) = goes m (t / b) (2 * (t % b)) b := by
    rw [g1]
    unfold goes
    split <;> simp only [g2, g3]
  unfold rnd
  rw [e1, e2, eg]
  by_cases h : t % b = 0
  · rw [if_pos h, if_pos (z.mpr h)]
  · rw [if_neg h, if_neg (fun q => h (z.mp q))]
theorem rnd_low {m : Nat} {t b : Int} (hb : 0 < b) : rnd m (lowT t b) (lowB t b) = rnd m t b := by
  have hc : com t b = ((Nat.gcd t.natAbs b.natAbs : Nat) : Int) := by unfold com; rw [if_neg (by omega)]
  have hg := gcd_pos (t := t) (b := b) (by omega)
  have h := rnd_scale (m := m) (t := lowT t b) (b := lowB t b) (c := com t b) (by rw [hc]; omega) (lowB_pos (by omega))
  rw [Int.mul_comm, lowT_mul, Int.mul_comm, lowB_mul] at h
  exact h.symm
/-- where rounding differs -/
def dif (m m' : Nat) (t b : Int) : Bool := decide (rnd m t b ≠ rnd m' t b)
theorem dif_comm (m m' : Nat) (t b : Int) : dif m m' t b = dif m' m t b := by
  unfold dif
  exact decide_eq_decide.mpr ⟨Ne.symm, Ne.symm⟩
def near (m m' : Nat) (s b : Int) : List Int → Option Int
  | [] => none
  | t :: r => if Nat.gcd t.natAbs b.natAbs = 1 then (if dif m m' (t * s) b = true then some t else if dif m m' (-t * s) b = true then some (-t) else near m m' s b r) else near m m' s b r
theorem near_cons (m m' : Nat) (s b t : Int) (r : List Int) : near m m' s b (t :: r) = if Nat.gcd t.natAbs b.natAbs = 1 then (if dif m m' (t * s) b = true then some t else if dif m m' (-t * s) b = true then some (-t) else near m m' s b r) else near m m' s b r := rfl
theorem near_comm (m m' : Nat) (s b : Int) : ∀ l, near m m' s b l = near m' m s b l
  | [] => rfl
  | t :: r => by
    rw [near_cons, near_cons, dif_comm m m', dif_comm m m', near_comm m m' s b r]
theorem near_app (m m' : Nat) (s b : Int) : ∀ l r, near m m' s b (l ++ r) = (near m m' s b l).or (near m m' s b r)
  | [], r => rfl
  | t :: l, r => by
    rw [List.cons_append, near_cons, near_cons, near_app m m' s b l r]
    split
    · split
      · rfl
      · split
        · rfl
        · rfl
    · rfl
theorem near_none {m m' : Nat} {s b : Int} {l : List Int} : near m m' s b l = none ↔ ∀ t ∈ l, Nat.gcd t.natAbs b.natAbs = 1 → dif m m' (t * s) b = false ∧ dif m m' (-t * s) b = false := by
  induction l with
  | nil => exact ⟨fun _ t h => by simp at h, fun _ => rfl⟩
  | cons t r ih =>
    rw [near_cons, List.forall_mem_cons]
    by_cases g : Nat.gcd t.natAbs b.natAbs = 1
    · rw [if_pos g]
      cases d1 : dif m m' (t * s) b with
      | true => exact ⟨fun h => by simp at h, fun h => by have := (h.1 g).1; cases this⟩
      | false =>
        cases d2 : dif m m' (-t * s) b with
        | true => exact ⟨fun h => by simp at h, fun h => by have := (h.1 g).2; cases this⟩
        | false =>
          rw [if_neg (by decide), if_neg (by decide), ih]
          exact ⟨fun h => ⟨fun _ => ⟨rfl, rfl⟩, h⟩, fun h => h.2⟩
    · rw [if_neg g, ih]
      exact ⟨fun h => ⟨fun z => absurd z g, h⟩, fun h => h.2⟩
def tops (n : Nat) : List Int := (List.range n).map fun (i : Nat) => 1 + (i : Int)
theorem mem_tops {n : Nat} {t : Int} : t ∈ tops n ↔ 1 ≤ t ∧ t ≤ n := by
  unfold tops
  rw [List.mem_map]
  constructor
  · rintro ⟨i, hi, rfl⟩
    have := List.mem_range.mp hi
    omega
  · intro h
    exact ⟨(t - 1).toNat, List.mem_range.mpr (by omega), by omega⟩
/-- a shift by an even number -/
theorem rnd_shift {m : Nat} {t b k : Int} (hb : 0 < b) (hs : t / b < 0 ↔ t / b + 2 * k < 0) : rnd m (t + 2 * k * b) b = rnd m t b + 2 * k := by
  have e1 : (t + 2 * k * b) / b = t / b + 2 * k := Int.add_mul_ediv_right _ _ (by omega)
  have e2 : (t + 2 * k * b) % b = t % b := Int.add_mul_emod_self_right _ _ _
  have eg : goes m (t / b + 2 * k) (2 * (t % b)) b = goes m (t / b) (2 * (t % b)) b := by
    have h0 : t / b + 2 * k ≥ 0 ↔ t / b ≥ 0 := by omega
    have h1 : (t / b + 2 * k) % 2 = (t / b) % 2 := by omega
    unfold goes
    split <;> simp only [← hs, h0, h1]
  unfold rnd
  rw [e1, e2, eg]
  split <;> omega
theorem near_ext {m m' n : Nat} {s : Int} (hs : 0 < s) (hn : 1 ≤ n) : near m m' s n (tops (2 * n + 1)) = near m m' s n (tops (2 * n)) := by
  have e : tops (2 * n + 1) = tops (2 * n) ++ [1 + ((2 * n : Nat) : Int)] := by
    unfold tops
    rw [List.range_succ, List.map_append]; rfl
  rw [e, near_app]
  cases h : near m m' s n (tops (2 * n)) with
  | some t => rfl
  | none =>
    rw [Option.none_or]
    have h1 := near_none.mp h 1 (mem_tops.mpr ⟨by omega, by omega⟩) (by simp)
    rw [near_none]
    intro t ht _
    rw [List.mem_singleton] at ht
    subst ht
    have hn0 : (0 : Int) < (n : Int) := by omega
    have e1 : (1 + ((2 * n : Nat) : Int)) * s = 1 * s + 2 * s * n := by
      rw [Int.add_mul, Int.natCast_mul, Int.mul_assoc 2 s, Int.mul_comm s, ← Int.mul_assoc]; rfl
    have e2 : -(1 + ((2 * n : Nat) : Int)) * s = -1 * s + 2 * (-s) * n := by
      have z : 2 * (-s) * (n : Int) = -(2 * s * n) := by rw [Int.mul_neg, Int.neg_mul]
      rw [Int.neg_mul, e1, z]
      omega
    have p1 : 0 ≤ (1 * s) / (n : Int) := Int.ediv_nonneg (by omega) (by omega)
    have p2 : (-1 * s) / (n : Int) < 0 := Int.ediv_neg_of_neg_of_pos (by omega) hn0
    have a1 : ∀ k, rnd k ((1 + ((2 * n : Nat) : Int)) * s) n = rnd k (1 * s) n + 2 * s := fun k => by
      rw [e1]; exact rnd_shift hn0 (by omega)
    have a2 : ∀ k, rnd k (-(1 + ((2 * n : Nat) : Int)) * s) n = rnd k (-1 * s) n + 2 * (-s) := fun k => by
      rw [e2]; exact rnd_shift hn0 (by omega)
    unfold dif at h1 ⊢
    have q1 : rnd m (1 * s) n = rnd m' (1 * s) n := by simpa using h1.1
    have q2 : rnd m (-1 * s) n = rnd m' (-1 * s) n := by simpa using h1.2
    rw [a1, a1, a2, a2, q1, q2]
    simp
/-- bottom 1: whole numbers -/
theorem near_one {m m' : Nat} {s : Int} (l : List Int) : near m m' s 1 l = none := by
  rw [near_none]
  intro t _ _
  have h : ∀ (k : Nat) (x : Int), rnd k x 1 = x := fun k x => by
    unfold rnd
    rw [Int.emod_one, if_pos rfl, Int.ediv_one]
  unfold dif
  rw [h, h, h, h]
  simp
/-! half and even -/
theorem no_tie {t b : Int} (h : ¬ 2 * (t % b) = b) : rnd 4 t b = rnd 5 t b := by
  unfold rnd goes
  simp [h]
theorem near_45 {e : Nat} {o b : Int} {l : List Int} (hb : 0 < b) (hlt : b < 2 ^ (e + 1)) : near 4 5 (2 ^ e * o) b l = none := by
  rw [near_none]
  have key : ∀ t : Int, ¬ 2 * (t * (2 ^ e * o) % b) = b := by
    intro t h
    have e1 := Int.mul_ediv_add_emod (t * (2 ^ e * o)) b
    generalize t * (2 ^ e * o) / b = q at e1
    generalize hr : t * (2 ^ e * o) % b = r at h e1
    have e2 : 2 ^ (e + 1) * (t * o) = b * (2 * q + 1) := by
      rw [Int.mul_add, Int.mul_one]
      have : (2 : Int) ^ (e + 1) * (t * o) = 2 * (t * (2 ^ e * o)) := by
        rw [Int.pow_succ]
        rw [Int.mul_comm (2 ^ e) 2, Int.mul_assoc, Int.mul_left_comm (2 ^ e)]
      rw [this, ← e1, Int.mul_add, Int.mul_left_comm 2 b q]
      omega
    have d1 : (2 : Int) ^ (e + 1) ∣ b * (2 * q + 1) := ⟨t * o, e2.symm⟩
    obtain ⟨n, rfl⟩ : ∃ n : Nat, b = n := ⟨b.toNat, by omega⟩
    have d2 : (2 : Nat) ^ (e + 1) ∣ n * (2 * q + 1).natAbs := by
      have := Int.natAbs_dvd_natAbs.mpr d1
      rw [Int.natAbs_mul, Int.natAbs_pow] at this
      simpa using this
    have hco : Nat.Coprime (2 ^ (e + 1)) (2 * q + 1).natAbs := by
      apply Nat.Coprime.pow_left
      rw [Nat.coprime_comm, Nat.Coprime, Nat.gcd_comm, Nat.gcd_rec]
      have : (2 * q + 1).natAbs % 2 = 1 := by omega
      rw [this]
      rfl
    have d3 := hco.dvd_of_dvd_mul_right d2
    have := Nat.le_of_dvd (by omega) d3
    have h2 : ((2 ^ (e + 1) : Nat) : Int) ≤ (n : Int) := by exact_mod_cast this
    have h3 : ((2 ^ (e + 1) : Nat) : Int) = 2 ^ (e + 1) := by norm_cast
    omega
  intro t _ _
  unfold dif
  rw [no_tie (key t), no_tie (key (-t))]
  simp
end Lw

namespace Lw
theorem tie_vals {e : Nat} {o c : Int} (hc : c = 2 * (c / 2) + 1) : (2 ^ e * c) / 2 ^ (e + 1) = c / 2 ∧ (2 ^ e * c) % 2 ^ (e + 1) = 2 ^ e := by
  have hp : (0 : Int) < 2 ^ e := Int.pow_pos (by decide)
  have e0 : (2 : Int) ^ (e + 1) = 2 ^ e * 2 := Int.pow_succ _ _
  rw [e0, Int.mul_ediv_mul_of_pos _ _ hp, Int.mul_emod_mul_of_pos _ _ hp]
  refine ⟨rfl, ?_⟩
  have : c % 2 = 1 := by omega
  rw [this, Int.mul_one]
theorem rnd_tie {e : Nat} {c : Int} (hc : c = 2 * (c / 2) + 1) : rnd 4 (2 ^ e * c) (2 ^ (e + 1)) = c / 2 + (if c / 2 ≥ 0 then 1 else 0) ∧ rnd 5 (2 ^ e * c) (2 ^ (e + 1)) = c / 2 + (if c / 2 % 2 = 1 then 1 else 0) := by
  have hp : (0 : Int) < 2 ^ e := Int.pow_pos (by decide)
  have e0 : (2 : Int) * 2 ^ e = 2 ^ (e + 1) := by rw [Int.pow_succ, Int.mul_comm]
  obtain ⟨h1, h2⟩ := tie_vals (o := 0) (e := e) hc
  have hz : ¬ (2 ^ e * c) % 2 ^ (e + 1) = 0 := by rw [h2]; omega
  have g4 : goes 4 (c / 2) (2 * 2 ^ e) (2 ^ (e + 1)) = decide (c / 2 ≥ 0) := by
    show (decide ((2 : Int) * 2 ^ e > 2 ^ (e + 1)) || (decide ((2 : Int) * 2 ^ e = 2 ^ (e + 1)) && decide (c / 2 ≥ 0))) = _
    rw [e0, decide_eq_false (Int.lt_irrefl _), decide_eq_true rfl, Bool.false_or, Bool.true_and]
  have g5 : goes 5 (c / 2) (2 * 2 ^ e) (2 ^ (e + 1)) = decide (c / 2 % 2 = 1) := by
    show (decide ((2 : Int) * 2 ^ e > 2 ^ (e + 1)) || (decide ((2 : Int) * 2 ^ e = 2 ^ (e + 1)) && decide (c / 2 % 2 = 1))) = _
    rw [e0, decide_eq_false (Int.lt_irrefl _), decide_eq_true rfl, Bool.false_or, Bool.true_and]
  unfold rnd
  rw [if_neg hz, if_neg hz, h1, h2, g4, g5]
  simp
theorem near_tie {e : Nat} {o : Int} (ho : o = 2 * (o / 2) + 1) (hp : 0 < o) (r : List Int) :
    near 4 5 (2 ^ e * o) (2 ^ (e + 1)) (1 :: 2 :: 3 :: r) = (if o / 2 % 2 = 0 then some 1 else some 3) ∧ near 4 5 (2 ^ e * o) (2 ^ (e + 1)) [1, 3, 5] = (if o / 2 % 2 = 0 then some 1 else some 3) := by
  have g1 : Nat.gcd (1 : Int).natAbs ((2 : Int) ^ (e + 1)).natAbs = 1 := by
    show Nat.gcd 1 _ = 1
    exact Nat.gcd_one_left _
  have eN : ((2 : Int) ^ (e + 1)).natAbs = 2 ^ (e + 1) := by rw [Int.natAbs_pow]; rfl
  have g2 : ¬ Nat.gcd (2 : Int).natAbs ((2 : Int) ^ (e + 1)).natAbs = 1 := by
    rw [eN]
    intro h
    have d : 2 ∣ Nat.gcd (2 : Int).natAbs (2 ^ (e + 1)) := Nat.dvd_gcd (Nat.dvd_refl 2) ⟨2 ^ e, by rw [Nat.pow_succ, Nat.mul_comm]⟩
    rw [h] at d
    exact absurd d (by decide)
  have g3 : Nat.gcd (3 : Int).natAbs ((2 : Int) ^ (e + 1)).natAbs = 1 := by
    rw [eN]
    exact Nat.Coprime.pow_right _ (by decide)
  have t1 : (1 : Int) * (2 ^ e * o) = 2 ^ e * o := Int.one_mul _
  have t1' : (-1 : Int) * (2 ^ e * o) = 2 ^ e * (-o) := by rw [Int.neg_mul, Int.one_mul, Int.mul_neg]
  have t3 : (3 : Int) * (2 ^ e * o) = 2 ^ e * (3 * o) := Int.mul_left_comm _ _ _
  obtain ⟨a1, a2⟩ := rnd_tie (e := e) (c := o) ho
  obtain ⟨b1, b2⟩ := rnd_tie (e := e) (c := -o) (by omega)
  obtain ⟨c1, c2⟩ := rnd_tie (e := e) (c := 3 * o) (by omega)
  have d1 : dif 4 5 ((1 : Int) * (2 ^ e * o)) (2 ^ (e + 1)) = decide (o / 2 % 2 = 0) := by
    unfold dif
    rw [t1, a1, a2, if_pos (by omega)]
    apply decide_eq_decide.mpr
    split <;> omega
  have d2 : ¬ o / 2 % 2 = 0 → dif 4 5 ((-1 : Int) * (2 ^ e * o)) (2 ^ (e + 1)) = false := fun h => by
    unfold dif
    rw [t1', b1, b2, if_neg (by omega)]
    apply decide_eq_false
    split <;> omega
  have d3 : ¬ o / 2 % 2 = 0 → dif 4 5 ((3 : Int) * (2 ^ e * o)) (2 ^ (e + 1)) = true := fun h => by
    unfold dif
    rw [t3, c1, c2, if_pos (by omega)]
    apply decide_eq_true
    split <;> omega
  constructor
  · rw [near_cons, near_cons, near_cons, if_pos g1, if_neg g2, if_pos g3, d1]
    by_cases q : o / 2 % 2 = 0
    · rw [if_pos (decide_eq_true q), if_pos q]
    · rw [if_neg (by rw [decide_eq_false q]; decide), if_neg (by rw [d2 q]; decide), if_pos (d3 q), if_neg q]
  · rw [near_cons, near_cons, if_pos g1, if_pos g3, d1]
    by_cases q : o / 2 % 2 = 0
    · rw [if_pos (decide_eq_true q), if_pos q]
    · rw [if_neg (by rw [decide_eq_false q]; decide), if_neg (by rw [d2 q]; decide), if_pos (d3 q), if_neg q]
/-! the other pairs -/
/-- whether rounding goes up, off the half: neg, the rest beyond the half -/
def up4 (m : Nat) (neg big : Bool) : Bool := match m with
  | 0 => neg
  | 1 => !neg
  | 2 => false
  | 3 => true
  | _ => big
theorem rnd_up {m : Nat} {t p : Int} (hp : 3 ≤ p) (hr : t % p = 1 ∨ t % p = p - 1) : rnd m t p = t / p + (if up4 m (decide (t / p < 0)) (decide (t % p = p - 1)) = true then 1 else 0) := by
  unfold rnd
  rw [if_neg (by omega)]
  congr 1
  have h0 : goes m (t / p) (2 * (t % p)) p = up4 m (decide (t / p < 0)) (decide (t % p = p - 1)) := by
    have hb : ∀ c : Bool, (decide (2 * (t % p) > p) || (decide (2 * (t % p) = p) && c)) = decide (t % p = p - 1) := fun c => by
      rcases hr with h | h
      · rw [h, decide_eq_false (by omega), decide_eq_false (by omega), decide_eq_false (by omega)]; rfl
      · rw [h, decide_eq_true (by omega), decide_eq_true rfl]; rfl
    unfold goes up4
    split
    · rfl
    · by_cases c : t / p < 0
      · rw [decide_eq_true c, decide_eq_false (by omega)]; rfl
      · rw [decide_eq_false c, decide_eq_true (by omega)]; rfl
    · rfl
    · rfl
    · exact hb _
    · rename_i h1 h2 h3 h4 h5
      rw [hb]
      split
      · exact absurd rfl (h1 ·)
      · exact absurd rfl (h2 ·)
      · exact absurd rfl (h3 ·)
      · exact absurd rfl (h4 ·)
      · rfl
  rw [h0]
/-- two modes that are not just half and even part at a prime that the scale has not -/
theorem up_sep : ∀ m m' : Fin 6, m ≠ m' → ¬ (m.val = 4 ∧ m'.val = 5) → ¬ (m.val = 5 ∧ m'.val = 4) →
    up4 m.val false false ≠ up4 m'.val false false ∨ up4 m.val false true ≠ up4 m'.val false true ∨ up4 m.val true false ≠ up4 m'.val true false := by decide
theorem dif_up {m m' : Nat} {t p : Int} (hp : 3 ≤ p) (hr : t % p = 1 ∨ t % p = p - 1) (h : up4 m (decide (t / p < 0)) (decide (t % p = p - 1)) ≠ up4 m' (decide (t / p < 0)) (decide (t % p = p - 1))) : dif m m' t p = true := by
  unfold dif
  apply decide_eq_true
  rw [rnd_up hp hr, rnd_up hp hr]
  cases h1 : up4 m (decide (t / p < 0)) (decide (t % p = p - 1)) <;> cases h2 : up4 m' (decide (t / p < 0)) (decide (t % p = p - 1))
  · rw [h1, h2] at h; exact absurd rfl h
  · simp; omega
  · simp; omega
  · rw [h1, h2] at h; exact absurd rfl h
/-- for each rest of the scale there is a top with the rest 1, and one with p - 1 -/
theorem inv_tops : ∀ p ∈ [3, 5, 7, 11], ∀ r : Fin 11, 0 < r.val → r.val < p → (∃ t : Fin 11, 1 ≤ t.val ∧ t.val < p ∧ t.val * r.val % p = 1 ∧ Nat.gcd t.val p = 1) ∧ ∃ t : Fin 11, 1 ≤ t.val ∧ t.val < p ∧ t.val * r.val % p = p - 1 ∧ Nat.gcd t.val p = 1 := by decide
theorem near_prime {m m' : Nat} {s : Int} {p : Nat} (hp : p ∈ [3, 5, 7, 11]) (hs : 0 < s) (hd : ¬ s % p = 0) (hm : m < 6) (hm' : m' < 6) (ne : m ≠ m') (n1 : ¬ (m = 4 ∧ m' = 5)) (n2 : ¬ (m = 5 ∧ m' = 4)) :
    near m m' s p (tops (2 * p)) ≠ none := by
  have hp3 : 3 ≤ p ∧ p ≤ 11 := by
    simp at hp
    omega
  have h0 := Int.emod_nonneg s (show (p : Int) ≠ 0 by omega)
  have h1 := Int.emod_lt_of_pos s (show (0 : Int) < p by omega)
  obtain ⟨r, hr⟩ : ∃ r : Nat, s % p = r := ⟨(s % p).toNat, by omega⟩
  obtain ⟨⟨t1, a1, a2, a3, a4⟩, ⟨t2, b1, b2, b3, b4⟩⟩ := inv_tops p hp ⟨r, by omega⟩ (by show 0 < r; omega) (by show r < p; omega)
  have res : ∀ t : Nat, ((t : Int) * s) % p = ((t * r % p : Nat) : Int) := fun t => by
    rw [Int.mul_emod, hr, Int.natCast_emod, Int.natCast_mul, Int.mul_emod (t : Int) (r : Int)]
    congr 2
    exact (Int.emod_eq_of_lt (by omega) (by omega)).symm
  have r1 : ((t1.val : Int) * s) % p = 1 := by rw [res, a3]; rfl
  have r2 : ((t2.val : Int) * s) % p = p - 1 := by rw [res, b3]; omega
  have r3 : (-(t2.val : Int) * s) % p = 1 := by
    rw [Int.neg_mul]
    have := (neg_div (n := (t2.val : Int) * s) (b := p) (by omega) (by rw [r2]; omega)).2
    rw [this, r2]; omega
  have p1 : 0 ≤ ((t1.val : Int) * s) / p := Int.ediv_nonneg (Int.mul_nonneg (by omega) (by omega)) (by omega)
  have p2 : 0 ≤ ((t2.val : Int) * s) / p := Int.ediv_nonneg (Int.mul_nonneg (by omega) (by omega)) (by omega)
  have p3 : (-(t2.val : Int) * s) / p < 0 := by
    rw [Int.neg_mul]
    refine Int.ediv_neg_of_neg_of_pos ?_ (by omega)
    have := Int.mul_pos (show (0 : Int) < t2.val by omega) hs
    omega
  intro hn
  rw [near_none] at hn
  obtain ⟨q1, q1'⟩ := hn (t1.val : Int) (mem_tops.mpr ⟨by omega, by omega⟩) a4
  obtain ⟨q2, q2'⟩ := hn (t2.val : Int) (mem_tops.mpr ⟨by omega, by omega⟩) b4
  rcases up_sep ⟨m, hm⟩ ⟨m', hm'⟩ (fun z => ne (Fin.mk.inj z)) n1 n2 with h | h | h
  · have := dif_up (m := m) (m' := m') (t := (t1.val : Int) * s) (p := p) (by omega) (.inl r1) (by
      rw [decide_eq_false (by omega), decide_eq_false (by rw [r1]; omega)]; exact h)
    rw [this] at q1; cases q1
  · have := dif_up (m := m) (m' := m') (t := (t2.val : Int) * s) (p := p) (by omega) (.inr r2) (by
      rw [decide_eq_false (by omega), decide_eq_true r2]; exact h)
    rw [this] at q2; cases q2
  · have := dif_up (m := m) (m' := m') (t := -(t2.val : Int) * s) (p := p) (by omega) (.inl r3) (by
      rw [decide_eq_true p3, decide_eq_false (by rw [r3]; omega)]; exact h)
    rw [this] at q2'; cases q2'
theorem prime_for : ∀ b : Fin 37, 2 ≤ b.val → ∃ p ∈ [3, 5, 7, 11], ¬ b.val % p = 0 := by decide
theorem pow_mod_prime {p b : Nat} (hp : p ∈ [3, 5, 7, 11]) (h : ¬ b % p = 0) (n : Nat) : ¬ ((b : Int) ^ n) % p = 0 := by
  intro hz
  have pr : ∀ x y : Nat, x * y % p = 0 → x % p = 0 ∨ y % p = 0 := by
    intro x y hxy
    rw [Nat.mul_mod] at hxy
    have hx := Nat.mod_lt x (show p > 0 by simp at hp; omega)
    have hy := Nat.mod_lt y (show p > 0 by simp at hp; omega)
    have key : ∀ q ∈ [3, 5, 7, 11], ∀ u v : Fin 11, u.val * v.val % q = 0 → u.val < q → v.val < q → u.val = 0 ∨ v.val = 0 := by decide
    have hp11 : p ≤ 11 := by simp at hp; omega
    exact key p hp ⟨x % p, by omega⟩ ⟨y % p, by omega⟩ hxy hx hy
  have hn : ∀ n : Nat, ¬ b ^ n % p = 0 := by
    intro n
    induction n with
    | zero =>
      rw [Nat.pow_zero, Nat.mod_eq_of_lt (by simp at hp; omega)]
      decide
    | succ n ih =>
      rw [Nat.pow_succ]
      intro z
      rcases pr _ _ z with q | q
      · exact ih q
      · exact h q
  apply hn n
  have : (((b ^ n % p : Nat)) : Int) = 0 := by
    rw [Int.natCast_emod]
    have e : ((b ^ n : Nat) : Int) = (b : Int) ^ n := by norm_cast
    rw [e]; exact hz
  omega
end Lw

namespace Lw
open PySem PySem.Spec PyProof.Rows L2 Fw SX
theorem pow_mono {a b : Nat} (h : a ≤ b) {n : Nat} (hn : n < 2 ^ a) : n < 2 ^ b := Nat.lt_of_lt_of_le hn (Nat.pow_le_pow_right (by decide) h)
theorem log_int {t : Int} {a : Nat} (h0 : 0 < a) (h : a ≤ 1920) (ht : t.natAbs < 2 ^ a) : t.natAbs.log2 < 1920 := Nat.lt_of_lt_of_le (log2_lt h0 ht) h
def spPower : Sp := fun vs H Q _ => ∃ (b m : Int), vs = [.int b, .int m] ∧ 0 ≤ b ∧ b ≤ 1000 ∧ 0 ≤ m ∧ m ≤ 1000 ∧ Q (.int (b ^ m.toNat)) H
/-- the answer of nearest_unlike -/
def Near (H : Hp) (v : V) (b : Int) : Option Int → Prop
  | none => v = .non
  | some t => ∃ T, v = .ref T ∧ H T = some (.tup [.int t, .int b])
def spNear (K : PySem.W.Frag) : Sp := fun vs H Q _ => ∃ (T : Addr) (m m' n : Nat) (s : Int), vs = [.ref T, .int s, .int (n : Nat)] ∧ m < 6 ∧ m' < 6 ∧ SqT K H T [.str (modeS m), .str (modeS m')] ∧ 0 < s ∧ s < 2 ^ 63 ∧ 1 ≤ n ∧ n ≤ 2 ^ 61 ∧
  ∀ v H', Same H H' → Near H' v n (near m m' s n (tops (2 * n))) → Q v H'
section
variable {P : Program} {w : World} {K : PySem.W.Frag} {mg : Str → Option Value} {base : Heap}
abbrev s_power : Stmt := top 4
theorem sc_power : FnScope ["base", "many", "found", "turn"] ["base", "many"] (defScope s_power) :=
  ⟨rfl, rfl, rfl, by decide +kernel, rfl, by decide +kernel,
    by decide +kernel⟩
theorem ok_power {f : Addr} {fd : FuncData} (F : FnP K "power" s_power f fd) (mg_range : mg "range" = none) : FnOk P w K mg base CX0 1 f fd ["base", "many"] spPower := by
  refine F.ok sc_power (fun vs H Q E h => ?_) (fun cdv A outer s H vs Q E hr h => ?_)
  · obtain ⟨b, m, rfl, _⟩ := h
    rfl
  · obtain ⟨b, m, rfl, h1, h2, h3, h4, k⟩ := h
    refine ⟨_, PSs.nox (pss_cons (ps_set (i := 2) sc_power.nd rfl (Or.inl rfl) pe_int)
  (pss_cons (ps_for PassesOwn.never rfl (pi_range1 (by rfl) mg_range (pa_cons (pv 1) pa_nil)) (pg_name (i := 3) sc_power.nd rfl (.inl rfl))
    (pss_one (ps_aug (i := 2) sc_power.nd rfl (.inl rfl) (pv 0) iop_mul)))
  (pss_one (ps_ret (pv 2))))), ?_⟩
    refine ⟨_, rfl, _, rfl, by omega, by omega, ?_⟩
    refine for_range (lo := 0) (n := m.toNat) (fun i σ' H' => H' = H ∧ ∃ v : Option V, σ' = [some (.int b), some (.int m), some (.int (b ^ i)), v]) ⟨rfl, none, by rw [Int.pow_zero]; rfl⟩ ?_ ?_
    · rintro i σ' H' hi ⟨rfl, v, rfl⟩
      refine ⟨_, rfl, _, rfl, _, _, rfl, rfl, .inr ⟨by omega, by omega⟩, ?_⟩
      exact ⟨rfl, some (.int (0 + i)), by rw [Int.pow_succ]; rfl⟩
    · rintro σ' H' ⟨rfl, v, rfl⟩
      exact ⟨_, rfl, k⟩
abbrev s_lpower : Stmt := top 23
theorem sc__law_power : FnScope ["_law_radix_here", "_law_many", "_law_found", "_law_turn"] ["_law_radix_here", "_law_many"] (defScope s_lpower) :=
  ⟨rfl, rfl, rfl, by decide +kernel, rfl, by decide +kernel,
    by decide +kernel⟩
theorem ok_lpower {f : Addr} {fd : FuncData} (F : FnP K "_law_power" s_lpower f fd) (mg_range : mg "range" = none) : FnOk P w K mg base CX0 1 f fd ["_law_radix_here", "_law_many"] spPower := by
  refine F.ok sc__law_power (fun vs H Q E h => ?_) (fun cdv A outer s H vs Q E hr h => ?_)
  · obtain ⟨b, m, rfl, _⟩ := h
    rfl
  · obtain ⟨b, m, rfl, h1, h2, h3, h4, k⟩ := h
    refine ⟨_, PSs.nox (pss_cons (ps_set (i := 2) sc__law_power.nd rfl (Or.inl rfl) pe_int)
  (pss_cons (ps_for PassesOwn.never rfl (pi_range1 (by rfl) mg_range (pa_cons (pv 1) pa_nil)) (pg_name (i := 3) sc__law_power.nd rfl (.inl rfl))
    (pss_one (ps_set (i := 2) sc__law_power.nd rfl (Or.inl rfl) (pe_op op_mul (pv 2) (pv 0)))))
  (pss_one (ps_ret (pv 2))))), ?_⟩
    refine ⟨_, rfl, _, rfl, by omega, by omega, ?_⟩
    refine for_range (lo := 0) (n := m.toNat) (fun i σ' H' => H' = H ∧ ∃ v : Option V, σ' = [some (.int b), some (.int m), some (.int (b ^ i)), v]) ⟨rfl, none, by rw [Int.pow_zero]; rfl⟩ ?_ ?_
    · rintro i σ' H' hi ⟨rfl, v, rfl⟩
      refine ⟨_, rfl, _, rfl, _, _, rfl, rfl, .inr ⟨by omega, by omega⟩, ?_⟩
      exact ⟨rfl, some (.int (0 + i)), by rw [Int.pow_succ]; rfl⟩
    · rintro σ' H' ⟨rfl, v, rfl⟩
      exact ⟨_, rfl, k⟩
abbrev s_gcd : Stmt := top 24
theorem sc__law_gcd : FnScope ["_law_one", "_law_other"] ["_law_one", "_law_other"] (defScope s_gcd) :=
  ⟨rfl, rfl, rfl, by decide +kernel, rfl, by decide +kernel,
    by decide +kernel⟩
def spGcd : Sp := fun vs H Q _ => ∃ a b : Nat, vs = [.int (a : Nat), .int (b : Nat)] ∧ Q (.int ((Nat.gcd a b : Nat) : Int)) H
theorem ok_gcd {f : Addr} {fd : FuncData} (F : FnP K "_law_gcd" s_gcd f fd) : FnOk P w K mg base CX0 1 f fd ["_law_one", "_law_other"] spGcd := by
  refine F.ok sc__law_gcd (fun vs H Q E h => ?_) (fun cdv A outer s H vs Q E hr h => ?_)
  · obtain ⟨a, b, rfl, _⟩ := h
    rfl
  · obtain ⟨a, b, rfl, k⟩ := h
    refine ⟨_, PSs.nox (pss_cons (ps_while PassesOwn.never (pt_cmpR op_gt (pv 1) pe_int (nomark _))
    (pss_one (ps_par (by rfl) sc__law_gcd.nd (i := 0) (j := 1) rfl rfl (by decide) rfl rfl (pa_cons (pv 1) (pa_cons (pe_op op_mod (pv 0) (pv 1)) pa_nil)) (by rfl))))
  (pss_one (ps_ret (pv 0)))), ?_⟩
    refine ⟨fun z σ' H' => H' = H ∧ ∃ x y : Nat, z = y ∧ σ' = [some (.int (x : Nat)), some (.int (y : Nat))] ∧ Nat.gcd x y = Nat.gcd a b, ⟨b, rfl, a, b, rfl, rfl, rfl⟩, ?_⟩
    rintro z σ' H' ⟨rfl, x, y, rfl, rfl, e⟩
    refine ⟨_, rfl, _, _, rfl, rfl, _, rfl, ?_⟩
    refine ite2 (fun c => ?_) (fun c => ?_)
    · have hc : 0 < z := by have := of_decide_eq_true c; omega
      refine ⟨_, fun _ _ h => h, ?_⟩
      refine ⟨_, rfl, _, rfl, _, rfl, _, _, rfl, rfl, (by show (0 : Int) < (z : Int); omega), _, _, rfl, ?_⟩
      refine ⟨x % z, Nat.mod_lt _ hc, rfl, z, x % z, rfl, ?_, ?_⟩
      · rw [Int.natCast_emod]; rfl
      · rw [Nat.gcd_comm, ← Nat.gcd_rec, Nat.gcd_comm, e]
    · have hc : z = 0 := by have := of_decide_eq_false (Bool.not_eq_true _ ▸ c); omega
      subst hc
      rw [Nat.gcd_zero_right] at e
      refine ⟨_, rfl, ?_⟩
      rw [e]
      exact k
abbrev s_near : Stmt := top 18
theorem sc_nearest_unlike : FnScope ["modes", "scale", "bottom", "one", "other", "top", "turned", "size"] ["modes", "scale", "bottom"] (defScope s_near) :=
  ⟨rfl, rfl, rfl, by decide +kernel, rfl, by decide +kernel,
    by decide +kernel⟩
theorem drop_tops {n i : Nat} (h : i < n) : (tops n).drop i = (1 + (i : Int)) :: (tops n).drop (i + 1) := by
  have hl : i < (tops n).length := by unfold tops; rw [List.length_map, List.length_range]; exact h
  rw [List.drop_eq_getElem_cons hl]
  congr 1
  have e : (tops n)[i]? = some (1 + (i : Int)) := by
    unfold tops
    rw [List.getElem?_map, List.getElem?_range h]; rfl
  exact (List.getElem_eq_iff hl).mpr e
theorem ok_near {C f : Addr} {fd : FuncData} (F : FnP K "nearest_unlike" s_near f fd) (mg_range : mg "range" = none) (D_divisor : Dn P w K mg base CX0 1 "divisor" ["one", "other"] [] spDivisor)
    (D_fraction : Dn P w K mg base (L2.CX P w) 3 "fraction" ["top", "bottom"] [] (spFraction C)) (D_rounded_mode : Dk P w K mg base CX0 2 "rounded" 1 ["mode"] (fun vs zs => vs ++ zs) (spRounded K)) :
    FnOk P w K mg base CX0 4 f fd ["modes", "scale", "bottom"] (spNear K) := by
  refine F.ok sc_nearest_unlike (fun vs H Q E h => ?_) (fun cdv A outer st H vs Q E hr h => ?_)
  · obtain ⟨T, m, m', n, s, rfl, _⟩ := h
    rfl
  · obtain ⟨T, m, m', n, s, rfl, hm, hm', hT, hs, hs2, hn, hn2, k⟩ := h
    refine ⟨_, PSs.nox (pss_cons (ps_asg (pv 0) (pg_tup (by rfl) (pgs_cons (pg_name (i := 3) sc_nearest_unlike.nd rfl (.inl rfl)) (pgs_cons (pg_name (i := 4) sc_nearest_unlike.nd rfl (.inl rfl)) pgs_nil))))
  (pss_cons (ps_for PassesOwn.never rfl (pi_range2W (by rfl) mg_range (pa_cons pe_int (pa_cons (pe_op op_add (pe_op op_mul pe_int (pv 2)) pe_int) pa_nil))) (pg_name (i := 5) sc_nearest_unlike.nd rfl (.inl rfl))
    (pss_one (ps_if (pt_cmpR op_eq (pe_dn D_divisor (hr.mono (by decide)) rfl (pa_cons (pv 5) (pa_cons (pv 2) pa_nil))) pe_int (nomark _))
        (pss_one (ps_for PassesOwn.never rfl (pi_tup (pe_tup (pa_cons (pv 5) (pa_cons (pe_un un_neg (pv 5)) pa_nil)))) (pg_name (i := 6) sc_nearest_unlike.nd rfl (.inl rfl))
            (pss_cons (ps_set (i := 7) sc_nearest_unlike.nd rfl (Or.inl rfl) (pe_dnS D_fraction takes0 (hr.mono (by decide)) rfl (pa_cons (pe_op op_mul (pv 6) (pv 1)) (pa_cons (pv 2) pa_nil))))
              (pss_one (ps_if (pt_cmpR op_ne (pe_dk D_rounded_mode (hr.mono (by decide)) rfl (pa_cons (pv 7) pa_nil) (pk_cons (pv 3) pk_nil)) (pe_dk D_rounded_mode (hr.mono (by decide)) rfl (pa_cons (pv 7) pa_nil) (pk_cons (pv 4) pk_nil)) (nomark _))
                (pss_one (ps_ret (pe_tup (pa_cons (pv 6) (pa_cons (pv 2) pa_nil)))))
                pss_nil)))))
        pss_nil)))
  (pss_one (ps_ret pe_non)))), ?_⟩
    refine ⟨_, rfl, T, _, rfl, hT, rfl, _, _, rfl, _, _, rfl, rfl, ?_⟩
    refine ⟨_, rfl, _, _, rfl, rfl, .inl ⟨by decide, by decide⟩, _, _, rfl, rfl, _, _, rfl, ⟨by decide, by decide, by omega, by omega⟩, ?_⟩
    have eN : (2 * (n : Int) + 1 - 1).toNat = 2 * n := by omega
    rw [eN]
    have hn0 : (0 : Int) < (n : Int) := by omega
    have hnb : (n : Int).natAbs < 2 ^ 8000 := pow_mono (a := 62) (by decide) (by omega)
    refine for_range (lo := 1) (n := 2 * n) (fun i σ' H' => ∃ v5 v6 v7 : Option V, σ' = [some (.ref T), some (.int s), some (.int (n : Nat)), some (.str (modeS m)), some (.str (modeS m')), v5, v6, v7] ∧ Same H H' ∧ near m m' s n (tops (2 * n)) = near m m' s n ((tops (2 * n)).drop i))
      ⟨none, none, none, rfl, Same.refl _, rfl⟩ ?_ ?_
    · rintro i σ' H' hi ⟨v5, v6, v7, rfl, hS, e⟩
      rw [drop_tops hi, near_cons] at e
      refine ⟨_, rfl, _, rfl, _, _, rfl, rfl, _, rfl, ?_⟩
      rw [dec_int]
      by_cases hg : Nat.gcd (1 + (i : Int)).natAbs (n : Int).natAbs = 1
      · rw [decide_eq_true (by exact_mod_cast hg)]
        rw [if_pos hg] at e
        refine iteT ?_
        refine ⟨_, rfl, _, rfl, _, rfl, by show 2 ≤ sizeLine; decide, fun T2 hT2 => ⟨T2, rfl, ⟨_, SqT.of upd_same⟩, ?_⟩⟩
        have hS2 := hS.trans (same_new (o := .tup [.int (1 + (i : Int)), .int (-(1 + (i : Int)))]) hT2)
        have e2 : upd H' T2 (.tup [.int (1 + (i : Int)), .int (-(1 + (i : Int)))]) T2 = some (.tup [.int (1 + (i : Int)), .int (-(1 + (i : Int)))]) := upd_same
        generalize upd H' T2 (.tup [.int (1 + (i : Int)), .int (-(1 + (i : Int)))]) = H2 at hS2 e2 ⊢
        refine for_tup (K := K) (a := T2) (xs := [.int (1 + (i : Int)), .int (-(1 + (i : Int)))]) (fun j σj H3 => ∃ v6 v7 : Option V, σj = [some (.ref T), some (.int s), some (.int (n : Nat)), some (.str (modeS m)), some (.str (modeS m')), some (.int (1 + (i : Int))), v6, v7] ∧ Same H2 H3 ∧
            (1 ≤ j → dif m m' ((1 + (i : Int)) * s) n = false) ∧ (2 ≤ j → dif m m' (-(1 + (i : Int)) * s) n = false))
          ⟨_, _, rfl, Same.refl _, fun z => by omega, fun z => by omega⟩ (fun j σj H3 _ h => by
            obtain ⟨_, _, _, z, _⟩ := h
            exact SqT.of (z _ _ e2)) ?_ ?_
        · rintro j x σj H3 hx ⟨v6, v7, rfl, hs3, d1, d2⟩
          obtain ⟨t, rfl, ht⟩ : ∃ t : Int, x = .int t ∧ ((j = 0 ∧ t = 1 + (i : Int)) ∨ (j = 1 ∧ t = -(1 + (i : Int)))) := by
            rcases j with _ | _ | j
            · cases hx; exact ⟨_, rfl, .inl ⟨rfl, rfl⟩⟩
            · cases hx; exact ⟨_, rfl, .inr ⟨rfl, rfl⟩⟩
            · simp at hx
          have htb : t.natAbs < 2 ^ 64 := by
            rcases ht with ⟨_, rfl⟩ | ⟨_, rfl⟩ <;> omega
          have hb1 : (t * s).natAbs < 2 ^ 200 := pow_mono (a := 64 + 64) (by decide) (wide_lt htb (by omega))
          refine ⟨_, rfl, _, rfl, _, _, rfl, rfl, .inr ⟨by omega, by omega⟩, _, rfl, t * s, (n : Int), rfl, pow_mono (by decide) hb1, hnb, fun hz T3 H4 hT3 S4 e4 => ?_, fun z => by omega⟩
          have hpos := lowB_pos (t := t * s) (b := (n : Int)) (by omega)
          have hlb : (lowB (t * s) n).natAbs < 2 ^ 8000 := Nat.lt_of_le_of_lt (lowB_le (by omega)) hnb
          refine ⟨_, rfl, _, rfl, rfl, rfl, T3, m, lowT (t * s) n, lowB (t * s) n, rfl, hm, SqT.of e4, hpos, hlb, fun H5 S5 => ?_⟩
          refine ⟨_, rfl, _, rfl, rfl, rfl, T3, m', lowT (t * s) n, lowB (t * s) n, rfl, hm', SqT.of (S5 _ _ e4), hpos, hlb, fun H6 S6 => ⟨rfl, _, rfl, ?_⟩⟩
          rw [rnd_low hn0, rnd_low hn0]
          have S6' := (S4.trans S5).trans S6
          refine ite2 (fun c => ?_) (fun c => ?_)
          · have hd : dif m m' (t * s) n = true := by
              unfold dif
              apply decide_eq_true
              intro z
              rw [z] at c
              simp at c
            refine ⟨_, rfl, _, rfl, by show 2 ≤ sizeLine; decide, fun T7 hT7 => k _ _ ((hS2.trans hs3).trans (S6'.trans (same_new hT7))) ?_⟩
            have en : near m m' s n (tops (2 * n)) = some t := by
              rcases ht with ⟨_, rfl⟩ | ⟨rfl, rfl⟩
              · rw [e, if_pos hd]
              · rw [e, if_neg (by rw [d1 (by omega)]; decide), if_pos hd]
            rw [en]
            exact ⟨T7, rfl, upd_same⟩
          · have hd : dif m m' (t * s) n = false := by
              unfold dif
              apply decide_eq_false
              intro z
              apply c
              simp
              exact fun w => z (by simpa using w)
            refine ⟨_, _, rfl, hs3.trans S6', fun z => ?_, fun z => ?_⟩
            · rcases ht with ⟨_, rfl⟩ | ⟨rfl, _⟩
              · exact hd
              · exact d1 (by omega)
            · rcases ht with ⟨rfl, _⟩ | ⟨_, rfl⟩
              · omega
              · exact hd
        · rintro σj H3 ⟨v6, v7, rfl, hs3, d1, d2⟩
          refine ⟨_, _, _, rfl, hS2.trans hs3, ?_⟩
          rw [e, if_neg (by rw [d1 (by show 1 ≤ 2; omega)]; decide), if_neg (by rw [d2 (by show 2 ≤ 2; omega)]; decide)]
      · rw [decide_eq_false (by intro z; exact hg (by exact_mod_cast z))]
        rw [if_neg hg] at e
        exact iteF ⟨_, _, _, rfl, hS, e⟩
    · rintro σ' H' ⟨v5, v6, v7, rfl, hS, e⟩
      refine k _ _ hS ?_
      have hl : (tops (2 * n)).length = 2 * n := by unfold tops; rw [List.length_map, List.length_range]
      rw [e, List.drop_eq_nil_of_le (by omega)]
      rfl
end
end Lw

namespace Lw
open PySem PySem.Spec PyProof.Rows L2 Fw SX
def spLNear (K : PySem.W.Frag) : Sp := fun vs H Q _ => ∃ (L : Addr) (m m' n : Nat) (s : Int) (l : List Int), vs = [.str (modeS m), .str (modeS m'), .int s, .int (n : Nat), .ref L] ∧ m < 6 ∧ m' < 6 ∧ SqL K H L (l.map V.int) ∧ (∀ t ∈ l, 1 ≤ t ∧ t < 2 ^ 63) ∧ 0 < s ∧ s < 2 ^ 63 ∧ 1 ≤ n ∧ n ≤ 2 ^ 61 ∧
  ∀ v H', Same H H' → Near H' v n (near m m' s n l) → Q v H'
section
variable {P : Program} {w : World} {K : PySem.W.Frag} {mg : Str → Option Value} {base : Heap}
abbrev s_lnear : Stmt := top 27
theorem sc__law_nearest : FnScope ["_law_one", "_law_other", "_law_many", "_law_bottom", "_law_tops", "_law_top", "_law_about"] ["_law_one", "_law_other", "_law_many", "_law_bottom", "_law_tops"] (defScope s_lnear) :=
  ⟨rfl, rfl, rfl, by decide +kernel, rfl, by decide +kernel,
    by decide +kernel⟩
theorem ok_lnear {f : Addr} {fd : FuncData} (F : FnP K "_law_nearest" s_lnear f fd) (D__law_gcd : Dn P w K mg base CX0 1 "_law_gcd" ["_law_one", "_law_other"] [] spGcd) (D__law_round : Dn P w K mg base CX0 1 "_law_round" ["_law_top", "_law_bottom", "_law_mood"] [] spRound) :
    FnOk P w K mg base CX0 2 f fd ["_law_one", "_law_other", "_law_many", "_law_bottom", "_law_tops"] (spLNear K) := by
  refine F.ok sc__law_nearest (fun vs H Q E h => ?_) (fun cdv A outer st H vs Q E hr h => ?_)
  · obtain ⟨L, m, m', n, s, l, rfl, _⟩ := h
    rfl
  · obtain ⟨L, m, m', n, s, l, rfl, hm, hm', hL, hl, hs, hs2, hn, hn2, k⟩ := h
    refine ⟨_, PSs.nox (pss_cons (ps_for PassesOwn.never rfl (pi_list (pv 4)) (pg_name (i := 5) sc__law_nearest.nd rfl (.inl rfl))
    (pss_one (ps_if (pt_cmpR op_eq (pe_dn D__law_gcd (hr.mono (by decide)) rfl (pa_cons (pv 5) (pa_cons (pv 3) pa_nil))) pe_int (nomark _))
        (pss_one (ps_for PassesOwn.never rfl (pi_tup (pe_tup (pa_cons (pv 5) (pa_cons (pe_op op_sub pe_int (pv 5)) pa_nil)))) (pg_name (i := 6) sc__law_nearest.nd rfl (.inl rfl))
            (pss_one (ps_if (pt_cmpR op_ne (pe_dn D__law_round (hr.mono (by decide)) rfl (pa_cons (pe_op op_mul (pv 6) (pv 2)) (pa_cons (pv 3) (pa_cons (pv 0) pa_nil)))) (pe_dn D__law_round (hr.mono (by decide)) rfl (pa_cons (pe_op op_mul (pv 6) (pv 2)) (pa_cons (pv 3) (pa_cons (pv 1) pa_nil)))) (nomark _))
                (pss_one (ps_ret (pe_tup (pa_cons (pv 6) (pa_cons (pv 3) pa_nil)))))
                pss_nil))))
        pss_nil)))
  (pss_one (ps_ret pe_non))), ?_⟩
    have hn0 : (0 : Int) < (n : Int) := by omega
    have hnb : (n : Int).natAbs < 2 ^ 8000 := pow_mono (a := 62) (by decide) (by omega)
    refine ⟨_, rfl, L, rfl, ⟨_, hL⟩, ?_⟩
    refine for_list (K := K) (a := L) (xs := l.map V.int) (fun i σ' H' => ∃ v5 v6 : Option V, σ' = [some (.str (modeS m)), some (.str (modeS m')), some (.int s), some (.int (n : Nat)), some (.ref L), v5, v6] ∧ Same H H' ∧ near m m' s n l = near m m' s n (l.drop i))
      ⟨none, none, rfl, Same.refl _, rfl⟩ (fun i σ' H' _ h => by
        obtain ⟨_, _, _, z, _⟩ := h
        exact z.seq hL) ?_ ?_
    · rintro i x σ' H' hx ⟨v5, v6, rfl, hS, e⟩
      obtain ⟨t, hxt, rfl⟩ : ∃ t : Int, l[i]? = some t ∧ x = .int t := by
        rw [List.getElem?_map] at hx
        cases z : l[i]? with
        | none => rw [z] at hx; cases hx
        | some t => rw [z] at hx; cases hx; exact ⟨t, rfl, rfl⟩
      obtain ⟨ht1, ht2⟩ := hl t (List.mem_of_getElem? hxt)
      have ed : l.drop i = t :: l.drop (i + 1) := by
        obtain ⟨hi, ee⟩ := List.getElem?_eq_some_iff.mp hxt
        rw [List.drop_eq_getElem_cons hi, ee]
      rw [ed, near_cons] at e
      obtain ⟨tn, rfl⟩ : ∃ tn : Nat, t = tn := ⟨t.toNat, by omega⟩
      refine ⟨_, rfl, _, rfl, tn, n, rfl, rfl, _, rfl, ?_⟩
      rw [dec_int]
      by_cases hg : Nat.gcd (tn : Int).natAbs (n : Int).natAbs = 1
      · have hg' : Nat.gcd tn n = 1 := hg
        rw [decide_eq_true (by exact_mod_cast hg')]
        rw [if_pos hg] at e
        refine iteT ?_
        refine ⟨_, rfl, _, rfl, _, _, rfl, rfl, by show 2 ≤ sizeLine; decide, fun T2 hT2 => ⟨T2, rfl, ⟨_, SqT.of upd_same⟩, ?_⟩⟩
        have hS2 := hS.trans (same_new (o := .tup [.int (tn : Int), .int (0 - (tn : Int))]) hT2)
        have e2 : upd H' T2 (.tup [.int (tn : Int), .int (0 - (tn : Int))]) T2 = some (.tup [.int (tn : Int), .int (0 - (tn : Int))]) := upd_same
        generalize upd H' T2 (.tup [.int (tn : Int), .int (0 - (tn : Int))]) = H2 at hS2 e2 ⊢
        refine for_tup (K := K) (a := T2) (xs := [.int (tn : Int), .int (0 - (tn : Int))]) (fun j σj H3 => ∃ v6 : Option V, σj = [some (.str (modeS m)), some (.str (modeS m')), some (.int s), some (.int (n : Nat)), some (.ref L), some (.int (tn : Int)), v6] ∧ Same H2 H3 ∧
            (1 ≤ j → dif m m' ((tn : Int) * s) n = false) ∧ (2 ≤ j → dif m m' (-(tn : Int) * s) n = false))
          ⟨_, rfl, Same.refl _, fun z => by omega, fun z => by omega⟩ (fun j σj H3 _ h => by
            obtain ⟨_, _, z, _⟩ := h
            exact SqT.of (z _ _ e2)) ?_ ?_
        · rintro j x σj H3 hx ⟨v6, rfl, hs3, d1, d2⟩
          obtain ⟨t, rfl, ht⟩ : ∃ t : Int, x = .int t ∧ ((j = 0 ∧ t = (tn : Int)) ∨ (j = 1 ∧ t = -(tn : Int))) := by
            rcases j with _ | _ | j
            · cases hx; exact ⟨_, rfl, .inl ⟨rfl, rfl⟩⟩
            · cases hx; exact ⟨_, rfl, .inr ⟨rfl, by omega⟩⟩
            · simp at hx
          refine ⟨_, rfl, _, rfl, _, _, rfl, rfl, .inr ⟨by omega, by omega⟩, _, rfl, _, rfl, m, t * s, n, rfl, hm, hn0, hnb, fun H4 S4 => ?_⟩
          refine ⟨_, rfl, _, rfl, _, _, rfl, rfl, .inr ⟨by omega, by omega⟩, _, rfl, _, rfl, m', t * s, n, rfl, hm', hn0, hnb, fun H5 S5 => ⟨rfl, _, rfl, ?_⟩⟩
          have S6' := S4.trans S5
          refine ite2 (fun c => ?_) (fun c => ?_)
          · have hd : dif m m' (t * s) n = true := by
              unfold dif
              apply decide_eq_true
              intro z
              rw [z] at c
              simp at c
            refine ⟨_, rfl, _, rfl, by show 2 ≤ sizeLine; decide, fun T7 hT7 => k _ _ ((hS2.trans hs3).trans (S6'.trans (same_new hT7))) ?_⟩
            have en : near m m' s n l = some t := by
              rcases ht with ⟨_, rfl⟩ | ⟨rfl, rfl⟩
              · rw [e, if_pos hd]
              · rw [e, if_neg (by rw [d1 (by omega)]; decide), if_pos hd]
            rw [en]
            exact ⟨T7, rfl, upd_same⟩
          · have hd : dif m m' (t * s) n = false := by
              unfold dif
              apply decide_eq_false
              intro z
              apply c
              simp
              exact fun w => z (by simpa using w)
            refine ⟨_, rfl, hs3.trans S6', fun z => ?_, fun z => ?_⟩
            · rcases ht with ⟨_, rfl⟩ | ⟨rfl, _⟩
              · exact hd
              · exact d1 (by omega)
            · rcases ht with ⟨rfl, _⟩ | ⟨_, rfl⟩
              · omega
              · exact hd
        · rintro σj H3 ⟨v6, rfl, hs3, d1, d2⟩
          refine ⟨_, _, rfl, hS2.trans hs3, ?_⟩
          rw [e, if_neg (by rw [d1 (by show 1 ≤ 2; omega)]; decide), if_neg (by rw [d2 (by show 2 ≤ 2; omega)]; decide)]
      · have hg' : ¬ Nat.gcd tn n = 1 := hg
        rw [decide_eq_false (by intro z; exact hg' (by exact_mod_cast z))]
        rw [if_neg hg] at e
        exact iteF ⟨_, _, rfl, hS, e⟩
    · rintro σ' H' ⟨v5, v6, rfl, hS, e⟩
      refine k _ _ hS ?_
      rw [List.length_map, List.drop_length] at e
      rw [e]
      rfl
end
/-! the answers -/
def two45 (m m' : Nat) : Prop := (m = 4 ∧ m' = 5) ∨ (m = 5 ∧ m' = 4)
instance (m m' : Nat) : Decidable (two45 m m') := by unfold two45; infer_instance
/-- the answer, as it is reckoned: r the top and the bottom -/
inductive IsPart (m m' : Nat) (s : Int) : Option (Int × Nat) → Prop where
  | same (h : m = m') : IsPart m m' s none
  | half (h : two45 m m') (e : Nat) (o : Int) (hs : s = 2 ^ e * o) (ho : o = 2 * (o / 2) + 1) : IsPart m m' s (some (if o / 2 % 2 = 0 then 1 else 3, 2 ^ (e + 1)))
  | first (h : m ≠ m') (h2 : ¬ two45 m m') (b : Nat) (t : Int) (hb : 2 ≤ b) (hn : near m m' s b (tops (2 * b)) = some t) (hf : ∀ c : Nat, 2 ≤ c → c < b → near m m' s c (tops (2 * c)) = none) : IsPart m m' s (some (t, b))
theorem odd_pow_one {e e' : Nat} {o o' : Int} (h : (2 : Int) ^ e * o = 2 ^ e' * o') (ho : o = 2 * (o / 2) + 1) (ho' : o' = 2 * (o' / 2) + 1) : e = e' ∧ o = o' := by
  induction e generalizing e' with
  | zero =>
    cases e' with
    | zero =>
      rw [Int.pow_zero, Int.one_mul, Int.one_mul] at h
      exact ⟨rfl, h⟩
    | succ e' =>
      rw [Int.pow_zero, Int.one_mul, Int.pow_succ, Int.mul_assoc, Int.mul_left_comm] at h
      generalize (2 : Int) ^ e' * o' = z at h
      omega
  | succ e ih =>
    cases e' with
    | zero =>
      rw [Int.pow_zero, Int.one_mul, Int.pow_succ, Int.mul_assoc, Int.mul_left_comm] at h
      generalize (2 : Int) ^ e * o = z at h
      omega
    | succ e' =>
      rw [Int.pow_succ, Int.mul_assoc, Int.mul_left_comm, Int.pow_succ, Int.mul_assoc, Int.mul_left_comm (2 ^ e')] at h
      obtain ⟨q1, q2⟩ := ih (e' := e') (by omega)
      exact ⟨by rw [q1], q2⟩
theorem isPart_one {m m' : Nat} {s : Int} {r r' : Option (Int × Nat)} (h : IsPart m m' s r) (h' : IsPart m m' s r') : r = r' := by
  have n45 : ∀ {x y : Nat}, two45 x y → x ≠ y := fun {x y} q => by
    rcases q with ⟨rfl, rfl⟩ | ⟨rfl, rfl⟩ <;> decide
  cases h with
  | same e =>
    cases h' with
    | same _ => rfl
    | half q _ _ _ _ => exact absurd e (n45 q)
    | first q _ _ _ _ _ _ => exact absurd e q
  | half q e o hs ho =>
    cases h' with
    | same e' => exact absurd e' (n45 q)
    | half _ e' o' hs' ho' =>
      obtain ⟨rfl, rfl⟩ := odd_pow_one (hs.symm.trans hs') ho ho'
      rfl
    | first _ q' _ _ _ _ _ => exact absurd q q'
  | first q q2 b t hb hn hf =>
    cases h' with
    | same e' => exact absurd e' q
    | half q' _ _ _ _ => exact absurd q' q2
    | first _ _ b' t' hb' hn' hf' =>
      have : b = b' := by
        rcases Nat.lt_trichotomy b b' with z | z | z
        · rw [hf' b hb z] at hn; cases hn
        · exact z
        · rw [hf b' hb' z] at hn'; cases hn'
      subst this
      rw [hn] at hn'
      cases hn'
      rfl
theorem isPart_swap {m m' : Nat} {s : Int} {r : Option (Int × Nat)} (h : IsPart m m' s r) : IsPart m' m s r := by
  have sw : ∀ {x y : Nat}, two45 x y → two45 y x := fun {x y} q => by
    rcases q with ⟨a, b⟩ | ⟨a, b⟩
    · exact .inr ⟨b, a⟩
    · exact .inl ⟨b, a⟩
  cases h with
  | same e => exact .same e.symm
  | half q e o hs ho => exact .half (sw q) e o hs ho
  | first q q2 b t hb hn hf => exact .first (Ne.symm q) (fun z => q2 (sw z)) b t hb (by rw [near_comm]; exact hn) fun c h1 h2 => by rw [near_comm]; exact hf c h1 h2
theorem split2 : ∀ n : Nat, 0 < n → ∃ (e : Nat) (o : Int), (n : Int) = 2 ^ e * o ∧ o = 2 * (o / 2) + 1 ∧ 0 < o := by
  intro n
  induction n using Nat.strongRecOn with
  | _ n ih =>
    intro hn
    by_cases h : n % 2 = 0
    · obtain ⟨e, o, h1, h2, h3⟩ := ih (n / 2) (by omega) (by omega)
      refine ⟨e + 1, o, ?_, h2, h3⟩
      rw [Int.pow_succ, Int.mul_assoc, Int.mul_left_comm, ← h1]
      omega
    · exact ⟨0, n, by rw [Int.pow_zero, Int.one_mul], by omega, by omega⟩
theorem perm_two {α : Type} {ys : List α} {a b : α} (h : ys.Perm [a, b]) : ys = [a, b] ∨ ys = [b, a] := by
  have hl := h.length_eq
  match ys, hl with
  | [x, y], _ =>
    have hx : x ∈ [a, b] := h.mem_iff.mp (by simp)
    have hx2 : x = a ∨ x = b := by simpa using hx
    rcases hx2 with rfl | rfl
    · have h2 := (List.perm_cons x).mp h
      have := List.perm_singleton.mp h2
      left
      rw [this]
    · have h2 := (List.perm_cons x).mp (h.trans (List.Perm.swap x a []))
      have := List.perm_singleton.mp h2
      right
      rw [this]
def NearP (H : Hp) (v : V) : Option (Int × Nat) → Prop
  | none => v = .non
  | some (t, b) => ∃ T, v = .ref T ∧ H T = some (.tup [.int t, .int (b : Nat)])
def spPart : Sp := fun vs H Q _ => ∃ (m m' b n : Nat), vs = [.str (modeS m), .str (modeS m'), .int (b : Nat), .int (n : Nat)] ∧ m < 6 ∧ m' < 6 ∧ 2 ≤ b ∧ b ≤ 36 ∧ n ≤ 12 ∧
  ∀ v H' r, Same H H' → IsPart m m' ((b : Int) ^ n) r → NearP H' v r → Q v H'
end Lw

namespace Lw
open PySem PySem.Spec PyProof.Rows L2 Fw SX
theorem tops_three (k : Nat) : ∃ r, tops (k + 3) = 1 :: 2 :: 3 :: r := by
  refine ⟨(tops (k + 3)).drop 3, ?_⟩
  have h0 := drop_tops (n := k + 3) (i := 0) (by omega)
  have h1 := drop_tops (n := k + 3) (i := 1) (by omega)
  have h2 := drop_tops (n := k + 3) (i := 2) (by omega)
  rw [List.drop_zero] at h0
  rw [h0, h1, h2]
  rfl
theorem near_half {m m' e : Nat} {o : Int} (h : two45 m m') (ho : o = 2 * (o / 2) + 1) (hp : 0 < o) :
    near m m' (2 ^ e * o) ((2 ^ (e + 1) : Nat) : Int) (tops (2 * 2 ^ (e + 1))) = some (if o / 2 % 2 = 0 then 1 else 3) ∧ near m m' (2 ^ e * o) ((2 ^ (e + 1) : Nat) : Int) [1, 3, 5] = some (if o / 2 % 2 = 0 then 1 else 3) := by
  have h2 : 2 ≤ 2 ^ (e + 1) := by
    rw [Nat.pow_succ]
    have := Nat.one_le_two_pow (n := e)
    omega
  obtain ⟨k, hk⟩ : ∃ k, 2 * 2 ^ (e + 1) = k + 3 := ⟨2 * 2 ^ (e + 1) - 3, by omega⟩
  obtain ⟨r, hr⟩ := tops_three k
  have ec : ((2 ^ (e + 1) : Nat) : Int) = 2 ^ (e + 1) := by norm_cast
  rw [hk, hr, ec]
  obtain ⟨a, b⟩ := near_tie (e := e) ho hp r
  have ei : (if o / 2 % 2 = 0 then some (1 : Int) else some 3) = some (if o / 2 % 2 = 0 then 1 else 3) := by split <;> rfl
  rw [ei] at a b
  rcases h with ⟨rfl, rfl⟩ | ⟨rfl, rfl⟩
  · exact ⟨a, b⟩
  · rw [near_comm 5 4, near_comm 5 4]; exact ⟨a, b⟩
/-- the scale -/
theorem scale_ok {b n : Nat} (hb : 2 ≤ b) (hb2 : b ≤ 36) (hn : n ≤ 12) : ∃ N : Nat, (b : Int) ^ n = N ∧ 1 ≤ N ∧ N < 2 ^ 63 := by
  refine ⟨b ^ n, by norm_cast, Nat.one_le_pow _ _ (by omega), ?_⟩
  have h1 : b ^ n ≤ 36 ^ n := Nat.pow_le_pow_left hb2 _
  have h2 : (36 : Nat) ^ n ≤ 36 ^ 12 := Nat.pow_le_pow_right (by decide) hn
  have h3 : (36 : Nat) ^ 12 < 2 ^ 63 := by decide
  omega
/-- the exponent of two in the scale -/
theorem exp_ok {b n e : Nat} {o : Int} (hb2 : b ≤ 36) (hb : 2 ≤ b) (hn : n ≤ 12) (h : (b : Int) ^ n = 2 ^ e * o) (hoo : o = 2 * (o / 2) + 1) : e ≤ 60 := by
  have fac : ∀ b : Fin 37, 2 ≤ b.val → ∃ a : Fin 6, ∃ c : Fin 37, b.val = 2 ^ a.val * c.val ∧ c.val % 2 = 1 := by decide
  obtain ⟨a, c, h1, h2⟩ := fac ⟨b, by omega⟩ hb
  have h1' : b = 2 ^ a.val * c.val := h1
  have podd : ∀ n : Nat, c.val ^ n % 2 = 1 := by
    intro n
    induction n with
    | zero => rfl
    | succ n ih => rw [Nat.pow_succ, Nat.mul_mod, ih, h2]
  have hp : (b : Int) ^ n = 2 ^ (a.val * n) * ((c.val ^ n : Nat) : Int) := by
    have : b ^ n = 2 ^ (a.val * n) * c.val ^ n := by rw [h1', Nat.mul_pow, Nat.pow_mul]
    rw [← Int.natCast_pow, this, Int.natCast_mul, Int.natCast_pow]
    rfl
  have := podd n
  obtain ⟨q, _⟩ := odd_pow_one (h.symm.trans hp) hoo (by omega)
  have ha := a.isLt
  have : a.val * n ≤ 5 * 12 := Nat.mul_le_mul (by omega) hn
  omega
theorem mod_two {e j : Nat} {o : Int} (hj : j ≤ e) (ho : o = 2 * (o / 2) + 1) : (2 ^ e * o) % 2 ^ (j + 1) = 0 ↔ j < e := by
  have hp : ∀ k : Nat, (0 : Int) < 2 ^ k := fun k => Int.pow_pos (by decide)
  constructor
  · intro h
    rcases Nat.lt_or_ge j e with z | z
    · exact z
    · have : j = e := by omega
      subst this
      rw [(tie_vals (o := 0) ho).2] at h
      have := hp j
      omega
  · intro h
    obtain ⟨k, rfl⟩ : ∃ k, e = j + 1 + k := ⟨e - (j + 1), by omega⟩
    rw [Int.pow_add, Int.mul_assoc]
    exact Int.mul_emod_right _ _
theorem sort_two : ∀ m m' : Fin 6, m ≠ m' →
    (sortedS [modeS m.val, modeS m'.val] = true → PyData.eqv (.list [.str (modeS m.val), .str (modeS m'.val)]) (.list [.str (modeS 5), .str (modeS 4)]) = decide (two45 m.val m'.val)) ∧
    (sortedS [modeS m'.val, modeS m.val] = true → PyData.eqv (.list [.str (modeS m'.val), .str (modeS m.val)]) (.list [.str (modeS 5), .str (modeS 4)]) = decide (two45 m.val m'.val)) := by decide +kernel
theorem shaped_two : ∀ m m' : Fin 6, SeqAt.shaped (.list [.str (modeS m.val), .str (modeS m'.val)]) = true := by decide +kernel
section
variable {P : Program} {w : World} {K : PySem.W.Frag} {mg : Str → Option Value} {base : Heap}
abbrev s_part : Stmt := top 19
theorem sc_modes_parting : FnScope ["one", "other", "base", "places", "scale", "bottom", "found"] ["one", "other", "base", "places"] (defScope s_part) :=
  ⟨rfl, rfl, rfl, by decide +kernel, rfl, by decide +kernel,
    by decide +kernel⟩
theorem ok_part {f : Addr} {fd : FuncData} {dv : List V} {kv : List (Str × V)} (F : FunD K "modes_parting" "modes_parting" (defArgs s_part) (defBody s_part) (defScope s_part) dv kv f fd) (mg_sorted : mg "sorted" = none)
    (D_power : Dn P w K mg base CX0 1 "power" ["base", "many"] [] spPower) (D_nearest_unlike : Dn P w K mg base CX0 4 "nearest_unlike" ["modes", "scale", "bottom"] [] (spNear K)) : FnOk P w K mg base CX0 5 f fd ["one", "other", "base", "places"] spPart := by
  refine F.ok sc_modes_parting (fun vs H Q E h => ?_) (fun cdv A outer st H vs Q E hr h => ?_)
  · obtain ⟨m, m', b, n, rfl, _⟩ := h
    rfl
  · obtain ⟨m, m', b, n, rfl, hm, hm', hb, hb2, hn, k⟩ := h
    refine ⟨_, PSs.nox (pss_cons (ps_if (pt_cmpR op_eq (pv 0) (pv 1) (nomark _))
    (pss_one (ps_ret pe_non))
    pss_nil)
  (pss_cons (ps_set (i := 4) sc_modes_parting.nd rfl (Or.inl rfl) (pe_dn D_power (hr.mono (by decide)) rfl (pa_cons (pv 2) (pa_cons (pv 3) pa_nil))))
  (pss_cons (ps_set (i := 5) sc_modes_parting.nd rfl (Or.inl rfl) pe_int)
  (C8.pss_cut (ps_if (pt_cmpR (op_eqD hr.units) (pe_callB cr_sortedS (by rfl) mg_sorted (by decide +kernel) (pa_cons (pe_lst (pa_cons (pv 0) (pa_cons (pv 1) pa_nil))) pa_nil)) (pe_lst (pa_cons pe_str (pa_cons pe_str pa_nil))) (nomark _))
    (pss_one (ps_while PassesOwn.never (pt_cmpR op_eq (pe_op op_mod (pv 4) (pv 5)) pe_int (nomark _))
        (pss_one (ps_aug (i := 5) sc_modes_parting.nd rfl (.inl rfl) pe_int iop_mul))))
    pss_nil)
  (pss_cons (ps_set (i := 6) sc_modes_parting.nd rfl (Or.inl rfl) (pe_dn D_nearest_unlike (hr.mono (by decide)) rfl (pa_cons (pe_tup (pa_cons (pv 0) (pa_cons (pv 1) pa_nil))) (pa_cons (pv 4) (pa_cons (pv 5) pa_nil)))))
  (pss_cons (ps_while PassesOwn.never (pt_cmpR op_isN (pv 6) pe_non (nomark _))
    (pss_cons (ps_aug (i := 5) sc_modes_parting.nd rfl (.inl rfl) pe_int ip_add)
      (pss_one (ps_set (i := 6) sc_modes_parting.nd rfl (Or.inl rfl) (pe_dn D_nearest_unlike (hr.mono (by decide)) rfl (pa_cons (pe_tup (pa_cons (pv 0) (pa_cons (pv 1) pa_nil))) (pa_cons (pv 4) (pa_cons (pv 5) pa_nil))))))))
  (pss_one (ps_ret (pv 6))))))))), ?_⟩
    refine ⟨_, rfl, _, rfl, rfl, _, rfl, ?_⟩
    rw [mode_eq ⟨m, hm⟩ ⟨m', hm'⟩]
    by_cases hmm : m = m'
    · rw [decide_eq_true hmm]
      exact iteT (k _ _ _ (Same.refl _) (.same hmm) rfl)
    rw [decide_eq_false hmm]
    refine iteF ?_
    refine ⟨_, rfl, _, rfl, b, n, rfl, by omega, by omega, by omega, by omega, ?_⟩
    have ep : ((b : Int) ^ ((n : Nat) : Int).toNat) = (b : Int) ^ n := rfl
    rw [ep]
    obtain ⟨N, hN, hN1, hN2⟩ := scale_ok hb hb2 hn
    obtain ⟨e, o, hs, ho, hop⟩ := split2 N (by omega)
    have he : e ≤ 60 := exp_ok (o := o) hb2 hb hn (hN.trans hs) ho
    -- where the search begins
    refine ⟨fun σ' H' => ∃ b0 : Nat, σ' = [some (.str (modeS m)), some (.str (modeS m')), some (.int (b : Nat)), some (.int (n : Nat)), some (.int ((b : Int) ^ n)), some (.int (b0 : Nat)), none] ∧ Same H H' ∧ ((two45 m m' ∧ b0 = 2 ^ (e + 1)) ∨ (¬ two45 m m' ∧ b0 = 2)), ?_, ?_⟩
    · refine ⟨_, rfl, _, rfl, by show 2 ≤ sizeLine; decide, fun q hq => ⟨q, [modeS m, modeS m'], rfl, SqL.of upd_same, by show 2 < 64; decide, fun ys p hperm hsrt hp => ?_⟩⟩
      refine ⟨by show 2 ≤ sizeLine; decide, fun q2 hq2 => ?_⟩
      have S1 := (same_new (o := .lst [.str (modeS m), .str (modeS m')]) hq).trans ((same_new (o := .lst (ys.map V.str)) hp).trans (same_new (o := .lst [.str "even", .str "half"]) hq2))
      have e1 : upd (upd (upd H q (.lst [.str (modeS m), .str (modeS m')])) p (.lst (ys.map V.str))) q2 (.lst [.str "even", .str "half"]) p = some (.lst (ys.map V.str)) := (same_new hq2) _ _ upd_same
      obtain ⟨so1, so2⟩ := sort_two ⟨m, hm⟩ ⟨m', hm'⟩ (fun z => hmm (Fin.mk.inj z))
      have hys : ∃ x y, ys = [x, y] ∧ PyData.eqv (.list [.str x, .str y]) (.list [.str (modeS 5), .str (modeS 4)]) = decide (two45 m m') ∧ SeqAt.shaped (.list [.str x, .str y]) = true := by
        rcases perm_two hperm with rfl | rfl
        · exact ⟨_, _, rfl, so1 hsrt, shaped_two ⟨m, hm⟩ ⟨m', hm'⟩⟩
        · exact ⟨_, _, rfl, so2 hsrt, shaped_two ⟨m', hm'⟩ ⟨m, hm⟩⟩
      obtain ⟨x, y, rfl, y1, y2⟩ := hys
      refine ⟨.list [.str x, .str y], .list [.str (modeS 5), .str (modeS 4)], .lst (SqL.of e1) (.cons (.str _) (.cons (.str _) .nil)), .lst (SqL.of upd_same) (.cons (.str _) (.cons (.str _) .nil)), y2, shaped_two 5 4, _, rfl, ?_⟩
      rw [y1]
      by_cases ht : two45 m m'
      · rw [decide_eq_true ht]
        refine iteT ?_
        refine ⟨fun z σ' H' => ∃ j : Nat, j ≤ e ∧ z = e - j ∧ σ' = [some (.str (modeS m)), some (.str (modeS m')), some (.int (b : Nat)), some (.int (n : Nat)), some (.int ((b : Int) ^ n)), some (.int ((2 ^ (j + 1) : Nat) : Int)), none] ∧ Same H H', ⟨e, 0, Nat.zero_le _, rfl, rfl, S1⟩, ?_⟩
        rintro z σ' H' ⟨j, hj, rfl, rfl, hS⟩
        have ec : ((2 ^ (j + 1) : Nat) : Int) = 2 ^ (j + 1) := by norm_cast
        have hp : (0 : Int) < ((2 ^ (j + 1) : Nat) : Int) := by rw [ec]; exact Int.pow_pos (by decide)
        refine ⟨_, rfl, _, rfl, _, _, rfl, rfl, hp, rfl, _, rfl, ?_⟩
        rw [dec_int, hN, hs, ec]
        by_cases c : j < e
        · rw [decide_eq_true ((mod_two hj ho).mpr c)]
          refine iteT ⟨_, fun _ _ h => h, ?_⟩
          refine ⟨_, rfl, _, _, rfl, rfl, .inr ⟨by decide, by decide⟩, e - (j + 1), by omega, j + 1, c, rfl, ?_, hS⟩
          have ed : ((2 ^ (j + 1 + 1) : Nat) : Int) = ((2 ^ (j + 1) : Nat) : Int) * 2 := by rw [Nat.pow_succ, Int.natCast_mul]; rfl
          rw [ed, ← hs, ← hN]
          rfl
        · rw [decide_eq_false (fun z => c ((mod_two hj ho).mp z))]
          have : j = e := by omega
          subst this
          refine iteF ⟨_, rfl, hS, .inl ⟨ht, rfl⟩⟩
      · rw [decide_eq_false ht]
        exact iteF ⟨2, rfl, S1, .inr ⟨ht, rfl⟩⟩
    · rintro σ' H' ⟨b0, rfl, hS, hcase⟩
      rw [hN] at k
      have hs' : (N : Int) = 2 ^ e * o := hs
      -- somewhere near enough they part
      have far : ∃ B : Nat, b0 ≤ B ∧ B ≤ 2 ^ 61 ∧ near m m' N B (tops (2 * B)) ≠ none ∧ 1 ≤ b0 := by
        rcases hcase with ⟨ht, rfl⟩ | ⟨ht, rfl⟩
        · refine ⟨2 ^ (e + 1), Nat.le_refl _, Nat.pow_le_pow_right (by decide) (by omega), ?_, Nat.one_le_two_pow⟩
          rw [hs', (near_half ht ho hop).1]
          exact fun z => by cases z
        · obtain ⟨p, hp, hpd⟩ := prime_for ⟨b, by omega⟩ hb
          have hp2 : 2 ≤ p ∧ p ≤ 11 := by simp at hp; omega
          refine ⟨p, hp2.1, by have : (11 : Nat) ≤ 2 ^ 61 := by decide
                               omega, near_prime hp (by omega) ?_ hm hm' hmm (fun z => ht (.inl z)) (fun z => ht (.inr z)), by decide⟩
          rw [← hN]
          exact pow_mod_prime hp hpd n
      obtain ⟨B, hB1, hB2, hB3, hb01⟩ := far
      have fin : ∀ (t : Int) (c : Nat) (v : V) (H1 : Hp), b0 ≤ c → near m m' N c (tops (2 * c)) = some t → (∀ d : Nat, b0 ≤ d → d < c → near m m' N d (tops (2 * d)) = none) → c ≤ B → Same H H1 → Near H1 v c (some t) → Q v H1 := by
        intro t c v H1 h1 h2 h3 h4 h5 h6
        rcases hcase with ⟨ht, rfl⟩ | ⟨ht, rfl⟩
        · have hc : c = 2 ^ (e + 1) := by
            rcases Nat.lt_or_ge (2 ^ (e + 1)) c with z | z
            · have := h3 _ (Nat.le_refl _) z
              rw [hs', (near_half ht ho hop).1] at this
              cases this
            · omega
          subst hc
          rw [hs', (near_half ht ho hop).1] at h2
          cases h2
          exact k v H1 _ h5 (.half ht e o hs' ho) h6
        · exact k v H1 _ h5 (.first hmm ht c t h1 h2 h3) h6
      rw [hN]
      refine ⟨_, rfl, _, rfl, by show 2 ≤ sizeLine; decide, fun T hT => ⟨_, rfl, _, rfl, T, m, m', b0, N, rfl, hm, hm', SqT.of upd_same, by omega, by omega, hb01, by omega, fun v H1 S1 v1 => ?_⟩⟩
      have S1' := hS.trans ((same_new (o := .tup [.str (modeS m), .str (modeS m')]) hT).trans S1)
      refine ⟨fun z σ' H' => ∃ (c : Nat) (v : V), b0 ≤ c ∧ c ≤ B ∧ z = B - c ∧ σ' = [some (.str (modeS m)), some (.str (modeS m')), some (.int (b : Nat)), some (.int (n : Nat)), some (.int (N : Nat)), some (.int (c : Nat)), some v] ∧ Same H H' ∧ Near H' v c (near m m' N c (tops (2 * c))) ∧ (∀ d : Nat, b0 ≤ d → d < c → near m m' N d (tops (2 * d)) = none),
        ⟨B - b0, b0, v, Nat.le_refl _, hB1, rfl, rfl, S1', v1, fun d h1 h2 => by omega⟩, ?_⟩
      rintro z σ' H2 ⟨c, v, c1, c2, rfl, rfl, hS2, hv, hf⟩
      cases hnr : near m m' N c (tops (2 * c)) with
      | some t =>
        rw [hnr] at hv
        obtain ⟨T2, rfl, e2⟩ := hv
        refine ⟨_, rfl, rfl, _, rfl, iteF ⟨_, rfl, ?_⟩⟩
        exact fin t c _ _ c1 hnr hf c2 hS2 ⟨T2, rfl, e2⟩
      | none =>
        rw [hnr] at hv
        obtain rfl : v = .non := hv
        have hcB : c < B := by
          rcases Nat.lt_or_ge c B with z | z
          · exact z
          · have : c = B := by omega
            subst this
            exact absurd hnr hB3
        refine ⟨_, rfl, rfl, _, rfl, iteT ⟨_, fun _ _ h => h, ?_⟩⟩
        refine ⟨_, rfl, _, _, rfl, rfl, ?_⟩
        refine ⟨_, rfl, _, rfl, by show 2 ≤ sizeLine; decide, fun T3 hT3 => ⟨_, rfl, _, rfl, T3, m, m', c + 1, N, rfl, hm, hm', SqT.of upd_same, by omega, by omega, by omega, by omega, fun v3 H3 S3 v3' => ?_⟩⟩
        refine ⟨B - (c + 1), by omega, c + 1, v3, by omega, hcB, rfl, rfl, hS2.trans ((same_new hT3).trans S3), v3', fun d h1 h2 => ?_⟩
        rcases Nat.lt_or_ge d c with z | z
        · exact hf d h1 z
        · have : d = c := by omega
          subst this
          exact hnr
end
end Lw

namespace Lw
open PySem PySem.Spec PyProof.Rows L2 Fw SX
theorem rgV_tops (k : Nat) : rgV 1 (1 + (k : Int)) = (tops k).map V.int := by
  have e : (1 + (k : Int) - 1).toNat = k := by omega
  unfold rgV tops
  rw [e, List.map_map]
  rfl
theorem near_mem {m m' : Nat} {s b t : Int} : ∀ {l : List Int}, near m m' s b l = some t → t ∈ l ∨ -t ∈ l
  | [], h => by cases h
  | x :: r, h => by
    rw [near_cons] at h
    split at h
    · split at h
      · cases h; exact .inl (by simp)
      · split at h
        · cases h; exact .inr (by simp)
        · rcases near_mem h with z | z
          · exact .inl (List.mem_cons_of_mem _ z)
          · exact .inr (List.mem_cons_of_mem _ z)
    · rcases near_mem h with z | z
      · exact .inl (List.mem_cons_of_mem _ z)
      · exact .inr (List.mem_cons_of_mem _ z)
/-- other pairs part at a bottom of at most 11 -/
theorem first_le {m m' b n : Nat} (hm : m < 6) (hm' : m' < 6) (hb : 2 ≤ b) (hb2 : b ≤ 36) (h : m ≠ m') (h2 : ¬ two45 m m') : ∃ p : Nat, 2 ≤ p ∧ p ≤ 11 ∧ near m m' ((b : Int) ^ n) p (tops (2 * p)) ≠ none := by
  obtain ⟨p, hp, hpd⟩ := prime_for ⟨b, by omega⟩ hb
  have hp2 : 2 ≤ p ∧ p ≤ 11 := by simp at hp; omega
  exact ⟨p, hp2.1, hp2.2, near_prime hp (Int.pow_pos (by omega)) (pow_mod_prime hp hpd n) hm hm' h (fun z => h2 (.inl z)) (fun z => h2 (.inr z))⟩
section
variable {P : Program} {w : World} {K : PySem.W.Frag} {mg : Str → Option Value} {base : Heap}
abbrev s_ldue : Stmt := top 28
theorem sc__law_due : FnScope ["_law_one", "_law_other", "_law_radix_here", "_law_many_places", "_law_many", "_law_twos", "_law_bottom", "_law_found"] ["_law_one", "_law_other", "_law_radix_here", "_law_many_places"] (defScope s_ldue) :=
  ⟨rfl, rfl, rfl, by decide +kernel, rfl, by decide +kernel,
    by decide +kernel⟩
theorem ok_ldue {f : Addr} {fd : FuncData} (F : FnP K "_law_due" s_ldue f fd) (mg_sorted : mg "sorted" = none) (mg_range : mg "range" = none) (mg_list : mg "list" = none)
    (D__law_power : Dn P w K mg base CX0 1 "_law_power" ["_law_radix_here", "_law_many"] [] spPower) (D__law_nearest : Dn P w K mg base CX0 2 "_law_nearest" ["_law_one", "_law_other", "_law_many", "_law_bottom", "_law_tops"] [] (spLNear K)) : FnOk P w K mg base CX0 3 f fd ["_law_one", "_law_other", "_law_radix_here", "_law_many_places"] spPart := by
  refine F.ok sc__law_due (fun vs H Q E h => ?_) (fun cdv A outer st H vs Q E hr h => ?_)
  · obtain ⟨m, m', b, n, rfl, _⟩ := h
    rfl
  · obtain ⟨m, m', b, n, rfl, hm, hm', hb, hb2, hn, k⟩ := h
    refine ⟨_, PSs.nox (pss_cons (ps_if (pt_cmpR op_eq (pv 0) (pv 1) (nomark _))
    (pss_one (ps_ret pe_non))
    pss_nil)
  (pss_cons (ps_set (i := 4) sc__law_due.nd rfl (Or.inl rfl) (pe_dn D__law_power (hr.mono (by decide)) rfl (pa_cons (pv 2) (pa_cons (pv 3) pa_nil))))
  (pss_cons (ps_if (pt_cmpR (op_eqD hr.units) (pe_callB cr_sortedS (by rfl) mg_sorted (by decide +kernel) (pa_cons (pe_lst (pa_cons (pv 0) (pa_cons (pv 1) pa_nil))) pa_nil)) (pe_lst (pa_cons pe_str (pa_cons pe_str pa_nil))) (nomark _))
    (pss_cons (ps_set (i := 5) sc__law_due.nd rfl (Or.inl rfl) pe_int)
      (pss_cons (ps_while PassesOwn.never (pt_cmpR op_eq (pe_op op_mod (pv 4) (pe_op op_mul pe_int (pv 5))) pe_int (nomark _))
        (pss_one (ps_set (i := 5) sc__law_due.nd rfl (Or.inl rfl) (pe_op op_mul pe_int (pv 5)))))
      (pss_one (ps_ret (pe_dn D__law_nearest (hr.mono (by decide)) rfl (pa_cons (pv 0) (pa_cons (pv 1) (pa_cons (pv 4) (pa_cons (pe_op op_mul pe_int (pv 5)) (pa_cons (pe_lst (pa_cons pe_int (pa_cons pe_int (pa_cons pe_int pa_nil)))) pa_nil))))))))))
    pss_nil)
  (pss_cons (ps_for PassesOwn.never rfl (pi_range2 (by rfl) mg_range (pa_cons pe_int (pa_cons pe_int pa_nil))) (pg_name (i := 6) sc__law_due.nd rfl (.inl rfl))
    (pss_cons (ps_set (i := 7) sc__law_due.nd rfl (Or.inl rfl) (pe_dn D__law_nearest (hr.mono (by decide)) rfl (pa_cons (pv 0) (pa_cons (pv 1) (pa_cons (pv 4) (pa_cons (pv 6) (pa_cons (pe_listRg rfl (by rfl) mg_list (prg_2 (by rfl) mg_range pe_int (pe_op op_add (pe_op op_mul pe_int (pv 6)) pe_int))) pa_nil)))))))
      (pss_one (ps_if (pt_cmpR op_notN (pv 7) pe_non (nomark _))
        (pss_one (ps_ret (pv 7)))
        pss_nil))))
  (pss_one (ps_ret pe_non)))))), ?_⟩
    refine ⟨_, rfl, _, rfl, rfl, _, rfl, ?_⟩
    rw [mode_eq ⟨m, hm⟩ ⟨m', hm'⟩]
    by_cases hmm : m = m'
    · rw [decide_eq_true hmm]
      exact iteT (k _ _ _ (Same.refl _) (.same hmm) rfl)
    rw [decide_eq_false hmm]
    refine iteF ?_
    refine ⟨_, rfl, _, rfl, b, n, rfl, by omega, by omega, by omega, by omega, ?_⟩
    have ep : ((b : Int) ^ ((n : Nat) : Int).toNat) = (b : Int) ^ n := rfl
    rw [ep]
    obtain ⟨N, hN, hN1, hN2⟩ := scale_ok hb hb2 hn
    have sixty : (60 : Nat) ≤ 2 ^ 61 := by decide
    obtain ⟨e, o, hs, ho, hop⟩ := split2 N (by omega)
    have he : e ≤ 60 := exp_ok (o := o) hb2 hb hn (hN.trans hs) ho
    refine ⟨_, rfl, _, rfl, by show 2 ≤ sizeLine; decide, fun q hq => ⟨q, [modeS m, modeS m'], rfl, SqL.of upd_same, by show 2 < 64; decide, fun ys p hperm hsrt hp => ?_⟩⟩
    refine ⟨by show 2 ≤ sizeLine; decide, fun q2 hq2 => ?_⟩
    have S1 := (same_new (o := .lst [.str (modeS m), .str (modeS m')]) hq).trans ((same_new (o := .lst (ys.map V.str)) hp).trans (same_new (o := .lst [.str "even", .str "half"]) hq2))
    have e1 : upd (upd (upd H q (.lst [.str (modeS m), .str (modeS m')])) p (.lst (ys.map V.str))) q2 (.lst [.str "even", .str "half"]) p = some (.lst (ys.map V.str)) := (same_new hq2) _ _ upd_same
    obtain ⟨so1, so2⟩ := sort_two ⟨m, hm⟩ ⟨m', hm'⟩ (fun z => hmm (Fin.mk.inj z))
    have hys : ∃ x y, ys = [x, y] ∧ PyData.eqv (.list [.str x, .str y]) (.list [.str (modeS 5), .str (modeS 4)]) = decide (two45 m m') ∧ SeqAt.shaped (.list [.str x, .str y]) = true := by
      rcases perm_two hperm with rfl | rfl
      · exact ⟨_, _, rfl, so1 hsrt, shaped_two ⟨m, hm⟩ ⟨m', hm'⟩⟩
      · exact ⟨_, _, rfl, so2 hsrt, shaped_two ⟨m', hm'⟩ ⟨m, hm⟩⟩
    obtain ⟨x, y, rfl, y1, y2⟩ := hys
    refine ⟨.list [.str x, .str y], .list [.str (modeS 5), .str (modeS 4)], .lst (SqL.of e1) (.cons (.str _) (.cons (.str _) .nil)), .lst (SqL.of upd_same) (.cons (.str _) (.cons (.str _) .nil)), y2, shaped_two 5 4, _, rfl, ?_⟩
    rw [y1]
    rw [hN] at k
    have k9 : ∀ {z : Nat}, ((2 ^ z : Nat) : Int) = 2 ^ z := fun {z} => by norm_cast
    have ed : ∀ j : Nat, (2 : Int) * ((2 ^ j : Nat) : Int) = ((2 ^ (j + 1) : Nat) : Int) := fun j => by rw [Nat.pow_succ, Int.natCast_mul, Int.mul_comm]; rfl
    by_cases ht : two45 m m'
    · rw [decide_eq_true ht]
      refine iteT ?_
      refine ⟨fun z σ' H' => ∃ j : Nat, j ≤ e ∧ z = e - j ∧ σ' = [some (.str (modeS m)), some (.str (modeS m')), some (.int (b : Nat)), some (.int (n : Nat)), some (.int ((b : Int) ^ n)), some (.int ((2 ^ j : Nat) : Int)), none, none] ∧ Same H H', ⟨e, 0, Nat.zero_le _, rfl, rfl, S1⟩, ?_⟩
      rintro z σ' H' ⟨j, hj, rfl, rfl, hS⟩
      have hp : (0 : Int) < (2 : Int) * ((2 ^ j : Nat) : Int) := by rw [ed, k9]; exact Int.pow_pos (by decide)
      have hj62 : ((2 ^ j : Nat) : Int) < 2 ^ 64 := by
        rw [k9]
        exact_mod_cast Nat.pow_lt_pow_right (by decide) (show j < 64 by omega)
      have hj0 : 0 ≤ ((2 ^ j : Nat) : Int) := by omega
      refine ⟨_, rfl, _, rfl, _, _, rfl, rfl, .inl ⟨by decide, by decide⟩, _, _, rfl, rfl, hp, rfl, _, rfl, ?_⟩
      have et : decide (V.int ((b : Int) ^ n % (2 * ((2 ^ j : Nat) : Int))) = V.int 0) = decide (j < e) := by
        rw [dec_int, hN, hs, ed, k9]
        exact decide_eq_decide.mpr (mod_two hj ho)
      show if decide (V.int ((b : Int) ^ n % (2 * ((2 ^ j : Nat) : Int))) = V.int 0) = true then _ else _
      rw [et]
      by_cases c : j < e
      · rw [decide_eq_true c]
        refine iteT ⟨_, fun _ _ h => h, ?_⟩
        refine ⟨_, rfl, _, _, rfl, rfl, .inl ⟨by decide, by decide⟩, e - (j + 1), by omega, j + 1, c, rfl, ?_, hS⟩
        rw [← ed]
        rfl
      · rw [decide_eq_false c]
        have : j = e := by omega
        subst this
        refine iteF ?_
        refine ⟨_, rfl, _, rfl, _, rfl, _, rfl, _, _, rfl, rfl, .inl ⟨by decide, by decide⟩, by show 3 ≤ sizeLine; decide, fun L hL => ?_⟩
        refine ⟨L, m, m', 2 ^ (j + 1), (b : Int) ^ n, [1, 3, 5], congrArg (fun z : Int => [V.str (modeS m), V.str (modeS m'), V.int ((b : Int) ^ n), V.int z, V.ref L]) (ed j), hm, hm', SqL.of upd_same, by decide, by omega, by omega, Nat.one_le_two_pow, Nat.pow_le_pow_right (by decide) (by omega), fun v H2 S2 v2 => ?_⟩
        have hs' : (N : Int) = 2 ^ j * o := hs
        have hN' := hN
        rw [hN, hs', (near_half ht ho hop).2] at v2
        exact k v H2 _ (hS.trans ((same_new hL).trans S2)) (.half ht j o hs' ho) v2
    · rw [decide_eq_false ht]
      refine iteF ?_
      obtain ⟨B, hB1, hB2, hB3⟩ := first_le (n := n) hm hm' hb hb2 hmm ht
      rw [hN] at hB3
      refine ⟨_, _, rfl, ⟨by decide, by decide, by decide, by decide⟩, ?_⟩
      refine for_range (lo := 2) (n := 58) (fun i σ' H' => ∃ v6 v7 : Option V, σ' = [some (.str (modeS m)), some (.str (modeS m')), some (.int (b : Nat)), some (.int (n : Nat)), some (.int ((b : Int) ^ n)), none, v6, v7] ∧ Same H H' ∧ ∀ c : Nat, 2 ≤ c → c < 2 + i → near m m' N c (tops (2 * c)) = none)
        ⟨none, none, rfl, S1, fun c h1 h2 => by omega⟩ ?_ ?_
      · rintro i σ' H' hi ⟨v6, v7, rfl, hS, hf⟩
        refine ⟨_, rfl, _, rfl, _, rfl, _, rfl, _, rfl, _, _, rfl, rfl, .inl ⟨by decide, by decide⟩, _, _, rfl, rfl, _, _, rfl, rfl, RgOk.of_le (by decide) (by omega) (by decide) (by omega), fun L hL => ?_⟩
        have eR : rgV 1 (2 * (2 + (i : Int)) + 2) = (tops (2 * (2 + i) + 1)).map V.int := by
          rw [← rgV_tops]
          congr 1
          omega
        refine ⟨L, m, m', 2 + i, (b : Int) ^ n, tops (2 * (2 + i) + 1), rfl, hm, hm', SqL.of (by rw [upd_same, ← eR]), fun t h => by have := mem_tops.mp h; omega, by omega, by omega, by omega, by omega, fun v H2 S2 v2 => ?_⟩
        rw [hN, near_ext (by omega) (by omega)] at v2
        have S2' := hS.trans ((same_new hL).trans S2)
        cases hnr : near m m' N ((2 + i : Nat) : Int) (tops (2 * (2 + i))) with
        | some t =>
          rw [hnr] at v2
          obtain ⟨T2, rfl, e2⟩ := v2
          refine ⟨_, rfl, rfl, _, rfl, iteT ⟨_, rfl, ?_⟩⟩
          exact k _ H2 _ S2' (.first hmm ht (2 + i) t (by omega) hnr hf) ⟨T2, rfl, e2⟩
        | none =>
          rw [hnr] at v2
          obtain rfl : v = .non := v2
          refine ⟨_, rfl, rfl, _, rfl, iteF ⟨_, _, rfl, S2', fun c h1 h2 => ?_⟩⟩
          rcases Nat.lt_or_ge c (2 + i) with z | z
          · exact hf c h1 z
          · have : c = 2 + i := by omega
            subst this
            exact hnr
      · rintro σ' H' ⟨v6, v7, rfl, hS, hf⟩
        exact absurd (hf B hB1 (by omega)) hB3
abbrev s_ahead : Stmt := top 29
theorem sc__law_are_alike_ahead : FnScope ["_law_one", "_law_other", "_law_radix_here", "_law_many_places", "_law_far_on", "_law_many", "_law_bottom"] ["_law_one", "_law_other", "_law_radix_here", "_law_many_places", "_law_far_on"] (defScope s_ahead) :=
  ⟨rfl, rfl, rfl, by decide +kernel, rfl, by decide +kernel,
    by decide +kernel⟩
def spAhead : Sp := fun vs H Q _ => ∃ (m m' b n : Nat) (far : Int), vs = [.str (modeS m), .str (modeS m'), .int (b : Nat), .int (n : Nat), .int far] ∧ m < 6 ∧ m' < 6 ∧ 2 ≤ b ∧ b ≤ 36 ∧ n ≤ 12 ∧ 1 ≤ far ∧ far ≤ 24 ∧
  (∀ c : Nat, 1 ≤ c → (c : Int) < far → near m m' ((b : Int) ^ n) c (tops (2 * c)) = none) ∧ ∀ H', Same H H' → Q (.bl true) H'
theorem ok_ahead {f : Addr} {fd : FuncData} (F : FnP K "_law_are_alike_ahead" s_ahead f fd) (mg_range : mg "range" = none) (mg_list : mg "list" = none)
    (D__law_power : Dn P w K mg base CX0 1 "_law_power" ["_law_radix_here", "_law_many"] [] spPower) (D__law_nearest : Dn P w K mg base CX0 2 "_law_nearest" ["_law_one", "_law_other", "_law_many", "_law_bottom", "_law_tops"] [] (spLNear K)) : FnOk P w K mg base CX0 3 f fd ["_law_one", "_law_other", "_law_radix_here", "_law_many_places", "_law_far_on"] spAhead := by
  refine F.ok sc__law_are_alike_ahead (fun vs H Q E h => ?_) (fun cdv A outer st H vs Q E hr h => ?_)
  · obtain ⟨m, m', b, n, far, rfl, _⟩ := h
    rfl
  · obtain ⟨m, m', b, n, far, rfl, hm, hm', hb, hb2, hn, hf1, hf2, hc, k⟩ := h
    refine ⟨_, PSs.nox (pss_cons (ps_set (i := 5) sc__law_are_alike_ahead.nd rfl (Or.inl rfl) (pe_dn D__law_power (hr.mono (by decide)) rfl (pa_cons (pv 2) (pa_cons (pv 3) pa_nil))))
  (pss_cons (ps_for PassesOwn.never rfl (pi_range2 (by rfl) mg_range (pa_cons pe_int (pa_cons (pv 4) pa_nil))) (pg_name (i := 6) sc__law_are_alike_ahead.nd rfl (.inl rfl))
    (pss_one (ps_if (pt_cmpR op_notN (pe_dn D__law_nearest (hr.mono (by decide)) rfl (pa_cons (pv 0) (pa_cons (pv 1) (pa_cons (pv 5) (pa_cons (pv 6) (pa_cons (pe_listRg rfl (by rfl) mg_list (prg_2 (by rfl) mg_range pe_int (pe_op op_add (pe_op op_mul pe_int (pv 6)) pe_int))) pa_nil)))))) pe_non (nomark _))
        (pss_one (ps_ret pe_bl))
        pss_nil)))
  (pss_one (ps_ret pe_bl)))), ?_⟩
    refine ⟨_, rfl, _, rfl, b, n, rfl, by omega, by omega, by omega, by omega, ?_⟩
    have ep : ((b : Int) ^ ((n : Nat) : Int).toNat) = (b : Int) ^ n := rfl
    rw [ep]
    obtain ⟨N, hN, hN1, hN2⟩ := scale_ok hb hb2 hn
    have sixty : (60 : Nat) ≤ 2 ^ 61 := by decide
    refine ⟨_, rfl, _, _, rfl, ⟨by decide, by decide, by omega, by omega⟩, ?_⟩
    refine for_range (lo := 1) (n := (far - 1).toNat) (fun i σ' H' => ∃ v6 : Option V, σ' = [some (.str (modeS m)), some (.str (modeS m')), some (.int (b : Nat)), some (.int (n : Nat)), some (.int far), some (.int ((b : Int) ^ n)), v6] ∧ Same H H')
      ⟨none, rfl, Same.refl _⟩ ?_ ?_
    · rintro i σ' H' hi ⟨v6, rfl, hS⟩
      refine ⟨_, rfl, _, rfl, _, rfl, _, rfl, _, rfl, _, _, rfl, rfl, .inl ⟨by decide, by decide⟩, _, _, rfl, rfl, _, _, rfl, rfl, RgOk.of_le (by decide) (by omega) (by decide) (by omega), fun L hL => ?_⟩
      have eR : rgV 1 (2 * (1 + (i : Int)) + 2) = (tops (2 * (1 + i) + 1)).map V.int := by
        rw [← rgV_tops]
        congr 1
        omega
      refine ⟨L, m, m', 1 + i, (b : Int) ^ n, tops (2 * (1 + i) + 1), rfl, hm, hm', SqL.of (by rw [upd_same, ← eR]), fun t h => by have := mem_tops.mp h; omega, by omega, by omega, by omega, by omega, fun v H2 S2 v2 => ?_⟩
      rw [near_ext (by omega) (by omega), hc (1 + i) (by omega) (by omega)] at v2
      obtain rfl : v = .non := v2
      exact ⟨rfl, _, rfl, iteF ⟨_, rfl, hS.trans ((same_new hL).trans S2)⟩⟩
    · rintro σ' H' ⟨v6, rfl, hS⟩
      exact k _ hS
end
end Lw

namespace Lw
open PySem PySem.Spec PyProof.Rows L2 Fw SX
def datP : Option (Int × Nat) → PyData
  | none => .none
  | some (t, b) => .tuple [.int t, .int (b : Nat)]
theorem NearP.dp {K : PySem.W.Frag} {H : Hp} {v : V} {r : Option (Int × Nat)} (h : NearP H v r) : Dp K H v (datP r) := by
  match r with
  | none =>
    obtain rfl : v = .non := h
    exact .non
  | some (t, b) =>
    obtain ⟨T, rfl, e⟩ := h
    exact .tup (SqT.of e) (.cons (.int _) (.cons (.int _) .nil))
theorem NearP.same {H H' : Hp} {v : V} {r : Option (Int × Nat)} (h : NearP H v r) (s : Same H H') : NearP H' v r := by
  match r with
  | none => exact h
  | some (t, b) =>
    obtain ⟨T, e1, e⟩ := h
    exact ⟨T, e1, s _ _ e⟩
theorem shaped_datP (r : Option (Int × Nat)) : SeqAt.shaped (datP r) = true := by
  match r with
  | none => rfl
  | some (t, b) => rfl
theorem eqv_datP (r : Option (Int × Nat)) : PyData.eqv (datP r) (datP r) = true := by
  match r with
  | none => rfl
  | some (t, b) =>
    show ((t == t) && (((b : Nat) : Int) == ((b : Nat) : Int) && true)) = true
    simp
theorem isPart_le {m m' b n : Nat} {r : Option (Int × Nat)} (hm : m < 6) (hm' : m' < 6) (hb : 2 ≤ b) (hb2 : b ≤ 36) (hn : n ≤ 12) (h : IsPart m m' ((b : Int) ^ n) r) : ∀ t c, r = some (t, c) → t.natAbs < 2 ^ 64 ∧ c ≤ 2 ^ 61 ∧ 2 ≤ c := by
  intro t c hr
  cases h with
  | same _ => cases hr
  | half ht e o hs ho =>
    cases hr
    have he : e ≤ 60 := exp_ok (o := o) hb2 hb hn hs ho
    refine ⟨?_, Nat.pow_le_pow_right (by decide) (by omega), ?_⟩
    · split <;> decide
    · rw [Nat.pow_succ]
      have := Nat.one_le_two_pow (n := e)
      omega
  | first h1 h2 c' t' hc hn' hf =>
    cases hr
    obtain ⟨p, p1, p2, p3⟩ := first_le (n := n) hm hm' hb hb2 h1 h2
    have hcp : c ≤ p := by
      rcases Nat.lt_or_ge p c with z | z
      · exact absurd (hf p p1 z) p3
      · exact z
    refine ⟨?_, ?_, hc⟩
    · have e64 : (64 : Nat) < 2 ^ 64 := by decide
      rcases near_mem hn' with z | z
      · have := mem_tops.mp z
        omega
      · have := mem_tops.mp z
        omega
    · have : (11 : Nat) ≤ 2 ^ 61 := by decide
      omega
theorem shows_datP {r : Option (Int × Nat)} (h : ∀ t c, r = some (t, c) → t.natAbs < 2 ^ 64 ∧ c ≤ 2 ^ 61 ∧ 2 ≤ c) : Shows (datP r) := by
  match r, h with
  | none, _ => exact ⟨rfl, rfl, by decide, by decide +kernel⟩
  | some (t, b), h =>
    obtain ⟨h1, h2, _⟩ := h t b rfl
    refine Shows.two (log_int (a := 64) (by decide) (by decide) h1) (log_int (a := 62) (by decide) (by decide) ?_)
    show b < 2 ^ 62
    omega
theorem alike_of {m m' : Nat} {s far : Int} {r : Option (Int × Nat)} (h : IsPart m m' s r) (hf : far = 1 ∨ ∃ t c, r = some (t, c) ∧ far ≤ (c : Nat)) : ∀ c : Nat, 1 ≤ c → (c : Int) < far → near m m' s c (tops (2 * c)) = none := by
  intro c hc hlt
  rcases hf with rfl | ⟨t, d, rfl, hd⟩
  · omega
  · cases h with
    | half ht e o hs ho =>
      have hlt2 : (c : Int) < 2 ^ (e + 1) := by
        have ec : ((2 ^ (e + 1) : Nat) : Int) = 2 ^ (e + 1) := by norm_cast
        omega
      rcases ht with ⟨rfl, rfl⟩ | ⟨rfl, rfl⟩
      · rw [hs]; exact near_45 (by omega) hlt2
      · rw [near_comm 5 4, hs]; exact near_45 (by omega) hlt2
    | first _ _ _ _ _ hn hfst =>
      by_cases c1 : c = 1
      · subst c1; exact near_one _
      · exact hfst c (by omega) (by omega)
theorem mood_at {i : Int} (h0 : 0 ≤ i) (h1 : i < 6) : ∃ m, m < 6 ∧ atI ((List.range 6).map fun m => V.str (modeS m)) i = some (.str (modeS m)) := by
  obtain ⟨j, rfl⟩ : ∃ j : Nat, i = j := ⟨i.toNat, by omega⟩
  refine ⟨j, by omega, atI_nat ?_⟩
  rw [List.getElem?_map, List.getElem?_range (by omega)]
  rfl
theorem part_100 {r : Option (Int × Nat)} (h : IsPart 4 5 (((10 : Nat) : Int) ^ 2) r) : r = some (1, 8) :=
  isPart_one h (.half (.inl ⟨rfl, rfl⟩) 2 25 (by decide) (by decide))
theorem part_1 {r : Option (Int × Nat)} (h : IsPart 1 4 (((10 : Nat) : Int) ^ 0) r) : r = some (1, 3) := by
  refine isPart_one h (.first (by decide) (by decide) 3 1 (by decide) (by decide) fun c h1 h2 => ?_)
  have : c = 2 := by omega
  subst this
  decide
section
variable {P : Program} {w : World} {K : PySem.W.Frag} {mg : Str → Option Value} {base : Heap}
abbrev s_law : Stmt := top 30
theorem sc_law : FnScope ["_law_script", "_law_feed_here", "_law_moods", "_law_turn", "_law_one", "_law_other", "_law_radix_here", "_law_many_places", "_law_told", "_law_far_on"] ["_law_script"] (defScope s_law) :=
  ⟨rfl, rfl, rfl, by decide +kernel, rfl, by decide +kernel,
    by decide +kernel⟩
theorem ok_law {f : Addr} {fd : FuncData} (F : FnP K "law" s_law f fd) (mg_len : mg "len" = none) (mg_range : mg "range" = none) (mg_max : mg "max" = none) (mg_min : mg "min" = none) (mg_repr : mg "repr" = none)
    (D__law_feed : Dn P w K mg base CX0 1 "_law_feed" ["_law_script"] [] (spFeed K)) (D__law_draw : Dn P w K mg base CX0 1 "_law_draw" ["_law_feed_here", "_law_many"] [] spDraw) (D__law_radix : Dn P w K mg base CX0 2 "_law_radix" ["_law_feed_here"] [] spRadix)
    (D__law_due : Dn P w K mg base CX0 3 "_law_due" ["_law_one", "_law_other", "_law_radix_here", "_law_many_places"] [] spPart) (D__law_are_alike_ahead : Dn P w K mg base CX0 3 "_law_are_alike_ahead" ["_law_one", "_law_other", "_law_radix_here", "_law_many_places", "_law_far_on"] [] spAhead)
    (D_modes_parting : Dn P w K mg base CX0 5 "modes_parting" ["one", "other", "base", "places"] [.int 10, .int 0] spPart) (D_modes_parting_base_places : Dk P w K mg base CX0 5 "modes_parting" 2 ["base", "places"] (fun vs zs => vs ++ zs) spPart)
    (D_modes_parting_base : Dk P w K mg base CX0 5 "modes_parting" 2 ["base"] (fun vs zs => vs ++ (zs ++ [.int 0])) spPart) (D_modes_parting_places : Dk P w K mg base CX0 5 "modes_parting" 2 ["places"] (fun vs zs => vs ++ ([.int 10] ++ zs)) spPart) :
    FnG P w K mg base CX0 6 f fd ["_law_script"] (spLaw K) := by
  refine fnG F sc_law (fun vs H Q E h => ?_) (fun cdv A outer s H vs Q E gd hr h => ?_)
  · obtain ⟨a, ns, rfl, _⟩ := h
    rfl
  · obtain ⟨a, ns, rfl, hS, hlen, k⟩ := h
    have hsz : 100000 < sizeLine := by decide
    refine ⟨_, PSs.nox (pss_cons (ps_set (i := 1) sc_law.nd rfl (Or.inl rfl) (pe_dn D__law_feed (hr.mono (by decide)) rfl (pa_cons (pv 0) pa_nil)))
  (pss_cons (ps_set (i := 2) sc_law.nd rfl (Or.inl rfl) (pe_lst (pa_cons pe_str (pa_cons pe_str (pa_cons pe_str (pa_cons pe_str (pa_cons pe_str (pa_cons pe_str pa_nil))))))))
  (pss_cons (ps_for PassesOwn.never rfl (pi_range1 (by rfl) mg_range (pa_cons (pe_callB (call_max2 rfl) (by rfl) mg_max (by decide +kernel) (pa_cons pe_int (pa_cons (pe_callB (call_min2 rfl) (by rfl) mg_min (by decide +kernel) (pa_cons pe_int (pa_cons (pe_callB call_len_seq (by rfl) mg_len (by decide +kernel) (pa_cons (pv 0) pa_nil)) pa_nil))) pa_nil))) pa_nil)) (pg_name (i := 3) sc_law.nd rfl (.inl rfl))
    (pss_cons (ps_par (by rfl) sc_law.nd (i := 4) (j := 5) rfl rfl (by decide) rfl rfl (pa_cons (pe_ix ix_list (pv 2) (pe_dn D__law_draw (hr.mono (by decide)) rfl (pa_cons (pv 1) (pa_cons pe_int pa_nil))) (fun _ _ => rfl)) (pa_cons (pe_ix ix_list (pv 2) (pe_dn D__law_draw (hr.mono (by decide)) rfl (pa_cons (pv 1) (pa_cons pe_int pa_nil))) (fun _ _ => rfl)) pa_nil)) (by rfl))
      (C8.pss_cut (ps_if (pt_cmpR op_eq (pe_dn D__law_draw (hr.mono (by decide)) rfl (pa_cons (pv 1) (pa_cons pe_int pa_nil))) pe_int (nomark _))
        (pss_one (ps_asg (pe_ix ix_list (pe_lst (pa_cons (pe_tup (pa_cons pe_str (pa_cons pe_str pa_nil))) (pa_cons (pe_tup (pa_cons pe_str (pa_cons pe_str pa_nil))) pa_nil))) (pe_dn D__law_draw (hr.mono (by decide)) rfl (pa_cons (pv 1) (pa_cons pe_int pa_nil))) (fun _ _ => rfl)) (pg_tup (by rfl) (pgs_cons (pg_name (i := 4) sc_law.nd rfl (.inl rfl)) (pgs_cons (pg_name (i := 5) sc_law.nd rfl (.inl rfl)) pgs_nil)))))
        pss_nil)
      (pss_cons (ps_par (by rfl) sc_law.nd (i := 6) (j := 7) rfl rfl (by decide) rfl rfl (pa_cons (pe_dn D__law_radix (hr.mono (by decide)) rfl (pa_cons (pv 1) pa_nil)) (pa_cons (pe_ix ix_list (pe_lst (pa_cons (pe_dn D__law_draw (hr.mono (by decide)) rfl (pa_cons (pv 1) (pa_cons pe_int pa_nil))) (pa_cons (pe_dn D__law_draw (hr.mono (by decide)) rfl (pa_cons (pv 1) (pa_cons pe_int pa_nil))) pa_nil))) (pe_dn D__law_draw (hr.mono (by decide)) rfl (pa_cons (pv 1) (pa_cons pe_int pa_nil))) (fun _ _ => rfl)) pa_nil)) (by rfl))
      (pss_cons (ps_set (i := 8) sc_law.nd rfl (Or.inl rfl) (pe_dk D_modes_parting_base_places (hr.mono (by decide)) rfl (pa_cons (pv 4) (pa_cons (pv 5) pa_nil)) (pk_cons (pv 6) (pk_cons (pv 7) pk_nil))))
      (pss_cons (ps_if (pt_cmpR op_ne (pe_callB (call_reprD gd hr.units) (by rfl) mg_repr (by decide +kernel) (pa_cons (pv 8) pa_nil)) (pe_callB (call_reprD gd hr.units) (by rfl) mg_repr (by decide +kernel) (pa_cons (pe_dn D__law_due (hr.mono (by decide)) rfl (pa_cons (pv 4) (pa_cons (pv 5) (pa_cons (pv 6) (pa_cons (pv 7) pa_nil))))) pa_nil)) (nomark _))
        (pss_one (ps_ret pe_bl))
        pss_nil)
      (C8.pss_cut (ps_set (i := 9) sc_law.nd rfl (Or.inl rfl) (pe_ifExp (pt_cmpR op_isN (pv 8) pe_non (nomark _)) pe_int (pe_callB (call_min2 rfl) (by rfl) mg_min (by decide +kernel) (pa_cons (pe_ix ix_tup (pv 8) pe_int (fun _ _ => rfl)) (pa_cons pe_int pa_nil)))))
      (pss_cons (ps_if (pt_not (pt_val (pe_dn D__law_are_alike_ahead (hr.mono (by decide)) rfl (pa_cons (pv 4) (pa_cons (pv 5) (pa_cons (pv 6) (pa_cons (pv 7) (pa_cons (pv 9) pa_nil))))))))
        (pss_one (ps_ret pe_bl))
        pss_nil)
      (C8.pss_cut (ps_if (PW.pt (pw_and (pt_cmpR op_notN (pv 8) pe_non (nomark _)) (pw_and1 (pt_cmpR (op_neD hr.units) (pe_dk D_modes_parting_base_places (hr.mono (by decide)) rfl (pa_cons (pv 5) (pa_cons (pv 4) pa_nil)) (pk_cons (pv 6) (pk_cons (pv 7) pk_nil))) (pv 8) (nomark _)))))
        (pss_one (ps_ret pe_bl))
        pss_nil)
      (pss_cons (ps_if (pt_cmpR (op_neD hr.units) (pe_dk D_modes_parting_base (hr.mono (by decide)) rfl (pa_cons (pv 4) (pa_cons (pv 5) pa_nil)) (pk_cons (pv 6) pk_nil)) (pe_dn D__law_due (hr.mono (by decide)) rfl (pa_cons (pv 4) (pa_cons (pv 5) (pa_cons (pv 6) (pa_cons pe_int pa_nil))))) (nomark _))
        (pss_one (ps_ret pe_bl))
        pss_nil)
      (pss_one (ps_if (pt_cmpR (op_neD hr.units) (pe_dk D_modes_parting_places (hr.mono (by decide)) rfl (pa_cons (pv 4) (pa_cons (pv 5) pa_nil)) (pk_cons (pv 7) pk_nil)) (pe_dn D__law_due (hr.mono (by decide)) rfl (pa_cons (pv 4) (pa_cons (pv 5) (pa_cons pe_int (pa_cons (pv 7) pa_nil))))) (nomark _))
        (pss_one (ps_ret pe_bl))
        pss_nil))))))))))))
  (pss_one (ps_ret (pe_and (pe_cmpR (op_eqD hr.units) (pe_dk D_modes_parting_places (hr.mono (by decide)) rfl (pa_cons pe_str (pa_cons pe_str pa_nil)) (pk_cons pe_int pk_nil)) (pe_tup (pa_cons pe_int (pa_cons pe_int pa_nil))) (nomark _)) (pe_one (pe_cmpR (op_eqD hr.units) (pe_dn D_modes_parting (hr.mono (by decide)) rfl (pa_cons pe_str (pa_cons pe_str pa_nil))) (pe_tup (pa_cons pe_int (pa_cons pe_int pa_nil))) (nomark _))))))))), ?_⟩
    refine ⟨_, rfl, a, ns, rfl, hS, hlen, fun p H1 hp s1 F1 => ?_⟩
    refine ⟨by show 6 ≤ sizeLine; decide, fun mo hmo => ?_⟩
    have np : ∀ {H0 : Hp} {q : Addr} {m : Nat}, Feed H0 p m → H0 q = none → q ≠ p := fun {H0 q m} F e => by
      obtain ⟨kvs, z⟩ := F.ex
      exact (ne_of_none z e).symm
    have nmo := np F1 hmo
    have s2 := s1.trans (same_new (o := HO.lst [V.str "down", V.str "up", V.str "floor", V.str "roof", V.str "half", V.str "even"]) hmo)
    have F2 := F1.new (o := HO.lst [V.str "down", V.str "up", V.str "floor", V.str "roof", V.str "half", V.str "even"]) hmo
    have g2 : upd H1 mo (HO.lst [V.str "down", V.str "up", V.str "floor", V.str "roof", V.str "half", V.str "even"]) mo = some (.lst ((List.range 6).map fun m => V.str (modeS m))) := upd_same
    generalize upd H1 mo (HO.lst [V.str "down", V.str "up", V.str "floor", V.str "roof", V.str "half", V.str "even"]) = H2 at s2 F2 g2 ⊢
    refine ⟨_, rfl, a, _, rfl, .inl (s2.seq hS), _, _, rfl, _, _, rfl, _, rfl, ?_, ?_, ?_⟩
    · split <;> omega
    · rw [List.length_map]; split <;> split <;> omega
    have hT := turns (n := (((ns.map V.int).length : Nat) : Int)) (lo := 3) (hi := 8) (by decide) (by decide)
    generalize (if (if (((ns.map V.int).length : Nat) : Int) < 8 then (((ns.map V.int).length : Nat) : Int) else 8) > 3 then (if (((ns.map V.int).length : Nat) : Int) < 8 then (((ns.map V.int).length : Nat) : Int) else 8) else 3).toNat = T at hT ⊢
    have hT2 : T ≤ 8 := hT
    refine for_range (lo := 0) (n := T) (fun i σ' H' => ∃ v3 v4 v5 v6 v7 v8 v9 : Option V, σ' = [some (.ref a), some (.ref p), some (.ref mo), v3, v4, v5, v6, v7, v8, v9] ∧ Feed H' p (20 * i) ∧ H' mo = some (.lst ((List.range 6).map fun m => V.str (modeS m))))
      ⟨none, none, none, none, none, none, none, rfl, F2, g2⟩ ?_ ?_
    · rintro i σ' H' hi ⟨v3, v4, v5, v6, v7, v8, v9, rfl, hF, hmo⟩
      refine ⟨_, rfl, _, rfl, p, 6, _, rfl, by decide, by decide, hF, by omega, fun x1 H3 a0 a1 F3 B3 => ?_⟩
      obtain ⟨m1, hm1, at1⟩ := mood_at a0 a1
      refine ⟨mo, _, _, _, rfl, rfl, SqL.of (B3 _ _ hmo nmo), at1, ?_⟩
      refine ⟨_, rfl, _, rfl, p, 6, _, rfl, by decide, by decide, F3, by omega, fun x2 H4 b0 b1 F4 B4 => ?_⟩
      obtain ⟨m2, hm2, at2⟩ := mood_at b0 b1
      have B4' := B3.trans B4
      refine ⟨mo, _, _, _, rfl, rfl, SqL.of (B4' _ _ hmo nmo), at2, _, _, rfl, ?_⟩
      -- two modes
      refine ⟨fun σ' H5 => ∃ m m' : Nat, m < 6 ∧ m' < 6 ∧ σ' = [some (.ref a), some (.ref p), some (.ref mo), some (.int (0 + (i : Nat))), some (.str (modeS m)), some (.str (modeS m')), v6, v7, v8, v9] ∧ Feed H5 p (20 * i + 4) ∧ But p H' H5, ?_, ?_⟩
      · refine ⟨_, rfl, p, 4, _, rfl, by decide, by decide, F4, by omega, fun x3 H5 c0 c1 F5 B5 => ⟨rfl, _, rfl, ?_⟩⟩
        have B5' := B4'.trans B5
        refine ite2 (fun c => ?_) (fun c => ?_)
        · refine ⟨by show 2 ≤ sizeLine; decide, fun T1 hT1 => ⟨by show 2 ≤ sizeLine; decide, fun T2 hT2 => ⟨by show 2 ≤ sizeLine; decide, fun Lq hLq => ?_⟩⟩⟩
          have F6 := ((F5.new (o := .tup [.str "half", .str "even"]) hT1).new (o := .tup [.str "even", .str "half"]) hT2)
          have F7 := F6.new (o := .lst [.ref T1, .ref T2]) hLq
          have B7 : But p H5 _ := ((But.new (o := .tup [.str "half", .str "even"]) hT1).trans (But.new (o := .tup [.str "even", .str "half"]) hT2)).trans (But.new (o := .lst [.ref T1, .ref T2]) hLq)
          have nT1 := np F5 hT1
          have nT2 := np (F5.new (o := .tup [.str "half", .str "even"]) hT1) hT2
          have nL := np F6 hLq
          refine ⟨_, rfl, p, 2, _, rfl, by decide, by decide, F7, by omega, fun x4 H8 d0 d1 F8 B8 => ?_⟩
          have i1 := B8 _ _ ((same_new hLq) _ _ ((same_new hT2) _ _ (upd_same (H := H5) (a := T1) (o := HO.tup [.str "half", .str "even"])))) nT1
          have i2 := B8 _ _ ((same_new hLq) _ _ (upd_same (H := upd H5 T1 (.tup [.str "half", .str "even"])) (a := T2) (o := HO.tup [.str "even", .str "half"]))) nT2
          have iL := B8 Lq _ upd_same nL
          have cs : x4 = 0 ∨ x4 = 1 := by omega
          rcases cs with rfl | rfl
          · refine ⟨Lq, _, _, .ref T1, rfl, rfl, SqL.of iL, rfl, ?_⟩
            refine ⟨T1, _, rfl, SqT.of i1, rfl, _, _, rfl, _, _, rfl, rfl, ?_⟩
            exact ⟨4, 5, by decide, by decide, rfl, F8.mono (by omega), B5'.trans (B7.trans B8)⟩
          · refine ⟨Lq, _, _, .ref T2, rfl, rfl, SqL.of iL, rfl, ?_⟩
            refine ⟨T2, _, rfl, SqT.of i2, rfl, _, _, rfl, _, _, rfl, rfl, ?_⟩
            exact ⟨5, 4, by decide, by decide, rfl, F8.mono (by omega), B5'.trans (B7.trans B8)⟩
        · exact ⟨m1, m2, hm1, hm2, rfl, F5.mono (by omega), B5'⟩
      rintro σ' H5 ⟨m, m', hm, hm', rfl, F5, B5⟩
      -- base and places
      refine ⟨_, rfl, p, _, rfl, F5, by omega, fun r H6 r1 r2 F6 B6 => ?_⟩
      refine ⟨_, rfl, p, 4, _, rfl, by decide, by decide, F6, by omega, fun y1 H7 e0 e1 F7 B7 => ?_⟩
      refine ⟨_, rfl, p, 13, _, rfl, by decide, by decide, F7, by omega, fun y2 H8 f0 f1 F8 B8 => ⟨by show 2 ≤ sizeLine; decide, fun q hq => ?_⟩⟩
      refine ⟨_, rfl, p, 2, _, rfl, by decide, by decide, F8.new hq, by omega, fun y3 H9 g0 g1 F9 B9 => ?_⟩
      obtain ⟨y, hy, at3⟩ := at_ints (ns := [y1, y2]) g0 (by simpa using g1)
      have hy2 : 0 ≤ y ∧ y ≤ 12 := by
        have : y = y1 ∨ y = y2 := by simpa using hy
        omega
      obtain ⟨n, rfl⟩ : ∃ n : Nat, y = n := ⟨y.toNat, by omega⟩
      have hn : n ≤ 12 := by omega
      refine ⟨q, _, _, _, rfl, rfl, SqL.of (B9 _ _ upd_same (np F8 hq)), at3, _, _, rfl, ?_⟩
      have B9' := (B5.trans B6).trans ((B7.trans B8).trans ((But.new hq).trans B9))
      -- told
      refine ⟨_, rfl, _, rfl, _, rfl, _, rfl, rfl, rfl, m, m', r, n, rfl, hm, hm', r1, r2, hn, fun v HA res SA ipA npA => ?_⟩
      have sh := shows_datP (isPart_le hm hm' r1 r2 hn ipA)
      refine ⟨_, rfl, v, _, rfl, npA.dp, sh.s, sh.n, sh.dp, sh.z, ?_⟩
      refine ⟨_, rfl, _, rfl, _, rfl, _, rfl, m, m', r, n, rfl, hm, hm', r1, r2, hn, fun v2 HB res2 SB ipB npB => ?_⟩
      have er := isPart_one ipB ipA
      subst er
      refine ⟨v2, _, rfl, npB.dp, sh.s, sh.n, sh.dp, sh.z, rfl, _, rfl, iteNS rfl ?_⟩
      have npB' := npA.same SB
      have SB' := SA.trans SB
      -- far_on
      refine ⟨fun σ' HC => ∃ far : Int, σ' = [some (.ref a), some (.ref p), some (.ref mo), some (.int (0 + (i : Nat))), some (.str (modeS m)), some (.str (modeS m')), some (.int (r : Nat)), some (.int (n : Nat)), some v, some (.int far)] ∧ 1 ≤ far ∧ far ≤ 24 ∧ (far = 1 ∨ ∃ t c, res2 = some (t, c) ∧ far ≤ (c : Nat)) ∧ Same H9 HC ∧ NearP HC v res2, ?_, ?_⟩
      · match res2, ipA, npB' with
        | none, _, hv =>
          obtain rfl : v = .non := hv
          exact ⟨_, rfl, rfl, _, rfl, iteT ⟨1, rfl, by decide, by decide, .inl rfl, SB', rfl⟩⟩
        | some (t, c), ip, ⟨T7, hv, e7⟩ =>
          subst hv
          have hc2 := (isPart_le hm hm' r1 r2 hn ip t c rfl).2.2
          refine ⟨_, rfl, rfl, _, rfl, iteF ⟨_, rfl, T7, _, _, .int (c : Nat), rfl, rfl, SqT.of e7, rfl, _, _, rfl, ?_⟩⟩
          refine ⟨if (24 : Int) < (c : Nat) then 24 else (c : Nat), rfl, ?_, ?_, .inr ⟨t, c, rfl, ?_⟩, SB', ⟨T7, rfl, e7⟩⟩
          · split <;> omega
          · split <;> omega
          · split <;> omega
      rintro σ' HC ⟨far, rfl, fa1, fa2, fa3, SC, npC⟩
      refine ⟨_, rfl, _, rfl, _, rfl, _, rfl, _, rfl, m, m', r, n, far, rfl, hm, hm', r1, r2, hn, fa1, fa2, alike_of ipA fa3, fun HD SD => ⟨_, rfl, iteF ?_⟩⟩
      have npD := npC.same SD
      -- the other way about
      refine ⟨fun σ' HE => σ' = [some (.ref a), some (.ref p), some (.ref mo), some (.int (0 + (i : Nat))), some (.str (modeS m)), some (.str (modeS m')), some (.int (r : Nat)), some (.int (n : Nat)), some v, some (.int far)] ∧ Same HD HE, ?_, ?_⟩
      · cases hres : res2 with
        | none =>
          rw [hres] at npD
          obtain rfl : v = .non := npD
          exact ⟨_, rfl, rfl, _, rfl, iteF ⟨rfl, Same.refl _⟩⟩
        | some tc =>
          have npD' := npD
          rw [hres] at npD'
          obtain ⟨T7, hv, e7⟩ := npD'
          subst hv
          refine ⟨_, rfl, rfl, _, rfl, iteT ?_⟩
          refine ⟨_, rfl, _, rfl, _, rfl, _, rfl, rfl, rfl, m', m, r, n, rfl, hm', hm, r1, r2, hn, fun v4 HE res4 SE ip4 np4 => ?_⟩
          have e4 := isPart_one ip4 (isPart_swap ipA)
          subst e4
          refine ⟨_, rfl, datP res4, datP res4, np4.dp, (npD.same SE).dp, shaped_datP _, shaped_datP _, _, rfl, ?_⟩
          rw [eqv_datP]
          exact iteF ⟨rfl, SE⟩
      rintro σ' HE ⟨rfl, SE⟩
      -- places left out
      refine ⟨_, rfl, _, rfl, _, rfl, rfl, rfl, m, m', r, 0, rfl, hm, hm', r1, r2, by decide, fun v5 HF res5 SF ip5 np5 => ?_⟩
      refine ⟨_, rfl, _, rfl, _, rfl, m, m', r, 0, rfl, hm, hm', r1, r2, by decide, fun v6' HG res6 SG ip6 np6 => ?_⟩
      have e5 := isPart_one ip6 ip5
      subst e5
      refine ⟨datP res6, datP res6, (np5.same SG).dp, np6.dp, shaped_datP _, shaped_datP _, _, rfl, ?_⟩
      rw [eqv_datP]
      refine iteF ?_
      -- base left out
      refine ⟨_, rfl, _, rfl, _, rfl, rfl, rfl, m, m', 10, n, rfl, hm, hm', by decide, by decide, hn, fun v7' HI res7 SI ip7 np7 => ?_⟩
      refine ⟨_, rfl, _, rfl, _, rfl, m, m', 10, n, rfl, hm, hm', by decide, by decide, hn, fun v8' HJ res8 SJ ip8 np8 => ?_⟩
      have e7 := isPart_one ip8 ip7
      subst e7
      refine ⟨datP res8, datP res8, (np7.same SJ).dp, np8.dp, shaped_datP _, shaped_datP _, _, rfl, ?_⟩
      rw [eqv_datP]
      refine iteF ?_
      have Sall := (SC.trans SD).trans (SE.trans ((SF.trans SG).trans (SI.trans SJ)))
      exact ⟨_, _, _, _, _, _, _, rfl, (F9.same Sall).mono (by omega), Sall _ _ (B9' _ _ hmo nmo)⟩
    · rintro σ' H' ⟨v3, v4, v5, v6, v7, v8, v9, rfl, hF, _⟩
      refine ⟨rfl, rfl, 4, 5, 10, 2, rfl, by decide, by decide, by decide, by decide, by decide, fun v HA res SA ip np => ?_⟩
      have e := part_100 ip
      subst e
      refine ⟨by show 2 ≤ sizeLine; decide, fun T hT => ?_⟩
      refine ⟨datP (some (1, 8)), .tuple [.int 1, .int 8], (np.same (same_new hT)).dp, .tup (SqT.of upd_same) (.cons (.int _) (.cons (.int _) .nil)), rfl, rfl, _, rfl, iteT ?_⟩
      refine ⟨1, 4, 10, 0, rfl, by decide, by decide, by decide, by decide, by decide, fun v2 HB res2 SB ip2 np2 => ?_⟩
      have e2 := part_1 ip2
      subst e2
      refine ⟨by show 2 ≤ sizeLine; decide, fun T2 hT2 => ?_⟩
      refine ⟨datP (some (1, 3)), .tuple [.int 1, .int 3], (np2.same (same_new hT2)).dp, .tup (SqT.of upd_same) (.cons (.int _) (.cons (.int _) .nil)), rfl, rfl, ?_⟩
      exact k _
end
end Lw

/-! ### the head -/
namespace Hd
open PySem PySem.Spec PyProof.Rows L2 Fw Lw
def tabs : List He.Tab := [(fun K => He.ga K "ROADS", ["down", "up", "floor", "roof", "half", "even"])]
abbrev NO (K : PySem.W.Frag) : Addr := He.ga K "Nought"
def road (K : PySem.W.Frag) (m x : Str) : Bool := decide (PySem.W.nsIn K (He.ga K "ROADS") m = some (some (.ref (He.ga K x))))
def extra (K : PySem.W.Frag) : Bool :=
  ownB K (NO K) (He.fAd K ("Nought", some "__init__")) "ZeroDivisionError" "ZeroDivisionError.__new__" "ZeroDivisionError.__init__" zdM "top" &&
    (road K "down" "by_down" && road K "up" "by_up" && road K "floor" "by_floor" && road K "roof" "by_roof" && road K "half" "by_half" && road K "even" "by_even")
def d_power : He.DefD := ⟨("power", none), "power", "power", defArgs (top 4), defBody (top 4), defScope (top 4), [], []⟩
def d_divisor : He.DefD := ⟨("divisor", none), "divisor", "divisor", defArgs (top 7), defBody (top 7), defScope (top 7), [], []⟩
def d_fraction : He.DefD := ⟨("fraction", none), "fraction", "fraction", defArgs (top 8), defBody (top 8), defScope (top 8), [.int 1], []⟩
def d_by_down : He.DefD := ⟨("by_down", none), "by_down", "by_down", defArgs (top 9), defBody (top 9), defScope (top 9), [], []⟩
def d_by_up : He.DefD := ⟨("by_up", none), "by_up", "by_up", defArgs (top 10), defBody (top 10), defScope (top 10), [], []⟩
def d_by_floor : He.DefD := ⟨("by_floor", none), "by_floor", "by_floor", defArgs (top 11), defBody (top 11), defScope (top 11), [], []⟩
def d_by_roof : He.DefD := ⟨("by_roof", none), "by_roof", "by_roof", defArgs (top 12), defBody (top 12), defScope (top 12), [], []⟩
def d_by_half : He.DefD := ⟨("by_half", none), "by_half", "by_half", defArgs (top 13), defBody (top 13), defScope (top 13), [], []⟩
def d_by_even : He.DefD := ⟨("by_even", none), "by_even", "by_even", defArgs (top 14), defBody (top 14), defScope (top 14), [], []⟩
def d_rounded : He.DefD := ⟨("rounded", none), "rounded", "rounded", defArgs (top 16), defBody (top 16), defScope (top 16), [], [("mode", .str "half")]⟩
def d_nearest_unlike : He.DefD := ⟨("nearest_unlike", none), "nearest_unlike", "nearest_unlike", defArgs (top 18), defBody (top 18), defScope (top 18), [], []⟩
def d_modes_parting : He.DefD := ⟨("modes_parting", none), "modes_parting", "modes_parting", defArgs (top 19), defBody (top 19), defScope (top 19), [], [("base", .int 10), ("places", .int 0)]⟩
def d__law_feed : He.DefD := ⟨("_law_feed", none), "_law_feed", "_law_feed", defArgs (top 21), defBody (top 21), defScope (top 21), [], []⟩
def d__law_draw : He.DefD := ⟨("_law_draw", none), "_law_draw", "_law_draw", defArgs (top 22), defBody (top 22), defScope (top 22), [], []⟩
def d__law_power : He.DefD := ⟨("_law_power", none), "_law_power", "_law_power", defArgs (top 23), defBody (top 23), defScope (top 23), [], []⟩
def d__law_gcd : He.DefD := ⟨("_law_gcd", none), "_law_gcd", "_law_gcd", defArgs (top 24), defBody (top 24), defScope (top 24), [], []⟩
def d__law_round : He.DefD := ⟨("_law_round", none), "_law_round", "_law_round", defArgs (top 25), defBody (top 25), defScope (top 25), [], []⟩
def d__law_radix : He.DefD := ⟨("_law_radix", none), "_law_radix", "_law_radix", defArgs (top 26), defBody (top 26), defScope (top 26), [], []⟩
def d__law_nearest : He.DefD := ⟨("_law_nearest", none), "_law_nearest", "_law_nearest", defArgs (top 27), defBody (top 27), defScope (top 27), [], []⟩
def d__law_due : He.DefD := ⟨("_law_due", none), "_law_due", "_law_due", defArgs (top 28), defBody (top 28), defScope (top 28), [], []⟩
def d__law_are_alike_ahead : He.DefD := ⟨("_law_are_alike_ahead", none), "_law_are_alike_ahead", "_law_are_alike_ahead", defArgs (top 29), defBody (top 29), defScope (top 29), [], []⟩
def d_law : He.DefD := ⟨("law", none), "law", "law", defArgs (top 30), defBody (top 30), defScope (top 30), [], []⟩
def d_Nought___init__ : He.DefD := ⟨("Nought", some "__init__"), "__init__", "Nought.__init__", defArgs (inClass (top 1) 0), defBody (inClass (top 1) 0), defScope (inClass (top 1) 0), [], []⟩
def fn_0 : List He.DefD := [d_power, d_divisor, d_fraction, d_by_down, d_by_up, d_by_floor, d_by_roof, d_by_half, d_by_even, d_rounded, d_nearest_unlike, d_modes_parting, d__law_feed, d__law_draw, d__law_power, d__law_gcd, d__law_round, d__law_radix, d__law_nearest, d__law_due, d__law_are_alike_ahead, d_law, d_Nought___init__]
def fn : List He.DefD := fn_0
def fa_0 : List He.Fa := [.glo "power", .glo "divisor", .glo "fraction", .glo "by_down", .glo "by_up", .glo "by_floor", .glo "by_roof", .glo "by_half", .glo "by_even", .glo "rounded", .glo "nearest_unlike", .glo "modes_parting", .glo "_law_feed", .glo "_law_draw", .glo "_law_power", .glo "_law_gcd", .glo "_law_round", .glo "_law_radix", .glo "_law_nearest", .glo "_law_due", .glo "_law_are_alike_ahead", .glo "law", .glo "Nought", .free "len", .free "abs", .free "range", .free "repr", .free "max", .free "min", .free "int"]
def fa_1 : List He.Fa := [.free "divmod", .free "list", .free "sorted", .free "ZeroDivisionError", .int "TEN" 10, .str "HALF" "half", .glo "ROADS"]
def fa : List He.Fa := fa_0 ++ fa_1
def loose_0 : List Str := ["Nought", "TEN", "power", "HALF", "divisor", "fraction", "by_down", "by_up", "by_floor", "by_roof", "by_half", "by_even", "ROADS", "rounded", "nearest_unlike", "modes_parting", "_law_feed", "_law_draw", "_law_power", "_law_gcd", "_law_round", "_law_radix", "_law_nearest", "_law_due", "_law_are_alike_ahead"]
def loose : List Str := loose_0
abbrev R : PySem.W.OpenRow := PySem.W.OpenLaw.row PySem.Challenge.rw_formatwords_k25_where_two_modes_part
abbrev hk : PySem.W.Hook := He.hookX 4 fa fn tabs [] extra
def ob (s : PySem.W.SharedT) : He.AlX := He.obsX 4 fa fn tabs [] extra (HandSHeadRun.getT s)
theorem ob_eq (s : PySem.W.SharedT) : ob s = hk.obs s.abs := He.obsX_eq (HandSHeadRun.getT_eq s)
def wB (b : Bool) (w : World) : World := ⟨w.draws, { w.params with followText := fun s => if s == "special-get-raises" then b else w.params.followText s }⟩
theorem wB_eq (w : World) : wB (w.params.followText "special-get-raises") w = w := by
  obtain ⟨d, p⟩ := w
  obtain ⟨p1, p2, p3, p4, p5, ft, p7⟩ := p
  have e : (fun s => if (s == "special-get-raises") = true then ft "special-get-raises" else ft s) = ft := by
    funext s
    by_cases h : s = "special-get-raises"
    · rw [h, if_pos (by decide)]
    · rw [if_neg (by simpa using h)]
  show World.mk d _ = World.mk d _
  simp only [wB, e]
theorem runT (w : World) : HandSHeadRun.RunEq R (PySem.W.view R.prog [30]) hk ob 4000 loose (wB true w) := by
  intro os
  kernel_rfl
theorem runF (w : World) : HandSHeadRun.RunEq R (PySem.W.view R.prog [30]) hk ob 4000 loose (wB false w) := by
  intro os
  kernel_rfl
theorem run (w : World) : HandSHeadRun.RunEq R (PySem.W.view R.prog [30]) hk ob 4000 loose w := by
  rw [← wB_eq w]
  cases w.params.followText "special-get-raises" with
  | true => exact runT w
  | false => exact runF w
section
variable {K : PySem.W.Frag} {h : Heap} {mg : Str → Option Value} (X : K.In h) (G : h.Ns mainGlobals mg) (c : He.SaysD fa fn K)
include X G c in
theorem gl_power : mg "power" = some (.ref (He.ga K "power")) := He.glo_ok X G (c.fact 0 (f := .glo "power") rfl)
include X G c in
theorem gl_divisor : mg "divisor" = some (.ref (He.ga K "divisor")) := He.glo_ok X G (c.fact 1 (f := .glo "divisor") rfl)
include X G c in
theorem gl_fraction : mg "fraction" = some (.ref (He.ga K "fraction")) := He.glo_ok X G (c.fact 2 (f := .glo "fraction") rfl)
include X G c in
theorem gl_by_down : mg "by_down" = some (.ref (He.ga K "by_down")) := He.glo_ok X G (c.fact 3 (f := .glo "by_down") rfl)
include X G c in
theorem gl_by_up : mg "by_up" = some (.ref (He.ga K "by_up")) := He.glo_ok X G (c.fact 4 (f := .glo "by_up") rfl)
include X G c in
theorem gl_by_floor : mg "by_floor" = some (.ref (He.ga K "by_floor")) := He.glo_ok X G (c.fact 5 (f := .glo "by_floor") rfl)
include X G c in
theorem gl_by_roof : mg "by_roof" = some (.ref (He.ga K "by_roof")) := He.glo_ok X G (c.fact 6 (f := .glo "by_roof") rfl)
include X G c in
theorem gl_by_half : mg "by_half" = some (.ref (He.ga K "by_half")) := He.glo_ok X G (c.fact 7 (f := .glo "by_half") rfl)
include X G c in
theorem gl_by_even : mg "by_even" = some (.ref (He.ga K "by_even")) := He.glo_ok X G (c.fact 8 (f := .glo "by_even") rfl)
include X G c in
theorem gl_rounded : mg "rounded" = some (.ref (He.ga K "rounded")) := He.glo_ok X G (c.fact 9 (f := .glo "rounded") rfl)
include X G c in
theorem gl_nearest_unlike : mg "nearest_unlike" = some (.ref (He.ga K "nearest_unlike")) := He.glo_ok X G (c.fact 10 (f := .glo "nearest_unlike") rfl)
include X G c in
theorem gl_modes_parting : mg "modes_parting" = some (.ref (He.ga K "modes_parting")) := He.glo_ok X G (c.fact 11 (f := .glo "modes_parting") rfl)
include X G c in
theorem gl__law_feed : mg "_law_feed" = some (.ref (He.ga K "_law_feed")) := He.glo_ok X G (c.fact 12 (f := .glo "_law_feed") rfl)
include X G c in
theorem gl__law_draw : mg "_law_draw" = some (.ref (He.ga K "_law_draw")) := He.glo_ok X G (c.fact 13 (f := .glo "_law_draw") rfl)
include X G c in
theorem gl__law_power : mg "_law_power" = some (.ref (He.ga K "_law_power")) := He.glo_ok X G (c.fact 14 (f := .glo "_law_power") rfl)
include X G c in
theorem gl__law_gcd : mg "_law_gcd" = some (.ref (He.ga K "_law_gcd")) := He.glo_ok X G (c.fact 15 (f := .glo "_law_gcd") rfl)
include X G c in
theorem gl__law_round : mg "_law_round" = some (.ref (He.ga K "_law_round")) := He.glo_ok X G (c.fact 16 (f := .glo "_law_round") rfl)
include X G c in
theorem gl__law_radix : mg "_law_radix" = some (.ref (He.ga K "_law_radix")) := He.glo_ok X G (c.fact 17 (f := .glo "_law_radix") rfl)
include X G c in
theorem gl__law_nearest : mg "_law_nearest" = some (.ref (He.ga K "_law_nearest")) := He.glo_ok X G (c.fact 18 (f := .glo "_law_nearest") rfl)
include X G c in
theorem gl__law_due : mg "_law_due" = some (.ref (He.ga K "_law_due")) := He.glo_ok X G (c.fact 19 (f := .glo "_law_due") rfl)
include X G c in
theorem gl__law_are_alike_ahead : mg "_law_are_alike_ahead" = some (.ref (He.ga K "_law_are_alike_ahead")) := He.glo_ok X G (c.fact 20 (f := .glo "_law_are_alike_ahead") rfl)
include X G c in
theorem gl_law : mg "law" = some (.ref (He.ga K "law")) := He.glo_ok X G (c.fact 21 (f := .glo "law") rfl)
include X G c in
theorem gl_Nought : mg "Nought" = some (.ref (He.ga K "Nought")) := He.glo_ok X G (c.fact 22 (f := .glo "Nought") rfl)
include X G c in
theorem fr_len : mg "len" = none := He.free_ok X G (c.fact 23 (f := .free "len") rfl)
include X G c in
theorem fr_abs : mg "abs" = none := He.free_ok X G (c.fact 24 (f := .free "abs") rfl)
include X G c in
theorem fr_range : mg "range" = none := He.free_ok X G (c.fact 25 (f := .free "range") rfl)
include X G c in
theorem fr_repr : mg "repr" = none := He.free_ok X G (c.fact 26 (f := .free "repr") rfl)
include X G c in
theorem fr_max : mg "max" = none := He.free_ok X G (c.fact 27 (f := .free "max") rfl)
include X G c in
theorem fr_min : mg "min" = none := He.free_ok X G (c.fact 28 (f := .free "min") rfl)
include X G c in
theorem fr_int : mg "int" = none := He.free_ok X G (c.fact 29 (f := .free "int") rfl)
include X G c in
theorem fr_divmod : mg "divmod" = none := He.free_ok X G (c.fact 30 (f := .free "divmod") rfl)
include X G c in
theorem fr_list : mg "list" = none := He.free_ok X G (c.fact 31 (f := .free "list") rfl)
include X G c in
theorem fr_sorted : mg "sorted" = none := He.free_ok X G (c.fact 32 (f := .free "sorted") rfl)
include X G c in
theorem fr_ZeroDivisionError : mg "ZeroDivisionError" = none := He.free_ok X G (c.fact 33 (f := .free "ZeroDivisionError") rfl)
include X G c in
theorem co_TEN : ∃ t, mg "TEN" = some (.int 10 t) := He.int_ok X G (c.fact 34 (f := .int "TEN" 10) rfl)
include X G c in
theorem co_HALF : ∃ t, mg "HALF" = some (.str "half" t) := He.str_ok X G (c.fact 35 (f := .str "HALF" "half") rfl)
include X G c in
theorem gl_ROADS : mg "ROADS" = some (.ref (He.ga K "ROADS")) := He.glo_ok X G (c.fact 36 (f := .glo "ROADS") rfl)
include c in
theorem de_power : ∃ fd, FunD K d_power.name d_power.qual d_power.params d_power.body d_power.scope (d_power.dvs K) (d_power.kws K) (He.fAd K d_power.at_) fd := c.def_ 0 (d := d_power) rfl
include c in
theorem de_divisor : ∃ fd, FunD K d_divisor.name d_divisor.qual d_divisor.params d_divisor.body d_divisor.scope (d_divisor.dvs K) (d_divisor.kws K) (He.fAd K d_divisor.at_) fd := c.def_ 1 (d := d_divisor) rfl
include c in
theorem de_fraction : ∃ fd, FunD K d_fraction.name d_fraction.qual d_fraction.params d_fraction.body d_fraction.scope (d_fraction.dvs K) (d_fraction.kws K) (He.fAd K d_fraction.at_) fd := c.def_ 2 (d := d_fraction) rfl
include c in
theorem de_by_down : ∃ fd, FunD K d_by_down.name d_by_down.qual d_by_down.params d_by_down.body d_by_down.scope (d_by_down.dvs K) (d_by_down.kws K) (He.fAd K d_by_down.at_) fd := c.def_ 3 (d := d_by_down) rfl
include c in
theorem de_by_up : ∃ fd, FunD K d_by_up.name d_by_up.qual d_by_up.params d_by_up.body d_by_up.scope (d_by_up.dvs K) (d_by_up.kws K) (He.fAd K d_by_up.at_) fd := c.def_ 4 (d := d_by_up) rfl
include c in
theorem de_by_floor : ∃ fd, FunD K d_by_floor.name d_by_floor.qual d_by_floor.params d_by_floor.body d_by_floor.scope (d_by_floor.dvs K) (d_by_floor.kws K) (He.fAd K d_by_floor.at_) fd := c.def_ 5 (d := d_by_floor) rfl
include c in
theorem de_by_roof : ∃ fd, FunD K d_by_roof.name d_by_roof.qual d_by_roof.params d_by_roof.body d_by_roof.scope (d_by_roof.dvs K) (d_by_roof.kws K) (He.fAd K d_by_roof.at_) fd := c.def_ 6 (d := d_by_roof) rfl
include c in
theorem de_by_half : ∃ fd, FunD K d_by_half.name d_by_half.qual d_by_half.params d_by_half.body d_by_half.scope (d_by_half.dvs K) (d_by_half.kws K) (He.fAd K d_by_half.at_) fd := c.def_ 7 (d := d_by_half) rfl
include c in
theorem de_by_even : ∃ fd, FunD K d_by_even.name d_by_even.qual d_by_even.params d_by_even.body d_by_even.scope (d_by_even.dvs K) (d_by_even.kws K) (He.fAd K d_by_even.at_) fd := c.def_ 8 (d := d_by_even) rfl
include c in
theorem de_rounded : ∃ fd, FunD K d_rounded.name d_rounded.qual d_rounded.params d_rounded.body d_rounded.scope (d_rounded.dvs K) (d_rounded.kws K) (He.fAd K d_rounded.at_) fd := c.def_ 9 (d := d_rounded) rfl
include c in
theorem de_nearest_unlike : ∃ fd, FunD K d_nearest_unlike.name d_nearest_unlike.qual d_nearest_unlike.params d_nearest_unlike.body d_nearest_unlike.scope (d_nearest_unlike.dvs K) (d_nearest_unlike.kws K) (He.fAd K d_nearest_unlike.at_) fd := c.def_ 10 (d := d_nearest_unlike) rfl
include c in
theorem de_modes_parting : ∃ fd, FunD K d_modes_parting.name d_modes_parting.qual d_modes_parting.params d_modes_parting.body d_modes_parting.scope (d_modes_parting.dvs K) (d_modes_parting.kws K) (He.fAd K d_modes_parting.at_) fd := c.def_ 11 (d := d_modes_parting) rfl
include c in
theorem de__law_feed : ∃ fd, FunD K d__law_feed.name d__law_feed.qual d__law_feed.params d__law_feed.body d__law_feed.scope (d__law_feed.dvs K) (d__law_feed.kws K) (He.fAd K d__law_feed.at_) fd := c.def_ 12 (d := d__law_feed) rfl
include c in
theorem de__law_draw : ∃ fd, FunD K d__law_draw.name d__law_draw.qual d__law_draw.params d__law_draw.body d__law_draw.scope (d__law_draw.dvs K) (d__law_draw.kws K) (He.fAd K d__law_draw.at_) fd := c.def_ 13 (d := d__law_draw) rfl
include c in
theorem de__law_power : ∃ fd, FunD K d__law_power.name d__law_power.qual d__law_power.params d__law_power.body d__law_power.scope (d__law_power.dvs K) (d__law_power.kws K) (He.fAd K d__law_power.at_) fd := c.def_ 14 (d := d__law_power) rfl
include c in
theorem de__law_gcd : ∃ fd, FunD K d__law_gcd.name d__law_gcd.qual d__law_gcd.params d__law_gcd.body d__law_gcd.scope (d__law_gcd.dvs K) (d__law_gcd.kws K) (He.fAd K d__law_gcd.at_) fd := c.def_ 15 (d := d__law_gcd) rfl
include c in
theorem de__law_round : ∃ fd, FunD K d__law_round.name d__law_round.qual d__law_round.params d__law_round.body d__law_round.scope (d__law_round.dvs K) (d__law_round.kws K) (He.fAd K d__law_round.at_) fd := c.def_ 16 (d := d__law_round) rfl
include c in
theorem de__law_radix : ∃ fd, FunD K d__law_radix.name d__law_radix.qual d__law_radix.params d__law_radix.body d__law_radix.scope (d__law_radix.dvs K) (d__law_radix.kws K) (He.fAd K d__law_radix.at_) fd := c.def_ 17 (d := d__law_radix) rfl
include c in
theorem de__law_nearest : ∃ fd, FunD K d__law_nearest.name d__law_nearest.qual d__law_nearest.params d__law_nearest.body d__law_nearest.scope (d__law_nearest.dvs K) (d__law_nearest.kws K) (He.fAd K d__law_nearest.at_) fd := c.def_ 18 (d := d__law_nearest) rfl
include c in
theorem de__law_due : ∃ fd, FunD K d__law_due.name d__law_due.qual d__law_due.params d__law_due.body d__law_due.scope (d__law_due.dvs K) (d__law_due.kws K) (He.fAd K d__law_due.at_) fd := c.def_ 19 (d := d__law_due) rfl
include c in
theorem de__law_are_alike_ahead : ∃ fd, FunD K d__law_are_alike_ahead.name d__law_are_alike_ahead.qual d__law_are_alike_ahead.params d__law_are_alike_ahead.body d__law_are_alike_ahead.scope (d__law_are_alike_ahead.dvs K) (d__law_are_alike_ahead.kws K) (He.fAd K d__law_are_alike_ahead.at_) fd := c.def_ 20 (d := d__law_are_alike_ahead) rfl
include c in
theorem de_law : ∃ fd, FunD K d_law.name d_law.qual d_law.params d_law.body d_law.scope (d_law.dvs K) (d_law.kws K) (He.fAd K d_law.at_) fd := c.def_ 21 (d := d_law) rfl
include c in
theorem de_Nought___init__ : ∃ fd, FunD K d_Nought___init__.name d_Nought___init__.qual d_Nought___init__.params d_Nought___init__.body d_Nought___init__.scope (d_Nought___init__.dvs K) (d_Nought___init__.kws K) (He.fAd K d_Nought___init__.at_) fd := c.def_ 22 (d := d_Nought___init__) rfl
end
abbrev lawAt : Nat := 30
/-- a def without defaults, by its name -/
theorem dn_of {P : Program} {w : World} {K : PySem.W.Frag} {mg : Str → Option Value} {base : Heap} {CX : CXT} {k : Nat} {x : Str} {ps : List Str} {dvs : List V} {sp : Sp} {f : Addr} {fd : FuncData} {ds : List Value}
    (F : FnOk P w K mg base CX k f fd ps sp) (hm : mg x = some (.ref f)) (kp : PySem.W.keepIn K (.ref f) = true) (b : Binds K fd ps ds) (v : Vals dvs ds) : Dn P w K mg base CX k x ps dvs sp := ⟨f, fd, ds, F, hm, kp, b, v⟩
theorem facts {P : Program} {w : World} {K : PySem.W.Frag} {h : Heap} {mg : Str → Option Value} {f : Addr} (X : K.In h) (G : h.Ns mainGlobals mg) (hfa : mg ("law" : Str) = some (.ref f)) (ct : He.SaysT fa fn tabs w K) (m : extra K = true) :
    ∃ fd : FuncData, (∀ (s : Shared) (v : Value), BindsTo s fd ⟨[v], []⟩ [("_law_script", v)]) ∧ ∀ base : Heap, K.In base → base.Ns mainGlobals mg → FnG P w K mg base CX0 6 f fd ["_law_script"] (spLaw K) := by
  have c := ct.d
  obtain ⟨es, nn, KD⟩ := ct.tab 0
  unfold extra road at m
  simp only [Bool.and_eq_true, decide_eq_true_eq] at m
  obtain ⟨m1, ⟨⟨⟨⟨r0, r1⟩, r2⟩, r3⟩, r4⟩, r5⟩ := m
  have W := ownB_ok m1
  have nl := fr_len X G c
  have nr := fr_range X G c
  have na := fr_abs X G c
  have ni := fr_int X G c
  have nz := fr_ZeroDivisionError X G c
  have np := fr_repr X G c
  obtain ⟨_, f0⟩ := de_Nought___init__ c
  obtain ⟨_, f1⟩ := de_divisor c
  obtain ⟨_, f2⟩ := de_fraction c
  obtain ⟨_, f3⟩ := de_rounded c
  obtain ⟨_, y0⟩ := de_by_down c
  obtain ⟨_, y1⟩ := de_by_up c
  obtain ⟨_, y2⟩ := de_by_floor c
  obtain ⟨_, y3⟩ := de_by_roof c
  obtain ⟨_, y4⟩ := de_by_half c
  obtain ⟨_, y5⟩ := de_by_even c
  obtain ⟨_, f5⟩ := de__law_feed c
  obtain ⟨_, f6⟩ := de__law_draw c
  obtain ⟨_, f4⟩ := de_power c
  obtain ⟨_, f7⟩ := de_nearest_unlike c
  obtain ⟨_, f8⟩ := de_modes_parting c
  obtain ⟨_, f9⟩ := de__law_round c
  obtain ⟨_, f10⟩ := de__law_power c
  obtain ⟨_, f11⟩ := de__law_gcd c
  obtain ⟨_, f12⟩ := de__law_radix c
  obtain ⟨_, f13⟩ := de__law_nearest c
  obtain ⟨_, f15⟩ := de__law_due c
  obtain ⟨_, f16⟩ := de__law_are_alike_ahead c
  obtain ⟨fd, f14⟩ := de_law c
  have e := hfa.symm.trans (gl_law X G c)
  cases e
  have b2 : ∃ ds, Vals [] ds ∧ Binds K _ ["top", "bottom"] ds := f2.binds1 2 1 (by simp [He.DefD.dvs, d_fraction]) rfl fun T kV doc pm an cdv ct us its hu hi => match us, its, hu, hi with | [_, _], [_], _, _ => ⟨_, rfl, rfl⟩
  have b3 : ∃ ds, Vals [V.str "half"] ds ∧ Binds K _ ["number", "mode"] ds := f3.binds0 1 (by simp [He.DefD.kws, d_rounded]) rfl fun D doc pm an cdv ct us ks hu hk => match us, ks, hu, hk with | [_], [_], _, _ => ⟨_, _, _, _, _, _, rfl, rfl, rfl⟩
  obtain ⟨ds2, v2, b2⟩ := b2
  obtain ⟨ds3, v3, b3⟩ := b3
  have k3 : ∃ mv : List Value, KBn K _ ["number", "mode"] 1 ["mode"] (fun us ws => us ++ ws) (fun vs zs => vs ++ zs) := f3.kbinds0 1 ["mode"] [] (fun us _ ws => us ++ ws) (by simp [He.DefD.kws, d_rounded]) (by simp) (fun a _ b => a.append b) fun D doc pm an cdv ct us mv ws hu hm hw => match us, mv, ws, hu, hm, hw with | [_], [], [_], _, _, _ => rfl
  obtain ⟨_, k3⟩ := k3
  have b0 : Binds K _ ["self", "top"] [] := f0.bindsN fun _ _ _ _ _ _ us hl => match us, hl with | [_, _], _ => rfl
  have b1 : Binds K _ ["one", "other"] [] := f1.bindsN fun _ _ _ _ _ _ us hl => match us, hl with | [_, _], _ => rfl
  have z0 : Binds K _ ["below", "twice", "bottom"] [] := y0.bindsN fun _ _ _ _ _ _ us hl => match us, hl with | [_, _, _], _ => rfl
  have z1 : Binds K _ ["below", "twice", "bottom"] [] := y1.bindsN fun _ _ _ _ _ _ us hl => match us, hl with | [_, _, _], _ => rfl
  have z2 : Binds K _ ["below", "twice", "bottom"] [] := y2.bindsN fun _ _ _ _ _ _ us hl => match us, hl with | [_, _, _], _ => rfl
  have z3 : Binds K _ ["below", "twice", "bottom"] [] := y3.bindsN fun _ _ _ _ _ _ us hl => match us, hl with | [_, _, _], _ => rfl
  have z4 : Binds K _ ["below", "twice", "bottom"] [] := y4.bindsN fun _ _ _ _ _ _ us hl => match us, hl with | [_, _, _], _ => rfl
  have z5 : Binds K _ ["below", "twice", "bottom"] [] := y5.bindsN fun _ _ _ _ _ _ us hl => match us, hl with | [_, _, _], _ => rfl
  have b5 : Binds K _ ["_law_script"] [] := f5.bindsN fun _ _ _ _ _ _ us hl => match us, hl with | [_], _ => rfl
  have b6 : Binds K _ ["_law_feed_here", "_law_many"] [] := f6.bindsN fun _ _ _ _ _ _ us hl => match us, hl with | [_, _], _ => rfl
  have b4 : Binds K _ ["base", "many"] [] := f4.bindsN fun _ _ _ _ _ _ us hl => match us, hl with | [_, _], _ => rfl
  have b7 : Binds K _ ["modes", "scale", "bottom"] [] := f7.bindsN fun _ _ _ _ _ _ us hl => match us, hl with | [_, _, _], _ => rfl
  have b9 : Binds K _ ["_law_top", "_law_bottom", "_law_mood"] [] := f9.bindsN fun _ _ _ _ _ _ us hl => match us, hl with | [_, _, _], _ => rfl
  have b10 : Binds K _ ["_law_radix_here", "_law_many"] [] := f10.bindsN fun _ _ _ _ _ _ us hl => match us, hl with | [_, _], _ => rfl
  have b11 : Binds K _ ["_law_one", "_law_other"] [] := f11.bindsN fun _ _ _ _ _ _ us hl => match us, hl with | [_, _], _ => rfl
  have b12 : Binds K _ ["_law_feed_here"] [] := f12.bindsN fun _ _ _ _ _ _ us hl => match us, hl with | [_], _ => rfl
  have b13 : Binds K _ ["_law_one", "_law_other", "_law_many", "_law_bottom", "_law_tops"] [] := f13.bindsN fun _ _ _ _ _ _ us hl => match us, hl with | [_, _, _, _, _], _ => rfl
  have b15 : Binds K _ ["_law_one", "_law_other", "_law_radix_here", "_law_many_places"] [] := f15.bindsN fun _ _ _ _ _ _ us hl => match us, hl with | [_, _, _, _], _ => rfl
  have b16 : Binds K _ ["_law_one", "_law_other", "_law_radix_here", "_law_many_places", "_law_far_on"] [] := f16.bindsN fun _ _ _ _ _ _ us hl => match us, hl with | [_, _, _, _, _], _ => rfl
  have b8 : ∃ ds, Vals [V.int 10, V.int 0] ds ∧ Binds K _ ["one", "other", "base", "places"] ds := f8.binds0 2 (by simp [He.DefD.kws, d_modes_parting]) rfl fun D doc pm an cdv ct us ks hu hk => match us, ks, hu, hk with | [_, _], [_, _], _, _ => ⟨_, _, _, _, _, _, rfl, rfl, _, _, _, _, _, _, rfl, rfl, rfl⟩
  have k8 : ∃ mv : List Value, KBn K _ ["one", "other", "base", "places"] 2 ["base", "places"] (fun us ws => us ++ ws) (fun vs zs => vs ++ zs) := f8.kbinds0 2 ["base", "places"] [] (fun us _ ws => us ++ ws) (by simp [He.DefD.kws, d_modes_parting]) (by simp) (fun a _ b => a.append b) fun D doc pm an cdv ct us mv ws hu hm hw => match us, mv, ws, hu, hm, hw with | [_, _], [], [_, _], _, _, _ => rfl
  have k8b : ∃ mv : List Value, KBn K _ ["one", "other", "base", "places"] 2 ["base"] (fun us ws => us ++ (ws ++ mv)) (fun vs zs => vs ++ (zs ++ [V.int 0])) := f8.kbinds0 2 ["base"] [("places", .int 0)] (fun us mv ws => us ++ (ws ++ mv)) (by simp [He.DefD.kws, d_modes_parting]) (by intro q hq; rw [List.mem_singleton.mp hq]; exact List.mem_cons_of_mem _ (List.mem_singleton.mpr rfl)) (fun a m b => a.append (b.append m)) fun D doc pm an cdv ct us mv ws hu hm hw => match us, mv, ws, hu, hm, hw with | [_, _], [_], [_], _, _, _ => ⟨_, _, _, _, _, _, rfl, rfl, rfl⟩
  have k8p : ∃ mv : List Value, KBn K _ ["one", "other", "base", "places"] 2 ["places"] (fun us ws => us ++ (mv ++ ws)) (fun vs zs => vs ++ ([V.int 10] ++ zs)) := f8.kbinds0 2 ["places"] [("base", .int 10)] (fun us mv ws => us ++ (mv ++ ws)) (by simp [He.DefD.kws, d_modes_parting]) (by intro q hq; rw [List.mem_singleton.mp hq]; exact List.mem_cons_self) (fun a m b => a.append (m.append b)) fun D doc pm an cdv ct us mv ws hu hm hw => match us, mv, ws, hu, hm, hw with | [_, _], [_], [_], _, _, _ => ⟨_, _, _, _, _, _, rfl, rfl, rfl⟩
  obtain ⟨ds8, v8, b8⟩ := b8
  obtain ⟨_, k8⟩ := k8
  obtain ⟨_, k8b⟩ := k8b
  obtain ⟨_, k8p⟩ := k8p
  have b := FunD.bindsA (ps := ["_law_script"]) f14 fun _ _ _ _ _ _ us hl => match us, hl with | [_], _ => rfl
  refine ⟨fd, fun s v => b s [v] rfl, fun base _ _ => ?_⟩
  have gNO := gl_Nought X G c
  have Ddraw := dn_of (x := "_law_draw") (ok_draw (P := P) (w := w) (base := base) f6 nl na nr) (gl__law_draw X G c) f6.kp b6 .nil
  have Ddiv := dn_of (x := "divisor") (ok_divisor (P := P) (w := w) (base := base) f1 na) (gl_divisor X G c) f1.kp b1 .nil
  have Rno : Rz P w K mg base 1 "Nought" (NO K) (spIni (NO K) "top") :=
    ⟨_, _, _, _, _, _, _, exB_of PySem.F.excBase_ZeroDivisionError PySem.F.store_ZeroDivisionError, W.O, W.iC, W.tI, ok_nini (P := P) (w := w) (base := base) f0 W nz, b0, gNO⟩
  have o2 := ok_fraction (P := P) (w := w) (base := base) f2 Ddiv Rno
  have Dfr := dn_of (x := "fraction") o2 (gl_fraction X G c) f2.kp b2 v2
  have rd : Road P w K mg base (He.ga K "ROADS") := by
    intro m hm
    have mk : ∀ (z : Str) (g : Addr), PySem.W.nsIn K (He.ga K "ROADS") z = some (some (.ref g)) → KDct K w (He.ga K "ROADS") z (.ref g) := fun z g q => ⟨es, nn, _, KD.at_, KD.lit, q, rfl⟩
    rcases m with _ | _ | _ | _ | _ | _ | m
    · exact ⟨_, ⟨_, _, ok_by_down (P := P) (w := w) (mg := mg) (base := base) y0, y0.kp, z0⟩, mk _ _ r0⟩
    · exact ⟨_, ⟨_, _, ok_by_up (P := P) (w := w) (mg := mg) (base := base) y1, y1.kp, z1⟩, mk _ _ r1⟩
    · exact ⟨_, ⟨_, _, ok_by_floor (P := P) (w := w) (mg := mg) (base := base) y2, y2.kp, z2⟩, mk _ _ r2⟩
    · exact ⟨_, ⟨_, _, ok_by_roof (P := P) (w := w) (mg := mg) (base := base) y3, y3.kp, z3⟩, mk _ _ r3⟩
    · exact ⟨_, ⟨_, _, ok_by_half (P := P) (w := w) (mg := mg) (base := base) y4, y4.kp, z4⟩, mk _ _ r4⟩
    · exact ⟨_, ⟨_, _, ok_by_even (P := P) (w := w) (mg := mg) (base := base) y5, y5.kp, z5⟩, mk _ _ r5⟩
    · omega
  have o3 := ok_rounded (P := P) (w := w) (base := base) f3 (fr_divmod X G c) ni (gl_ROADS X G c) rd
  have Dpow := dn_of (x := "power") (ok_power (P := P) (w := w) (base := base) f4 nr) (gl_power X G c) f4.kp b4 .nil
  have Dlpow := dn_of (x := "_law_power") (ok_lpower (P := P) (w := w) (base := base) f10 nr) (gl__law_power X G c) f10.kp b10 .nil
  have Dnear := dn_of (x := "nearest_unlike") (ok_near (P := P) (w := w) (base := base) f7 nr Ddiv Dfr ⟨_, _, _, _, o3, gl_rounded X G c, f3.kp, k3⟩) (gl_nearest_unlike X G c) f7.kp b7 .nil
  have Dlnear := dn_of (x := "_law_nearest") (ok_lnear (P := P) (w := w) (base := base) f13 (dn_of (ok_gcd f11) (gl__law_gcd X G c) f11.kp b11 .nil) (dn_of (ok_round f9 na ni) (gl__law_round X G c) f9.kp b9 .nil)) (gl__law_nearest X G c) f13.kp b13 .nil
  have o8 := ok_part (P := P) (w := w) (base := base) f8 (fr_sorted X G c) Dpow Dnear
  exact ok_law f14 nl nr (fr_max X G c) (fr_min X G c) np
    (dn_of (ok_feed f5) (gl__law_feed X G c) f5.kp b5 .nil) Ddraw (dn_of (ok_radix f12 Ddraw) (gl__law_radix X G c) f12.kp b12 .nil)
    (dn_of (ok_ldue f15 (fr_sorted X G c) nr (fr_list X G c) Dlpow Dlnear) (gl__law_due X G c) f15.kp b15 .nil) (dn_of (ok_ahead f16 nr (fr_list X G c) Dlpow Dlnear) (gl__law_are_alike_ahead X G c) f16.kp b16 .nil)
    (dn_of o8 (gl_modes_parting X G c) f8.kp b8 v8) ⟨_, _, _, _, o8, gl_modes_parting X G c, f8.kp, k8⟩ ⟨_, _, _, _, o8, gl_modes_parting X G c, f8.kp, k8b⟩ ⟨_, _, _, _, o8, gl_modes_parting X G c, f8.kp, k8p⟩
end Hd

open PySem PySem.W PySem.Calls PyProof.Rows
set_option maxRecDepth 100000 in
set_option maxHeartbeats 8000000 in
theorem PySem.Challenge.cw_formatwords_k25_where_two_modes_part_holds : PySem.Challenge.rw_formatwords_k25_where_two_modes_part.Holds := by
  w_on; o_law
  refine HandSHeadRun.head_any (r := Hd.R) (q := view Hd.R.prog [Hd.lawAt]) (H := Hd.hk) (ob := Hd.ob) (M := 4000) (loose := Hd.loose) (d := HandSHeadRun.topDef Hd.R.prog Hd.lawAt) (kwd := []) Hd.ob_eq
    (by kernel_rfl) (fun s => by kernel_rfl) Hd.run (by kernel_rfl) (by kernel_rfl) (by kernel_rfl) (by rfl) (by first | assumption | decide +kernel) (by decide +kernel)
    ⟨rfl, rfl, rfl, rfl, rfl, by decide +kernel⟩ ?hw ?hc
  case hw => w_witness2
  case hc =>
    refine Fw.walk_g (l := PySem.Challenge.rw_formatwords_k25_where_two_modes_part) (n := 63) (k := 6) (x := "_law_script") rfl (by decide) (by kernel_rfl) ⟨rfl, by decide, by decide⟩ ?F
    intro w mg fa h Y G hmg0
    obtain ⟨K, KX, c⟩ := Y
    have hmg : mg ("law" : PySem.Str) = some (.ref fa) := by
      have e : (HandSHeadRun.topDef Hd.R.prog Hd.lawAt).name = ("law" : PySem.Str) := by kernel_rfl
      rw [← e]; exact hmg0
    obtain ⟨fd, hb, hF⟩ := Hd.facts (P := (PySem.Challenge.rw_formatwords_k25_where_two_modes_part).prog) (w := w) KX G hmg c.t c.more
    exact ⟨K, fd, Lw.spLaw K, KX, hb, fun H a ns hl _ hS => ⟨a, ns, rfl, hS, hl, fun _ => rfl⟩, hF⟩
