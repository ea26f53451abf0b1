import PyProof.Rows.All
import Wide.All
import OpenK.AllK
import Wide.FinOn
import PyProof.Draws
import PyProof.EnumMake
import PyProof.StrOps2
import KE.KStateDown
import HandS.Base
import HandS.Call
import HandS.List
import HandS.Comp
import HandS.Ends
import HandS.Dict
import HandS.Iter
import HandS.Text
import HandS.Words
import HandS.WordsList
import HandS.WordsDict
import HandS.Flow
import HandS.Style
import HandS.Codes
import HandS.IsInst
import HandS.RaiseMore
import HandS.Wide
import HandS.WideBits
import HandS.Defaults
import HandS.TupAny
import HandS.More
import HandS.WordsExc
import HandS.Exc
import HandS.MakeKwOnly
import HandS.Head0
import HandS.Head1
import HandS.Head2
import HandS.HeadEnd
import HandS.HeadHook1
import HandS.HeadHook2
import HandS.HeadHook3
import HandS.HeadHook4
import PyProof.ReprRoads
import KE.KExcIs
import KE.KExcInit
import HandS.ExcOwn
import HandS.ExcInit
import HandS.ExcField
import HandS.TryOnly
import HandS.StrMore
import KE.KRevSl
import PyProof.SliceStr2
import HandS.CallLocal
import HandS.Conv
import HandS.SlotsOwn
import KE.KCallOwn
import HandS.TupMul
import HandS.FStr
import HandS.Deep
import HandS.Zip
import PyProof.EqAt
import PyProof.MeetsIn
import KE.DataCmp
import KE.SortData
import PyProof.ListStr
import HandS.SetBool
import HandS.TupSets
import HandS.DictComp
import OpenK.KOps
import HandS.ReplaceLit
import HandS.Strs
import HandS.FltList
import HandS.Head4
import KE.KeyNested
import KE.KDictKeyed
import HandS.SetFor
import HandS.SetKeys
import KE.KEqDict
import PyProof.DictUpdate
import HandS.MakeKw
import PyProof.AutoIntOps
import KE.KUnpack
import HandS.ExcValue
import KE.KFmtOwn
import HandS.ClsMeth
import KE.KDictZip
import KE.GoesZip
import KE.GoesMore
import HandS.DictTup
import PyProof.ListNew
import PyProof.CollectStr
import HandS.OwnEq
import HandS.Lambda
import HandS.EndTab
import KE.SortKeyHeap
import PyProof.NeKinds
import HandS.Nested
import KE.DataMinKey
import KE.DatumOrd
import HandS.Small

import PySem.Challenge.RW_formatwords_k28_refusals_and_their_field

set_option Elab.async false
set_option linter.all false
set_option maxRecDepth 100000
set_option maxHeartbeats 4000000
namespace Fw
open PySem PySem.Spec PyProof.Rows L2
/-! ### defs by their names -/
/-- the def that the module's name x holds: n values are written in a call, dvs fill up -/
structure Dn (P : Program) (w : World) (K : PySem.W.Frag) (mg : Str → Option Value) (base : Heap) (CX : CXT) (k : Nat) (x : Str) (ps : List Str) (dvs : List V) (sp : Sp) : Prop where
  ex : ∃ (f : Addr) (fd : FuncData) (ds : List Value), FnOk P w K mg base CX k f fd ps sp ∧ mg x = some (.ref f) ∧ PySem.W.keepIn K (.ref f) = true ∧ Binds K fd ps ds ∧ Vals dvs ds
section
variable {X : Cx} {k : Nat} {x : Str} {ps : List Str} {dvs : List V} {sp : Sp} {p pos : Pos} {e : Expr} {es : List Expr} {t : TA}
theorem pe_dn (D : Dn X.prog X.w X.K X.mg X.base CX0 k x ps dvs sp) (hr : Room k X.A) (hg : Gl X x) (ha : PA X (e :: es) t)
    (hdb : (x == ("__debug__" : Str)) = false := by decide) (he : starEach (e :: es) X.env = (false, eval e X.env) :: starEach es X.env := by rfl)
    (hpl : (backTo pos (starEach es X.env)).any (·.1) = false := by rfl) : PE X (.Call (.Name x p) (e :: es) [] pos) (tCall sp dvs E0 t) := by
  obtain ⟨f, fd, ds, F, hm, hk, hb, hd⟩ := D.ex
  exact pe_call F hr hg hm hk hb hd pass0 ha hdb he hpl
end
/-- the same called with keywords -/
structure Dk (P : Program) (w : World) (K : PySem.W.Frag) (mg : Str → Option Value) (base : Heap) (CX : CXT) (k : Nat) (x : Str) (n : Nat) (ks : List Str) (gV : List V → List V → List V) (sp : Sp) : Prop where
  ex : ∃ (f : Addr) (fd : FuncData) (ps : List Str) (g : List Value → List Value → List Value), FnOk P w K mg base CX k f fd ps sp ∧ mg x = some (.ref f) ∧ PySem.W.keepIn K (.ref f) = true ∧ KBn K fd ps n ks g gV
/-! ### text * number -/
/-! ### enumerate(text) -/
end Fw

namespace Fw
open PySem PySem.Spec PyProof.Rows L2
/-! ### defs called where no repr is under way -/
/-- FnOk, where the caller knows that no repr is under way -/
structure FnG (P : Program) (w : World) (K : PySem.W.Frag) (mg : Str → Option Value) (base : Heap) (CX : CXT) (k : Nat) (f : Addr) (fd : FuncData) (ps : List Str) (sp : Sp) : Prop where
  len : ∀ vs H Q E, sp vs H Q E → vs.length = ps.length
  run : ∀ (A : Around) (outer : List Env) (s : Shared) (H : Hp) (args : Args) (us : List Value) (vs : List V) (Q : VK) (E : XK), A.guards = some [] → Room k A → Env0 P w K mg base A outer s H →
    BindsTo s fd args (ps.zip us) → Vals vs us → sp vs H Q E → codeAny (model P w) A (.call (.ref f) args) (CR CX outer P w H s Q E) s
section
variable {P : Program} {w : World} {K : PySem.W.Frag} {mg : Str → Option Value} {base : Heap} {CX : CXT} {k : Nat} {f : Addr} {fd : FuncData} {ps : List Str} {sp : Sp}
theorem FnG.of (F : FnOk P w K mg base CX k f fd ps sp) : FnG P w K mg base CX k f fd ps sp := ⟨F.len, fun A outer s H args us vs Q E _ => F.run A outer s H args us vs Q E⟩
theorem FnG.mono {j : Nat} (F : FnG P w K mg base CX j f fd ps sp) (h : j ≤ k) : FnG P w K mg base CX k f fd ps sp :=
  ⟨F.len, fun A outer s H args us vs Q E g hr => F.run A outer s H args us vs Q E g (hr.mono h)⟩
end
/-- such a def by its name -/
structure Dg (P : Program) (w : World) (K : PySem.W.Frag) (mg : Str → Option Value) (base : Heap) (CX : CXT) (k : Nat) (x : Str) (ps : List Str) (dvs : List V) (sp : Sp) : Prop where
  ex : ∃ (f : Addr) (fd : FuncData) (ds : List Value), FnG P w K mg base CX k f fd ps sp ∧ mg x = some (.ref f) ∧ PySem.W.keepIn K (.ref f) = true ∧ Binds K fd ps ds ∧ Vals dvs ds
section
variable {X : Cx} {k : Nat} {x : Str} {ps : List Str} {dvs : List V} {sp : Sp} {p pos : Pos} {e : Expr} {es : List Expr} {t : TA}
end
/-- the script as it is tracked: what K does not hold -/
def scriptH (K : PySem.W.Frag) (a : Addr) (o : Obj) (ns : List Int) : Hp := fun b => if b = a ∧ K.lookup a = none then some (.frz o (.lst (ns.map V.int))) else none
/-- sys.modules is there -/
def SysIn (h : Heap) : Prop := ∃ o es ep, h.get? sysModules = some o ∧ o.data = .dict es ep
theorem law_g {P : Program} {w : World} {K : PySem.W.Frag} {mg mb : Str → Option Value} {k : Nat} {fa a : Addr} {fd : FuncData} {x : Str} {sp : Sp} {s1 : Shared} {vs : List Value} {ns : List Int}
    (KX : K.In s1.heap) (hns : s1.heap.Ns mainGlobals mg) (hb : s1.heap.Ns builtinsNs mb) (hbb : ∀ x : Str, x ≠ "__name__" → mb x = bootBuiltins x) (hlim : s1.heap.NoLimit) (hg : s1.gens = #[])
    (ha : s1.heap.get? a = some { cls := .type "list", data := .seq vs.toArray }) (hi : IntsAre vs ns) (hl : ns.length ≤ sizeLine) (hr : Room k callerA)
    (F : ∀ base : Heap, K.In base → base.Ns mainGlobals mg → (SysIn s1.heap → SysIn base) → FnG P w K mg base CX0 k fa fd [x] sp) (hbind : ∀ (s : Shared) (u : Value), BindsTo s fd ⟨[u], []⟩ [(x, u)])
    (hsp : ∀ H : Hp, Only H → SqL K H a (ns.map V.int) → sp [.ref a] H (fun v _ => v = .bl true) fun _ _ _ => False) :
    codeAny (model P w) callerA (.call (.ref fa) ⟨[.ref a], []⟩) (fun r s' => r = .ok (.ret (.bool true)) ∧ OldK s1.heap s'.heap ∧ s'.os = s1.os ∧ AllBare s'.gens) s1 := by
  have rv := vals_ints hi
  generalize ho : ({ cls := .type "list", data := .seq vs.toArray } : Obj) = o at ha
  generalize hH : scriptH K a o ns = H
  have only : ∀ b, H b = none ∨ (b = a ∧ K.lookup a = none ∧ H b = some (.frz o (.lst (ns.map V.int)))) := fun b => by
    rw [← hH]
    unfold scriptH
    by_cases c : b = a ∧ K.lookup a = none
    · rw [if_pos c]; exact Or.inr ⟨c.1, c.2, rfl⟩
    · rw [if_neg c]; exact Or.inl rfl
  have hO : Only H := fun b => by
    rcases only b with z | ⟨_, _, z⟩
    · exact Or.inl z
    · exact Or.inr ⟨_, _, z⟩
  have hS : SqL K H a (ns.map V.int) := by
    cases q : K.lookup a with
    | none => exact Or.inl (Or.inr ⟨o, by rw [← hH]; unfold scriptH; rw [if_pos ⟨rfl, q⟩]⟩)
    | some ob =>
      have e := KX a ob q
      rw [ha] at e
      cases e
      subst ho
      exact Or.inr ⟨_, vs.toArray, _, q, rfl, rfl, rfl, by rw [List.size_toArray, hi.length]; exact hl, by simpa using rv⟩
  have hok : HOk P w H s1.heap := fun b u e => by
    rcases only b with z | ⟨rfl, _, z⟩
    · rw [z] at e; cases e
    · rw [z] at e
      cases e
      exact ⟨ha, by rw [List.length_map]; exact hl, vs, _, rv, by rw [ha, ← ho]⟩
  have up : ∀ {b : Addr} {u : Obj}, s1.heap.get? b = some u → H b = none → (hidT s1.heap H).get? b = some u := fun e n => hidT_get e n
  have dictFree : ∀ {b : Addr} {u : Obj} {es : Array DictEntry} {ep : Nat}, s1.heap.get? b = some u → u.data = .dict es ep → H b = none := fun {b u es ep} e d => by
    rcases only b with z | ⟨rfl, _, _⟩
    · exact z
    · rw [ha] at e
      cases e
      rw [← ho] at d
      exact absurd d (by intro z; cases z)
  have ns1 : ∀ {b : Addr} {m : Str → Option Value}, s1.heap.Ns b m → (hidT s1.heap H).Ns b m := fun {b m} z => by
    obtain ⟨u, es, ep, e, d, r⟩ := z
    exact ⟨u, es, ep, up e (dictFree e d), d, r⟩
  have KB : K.In (hidT s1.heap H) := fun b u e => up (KX b u e) (by
    rcases only b with z | ⟨rfl, q, _⟩
    · exact z
    · rw [q] at e; cases e)
  obtain ⟨mc, l1, l2⟩ := hlim
  have e0 : Env0 P w K mg (hidT s1.heap H) callerA [] s1 H :=
    ⟨rfl, ⟨KB, ns1 hns, ⟨mb, ns1 hb, hbb⟩, ⟨mc, ns1 l1, l2⟩⟩, fun b u e => of_hidT e, Nat.le_of_eq (hidT_size _ _), trivial, fun b hm => absurd (show b ∈ ([] : List Addr) from hm) (by simp), hok, .of_eq hg⟩
  refine codeAny_mono ((F _ KB (ns1 hns) fun ⟨u, es, ep, e, d⟩ => ⟨u, es, ep, up e (dictFree e d), d⟩).run callerA [] s1 H ⟨[.ref a], []⟩ [.ref a] [.ref a] _ _ rfl hr e0 (hbind s1 (.ref a)) (.cons rfl .nil) (hsp H hO hS)) fun r s' z => ?_
  rcases r with e | (_ | _ | _ | u)
  · exact False.elim z
  all_goals first | exact False.elim z | skip
  obtain ⟨v, H', os, bare, un, hok', r', q⟩ := z
  have q' : v = .bl true := q
  subst q'
  obtain rfl : _ = Value.bool true := r'
  refine ⟨rfl, OldK.of_keep fun b ob e => ?_, os, bare⟩
  rcases only b with z | ⟨rfl, _, z⟩
  · exact un.keep b ob e z (fun hm => absurd (show b ∈ ([] : List Addr) from hm) (by simp)) (by simp)
  · have z2 := hok' b _ (un.frzs b o _ z)
    rw [ha] at e
    cases e
    exact z2.1
theorem walk_g {l : PySem.W.OpenLaw} {n k : Nat} {q : Program} {loose : List Str} {XP : (Str → Option Value) → Heap → Prop} {YP : World → Heap → Prop} {d : DefRec} {x : Str}
    (hn : l.most = some n) (hn2 : n ≤ sizeLine) (hdf : d.params.defaults = []) (hr : Room k callerA)
    (F : ∀ (w : World) (mg : Str → Option Value) (fa : Addr) (h : Heap), YP w h → h.Ns mainGlobals mg → mg d.name = some (.ref fa) →
      ∃ (K : PySem.W.Frag) (fd : FuncData) (sp : Sp), K.In h ∧ (∀ (s : Shared) (u : Value), BindsTo s fd ⟨[u], []⟩ [(x, u)]) ∧
        (∀ (H : Hp) (a : Addr) (ns : List Int), ns.length ≤ n → Only H → SqL K H a (ns.map V.int) → sp [.ref a] H (fun v _ => v = .bl true) fun _ _ _ => False) ∧
        ∀ base : Heap, K.In base → base.Ns mainGlobals mg → (SysIn h → SysIn base) → FnG l.prog w K mg base CX0 k fa fd [x] sp) :
    PySem.W.WalkO q loose XP YP l.row.toRowW d [] (fun f vs => PySem.call f vs) := by
  refine Att.attach_call hn hdf ?_
  intro w s0 s1 mg mb fa o pm cd doc a vs ns G Y ho hd hcd hmg hobj hints hlen hg
  obtain ⟨K, fd, sp, KX, hb, hsp, hF⟩ := F w mg fa _ Y G.T.g hmg
  exact law_g KX G.T.g G.T.b G.T.builtins G.T.nolimit hg hobj hints (Nat.le_trans hlen hn2) hr hF hb fun H hO hS => hsp H a ns hlen hO hS
/-! ### the hook: what the library's looks at, and sys.modules -/
def isDictO : Option Obj → Bool
  | some o => (match o.data with | .dict _ _ => true | _ => false)
  | none => false
theorem sysIn_of {h : Heap} (e : isDictO (h.get? sysModules) = true) : SysIn h := by
  cases q : h.get? sysModules with
  | none => rw [q] at e; cases e
  | some o =>
    rw [q] at e
    cases d : o.data with
    | dict es ep => exact ⟨o, es, ep, q, d⟩
    | _ => simp [isDictO, d] at e
def hookY (n : Nat) (fa : List He.Fa) (fn : List He.DefD) (ts : List He.Tab) (ex : PySem.W.Frag → Bool) : PySem.W.Hook where
  α := He.AlX × Bool
  obs := fun s => (He.obsX n fa fn ts [] ex s.heap.get?, isDictO (s.heap.get? sysModules))
  val := fun w => ((He.hookX n fa fn ts [] ex).val w, true)
  says := fun w h => (∃ K : PySem.W.Frag, K.In h ∧ He.SaysX fa fn ts [] ex w h K) ∧ isDictO (h.get? sysModules) = true
  of := fun w s e => ⟨(He.hookX n fa fn ts [] ex).of w s (congrArg Prod.fst e), congrArg Prod.snd e⟩
  keeps := fun w h h' ⟨x, y⟩ k => ⟨(He.hookX n fa fn ts [] ex).keeps w h h' x k, by
    obtain ⟨o, es, ep, q, d⟩ := sysIn_of y
    rw [k _ _ q]
    simp [isDictO, d]⟩
theorem obsY_eq {n : Nat} {fa : List He.Fa} {fn : List He.DefD} {ts : List He.Tab} {ex : PySem.W.Frag → Bool} {g : Addr → Option Obj} {s : Shared} (h : ∀ a, g a = s.heap.get? a) : (He.obsX n fa fn ts [] ex g, isDictO (g sysModules)) = (hookY n fa fn ts ex).obs s := by
  have e : g = s.heap.get? := funext h
  rw [e] <;> rfl
/-! ### repr of data -/
end Fw

namespace Fw
open PySem PySem.Spec PyProof.Rows L2
/-! ### an exception that was caught and is kept -/
/-- at a: an exception of the class cls, its dict at d -/
def ExK (a : Addr) (cls : Value) (d : Option Addr) : HO := .ext fun h => ∃ (oe : Obj) (vs : Array Value), h.get? a = some oe ∧ Zc cls d oe ∧ oe.data = .fields vs
theorem exK_ok {P : Program} {w : World} {H : Hp} {h : Heap} {a : Addr} {cls : Value} {d : Option Addr} {oe : Obj} {vs : Array Value} (e : h.get? a = some oe) (z : Zc cls d oe) (q : oe.data = .fields vs) : ObjOk P w H h a (ExK a cls d) :=
  ⟨⟨oe, vs, e, z, q⟩, ⟨oe, e⟩, fun _ _ y k => by
    obtain ⟨o, v, y1, y2⟩ := y
    exact ⟨o, v, k o y1, y2⟩⟩
theorem exK_at {P : Program} {w : World} {H : Hp} {h : Heap} {a : Addr} {cls : Value} {d : Option Addr} (hok : HOk P w H h) (e : H a = some (ExK a cls d)) : ∃ (oe : Obj) (vs : Array Value), h.get? a = some oe ∧ Zc cls d oe ∧ oe.data = .fields vs := by
  have x : ObjOk P w H h a (.ext fun h => ∃ (oe : Obj) (vs : Array Value), h.get? a = some oe ∧ Zc cls d oe ∧ oe.data = .fields vs) := hok a _ e
  exact x.1
section
variable {X : Cx} {pins : List (Addr × Obj)} {σ : L2.St} {H : Hp} {s : Shared}
end
section
variable {X : Cx} {x n : Str} {c : Value} {i : Nat} {body suite : List Stmt} {b₀ : Stmt} {np pos pos' : Pos} {tb : WX → TS} {ts : Addr → Value → Option Addr → TS} {Wout : WX}
end
/-! ### isinstance, fields of a kept exception -/
/-- what the class of an exception says -/
structure ExcK (K : PySem.W.Frag) (D : Addr) : Prop where
  hc : (PySem.W.clsIn K D).isSome = true
  hg : PySem.W.findIn K (.ref D) "__getattribute__" = some (some (.builtin "BaseException.__getattribute__"))
  hk : PySem.W.findIn K (.ref D) "__getattr__" = some none
  hs : PySem.W.subIn K (.ref D) (.type "BaseException") = some true
  hd : PySem.W.hasDictIn K D = true
  ha : PySem.W.findIn K (.ref D) "__class__" = some (some (.builtin "object.__class__"))
  hn : PySem.W.specialIn K (.builtin "object.__class__") "__get__" = some (some (.builtin "getset_descriptor.__get__"))
  ht : PySem.W.takesIn K (.builtin "object.__class__") = some true
  hm : PySem.W.mroIn K D (.type "object") = some true
def excKB (K : PySem.W.Frag) (D : Addr) : Bool :=
  (PySem.W.clsIn K D).isSome && decide (PySem.W.findIn K (.ref D) "__getattribute__" = some (some (.builtin "BaseException.__getattribute__"))) && decide (PySem.W.findIn K (.ref D) "__getattr__" = some none) &&
    decide (PySem.W.subIn K (.ref D) (.type "BaseException") = some true) && PySem.W.hasDictIn K D && decide (PySem.W.findIn K (.ref D) "__class__" = some (some (.builtin "object.__class__"))) &&
    decide (PySem.W.specialIn K (.builtin "object.__class__") "__get__" = some (some (.builtin "getset_descriptor.__get__"))) && decide (PySem.W.takesIn K (.builtin "object.__class__") = some true) && decide (PySem.W.mroIn K D (.type "object") = some true)
theorem excKB_ok {K : PySem.W.Frag} {D : Addr} (h : excKB K D = true) : ExcK K D := by
  unfold excKB at h
  simp only [Bool.and_eq_true, decide_eq_true_eq] at h
  obtain ⟨⟨⟨⟨⟨⟨⟨⟨h1, h2⟩, h3⟩, h4⟩, h5⟩, h6⟩, h7⟩, h8⟩, h9⟩ := h
  exact ⟨h1, h2, h3, h4, h5, h6, h7, h8, h9⟩
/-- the exception at a, of the class at D, its dict (if it has one) with the fields fs -/
def Kept (H : Hp) (a D : Addr) (d : Option Addr) (fs : List (Str × V)) : Prop := H a = some (ExK a (.ref D) d) ∧ ((d = none ∧ fs = []) ∨ ∃ dd, d = some dd ∧ H dd = some (.xd fs))
theorem kept_inst {X : Cx} {pins : List (Addr × Obj)} {σ : L2.St} {H : Hp} {s : Shared} {a D : Addr} {d : Option Addr} {fs : List (Str × V)} (I : Inv X pins σ H s) (k : Kept H a D d fs) : ∃ oe od, PySem.W.InstAt s.heap a oe D od := by
  obtain ⟨oe, vs, e, z, q⟩ := exK_at I.hok k.1
  obtain ⟨oc, od0, odt, osl⟩ := oe
  obtain ⟨z1, z2⟩ := z
  dsimp only at z1 z2 q
  subst z1 z2 q
  rcases k.2 with ⟨rfl, _⟩ | ⟨dd, rfl, hd⟩
  · exact ⟨_, none, e, rfl, rfl, trivial⟩
  · have x : ObjOk X.prog X.w H s.heap dd (.xd fs) := I.hok dd _ hd
    obtain ⟨mA, hns, _⟩ := x
    obtain ⟨od, ho, _⟩ := lookIn_ns hns
    exact ⟨_, some od, e, rfl, rfl, ho⟩
section
variable {X : Cx}
theorem call_isK : CallR X (.builtin "isinstance") (fun xs H Q => ∃ (a D : Addr) (d : Option Addr) (fs : List (Str × V)) (c : V) (cv : Value) (b : Bool), xs = [.ref a, c] ∧ Kept H a D d fs ∧ ExcK X.K D ∧ ClsV c cv ∧ PySem.W.kitOne X.K (.ref D) cv = some b ∧ Q (.bl b) H) := by
  intro pins s σ H xs us Q I r h
  obtain ⟨a, D, d, fs, c, cv, b, rfl, k, C, hcv, e, q⟩ := h
  obtain ⟨u1, u2, rfl, r1, r2⟩ := vals2 r
  cases r1
  have e2 := hcv.eq r2
  subst e2
  obtain ⟨oe, od, J⟩ := kept_inst I k
  exact PySem.W.kia_one (PySem.W.kitx_exc C.hc C.hg C.hk C.hs C.ha C.hn C.ht C.hm) I.kIn J e (fun z => nomatch z) fun tk => ⟨.bl b, H, I.tok tk, rfl, q⟩
/-- e.f -/
def tKf (K : PySem.W.Frag) (f : Str) (te : TE) : TE := fun σ H Q => te σ H fun x H1 => ∃ (a D : Addr) (d : Option Addr) (fs : List (Str × V)) (v : V), x = .ref a ∧ Kept H1 a D d fs ∧ ExcK K D ∧ PySem.W.findIn K (.ref D) f = some none ∧ fs.lookup f = some v ∧ Q v H1
theorem pe_kf {e : Expr} {te : TE} {pos : Pos} {n : Str} (he : PE X e te) (hb : attributeBase e n X.env (eval e X.env) = eval e X.env := by rfl) : PE X (.Attribute e n pos) (tKf X.K n te) := by
  refine ⟨fun pins s σ H Q I h => ?_⟩
  refine attr_of hb (thn (he.run pins s σ H _ I h) fun u s1 hh => ?_)
  obtain ⟨x, H1, I1, rx, a, D, d, fs, v, rfl, k, C, hno, l, q⟩ := hh
  cases rx
  obtain ⟨oe, vs, e1, z, qd⟩ := exK_at I1.hok k.1
  rcases k.2 with ⟨rfl, rfl⟩ | ⟨dd, rfl, hd⟩
  · cases l
  · have hx : ObjOk X.prog X.w H1 s1.heap dd (.xd fs) := I1.hok dd _ hd
    obtain ⟨mA, hns, hr⟩ := hx
    obtain ⟨od, ho, hl⟩ := lookIn_ns hns
    obtain ⟨u, hu, ru⟩ := RelO.some_of (v := v) (o := mA n) (by rw [← l]; exact hr n)
    have J : PySem.W.InstAt s1.heap a oe D (some od) := ⟨e1, z.1, by unfold PySem.W.notCls; rw [qd] <;> rfl, by rw [z.2]; exact ho⟩
    exact HandSPX.exc_get I1.kIn J C.hg C.hk C.hs (PySem.W.findObj_own C.hd hno rfl (by rw [hl, hu])) (handed_of ru) ⟨v, H1, I1.tok _, ru, q⟩
end
end Fw

namespace Fw
open PySem PySem.Spec PyProof.Rows L2
open Builtin.ObjectAttr in
/-- a base class of Python's, straight over own exceptions -/
structure ExB (B newId initId : String) (bm : List Value) : Prop where
  F : ExcBaseFacts B newId initId bm
  ob : bm.contains (.type "object") = true
  pass : ∀ self : Value, refuseLoop self "__setattr__" bm = pure ()
/-- an own class straight over such a base -/
structure OexB (K : PySem.W.Frag) (C : Addr) (newId : String) (bm : List Value) : Prop where
  cls : ∃ nm q N bs sn sub ab col dd k0 k1 k2 k3 k5, K.lookup C = some (excClassObj nm q C N bs bm true sn sub ab col dd k0 k1 k2 k3 k5 newId)
  sa : PySem.W.findIn K (.ref C) "__setattr__" = some (some (.builtin "object.__setattr__"))
  exC : PySem.W.subIn K (.ref C) (.type "BaseException") = some true
  tyC : PySem.W.typeIn K (.ref C) = some (.type "type")
  kC : PySem.W.keepIn K (.ref C) = true
section
open Builtin Builtin.ObjectAttr
variable {prog : Program} {w : World} {A : Around} {R : Result → Shared → Prop} {hp : Heap} {g : Array GenState} {d : Drawn} {t : Nat} {os : OsState} {K : PySem.W.Frag} {name : Str} {tk : Tok} {v : Value} {x C : Addr} {fv : Array Value} {cd : ClassData}
/-- how a store to an exception of an own class goes, up to its own dict -/
theorem osa_any {od : Option Obj} {dx : Option Addr} (X : K.In hp) (I : PySem.W.InstAt hp x { cls := .ref C, dict := dx, data := .fields fv } C od) (hcd : PySem.W.clsIn K C = some cd)
    (m1 : ∀ self : Value, refuseLoop self "__setattr__" cd.mro = pure ()) (m2 : cd.mro.isEmpty = false) (m3 : cd.mro.contains (.type "object") = true) (ha : PySem.W.findIn K (.ref C) name = some none)
    (hq : wpAny (model prog w) A.in1 (storeInOwnDict (.ref x) (.ref C) (.str name tk) name v false) (fun fin s' => match fin with | .done f => R (.ok f) s' | .again c' => c'.quiet = true ∧ codeAny (model prog w) A c' R s') (fun e s' => R (.error e) s') ⟨hp, g, d, t, os⟩) :
    codeAny (model prog w) A (.call (.builtin "object.__setattr__") ⟨[.ref x, .str name tk, v], []⟩) R ⟨hp, g, d, t, os⟩ := by
  have SF := F.store_object
  have sub : PySem.W.Looks (model prog w) hp (isInstance (.ref x) (.type "object")) true := by
    refine I.type.andThen (PySem.W.looks_mroIn X ?_)
    unfold PySem.W.mroIn
    rw [hcd, Option.bind_some, if_neg (by rw [m2]; decide), m3]
  refine codeAny_call_builtin SF.slot.plain SF.entry ?_
  refine @PySem.W.check_slot (model prog w) _ _ ⟨hp, g, d, t, os⟩ "object.__setattr__" "object" "__setattr__" (.ref x) [.str name tk, v] [] _ SF.kind SF.split sub (SF.args (.ref x) (.str name tk) v) ?_
  have hmr : PySem.W.Looks (model prog w) hp (mroOf (.ref C)) cd.mro := (PySem.W.looks_clsIn X hcd).andThen .now
  have none_ : PySem.W.Looks (model prog w) hp (storeTaker? none) none := .now
  rw [PySem.W.osa_eq, refuse_eq]
  refine wpAny_bind (wpAny_bind (I.type.at (wpAny_bind (hmr.at ?_))))
  rw [m1]
  exact wpAny_pure (wpAny_bind (I.type.at (wpAny_bind ((PySem.W.looks_findIn X ha).at (wpAny_bind (none_.at hq))))))
theorem osa_first (X : K.In hp) (hx : hp.get? x = some { cls := .ref C, data := .fields fv }) (hcd : PySem.W.clsIn K C = some cd)
    (m1 : ∀ self : Value, refuseLoop self "__setattr__" cd.mro = pure ()) (m2 : cd.mro.isEmpty = false) (m3 : cd.mro.contains (.type "object") = true) (hh : cd.hasDict = true) (ha : PySem.W.findIn K (.ref C) name = some none)
    (hq : ∀ h' tk' dx, (∀ b o, b ≠ x → hp.get? b = some o → h'.get? b = some o) → hp.objs.size ≤ dx → dx ≠ x → h'.get? x = some { cls := .ref C, dict := some dx, data := .fields fv } →
      h'.Ns1 dx (fun y => if y = name then some v else none) → R (.ok (.ret .none)) ⟨h', g, d, tk', os⟩) :
    codeAny (model prog w) A (.call (.builtin "object.__setattr__") ⟨[.ref x, .str name tk, v], []⟩) R ⟨hp, g, d, t, os⟩ := by
  have I : PySem.W.InstAt hp x { cls := .ref C, data := .fields fv } C none := ⟨hx, rfl, rfl, trivial⟩
  have hxs : x ≠ hp.objs.size := Nat.ne_of_lt (Heap.lt_size hx)
  refine osa_any X I hcd m1 m2 m3 ha ?_
  have hcls : PySem.W.Looks (model prog w) hp (classData C) cd := PySem.W.looks_clsIn X hcd
  obtain ⟨nm, bs, mro, ns, qn, hd, sn, sb, ab, col, del⟩ := cd
  dsimp only at hh
  subst hh
  unfold storeInOwnDict ownDictForStores
  repeat (first | with_reducible refine HandSPX.store_in_new ?_ ?_ | with_reducible refine wpAny_loadPart_at hx ?_ | with_reducible refine hcls.at ?_ | wp_step)
  · exact ⟨_, #[], _, (Heap.get?_update_ne _ _ _ _ hxs.symm).trans (Heap.get?_push_at rfl rfl), rfl, fun e he => absurd he (by simp), fun _ => rfl⟩
  · intro h' tk' hn' hs
    have hx1 : (hp.push { cls := .type "dict", data := .dict #[] }).get? x = some { cls := .ref C, data := .fields fv } := Heap.get?_push_of_some _ hx
    refine hq h' tk' hp.objs.size (fun b o hb ho => ?_) (Nat.le_refl _) hxs.symm ?_ hn'
    · exact (hs.2 b (Nat.ne_of_lt (Heap.lt_size ho))).trans ((Heap.get?_update_ne _ _ _ _ hb).trans (Heap.get?_push_of_some _ ho))
    · exact (hs.2 x hxs).trans (Heap.get?_update_self _ hx1 rfl)
theorem osa_next {dx : Addr} {m0 : Str → Option Value} {nl : List Str} (X : K.In hp) (hx : hp.get? x = some { cls := .ref C, dict := some dx, data := .fields fv }) (hns : hp.Ns1 dx m0) (hw : Within m0 nl) (hz : nl.length ≤ 1000) (hcd : PySem.W.clsIn K C = some cd)
    (m1 : ∀ self : Value, refuseLoop self "__setattr__" cd.mro = pure ()) (m2 : cd.mro.isEmpty = false) (m3 : cd.mro.contains (.type "object") = true) (hh : cd.hasDict = true) (ha : PySem.W.findIn K (.ref C) name = some none)
    (hq : ∀ h' tk', (∀ b o, b ≠ dx → hp.get? b = some o → h'.get? b = some o) → h'.Ns1 dx (fun y => if y = name then some v else m0 y) → R (.ok (.ret .none)) ⟨h', g, d, tk', os⟩) :
    codeAny (model prog w) A (.call (.builtin "object.__setattr__") ⟨[.ref x, .str name tk, v], []⟩) R ⟨hp, g, d, t, os⟩ := by
  obtain ⟨oD, esD, epD, hoD, hdD, _⟩ := hns.count hw
  have I : PySem.W.InstAt hp x { cls := .ref C, dict := some dx, data := .fields fv } C (some oD) := ⟨hx, rfl, rfl, hoD⟩
  refine osa_any X I hcd m1 m2 m3 ha ?_
  have hcls : PySem.W.Looks (model prog w) hp (classData C) cd := PySem.W.looks_clsIn X hcd
  obtain ⟨nm, bs, mro, ns, qn, hd, sn, sb, ab, col, del⟩ := cd
  dsimp only at hh
  subst hh
  unfold storeInOwnDict ownDictForStores
  repeat (first | with_reducible refine PySem.OEX.store_in_old hns hw hz ?_ | with_reducible refine wpAny_loadPart_at hx ?_ | with_reducible refine hcls.at ?_ | wp_step)
  intro h' tk' hn' hs
  exact hq h' tk' (fun b o hb ho => (hs.2 b hb).trans ho) hn'
end
section
variable {X : Cx} {pins : List (Addr × Obj)} {σ : L2.St} {H : Hp} {s : Shared} {a C dx : Addr} {f : Str} {y : V} {u : Value} {fs : List (Str × V)} {E : Value → Shared → Prop} {A : Around} {B newId initId : String} {bm : List Value}
theorem mro_pass (T : ExB B newId initId bm) (C : Addr) (self : Value) : refuseLoop self "__setattr__" (.ref C :: bm) = pure () := by
  rw [refuseLoop_ref]; exact T.pass self
theorem mro_ob (T : ExB B newId initId bm) (C : Addr) : (Value.ref C :: bm).contains (.type "object") = true := by
  rw [List.contains_cons, T.ob, Bool.or_true]
/-- self.f = y, the first store -/
theorem put_first {Q : Unit → Shared → Prop} (T : ExB B newId initId bm) (O : OexB X.K C newId bm) (I : Inv X pins σ H s) (e : H a = some (exo a C none)) (hno : PySem.W.findIn X.K (.ref C) f = some none) (ry : RelV y u)
    (h : ∀ dx s', H dx = none → dx ≠ a → Inv X pins σ (upd (upd H dx (exd dx [(f, y)])) a (exo a C (some dx))) s' → Q () s') : wpAny (model X.prog X.w) A (setAttr (.ref a) f u) Q E s := by
  obtain ⟨nm, q, N, bs, sn, sub, ab, col, dd, k0, k1, k2, k3, k5, hC⟩ := O.cls
  have hcl : PySem.W.clsIn X.K C = some { name := nm, bases := bs, mro := .ref C :: bm, ns := N, qualname := q, hasDict := true, slotNames := sn, subclasses := sub, abstract := ab, collection := col, hasDel := false } := by
    unfold PySem.W.clsIn; rw [hC] <;> rfl
  obtain ⟨t1, ho⟩ := exo_at I.hok e
  obtain ⟨hp, g, dr, tk, os⟩ := s
  refine PySem.W.set_plain I.kIn (ox := { cls := .ref C, dict := none, data := .fields #[.ref t1, .none, .none, .none, .bool false, .none] }) (od := none) ⟨ho, rfl, rfl, trivial⟩ O.sa ?_
  refine osa_first I.kIn ho hcl (mro_pass T C) rfl (mro_ob T C) rfl hno ?_
  intro h' tk' dx k dn dne hx hn
  have hnd : H dx = none := I.hok.fresh dn
  have ndx : ∀ {b : Addr} {o : Obj}, hp.get? b = some o → b ≠ dx := fun {b o} q => Nat.ne_of_lt (Nat.lt_of_lt_of_le (Heap.lt_size q) dn)
  have na : ∀ {b : Addr}, H b = none → b ≠ a := fun {b} n z => by
    rw [z, e] at n; cases n
  have two : ∀ {b : Addr} {o : HO}, H b = some o → o ≠ exo a C none → upd (upd H dx (exd dx [(f, y)])) a (exo a C (some dx)) b = some o := fun {b o} q n => by
    have hb : b ≠ a := fun z => by
      rw [z, e] at q
      exact n (Option.some.inj q).symm
    rw [upd_ne hb, upd_ne (ne_of_none q hnd)]; exact q
  have U : Un X.fs [] H (upd (upd H dx (exd dx [(f, y)])) a (exo a C (some dx))) hp h' := by
    refine ⟨fun b o q n _ _ => k b o (na n) q, fun b o q n _ _ => ⟨o.slots, k b o (na n) q⟩, fun b o q n _ => ?_, fun b o q _ => ?_, fun b xs q => two q (Ne.symm exo_tup), fun b o v q => two q (Ne.symm exo_frz), fun b ps q => ⟨#[], ?_⟩⟩
    · rw [upd_ne (na n), upd_ne (ndx q)]; exact n
    · by_cases hb : b = a
      · exact ⟨_, by rw [hb]; exact hx⟩
      · exact ⟨o, k b o hb q⟩
    · have z := two q (Ne.symm exo_tbl)
      rw [z]; simp
  refine h dx _ hnd dne (I.un (t' := tk') U fun b o q => ?_)
  by_cases hb : b = a
  · subst hb
    rw [upd_same] at q; cases q
    exact exo_ok hx
  · rw [upd_ne hb] at q
    by_cases hd : b = dx
    · subst hd
      rw [upd_same] at q; cases q
      exact exd_ok hn (relO_put (fs := []) ry fun g => True.intro)
    · rw [upd_ne hd] at q
      refine (I.hok b o q).stay (fun c v hc z => k c v ?_ z) (fun c hc => two hc (Ne.symm exo_own)) fun c xs hc => two hc (Ne.symm exo_tup)
      rcases hc with hc | hc
      · rw [hc]; exact hb
      · exact at_ne e hc exo_own
/-- self.f = y, a further store -/
theorem put_next {Q : Unit → Shared → Prop} (T : ExB B newId initId bm) (O : OexB X.K C newId bm) (I : Inv X pins σ H s) (e : H a = some (exo a C (some dx))) (ed : H dx = some (exd dx fs)) (hl : fs.length ≤ 900) (hno : PySem.W.findIn X.K (.ref C) f = some none) (ry : RelV y u)
    (h : ∀ s', Inv X pins σ (upd H dx (exd dx ((f, y) :: fs))) s' → Q () s') : wpAny (model X.prog X.w) A (setAttr (.ref a) f u) Q E s := by
  obtain ⟨nm, q, N, bs, sn, sub, ab, col, dd, k0, k1, k2, k3, k5, hC⟩ := O.cls
  have hcl : PySem.W.clsIn X.K C = some { name := nm, bases := bs, mro := .ref C :: bm, ns := N, qualname := q, hasDict := true, slotNames := sn, subclasses := sub, abstract := ab, collection := col, hasDel := false } := by
    unfold PySem.W.clsIn; rw [hC] <;> rfl
  obtain ⟨t1, ho⟩ := exo_at I.hok e
  obtain ⟨mA, hns, rel⟩ := exd_at I.hok ed
  have hw := within_of rel
  obtain ⟨hp, g, dr, tk, os⟩ := s
  obtain ⟨oD, _, _, hoD, _, _⟩ := hns.count hw
  refine PySem.W.set_plain I.kIn (ox := { cls := .ref C, dict := some dx, data := .fields #[.ref t1, .none, .none, .none, .bool false, .none] }) (od := some oD) ⟨ho, rfl, rfl, hoD⟩ O.sa ?_
  refine osa_next I.kIn ho hns hw (by rw [List.length_map]; omega) hcl (mro_pass T C) rfl (mro_ob T C) rfl hno ?_
  intro h' tk' k hn
  have hd : ∃ o, h'.get? dx = some o := by
    obtain ⟨o, _, _, e', _⟩ := hn
    exact ⟨o, e'⟩
  exact h _ (I.write (t' := tk') (x := dx) (e := dx) (o := exd dx ((f, y) :: fs)) (by rw [ed]; exact True.intro) (.inl rfl) k hd (exd_ok hn (relO_put ry rel)))
/-- B.__init__(self, ..) -/
theorem init_up {us : List Value} {Q : Value → Shared → Prop} (T : ExB B newId initId bm) (O : OexB X.K C newId bm) (I : Inv X pins σ H s) (e : H a = some (exo a C none)) (hl : us.length ≤ sizeLine) (h : ∀ s', Inv X pins σ H s' → Q .none s') :
    wpAny (model X.prog X.w) A (call (.builtin initId) (.ref a :: us)) Q E s := by
  obtain ⟨nm, q, N, bs, sn, sub, ab, col, dd, k0, k1, k2, k3, k5, hC⟩ := O.cls
  obtain ⟨t1, ho⟩ := exo_at I.hok e
  obtain ⟨hp, g, dr, tk, os⟩ := s
  refine wpAny_call (HandSPX.init_base T.F (fun Y => rfl) (I.kIn _ _ hC) ho hl fun h' t2 k hx => ?_)
  have J := I.write (t' := tk) (x := a) (e := a) (o := exo a C none) (by rw [e]; exact True.intro) (.inl rfl) k ⟨_, hx⟩ (exo_ok hx)
  have eu : upd H a (exo a C none) = H := by
    funext b
    by_cases hb : b = a
    · rw [hb, upd_same, e]
    · rw [upd_ne hb]
  rw [eu] at J
  exact h _ J
end
/-- B.__init__(self, ..) -/
def tUp (K : PySem.W.Frag) (newId : String) (bm : List Value) (ta : TA) : TE := fun σ H Q => ta σ H fun vs H1 => ∃ (a C : Addr) (ws : List V), vs = .ref a :: ws ∧ ws.length ≤ 1000 ∧ OexB K C newId bm ∧ H1 a = some (exo a C none) ∧ Q .non H1
/-- self.f = e -/
def tPut (K : PySem.W.Frag) (newId : String) (bm : List Value) (f : Str) (to te : TE) : TS := fun D σ H => te σ H fun y H1 => to σ H1 fun x H2 => ∃ a C : Addr, x = .ref a ∧ OexB K C newId bm ∧ PySem.W.findIn K (.ref C) f = some none ∧
  ((H2 a = some (exo a C none) ∧ ∀ dx, H2 dx = none → dx ≠ a → D.nx σ (upd (upd H2 dx (exd dx [(f, y)])) a (exo a C (some dx)))) ∨
    ∃ (dx : Addr) (fs : List (Str × V)), H2 a = some (exo a C (some dx)) ∧ H2 dx = some (exd dx fs) ∧ fs.length ≤ 900 ∧ D.nx σ (upd H2 dx (exd dx ((f, y) :: fs))))
section
variable {X : Cx} {o e : Expr} {es : List Expr} {to te : TE} {ta : TA} {f : Str} {p p' p1 p2 pos : Pos} {B newId initId : String} {bm : List Value} {bs : Str}
theorem pe_up {pl : Sem Bool} (T : ExB B newId initId bm) (hg : Gl X bs) (hm : X.mg bs = none) (hv : bootBuiltins bs = some (.type B)) (ty : typeOf (.type B) = pure (.type "type"))
    (vV : PySem.W.findCls X.K (.type B) (.type "type") "__init__" = some (.val (.builtin initId))) (ha : PA X (e :: es) ta) (h1 : (bs == ("__debug__" : Str)) = false := by decide) (h2 : bs ≠ "__name__" := by decide)
    (ga : Manifest.isStub B = false := by decide +kernel) (hh : PySem.W.handedIn (.builtin initId) = true := by decide +kernel)
    (hc : eval (.Call (.Attribute (.Name bs p1) "__init__" p2) (e :: es) [] pos) X.env = (do
      let ov ← eval (.Name bs p1) X.env
      standAt p2.atName
      let (f, first) ← holding [ov] (getMethod ov "__init__" pl)
      callWith pos f first (backTo pos (starEach (e :: es) X.env)) (backToKw pos (keywordEach [] X.env))) := by rfl)
    (he : starEach (e :: es) X.env = (false, eval e X.env) :: starEach es X.env := by rfl) (hpl : (backTo pos (starEach es X.env)).any (·.1) = false := by rfl) :
    PE X (.Call (.Attribute (.Name bs p1) "__init__" p2) (e :: es) [] pos) (tUp X.K newId bm ta) := by
  refine ⟨fun pins s σ H Q I h => ?_⟩
  refine PySem.W.methodCall_KW (ld_blt I hg hm hv ?_ h2 h1) hc
  obtain ⟨m, fr⟩ := I.fr
  refine PySem.W.method_type fr I.ok.mod.kin ty ga vV hh ?_
  show wpAny _ _ (callWith pos (Value.builtin initId) [] (backTo pos (starEach (e :: es) X.env)) []) _ _ _
  refine PyProof.Rows.callWith_method1 (thn (ha.run pos pins _ σ H _ (I.tok _) h) fun us s1 z => ?_) he hpl
  obtain ⟨vs, H1, I1, r1, a, C, ws, ev, hl, O, ea, q⟩ := z
  subst ev
  cases r1 with
  | @cons _ u0 _ ur ra rw' =>
    obtain rfl : u0 = Value.ref a := ra
    have hlen : ur.length ≤ sizeLine := by
      rw [← Paired.length rw', sizeLine_eq]
      omega
    exact init_up T O I1 ea hlen fun s' J => ⟨.non, H1, J, rfl, q⟩
theorem ps_put (T : ExB B newId initId bm) (ho : PE X o to) (he : PE X e te) (hs : swapsWith e (some (.Attribute o f p')) pos.line X.env = pure false := by rfl) : PS X (.Assign [.Attribute o f p'] e pos) (tPut X.K newId bm f to te) := by
  refine ⟨fun pins s σ H D I h => ?_⟩
  refine plainObj_wpAny_Assign_Attribute (thn (he.run pins s σ H _ I h) fun v s1 z1 => ?_) hs
  obtain ⟨y, H1, I1, r1, q1⟩ := z1
  refine thn (ho.run pins s1 σ H1 _ I1 q1) fun u s2 z2 => ?_
  obtain ⟨x, H2, I2, r2, a, C, rfl, O, hno, q⟩ := z2
  cases r2
  rcases q with ⟨ea, q⟩ | ⟨dx, fs, ea, ed, hl, q⟩
  · exact put_first T O I2 ea hno r1 fun dx s' n ne J => ⟨σ, _, J, q dx n ne⟩
  · exact put_next T O I2 ea ed hl hno r1 fun s' J => ⟨σ, _, J, q⟩
end
end Fw

namespace Fw
open PySem PySem.Spec PyProof.Rows L2
/-! ### calls of defs that may let an exception out -/
section
variable {X : Cx} {W : WX} {k n : Nat} {x : Str} {ps : List Str} {dvs : List V} {sp : Sp} {p pos : Pos} {e : Expr} {es : List Expr} {t tk : TA} {ks : List Str} {gV : List V → List V → List V} {kws : List Keyword}
end
/-! ### own exception classes, raised -/
/-- the class that the module's name x holds is raised by x(e, ..): its __init__ keeps sp -/
structure Rz (P : Program) (w : World) (K : PySem.W.Frag) (mg : Str → Option Value) (base : Heap) (k : Nat) (x : Str) (C : Addr) (sp : Sp) : Prop where
  ex : ∃ (B newId initId : String) (bm : List Value) (fI : Addr) (fd : FuncData) (ps : List Str), ExB B newId initId bm ∧ OexB K C newId bm ∧ PySem.W.findIn K (.ref C) "__init__" = some (some (.ref fI)) ∧ PySem.W.typeIn K (.ref fI) = some (.type "function") ∧
    FnOk P w K mg base CX0 k fI fd ps sp ∧ Binds K fd ps [] ∧ mg x = some (.ref C)
/-- what the class says, as a Bool -/
def oexIn (K : PySem.W.Frag) (C : Addr) (newId : String) (bm : List Value) : Bool := match K.lookup C with
  | some ⟨.type "type", _, .cls cd, sl⟩ => (match cd.mro, sl.toList with
    | .ref C' :: bm', [_, _, _, _, some (.builtin n), _] => C' == C && n == newId && !cd.hasDel && cd.hasDict && decide (bm' = bm)
    | _, _ => false)
  | _ => false
theorem oexIn_ok {K : PySem.W.Frag} {C : Addr} {newId : String} {bm : List Value} (q : oexIn K C newId bm = true) : ∃ nm q N bs sn sub ab col dd k0 k1 k2 k3 k5, K.lookup C = some (excClassObj nm q C N bs bm true sn sub ab col dd k0 k1 k2 k3 k5 newId) := by
  unfold oexIn at q
  split at q
  · rename_i dd cd sl ho
    split at q
    · rename_i C' bm' k0 k1 k2 k3 n k5 hm hs
      simp only [Bool.and_eq_true, beq_iff_eq, Bool.not_eq_true', decide_eq_true_eq] at q
      obtain ⟨⟨⟨⟨rfl, rfl⟩, hdel⟩, hdi⟩, rfl⟩ := q
      obtain ⟨nm, bs, mro, ns, qn, hd, sn, sub, ab, col, del⟩ := cd
      dsimp only at hm hdel hdi
      subst hm hdel hdi
      have hsl : sl = #[k0, k1, k2, k3, some (.builtin n), k5] := by
        obtain ⟨l⟩ := sl
        simp only at hs
        rw [hs]
      subst hsl
      exact ⟨nm, qn, ns, bs, sn, sub, ab, col, dd, k0, k1, k2, k3, k5, ho⟩
    · cases q
  · cases q
def oexB (K : PySem.W.Frag) (C : Addr) (newId : String) (bm : List Value) : Bool :=
  oexIn K C newId bm && decide (PySem.W.findIn K (.ref C) "__setattr__" = some (some (.builtin "object.__setattr__"))) && decide (PySem.W.subIn K (.ref C) (.type "BaseException") = some true) && decide (PySem.W.typeIn K (.ref C) = some (.type "type")) && PySem.W.keepIn K (.ref C)
theorem oexB_ok {K : PySem.W.Frag} {C : Addr} {newId : String} {bm : List Value} (h : oexB K C newId bm = true) : OexB K C newId bm := by
  unfold oexB at h
  simp only [Bool.and_eq_true, decide_eq_true_eq] at h
  obtain ⟨⟨⟨⟨h1, h2⟩, h3⟩, h4⟩, h5⟩ := h
  exact ⟨oexIn_ok h1, h2, h3, h4, h5⟩
structure Own (K : PySem.W.Frag) (C fI : Addr) (B newId initId : String) (bm : List Value) (f : Str) : Prop where
  O : OexB K C newId bm
  k : ExcK K C
  iC : PySem.W.findIn K (.ref C) "__init__" = some (some (.ref fI))
  tI : PySem.W.typeIn K (.ref fI) = some (.type "function")
  no : PySem.W.findIn K (.ref C) f = some none
  up : PySem.W.findCls K (.type B) (.type "type") "__init__" = some (.val (.builtin initId))
/-! ### text[::-1] -/
end Fw
namespace Fw
open PySem PySem.Spec PyProof.Rows L2
/-! ### // of any ints; a def in a slot -/
end Fw
namespace Fw
open PySem PySem.Spec PyProof.Rows L2
/-! ### range(i, j), 0 ≤ i, j to nearly 2 ** 63 -/
end Fw

namespace Fw
open PySem PySem.Spec PyProof.Rows L2
section
variable {X : Cx} {C : Addr} {bmB : List Value} {B newId initId : String}
end
/-- the class without __init__ that the module's name x holds, raised by x() -/
structure Rz0 (K : PySem.W.Frag) (mg : Str → Option Value) (x : Str) (C : Addr) : Prop where
  ex : ∃ (B newId initId : String) (bm : List Value), ExcBaseFacts B newId initId bm ∧ PySem.W.excIn K C bm newId = true
  gC : mg x = some (.ref C)
  kC : PySem.W.keepIn K (.ref C) = true
  exC : PySem.W.subIn K (.ref C) (.type "BaseException") = some true
  tyC : PySem.W.typeIn K (.ref C) = some (.type "type")
section
variable {X : Cx} {CX : CXT} {C g : Addr} {n : Nat} {fd : FuncData} {ps : List Str} {sp : Sp} {E : XK}
theorem ty_looks {pins : List (Addr × Obj)} {σ : L2.St} {H : Hp} {s : Shared} {y : V} {u t : Value} (I : Inv X pins σ H s) (ry : RelV y u) (ty : TyX X.K H y t) : PySem.W.Looks (model X.prog X.w) s.heap (typeOf u) t := by
  obtain ⟨P, Z, p, _⟩ := kit_of I ry ty
  exact Z.ty _ _ I.kIn p
/-- x == y, x an instance of the class at C whose own __eq__ is at g -/
def rOwnD (K : PySem.W.Frag) (C : Addr) (sp : Sp) (E : XK) : R2 := fun x y H Q => ∃ (a dx : Addr) (fs : List (Str × V)) (t : Value), x = .ref a ∧ H a = some (.ins C dx fs) ∧ TyX K H y t ∧ PySem.W.notFirst K C t = true ∧ sp [x, y] H Q E
theorem op_eqOwn (hs : PySem.W.findIn X.K (.ref C) "__eq__" = some (some (.ref g))) (hf : PySem.W.isFn X.K (.ref g) = true) (F : FnOk X.prog X.w X.K X.mg X.base CX n g fd ps sp) (hb : Binds X.K fd ps []) (hr : Room n X.A) (hx : Passes CX X E) : OpR X (compareOp .Eq) (rOwnD X.K C sp E) := by
  intro pins s σ H x y v u Q I rx ry h
  obtain ⟨a, dx, fs, t, rfl, ha, ty, hn, q⟩ := h
  cases (show v = Value.ref a from rx)
  have tl := ty_looks I ry ty
  obtain ⟨m, hF⟩ := I.fr
  obtain ⟨mA, O, _⟩ := ins_get I.hok ha
  obtain ⟨od, J, _⟩ := O.look
  show wpAny _ _ (richCompare .Eq (.ref a) u) _ _ _
  refine PySem.W.cmp_K (op := .Eq) (tb := t) hr.units0 hF I.ok.mod.kin J tl hn hs hf ?_
  refine wpAny_mono (run_fn (ds := []) (dvs := []) (us := [.ref a, u]) (vs := [.ref a, y]) F hr hb .nil hx I (.cons rfl (.cons ry .nil)) (by rw [List.append_nil]; exact q)) (fun w s' z => ?_) fun _ _ x => x
  obtain ⟨z', H', I', rz, qz⟩ := z
  exact SlX.cmpback rz ⟨z', H', I', rz, qz⟩
/-- x != y where the class has no own __ne__: by its own __eq__ -/
def rOwnN (K : PySem.W.Frag) (C : Addr) (sp : Sp) (E : XK) : R2 := fun x y H Q => ∃ (a dx : Addr) (fs : List (Str × V)) (t : Value), x = .ref a ∧ H a = some (.ins C dx fs) ∧ TyX K H y t ∧ PySem.W.notFirst K C t = true ∧ sp [x, y] H (fun z H' => ∃ b, z = .bl b ∧ Q (.bl (!b)) H') E
theorem op_neOwn (hs : PySem.W.findIn X.K (.ref C) "__eq__" = some (some (.ref g))) (hne : PySem.W.findIn X.K (.ref C) "__ne__" = some (some (.builtin "object.__ne__"))) (hm : PySem.W.mroIn X.K C (.type "object") = some true)
    (hf : PySem.W.isFn X.K (.ref g) = true) (F : FnOk X.prog X.w X.K X.mg X.base CX n g fd ps sp) (hb : Binds X.K fd ps []) (hr : Room (n + 1) X.A) (hx : Passes CX X E) : OpR X (compareOp .NotEq) (rOwnN X.K C sp E) := by
  intro pins s σ H x y v u Q I rx ry h
  obtain ⟨a, dx, fs, t, rfl, ha, ty, hn, q⟩ := h
  cases (show v = Value.ref a from rx)
  have tl := ty_looks I ry ty
  obtain ⟨mA, O, _⟩ := ins_get I.hok ha
  obtain ⟨od, J, _⟩ := O.look
  have hr1 : Room n X.A.in1 := Room.in1 hr
  -- the def's answer
  have ans : wpAny (model X.prog X.w) X.A.in1 (call (.ref g) [.ref a, u]) (fun w s' => ∃ b, w = .bool b ∧ EP X pins σ Q (.bool (!b)) s') X.xe s := by
    have r2 : Vals [V.ref a, y] [Value.ref a, u] := .cons rfl (.cons ry .nil)
    have hl : [Value.ref a, u].length = ps.length := r2.length.symm.trans (F.len _ _ _ _ q)
    refine wpAny_call (codeAny_mono (F.run X.A.in1 X.stack s H ⟨[.ref a, u], []⟩ [.ref a, u] [.ref a, y] _ E hr1 I.env0.in1 (hb s [.ref a, u] I.kIn (by rw [List.append_nil]; exact hl)) r2 q) fun r s' hq => ?_)
    rcases r with er | (_ | _ | _ | w)
    · exact hx pins σ H s er s' I hq
    all_goals first | exact False.elim hq | skip
    obtain ⟨z', H', I', rz, b, rfl, qz⟩ := I.after hq
    cases (show w = Value.bool b from rz)
    exact ⟨b, rfl, .bl (!b), H', I', rfl, qz⟩
  have ne1 : wpAny (model X.prog X.w) X.A.in1 (Builtin.«object.__ne__» ⟨[.ref a, u], []⟩) (fun fi s' => ∃ b : Bool, fi = .done (.ret (.bool b)) ∧ EP X pins σ Q (.bool b) s') X.xe s := by
    have hu : X.A.in1.units < cLine := hr1.units0
    unfold Builtin.«object.__ne__»
    repeat (first
      | with_reducible refine wpAny_cRoomFor hu ?_
      | (refine wpAny_bind (m := callSpecialIfBound? (.ref a) (Str.ofString "__eq__") [u]) (PySem.W.ifBound_K I.kIn J hs hf (wpAny_mono ans (fun r s' hr => by
          obtain ⟨b, rfl, hq⟩ := hr
          repeat (first | exact ⟨!b, rfl, hq⟩ | exact wpAny_pure ⟨!b, rfl, hq⟩ | exact wpAny_truthy_bool (wpAny_pure ⟨!b, rfl, hq⟩) | (refine wpAny_bind (m := truthy (.bool _)) (wpAny_truthy_bool ?_)) | wp_step)) fun _ _ e => e)))
      | wp_step)
  have one : wpAny (model X.prog X.w) X.A (tryCompare (.ref a) "__ne__" u) (fun r s' => ∃ b : Bool, r = some (.bool b) ∧ EP X pins σ Q (.bool b) s') X.xe s := by
    have cl : wpAny (model X.prog X.w) X.A (call (.builtin "object.__ne__") [.ref a, u]) (fun w s' => ∃ b : Bool, w = .bool b ∧ EP X pins σ Q (.bool b) s') X.xe s := by
      refine wpAny_call (codeAny_call_builtin PySem.F.cmp_object.ne.plain PySem.F.cmpEntry_ne (PySem.W.check_slot PySem.F.cmpKind_ne PySem.F.cmpSplit_ne (J.type.andThen (PySem.W.looks_mroIn I.kIn hm)) (PySem.F.cmpArgs_ne _ _) ?_))
      refine wpAny_mono ne1 (fun fi s' z => ?_) fun _ _ e => e
      obtain ⟨b, rfl, hq⟩ := z
      exact ⟨b, rfl, hq⟩
    have tail : ∀ {Q' : Option Value → Shared → Prop}, (∀ w s', (∃ b : Bool, w = Value.bool b ∧ EP X pins σ Q (.bool b) s') → Q' (some w) s') → wpAny (model X.prog X.w) X.A (callSpecialIfBound? (.ref a) "__ne__" [u]) Q' X.xe s := by
      intro Q' hQ
      have fin : wpAny (model X.prog X.w) X.A (call (.builtin "object.__ne__") ([.ref a] ++ [u]) >>= fun v => pure (some v)) Q' X.xe s :=
        wpAny_bind (wpAny_mono cl (fun w s' z => wpAny_pure (hQ w s' z)) fun _ _ e => e)
      simp only [callSpecialIfBound?, bindSpecialIfBound?]
      refine wpAny_holding (wpAny_bind (wpAny_bind (wpAny_bind (J.type.here ((PySem.W.looks_findIn I.kIn hne).here ?_)))))
      refine wpAny_bind (wpAny_askSetting (wpAny_ite ?_))
      split
      · exact wpAny_bind (wpAny_of_eq (PySem.F.cmp_object.ne.bind _) (wpAny_pure (by exact fin)))
      · exact wpAny_tryCatch (wpAny_bind (wpAny_of_eq (PySem.F.cmp_object.ne.bind _) (wpAny_pure (by exact fin))))
    unfold tryCompare
    refine wpAny_bind (tail fun w s' z => ?_)
    obtain ⟨b, rfl, hq⟩ := z
    exact wpAny_pure ⟨b, rfl, hq⟩
  show wpAny _ _ (richCompare .NotEq (.ref a) u) _ _ _
  have hsub : (t == .ref C) = true ∨ PySem.W.subIn X.K t (.ref C) = some false := by
    rcases Bool.or_eq_true_iff.mp hn with e | e
    · exact .inl e
    · exact .inr (beq_iff_eq.mp e)
  have last : wpAny (model X.prog X.w) X.A (tryCompare (.ref a) "__ne__" u) (fun r s' => ∃ b : Bool, r = some (.bool b) ∧ EP X pins σ Q (.bool b) s') X.xe s := one
  unfold richCompare
  simp only [oneThing_ref, cmpInfo_NotEq]
  refine wpAny_holding (wpAny_bind (wpAny_cRoomFor hr.units0 (wpAny_bind (J.type.here (wpAny_bind (tl.here ?_))))))
  split
  · rename_i c
    have e : PySem.W.subIn X.K t (.ref C) = some false := by
      rcases hsub with z | z
      · rw [beq_iff_eq.mp z] at c; simp at c
      · exact z
    refine wpAny_bind ((PySem.W.looks_subIn I.kIn e).here ?_)
    simp only [Bool.false_eq_true, if_false]
    refine wpAny_bind (wpAny_mono last (fun r s' z => ?_) fun _ _ e => e)
    obtain ⟨b, rfl, hq⟩ := z
    exact wpAny_pure hq
  · refine wpAny_bind (wpAny_pure ?_)
    simp only [Bool.false_eq_true, if_false]
    refine wpAny_bind (wpAny_mono last (fun r s' z => ?_) fun _ _ e => e)
    obtain ⟨b, rfl, hq⟩ := z
    exact wpAny_pure hq
/-- str(x) by an own __str__ -/
def rStrOwn (C : Addr) (sp : Sp) (E : XK) : List V → Hp → VK → Prop := fun xs H Q => ∃ (a dx : Addr) (fs : List (Str × V)), xs = [.ref a] ∧ H a = some (.ins C dx fs) ∧ sp [.ref a] H (fun z H' => ∃ x, z = .str x ∧ Q z H') E
theorem call_strOwn (hs : PySem.W.findIn X.K (.ref C) "__str__" = some (some (.ref g))) (hf : PySem.W.isFn X.K (.ref g) = true) (F : FnOk X.prog X.w X.K X.mg X.base CX n g fd ps sp) (hb : Binds X.K fd ps []) (hr : Room (n + 2) X.A) (hx : Passes CX X E) : CallR X (.type "str") (rStrOwn C sp E) := by
  intro pins s σ H xs us Q I r h
  obtain ⟨a, dx, fs, rfl, ha, q⟩ := h
  obtain ⟨u, rfl, ru⟩ := vals1 r
  cases (show u = Value.ref a from ru)
  obtain ⟨mA, O, _⟩ := ins_get I.hok ha
  obtain ⟨od, J, _⟩ := O.look
  have hr2 : Room n X.A.in1.in1 := (show Room (n + 1) X.A.in1 from Room.in1 hr).in1
  refine PySem.W.kso_call hr2.units0 I.kIn J hs hf ?_
  have r2 : Vals [V.ref a] [Value.ref a] := .cons rfl .nil
  have hl : [Value.ref a].length = ps.length := r2.length.symm.trans (F.len _ _ _ _ q)
  refine wpAny_call (codeAny_mono (F.run X.A.in1.in1 X.stack s H ⟨[.ref a], []⟩ [.ref a] [.ref a] _ E hr2 I.env0.in1.in1 (hb s [.ref a] I.kIn (by rw [List.append_nil]; exact hl)) r2 q) fun r s' hq => ?_)
  rcases r with er | (_ | _ | _ | w)
  · exact hx pins σ H s er s' I hq
  all_goals first | exact False.elim hq | skip
  obtain ⟨z', H', I', rz, x, rfl, qz⟩ := I.after hq
  obtain ⟨t, rfl⟩ := (show ∃ t, w = Value.str x t from rz)
  exact ⟨.str x, H', I', ⟨t, rfl⟩, qz⟩
end
end Fw

namespace Fw
open PySem PySem.Spec PyProof.Rows L2
/-- the tables of code objects that the law writes, with the names of what is made there -/
@[irreducible] def Tb : List (Addr × Str) := []
end Fw

/-! ### the data layer: values as trees, defs read without a heap -/
namespace Dw
open PySem PySem.Spec PyProof.Rows L2 Fw
/-- data: what a value is, as a tree -/
inductive D where
  | non | bl (b : Bool) | int (i : Int) | str (s : Str) | tup (l : List D) | lst (l : List D) | obj (C : Addr) (fs : List (Str × D)) | exc (C : Addr) (fs : List (Str × D)) | feed | scr (ns : List Int) | val (v : V) | dct (es : List (Key × D)) | dtt (w : World) (es : List (NestedKey × D)) | fn (a : Addr) (vs : List V) (ds : List D)
/-! keys that are tuples of numbers and texts, nested -/
abbrev NK := NestedKey
mutual
def dN : NK → D
  | .none => .non | .num i => .int i | .text x => .str x | .tup ks => .tup (dNs ks)
def dNs : List NK → List D
  | [] => [] | k :: r => dN k :: dNs r
end
def entN (w : World) (x : NK × Addr × Value) : DictEntry := ⟨x.1.hash w, .ref x.2.1, x.2.2⟩
/-- at a stands a dict with such keys: each key, where it lies, its value -/
def NDh (w : World) (a : Addr) (xs : List (NK × Addr × V)) (h : Heap) : Prop := xs.length ≤ sizeLine ∧ (a == sysModules) = false ∧ ∃ us : List (NK × Addr × Value), Paired (fun p q => p.1 = q.1 ∧ p.2.1 = q.2.1 ∧ RelV p.2.2 q.2.2) xs us ∧
  ∃ o es ep, h.get? a = some o ∧ o.ExactDict ∧ o.data = .dict es ep ∧ es.toList = us.map (entN w) ∧ (us.map (·.1)).Nodup
def NDO (w : World) (a : Addr) (xs : List (NK × Addr × V)) : HO := .ext (NDh w a xs)
/-! the feed -/
def fdK (c : Addr) (at_ left : Int) : List (Key × V) := [(.inr "cells", .ref c), (.inr "at", .int at_), (.inr "left", .int left)]
theorem fdK_inj {c c' : Addr} {a a' l l' : Int} (h : HO.dK (fdK c a l) = HO.dK (fdK c' a' l')) : c = c' := by
  have z := congrArg (fun o => match o with | (HO.dK ((_, V.ref c) :: _)) => c | _ => 0) h
  exact z
def Feed (H : Hp) (p : Addr) (n : Nat) : Prop := ∃ (c : Addr) (ns : List Int) (at_ left : Int), H p = some (.dK (fdK c at_ left)) ∧ H c = some (.lst (ns.map V.int)) ∧ 0 ≤ at_ ∧ at_ ≤ n ∧ 0 ≤ left
mutual
/-- v stands for the data d: all that it leads to is in G, which nobody changes -/
inductive Rep (K : PySem.W.Frag) (F : Option Addr) (G : Hp) : V → D → Prop where
  | non : Rep K F G .non .non
  | bl (b : Bool) : Rep K F G (.bl b) (.bl b)
  | int (i : Int) : Rep K F G (.int i) (.int i)
  | str (s : Str) : Rep K F G (.str s) (.str s)
  | tup {a : Addr} {vs : List V} {ds : List D} : SqT K G a vs → RepL K F G vs ds → Rep K F G (.ref a) (.tup ds)
  | lst {a : Addr} {vs : List V} {ds : List D} : G a = some (.lst vs) → RepL K F G vs ds → Rep K F G (.ref a) (.lst ds)
  | obj {a C dx : Addr} {fvs : List (Str × V)} {fs : List (Str × D)} : G a = some (.ins C dx fvs) → RepF K F G fvs fs → Rep K F G (.ref a) (.obj C fs)
  | exc {a C : Addr} {d : Option Addr} {fvs : List (Str × V)} {fs : List (Str × D)} : Kept G a C d fvs → RepF K F G fvs fs → Rep K F G (.ref a) (.exc C fs)
  | feed {p : Addr} : F = some p → Rep K F G (.ref p) .feed
  | scr {a : Addr} {ns : List Int} : SqL K G a (ns.map V.int) → Rep K F G (.ref a) (.scr ns)
  | val (v : V) : Rep K F G v (.val v)
  | dct {a : Addr} {o : Obj} {kvs : List (Key × V)} {es : List (Key × D)} : G a = some (.frz o (.dK kvs)) → RepK K F G kvs es → Rep K F G (.ref a) (.dct es)
  | dtt {a : Addr} {o : Obj} {w : World} {kvs : List (NK × Addr × V)} {es : List (NK × D)} : G a = some (.frz o (NDO w a kvs)) → RepT K F G kvs es → Rep K F G (.ref a) (.dtt w es)
  | fn {a : Addr} {vs : List V} {ds : List D} : RepL K F G vs ds → Rep K F G (.ref a) (.fn a vs ds)
inductive RepL (K : PySem.W.Frag) (F : Option Addr) (G : Hp) : List V → List D → Prop where
  | nil : RepL K F G [] []
  | cons {v : V} {d : D} {vs : List V} {ds : List D} : Rep K F G v d → RepL K F G vs ds → RepL K F G (v :: vs) (d :: ds)
inductive RepF (K : PySem.W.Frag) (F : Option Addr) (G : Hp) : List (Str × V) → List (Str × D) → Prop where
  | nil : RepF K F G [] []
  | cons {f : Str} {v : V} {d : D} {vs : List (Str × V)} {ds : List (Str × D)} : Rep K F G v d → RepF K F G vs ds → RepF K F G ((f, v) :: vs) ((f, d) :: ds)
inductive RepK (K : PySem.W.Frag) (F : Option Addr) (G : Hp) : List (Key × V) → List (Key × D) → Prop where
  | nil : RepK K F G [] []
  | cons {f : Key} {v : V} {d : D} {vs : List (Key × V)} {ds : List (Key × D)} : Rep K F G v d → RepK K F G vs ds → RepK K F G ((f, v) :: vs) ((f, d) :: ds)
inductive RepT (K : PySem.W.Frag) (F : Option Addr) (G : Hp) : List (NK × Addr × V) → List (NK × D) → Prop where
  | nil : RepT K F G [] []
  | cons {f : NK} {a : Addr} {v : V} {d : D} {vs : List (NK × Addr × V)} {ds : List (NK × D)} : Rep K F G (.ref a) (dN f) → f.depth ≤ 8 → Rep K F G v d → RepT K F G vs ds → RepT K F G ((f, a, v) :: vs) ((f, d) :: ds)
end
section
variable {K : PySem.W.Frag} {F : Option Addr} {G G' H H' : Hp}
theorem sqT_same {a : Addr} {xs : List V} (e : Same H H') (h : SqT K H a xs) : SqT K H' a xs := by
  rcases h with (h | ⟨o, h⟩) | h
  · exact .inl (.inl (e _ _ h))
  · exact .inl (.inr ⟨o, e _ _ h⟩)
  · exact .inr h
theorem kept_same {a C : Addr} {d : Option Addr} {fs : List (Str × V)} (e : Same H H') (h : Kept H a C d fs) : Kept H' a C d fs := by
  obtain ⟨h1, h2⟩ := h
  refine ⟨e _ _ h1, ?_⟩
  rcases h2 with h2 | ⟨dd, h3, h4⟩
  · exact .inl h2
  · exact .inr ⟨dd, h3, e _ _ h4⟩
mutual
theorem Rep.mono (s : Same G G') : ∀ {v : V} {d : D}, Rep K F G v d → Rep K F G' v d
  | _, _, .non => .non
  | _, _, .bl b => .bl b
  | _, _, .int i => .int i
  | _, _, .str x => .str x
  | _, _, .tup h r => .tup (sqT_same s h) (RepL.mono s r)
  | _, _, .lst h r => .lst (s _ _ h) (RepL.mono s r)
  | _, _, .obj h r => .obj (s _ _ h) (RepF.mono s r)
  | _, _, .exc h r => .exc (kept_same s h) (RepF.mono s r)
  | _, _, .feed h => .feed h
  | _, _, .scr h => .scr (s.seq h)
  | _, _, .val v => .val v
  | _, _, .dct h r => .dct (s _ _ h) (RepK.mono s r)
  | _, _, .dtt h r => .dtt (s _ _ h) (RepT.mono s r)
  | _, _, .fn r => .fn (RepL.mono s r)
theorem RepL.mono (s : Same G G') : ∀ {vs : List V} {ds : List D}, RepL K F G vs ds → RepL K F G' vs ds
  | _, _, .nil => .nil
  | _, _, .cons h r => .cons (Rep.mono s h) (RepL.mono s r)
theorem RepF.mono (s : Same G G') : ∀ {vs : List (Str × V)} {ds : List (Str × D)}, RepF K F G vs ds → RepF K F G' vs ds
  | _, _, .nil => .nil
  | _, _, .cons h r => .cons (Rep.mono s h) (RepF.mono s r)
theorem RepK.mono (s : Same G G') : ∀ {vs : List (Key × V)} {ds : List (Key × D)}, RepK K F G vs ds → RepK K F G' vs ds
  | _, _, .nil => .nil
  | _, _, .cons h r => .cons (Rep.mono s h) (RepK.mono s r)
theorem RepT.mono (s : Same G G') : ∀ {vs : List (NK × Addr × V)} {ds : List (NK × D)}, RepT K F G vs ds → RepT K F G' vs ds
  | _, _, .nil => .nil
  | _, _, .cons h0 hd h r => .cons (Rep.mono s h0) hd (Rep.mono s h) (RepT.mono s r)
end
theorem RepL.length : ∀ {vs : List V} {ds : List D}, RepL K F G vs ds → vs.length = ds.length
  | _, _, .nil => rfl
  | _, _, .cons _ r => by rw [List.length_cons, List.length_cons, RepL.length r]
theorem RepL.get : ∀ {vs : List V} {ds : List D} {i : Nat} {d : D}, RepL K F G vs ds → ds[i]? = some d → ∃ v, vs[i]? = some v ∧ Rep K F G v d
  | _, _, _, _, .nil, e => by simp at e
  | _, _, 0, _, .cons h _, e => by
    simp at e; subst e; exact ⟨_, rfl, h⟩
  | _, _, i + 1, d, .cons _ r, e => by
    obtain ⟨v, h1, h2⟩ := RepL.get (i := i) (d := d) r (by simpa using e)
    exact ⟨v, by simpa using h1, h2⟩
theorem RepL.getV : ∀ {vs : List V} {ds : List D} {i : Nat} {v : V}, RepL K F G vs ds → vs[i]? = some v → ∃ d, ds[i]? = some d ∧ Rep K F G v d
  | _, _, _, _, .nil, e => by simp at e
  | _, _, 0, _, .cons h _, e => by
    simp at e; subst e; exact ⟨_, rfl, h⟩
  | _, _, i + 1, d, .cons _ r, e => by
    obtain ⟨v, h1, h2⟩ := RepL.getV (i := i) (v := d) r (by simpa using e)
    exact ⟨v, by simpa using h1, h2⟩
theorem RepL.append : ∀ {vs ws : List V} {ds es : List D}, RepL K F G vs ds → RepL K F G ws es → RepL K F G (vs ++ ws) (ds ++ es)
  | _, _, _, _, .nil, s => s
  | _, _, _, _, .cons h r, s => .cons h (RepL.append r s)
theorem RepL.set : ∀ {vs : List V} {ds : List D} {v : V} {d : D} (i : Nat), Rep K F G v d → RepL K F G vs ds → RepL K F G (vs.set i v) (ds.set i d)
  | _, _, _, _, _, _, .nil => .nil
  | _, _, _, _, 0, h, .cons _ r => .cons h r
  | _, _, _, _, i + 1, h, .cons q r => .cons q (RepL.set i h r)
theorem RepL.take : ∀ {vs : List V} {ds : List D} (n : Nat), RepL K F G vs ds → RepL K F G (vs.take n) (ds.take n)
  | _, _, 0, _ => .nil
  | _, _, _ + 1, .nil => .nil
  | _, _, n + 1, .cons h r => .cons h (RepL.take n r)
theorem RepL.drop : ∀ {vs : List V} {ds : List D} (n : Nat), RepL K F G vs ds → RepL K F G (vs.drop n) (ds.drop n)
  | _, _, 0, r => r
  | _, _, _ + 1, .nil => .nil
  | _, _, n + 1, .cons _ r => RepL.drop n r
theorem RepL.reverse : ∀ {vs : List V} {ds : List D}, RepL K F G vs ds → RepL K F G vs.reverse ds.reverse
  | _, _, .nil => .nil
  | _, _, .cons h r => by
    rw [List.reverse_cons, List.reverse_cons]
    exact (RepL.reverse r).append (.cons h .nil)
theorem RepF.lookup {f : Str} : ∀ {vs : List (Str × V)} {ds : List (Str × D)} {d : D}, RepF K F G vs ds → ds.lookup f = some d → ∃ v, vs.lookup f = some v ∧ Rep K F G v d
  | _, _, _, .nil, e => by cases e
  | _, _, d, .cons (f := g) (vs := vs) (ds := ds) h r, e => by
    rw [List.lookup_cons] at e ⊢
    cases q : (f == g) with
    | true =>
      rw [q] at e
      cases e
      exact ⟨_, rfl, h⟩
    | false =>
      rw [q] at e
      exact RepF.lookup r e
theorem RepF.none {f : Str} : ∀ {vs : List (Str × V)} {ds : List (Str × D)}, RepF K F G vs ds → ds.lookup f = Option.none → vs.lookup f = Option.none
  | _, _, .nil, e => rfl
  | _, _, .cons (f := g) (vs := vs) (ds := ds) h r, e => by
    rw [List.lookup_cons] at e ⊢
    cases q : (f == g) with
    | true =>
      rw [q] at e
      cases e
    | false =>
      rw [q] at e
      exact RepF.none r e
end
/-- no table of code objects -/
def NT (o : HO) : Prop := ∀ ps, o ≠ .tbl ps
/-- what tables tell of: a table, a code object -/
inductive TO : HO → Prop where
  | t (ps : Array Value) : TO (.tbl ps)
  | c (a : Addr) (q : Str) : TO (LamX.CodeO a q)
/-- the tables of code objects: each code object that they tell bears its name -/
def TbOk (G H : Hp) : Prop := ∀ p ∈ Tb, LamX.TabS H p.1 p.2 ∧ G p.1 = none
theorem TbOk.step {G H G' H' : Hp} (t : TbOk G H) (gn : ∀ b ps, H b = some (.tbl ps) → G b = none → G' b = none) (sh : ∀ b o, TO o → H b = some o → H' b = some o) : TbOk G' H' := fun p hp => by
  obtain ⟨⟨ps, h1, h3, h4⟩, h2⟩ := t p hp
  refine ⟨⟨ps, sh _ _ (.t _) h1, h3, fun pos cv hc => ?_⟩, gn _ _ h1 h2⟩
  obtain ⟨c, e1, e2⟩ := h4 pos cv hc
  exact ⟨c, e1, sh _ _ (.c _ _) e2⟩
theorem TbOk.sub {G G2 H : Hp} (t : TbOk G2 H) (s : Same G G2) : TbOk G H := fun p hp => ⟨(t p hp).1, s.free (t p hp).2⟩
/-- no thing of one's own is a code object: what is true of it is not true of a heap of rows of fields alone -/
theorem ext_ne {φ : Heap → Prop} (n : ∀ h, φ h → ∃ a o, h.get? a = some o ∧ ∀ vs, o.data ≠ .fields vs) : ¬ TO (.ext φ) := fun t => by
  generalize e : HO.ext φ = u at t
  cases t with
  | t ps => cases e
  | c a q =>
    unfold LamX.CodeO at e
    injection e with e
    let ob : Obj := { cls := .none, data := .fields #[.none, .str q 0] }
    let hp : Heap := { objs := Array.replicate (a + 1) ob }
    have all : ∀ b o, hp.get? b = some o → o = ob := fun b o h => by
      have g : hp.objs[b]? = if b < a + 1 then some ob else none := Array.getElem?_replicate
      unfold Heap.get? at h
      rw [g] at h
      by_cases c : b < a + 1
      · rw [if_pos c] at h
        exact (Option.some.inj h).symm
      · rw [if_neg c] at h
        cases h
    have k : hp.get? a = some ob := by
      have g : hp.objs[a]? = some ob := by
        show (Array.replicate (a + 1) ob)[a]? = some ob
        rw [Array.getElem?_replicate, if_pos (Nat.lt_succ_self a)]
      unfold Heap.get?
      rw [g]
    obtain ⟨b, o, h1, h2⟩ := n hp (by rw [e]; exact ⟨ob, _, 0, k, rfl, rfl⟩)
    rw [all b o h1] at h2
    exact h2 _ rfl
theorem nto_l {vs : List V} : ¬ TO (.lst vs) := fun t => by
  generalize e : HO.lst vs = u at t
  cases t with
  | t ps => cases e
  | c a q => unfold LamX.CodeO at e; cases e
theorem nto_k {vs : List (Key × V)} : ¬ TO (.dK vs) := fun t => by
  generalize e : HO.dK vs = u at t
  cases t with
  | t ps => cases e
  | c a q => unfold LamX.CodeO at e; cases e
theorem nto_i {C dx : Addr} {vs : List (Str × V)} : ¬ TO (.ins C dx vs) := fun t => by
  generalize e : HO.ins C dx vs = u at t
  cases t with
  | t ps => cases e
  | c a q => unfold LamX.CodeO at e; cases e
theorem nto_f {o : Obj} {u : HO} : ¬ TO (.frz o u) := fun t => by
  generalize e : HO.frz o u = v at t
  cases t with
  | t ps => cases e
  | c a q => unfold LamX.CodeO at e; cases e
theorem nto_t {vs : List V} : ¬ TO (.tup vs) := fun t => by
  generalize e : HO.tup vs = v at t
  cases t with
  | t ps => cases e
  | c a q => unfold LamX.CodeO at e; cases e
theorem nto_n {w : World} {a : Addr} {xs : List (NK × Addr × V)} : ¬ TO (NDO w a xs) := ext_ne fun h ⟨_, _, us, _, o, es, ep, h1, _, h2, _⟩ => ⟨a, o, h1, fun vs z => by rw [h2] at z; cases z⟩
theorem TbOk.put0 {G H : Hp} {q : Addr} {u : HO} (t : TbOk G H) (h : H q = some u) (n : ¬ TO u) (u' : HO) : TbOk G (upd H q u') := t.step (fun _ _ _ z => z) fun b o t z => by
  rw [upd_ne (fun y => by rw [y, h] at z; cases z; exact n t)]; exact z
theorem TbOk.put1 {G H : Hp} {q : Addr} {u : HO} (t : TbOk G H) (h : H q = some u) (n : ¬ TO u) (u' u2 : HO) : TbOk (upd G q u2) (upd H q u') := t.step (fun b ps z z2 => by rw [upd_ne (fun y => by rw [y, h] at z; cases z; exact n (.t _))]; exact z2) fun b o t z => by
  rw [upd_ne (fun y => by rw [y, h] at z; cases z; exact n t)]; exact z
theorem nt_of {u : HO} (n : ¬ TO u) : NT u := fun ps z => n (by rw [z]; exact .t _)
theorem ne_to {H : Hp} {b q : Addr} {o u : HO} (h : H q = some u) (n : ¬ TO u) (t : TO o) (e : H b = some o) : b ≠ q := fun z => by
  rw [z, h] at e; cases e; exact n t
/-- the heap H bears the shared part G, and the feed -/
structure Wd (F : Option Addr) (G H : Hp) (n : Nat) : Prop where
  sub : Same G H
  fd : ∀ p, F = some p → Feed H p n ∧ G p = none
  tb : TbOk G H
/-- from (G, H) to (G', H'): all but the feed is as it was; what is shared stays so; what was there and not shared isn't shared now -/
structure Ext (F : Option Addr) (G H G' H' : Hp) : Prop where
  to : ∀ b o, H b = some o → F ≠ some b → NT o → H' b = some o
  fd : ∀ p c a l, F = some p → H p = some (.dK (fdK c a l)) → ∃ a' l', H' p = some (.dK (fdK c a' l'))
  kp : ∀ b, H b ≠ none → H' b ≠ none
  g : Same G G'
  gx : ∀ b, G b = none → H b ≠ none → G' b = none
section
variable {F : Option Addr} {G H G1 H1 G2 H2 : Hp} {n : Nat}
theorem Ext.refl : Ext F G H G H := ⟨fun _ _ h _ _ => h, fun _ _ a l _ h => ⟨a, l, h⟩, fun _ h => h, Same.refl _, fun _ h _ => h⟩
theorem Ext.trans (a : Ext F G H G1 H1) (b : Ext F G1 H1 G2 H2) : Ext F G H G2 H2 :=
  ⟨fun c o h f t => b.to c o (a.to c o h f t) f t, fun p c x y f h => by
    obtain ⟨x', y', h'⟩ := a.fd p c x y f h
    exact b.fd p c x' y' f h', fun c h => b.kp c (a.kp c h), a.g.trans b.g, fun c h h' => b.gx c (a.gx c h h') (a.kp c h')⟩
theorem new_to {q : Addr} {o : HO} (h : H q = none) : ∀ b u, H b = some u → upd H q o b = some u := fun b u e => by
  rw [upd_ne (ne_of_none e h)]; exact e
theorem new_kp {q : Addr} {o : HO} : ∀ b, H b ≠ none → upd H q o b ≠ none := fun b e => by
  by_cases c : b = q
  · rw [c, upd_same]; exact fun z => nomatch z
  · rw [upd_ne c]; exact e
theorem Ext.new {q : Addr} {o : HO} (h : H q = none) : Ext F G H G (upd H q o) := ⟨fun b u e _ _ => new_to h b u e, fun p c a l _ e => ⟨a, l, new_to h _ _ e⟩, new_kp, Same.refl _, fun _ h _ => h⟩
theorem Ext.share {q : Addr} {o : HO} (h : H q = none) (hG : G q = none) : Ext F G H (upd G q o) (upd H q o) := ⟨fun b u e _ _ => new_to h b u e, fun p c a l _ e => ⟨a, l, new_to h _ _ e⟩, new_kp, new_to hG, fun b h1 h2 => by
  rw [upd_ne (fun z => h2 (by rw [z]; exact h))]; exact h1⟩
theorem Wd.free {q : Addr} (w : Wd F G H n) (h : H q = none) : G q = none := w.sub.free h
theorem feed_new {p q : Addr} {o : HO} (f : Feed H p n) (h : H q = none) : Feed (upd H q o) p n := by
  obtain ⟨c, ns, a, l, h1, h2, h3⟩ := f
  exact ⟨c, ns, a, l, new_to h _ _ h1, new_to h _ _ h2, h3⟩
theorem Wd.new {q : Addr} {o : HO} (w : Wd F G H n) (h : H q = none) : Wd F G (upd H q o) n :=
  ⟨fun b u e => new_to h b u (w.sub b u e), fun p f => ⟨feed_new (w.fd p f).1 h, (w.fd p f).2⟩, w.tb.step (fun _ _ _ z => z) fun b o _ z => new_to h b _ z⟩
theorem Wd.share {q : Addr} {o : HO} (w : Wd F G H n) (h : H q = none) : Wd F (upd G q o) (upd H q o) n := by
  refine ⟨fun b u e => ?_, fun p f => ⟨feed_new (w.fd p f).1 h, ?_⟩, w.tb.step (fun b ps z z2 => by rw [upd_ne (ne_of_none z h)]; exact z2) fun b o _ z => new_to h b _ z⟩
  · by_cases c : b = q
    · subst c; rw [upd_same] at e ⊢; exact e
    · rw [upd_ne c] at e ⊢; exact w.sub b u e
  · obtain ⟨⟨c, ns, a, l, h1, _⟩, g⟩ := w.fd p f
    rw [upd_ne (ne_of_none h1 h)]; exact g
/-- what stands at q in H, not shared, is shared now -/
theorem Wd.freeze {q : Addr} {vs : List V} (w : Wd F G H n) (h : H q = some (.lst vs)) : Wd F (upd G q (.lst vs)) H n := by
  refine ⟨fun b u e => ?_, fun p f => ⟨(w.fd p f).1, ?_⟩, w.tb.step (fun b ps z z2 => by rw [upd_ne (ne_of z h (by intro y; cases y))]; exact z2) fun b o _ z => z⟩
  · by_cases c : b = q
    · subst c; rw [upd_same] at e; cases e; exact h
    · rw [upd_ne c] at e; exact w.sub b u e
  · obtain ⟨⟨c, ns, a, l, h1, _⟩, g⟩ := w.fd p f
    rw [upd_ne (ne_of h1 h (by intro z; cases z))]; exact g
theorem Wd.notfd {q : Addr} {vs : List V} (w : Wd F G H n) (h : H q = some (.lst vs)) : F ≠ some q := fun f => by
  obtain ⟨⟨c, ns, a, l, h1, _⟩, _⟩ := w.fd q f
  rw [h] at h1; cases h1
theorem Ext.freeze {q : Addr} {vs : List V} (x : Ext F G H G1 H1) (h : H q = none) (hg : G1 q = none) : Ext F G H (upd G1 q (.lst vs)) H1 :=
  ⟨x.to, x.fd, x.kp, x.g.trans (new_to hg), fun b h1 h2 => by rw [upd_ne (fun z => h2 (by rw [z]; exact h))]; exact x.gx b h1 h2⟩
end
/-! what one has of one's own: a list, a dict, a list of lists -/
inductive OwO where
  | l (xs : List D) | k (es : List (Key × D)) | t (w : World) (es : List (NK × D)) | ll (xss : List (List D)) | tl (w : World) (es : List (NK × Addr × List D)) | kl (es : List (Key × Addr × List D))
def refs : List V → List Addr
  | [] => []
  | .ref a :: r => a :: refs r
  | _ :: r => refs r
/-- where it lies -/
def fpOf (H : Hp) (q : Addr) : OwO → List Addr
  | .ll _ => q :: (match H q with | some (.lst vs) => refs vs | _ => [])
  | .tl _ es => q :: es.map (·.2.1)
  | .kl es => q :: es.map (·.2.1)
  | _ => [q]
theorem fpOf_self {H : Hp} {q : Addr} {o : OwO} : q ∈ fpOf H q o := by cases o <;> simp [fpOf]
inductive OwLL (K : PySem.W.Frag) (F : Option Addr) (G H : Hp) : List V → List (List D) → Prop where
  | nil : OwLL K F G H [] []
  | cons {r : Addr} {vs us : List V} {xs : List D} {xss : List (List D)} : H r = some (.lst vs) → RepL K F G vs xs → OwLL K F G H us xss → OwLL K F G H (.ref r :: us) (xs :: xss)
/-- a dict whose values are lists of one's own -/
inductive OwTL (K : PySem.W.Frag) (F : Option Addr) (G H : Hp) : List (NK × Addr × V) → List (NK × Addr × List D) → Prop where
  | nil : OwTL K F G H [] []
  | cons {f : NK} {a r : Addr} {vs : List V} {xs : List D} {us : List (NK × Addr × V)} {es : List (NK × Addr × List D)} : Rep K F G (.ref a) (dN f) → f.depth ≤ 8 → H r = some (.lst vs) → RepL K F G vs xs → OwTL K F G H us es → OwTL K F G H ((f, a, .ref r) :: us) ((f, r, xs) :: es)
inductive OwKL (K : PySem.W.Frag) (F : Option Addr) (G H : Hp) : List (Key × V) → List (Key × Addr × List D) → Prop where
  | nil : OwKL K F G H [] []
  | cons {f : Key} {r : Addr} {vs : List V} {xs : List D} {us : List (Key × V)} {es : List (Key × Addr × List D)} : H r = some (.lst vs) → RepL K F G vs xs → OwKL K F G H us es → OwKL K F G H ((f, .ref r) :: us) ((f, r, xs) :: es)
def OwnAt (K : PySem.W.Frag) (F : Option Addr) (G H : Hp) (q : Addr) : OwO → Prop
  | .l xs => ∃ vs, H q = some (.lst vs) ∧ RepL K F G vs xs
  | .k es => ∃ kvs, H q = some (.dK kvs) ∧ RepK K F G kvs es
  | .t w es => ∃ kvs, H q = some (NDO w q kvs) ∧ RepT K F G kvs es
  | .tl w es => ∃ kvs, H q = some (NDO w q kvs) ∧ OwTL K F G H kvs es ∧ (q :: es.map (·.2.1)).Nodup
  | .kl es => ∃ kvs, H q = some (.dK kvs) ∧ OwKL K F G H kvs es ∧ (q :: es.map (·.2.1)).Nodup
  | .ll xss => ∃ us, H q = some (.lst us) ∧ OwLL K F G H us xss ∧ (q :: refs us).Nodup
section
variable {K : PySem.W.Frag} {F : Option Addr} {G G' H H' : Hp} {q : Addr}
theorem OwLL.ext (sg : Same G G') : ∀ {us : List V} {xss : List (List D)}, (∀ b ∈ refs us, H' b = H b) → OwLL K F G H us xss → OwLL K F G' H' us xss
  | _, _, _, .nil => .nil
  | _, _, e, .cons h r s => .cons (by rw [e _ (by simp [refs])]; exact h) (r.mono sg) (OwLL.ext sg (fun b hb => e b (by simp [refs, hb])) s)
theorem OwTL.ext (sg : Same G G') : ∀ {us : List (NK × Addr × V)} {es : List (NK × Addr × List D)}, (∀ b ∈ es.map (·.2.1), H' b = H b) → OwTL K F G H us es → OwTL K F G' H' us es
  | _, _, _, .nil => .nil
  | _, _, e, .cons h0 hd h r s => .cons (h0.mono sg) hd (by rw [e _ (by simp)]; exact h) (r.mono sg) (OwTL.ext sg (fun b hb => e b (by simp at hb ⊢; exact .inr hb)) s)
theorem OwKL.ext (sg : Same G G') : ∀ {us : List (Key × V)} {es : List (Key × Addr × List D)}, (∀ b ∈ es.map (·.2.1), H' b = H b) → OwKL K F G H us es → OwKL K F G' H' us es
  | _, _, _, .nil => .nil
  | _, _, e, .cons h r s => .cons (by rw [e _ (by simp)]; exact h) (r.mono sg) (OwKL.ext sg (fun b hb => e b (by simp at hb ⊢; exact .inr hb)) s)
theorem OwTL.there : ∀ {us : List (NK × Addr × V)} {es : List (NK × Addr × List D)}, OwTL K F G H us es → ∀ b ∈ es.map (·.2.1), ∃ vs, H b = some (.lst vs)
  | _, _, .nil, b, hb => by simp at hb
  | _, _, .cons _ _ h _ s, b, hb => by
    simp only [List.map_cons, List.mem_cons] at hb
    rcases hb with rfl | hb
    · exact ⟨_, h⟩
    · exact OwTL.there s b hb
theorem OwKL.there : ∀ {us : List (Key × V)} {es : List (Key × Addr × List D)}, OwKL K F G H us es → ∀ b ∈ es.map (·.2.1), ∃ vs, H b = some (.lst vs)
  | _, _, .nil, b, hb => by simp at hb
  | _, _, .cons h _ s, b, hb => by
    simp only [List.map_cons, List.mem_cons] at hb
    rcases hb with rfl | hb
    · exact ⟨_, h⟩
    · exact OwKL.there s b hb
theorem fpOf_ext {o : OwO} (e : ∀ b ∈ fpOf H q o, H' b = H b) : fpOf H' q o = fpOf H q o := by
  cases o with
  | ll xss => simp only [fpOf]; rw [e q fpOf_self]
  | _ => rfl
theorem OwnAt.ext {o : OwO} (sg : Same G G') (e : ∀ b ∈ fpOf H q o, H' b = H b) (h : OwnAt K F G H q o) : OwnAt K F G' H' q o := by
  have e0 := e q fpOf_self
  cases o with
  | l xs => obtain ⟨vs, h1, h2⟩ := h; exact ⟨vs, by rw [e0]; exact h1, h2.mono sg⟩
  | k es => obtain ⟨vs, h1, h2⟩ := h; exact ⟨vs, by rw [e0]; exact h1, h2.mono sg⟩
  | t w es => obtain ⟨vs, h1, h2⟩ := h; exact ⟨vs, by rw [e0]; exact h1, h2.mono sg⟩
  | tl w es => obtain ⟨vs, h1, h2, h3⟩ := h; exact ⟨vs, by rw [e0]; exact h1, h2.ext sg (fun b hb => e b (List.mem_cons_of_mem _ hb)), h3⟩
  | kl es => obtain ⟨vs, h1, h2, h3⟩ := h; exact ⟨vs, by rw [e0]; exact h1, h2.ext sg (fun b hb => e b (List.mem_cons_of_mem _ hb)), h3⟩
  | ll xss =>
    obtain ⟨us, h1, h2, h3⟩ := h
    refine ⟨us, by rw [e0]; exact h1, h2.ext sg (fun b hb => e b ?_), h3⟩
    simp only [fpOf, h1]
    exact List.mem_cons_of_mem _ hb
theorem OwLL.there : ∀ {us : List V} {xss : List (List D)}, OwLL K F G H us xss → ∀ b ∈ refs us, ∃ vs, H b = some (.lst vs)
  | _, _, .nil, b, hb => by simp [refs] at hb
  | _, _, .cons h _ s, b, hb => by
    simp only [refs, List.mem_cons] at hb
    rcases hb with rfl | hb
    · exact ⟨_, h⟩
    · exact OwLL.there s b hb
theorem OwnAt.thereN {o : OwO} (h : OwnAt K F G H q o) : ∀ b ∈ fpOf H q o, ∃ u, H b = some u ∧ ¬ TO u := by
  cases o with
  | l xs => obtain ⟨vs, h1, _⟩ := h; intro b hb; simp only [fpOf, List.mem_singleton] at hb; subst hb; exact ⟨_, h1, nto_l⟩
  | k es => obtain ⟨vs, h1, _⟩ := h; intro b hb; simp only [fpOf, List.mem_singleton] at hb; subst hb; exact ⟨_, h1, nto_k⟩
  | t w es => obtain ⟨vs, h1, _⟩ := h; intro b hb; simp only [fpOf, List.mem_singleton] at hb; subst hb; exact ⟨_, h1, nto_n⟩
  | tl w es =>
    obtain ⟨vs, h1, h2, _⟩ := h
    intro b hb
    rcases List.mem_cons.mp hb with rfl | hb
    · exact ⟨_, h1, nto_n⟩
    · obtain ⟨us, e⟩ := h2.there b hb
      exact ⟨_, e, nto_l⟩
  | kl es =>
    obtain ⟨vs, h1, h2, _⟩ := h
    intro b hb
    rcases List.mem_cons.mp hb with rfl | hb
    · exact ⟨_, h1, nto_k⟩
    · obtain ⟨us, e⟩ := h2.there b hb
      exact ⟨_, e, nto_l⟩
  | ll xss =>
    obtain ⟨us, h1, h2, _⟩ := h
    intro b hb
    simp only [fpOf, h1, List.mem_cons] at hb
    rcases hb with rfl | hb
    · exact ⟨_, h1, nto_l⟩
    · obtain ⟨vs, e⟩ := h2.there b hb
      exact ⟨_, e, nto_l⟩
theorem OwnAt.there {o : OwO} (h : OwnAt K F G H q o) : ∀ b ∈ fpOf H q o, ∃ u, H b = some u := fun b hb => by
  obtain ⟨u, e, _⟩ := h.thereN b hb
  exact ⟨u, e⟩
theorem OwnAt.notT {o : OwO} {u : HO} (h : OwnAt K F G H q o) {b : Addr} (t : TO u) (e : H b = some u) : b ∉ fpOf H q o := fun hb => by
  obtain ⟨u2, e2, n⟩ := h.thereN b hb
  rw [e] at e2; cases e2
  exact n t
end
/-- a slot: data, or something of one's own -/
inductive Sl where
  | d (x : D) | own (xs : List D) | ownK (es : List (Key × D)) | ownT (w : World) (es : List (NK × D)) | ownL (xss : List (List D)) | ownTL (w : World) (es : List (NK × Addr × List D)) | ownKL (es : List (Key × Addr × List D))
def slO : Sl → Option OwO
  | .d _ => none | .own xs => some (.l xs) | .ownK es => some (.k es) | .ownT w es => some (.t w es) | .ownL xss => some (.ll xss) | .ownTL w es => some (.tl w es) | .ownKL es => some (.kl es)
abbrev Ro := List (Option Sl)
structure Bx where
  F : Option Addr
  G : Hp
  H : Hp
/-- b is nobody's but one's own -/
structure Fre (B : Bx) (G H : Hp) (y : Addr) : Prop where
  g : G y = none
  b : B.H y = none
  f : B.F ≠ some y
  c : ∀ p c a l, B.F = some p → H p = some (.dK (fdK c a l)) → y ≠ c
structure EnvC (K : PySem.W.Frag) (B : Bx) (G H : Hp) (σ : L2.St) (ρ : Ro) (n : Nat) : Prop where
  w : Wd B.F G H n
  x : Ext B.F B.G B.H G H
  len : σ.length = ρ.length
  d : ∀ (i : Nat) (x : D), ρ[i]? = some (some (Sl.d x)) → ∃ v, σ[i]? = some (some v) ∧ Rep K B.F G v x
  ow : ∀ (i : Nat) (s : Sl) (o : OwO), ρ[i]? = some (some s) → slO s = some o → ∃ q, σ[i]? = some (some (V.ref q)) ∧ OwnAt K B.F G H q o ∧ ∀ b ∈ fpOf H q o, Fre B G H b
  ap : ∀ (i j : Nat) (s s' : Sl) (o o' : OwO) (q q' : Addr), i ≠ j → ρ[i]? = some (some s) → slO s = some o → ρ[j]? = some (some s') → slO s' = some o' → σ[i]? = some (some (V.ref q)) → σ[j]? = some (some (V.ref q')) → ∀ b ∈ fpOf H q o, b ∉ fpOf H q' o'
section
variable {K : PySem.W.Frag} {B : Bx} {G H G1 H1 : Hp} {σ : L2.St} {ρ : Ro} {n m : Nat}
theorem EnvC.own (e : EnvC K B G H σ ρ n) (i : Nat) (xs : List D) (h : ρ[i]? = some (some (Sl.own xs))) : ∃ q vs, σ[i]? = some (some (V.ref q)) ∧ H q = some (.lst vs) ∧ G q = none ∧ B.H q = none ∧ RepL K B.F G vs xs ∧ ∀ p c a l, B.F = some p → H p = some (.dK (fdK c a l)) → q ≠ c := by
  obtain ⟨q, h1, ⟨vs, h2, h3⟩, h4⟩ := e.ow i _ _ h rfl
  have f := h4 q fpOf_self
  exact ⟨q, vs, h1, h2, f.g, f.b, h3, f.c⟩
theorem Fre.ext {b : Addr} (w : Wd B.F G H n) (x : Ext B.F G H G1 H1) (hb : ∃ u, H b = some u ∧ ¬ TO u) (f : Fre B G H b) : Fre B G1 H1 b ∧ H1 b = H b := by
  obtain ⟨u, hu, nt⟩ := hb
  have nt : NT u := fun ps z => nt (by rw [z]; exact .t _)
  refine ⟨⟨x.gx b f.g (by rw [hu]; exact fun z => nomatch z), f.b, f.f, fun p c a l hp e1 => ?_⟩, by rw [x.to b u hu f.f nt, hu]⟩
  obtain ⟨⟨c0, ns, a0, l0, g1, _⟩, _⟩ := w.fd p hp
  obtain ⟨a', l', g2⟩ := x.fd p c0 a0 l0 hp g1
  rw [g2] at e1
  rw [← fdK_inj (Option.some.inj e1)]
  exact f.c p c0 a0 l0 hp g1
theorem EnvC.ext (e : EnvC K B G H σ ρ n) (x : Ext B.F G H G1 H1) (w : Wd B.F G1 H1 m) : EnvC K B G1 H1 σ ρ m := by
  have same : ∀ (i : Nat) (s : Sl) (o : OwO) (q : Addr), ρ[i]? = some (some s) → slO s = some o → σ[i]? = some (some (V.ref q)) → (∀ b ∈ fpOf H q o, Fre B G1 H1 b ∧ H1 b = H b) := fun i s o q h1 h2 h3 b hb => by
    obtain ⟨q', k1, k2, k3⟩ := e.ow i s o h1 h2
    rw [h3] at k1
    cases k1
    exact (k3 b hb).ext e.w x (k2.thereN b hb)
  refine ⟨w, e.x.trans x, e.len, fun i y h => ?_, fun i s o h1 h2 => ?_, fun i j s s' o o' q q' hij h1 h2 h3 h4 h5 h6 => ?_⟩
  · obtain ⟨v, h1, h2⟩ := e.d i y h
    exact ⟨v, h1, h2.mono x.g⟩
  · obtain ⟨q, k1, k2, k3⟩ := e.ow i s o h1 h2
    have sm := same i s o q h1 h2 k1
    refine ⟨q, k1, k2.ext x.g fun b hb => (sm b hb).2, ?_⟩
    rw [fpOf_ext fun b hb => (sm b hb).2]
    exact fun b hb => (sm b hb).1
  · rw [fpOf_ext fun b hb => (same i s o q h1 h2 h5 b hb).2, fpOf_ext fun b hb => (same j s' o' q' h3 h4 h6 b hb).2]
    exact e.ap i j s s' o o' q q' hij h1 h2 h3 h4 h5 h6
theorem set_at {i j : Nat} {x y : Sl} (h : (ρ.set i (some x))[j]? = some (some y)) : (i = j ∧ y = x ∧ i < ρ.length) ∨ (i ≠ j ∧ ρ[j]? = some (some y)) := by
  by_cases c : i = j
  · subst c
    rw [List.getElem?_set] at h
    simp only [if_true] at h
    split at h
    · rename_i hl
      exact .inl ⟨rfl, by cases h; rfl, hl⟩
    · cases h
  · rw [List.getElem?_set_ne c] at h
    exact .inr ⟨c, h⟩
/-- a slot gets data -/
theorem EnvC.setD {i : Nat} {v : V} {x : D} (e : EnvC K B G H σ ρ n) (r : Rep K B.F G v x) : EnvC K B G H (σ.set i (some v)) (ρ.set i (some (Sl.d x))) n := by
  refine ⟨e.w, e.x, by rw [List.length_set, List.length_set]; exact e.len, fun j y h => ?_, fun j s o h hs => ?_, fun j k s s' o o' q q' hjk h1 hs h2 hs' => ?_⟩
  · rcases set_at h with ⟨rfl, z, hl⟩ | ⟨c, h'⟩
    · cases z
      exact ⟨v, List.getElem?_set_self (by rw [e.len]; exact hl), r⟩
    · rw [List.getElem?_set_ne c]; exact e.d j y h'
  · rcases set_at h with ⟨rfl, z, _⟩ | ⟨c, h'⟩
    · subst z; cases hs
    · rw [List.getElem?_set_ne c]; exact e.ow j s o h' hs
  · rcases set_at h1 with ⟨rfl, z, _⟩ | ⟨c, h1'⟩
    · subst z; cases hs
    · rcases set_at h2 with ⟨rfl, z, _⟩ | ⟨c', h2'⟩
      · subst z; cases hs'
      · rw [List.getElem?_set_ne c, List.getElem?_set_ne c']; exact e.ap j k s s' o o' q q' hjk h1' hs h2' hs'
theorem EnvC.cells {q : Addr} (e : EnvC K B G H σ ρ n) (x : Ext B.F G H G1 H1) (h : H q = none) : ∀ p c a l, B.F = some p → H1 p = some (.dK (fdK c a l)) → q ≠ c := fun p c a l f e1 z => by
  obtain ⟨⟨c0, ns, a0, l0, g1, g2, _⟩, _⟩ := e.w.fd p f
  obtain ⟨a', l', g3⟩ := x.fd p c0 a0 l0 f g1
  rw [g3] at e1
  have := fdK_inj (Option.some.inj e1)
  rw [z, ← this, g2] at h
  cases h
/-- one's own is shared from now on -/
theorem EnvC.share {i : Nat} {q : Addr} {s : Sl} {o : OwO} {x : D} (e : EnvC K B G H σ ρ n) (hi : ρ[i]? = some (some s)) (hs : slO s = some o) (hq : σ[i]? = some (some (V.ref q)))
    (hH : ∀ b, b ∉ fpOf H q o → H1 b = H b) (hG : ∀ b, b ∉ fpOf H q o → G1 b = G b) (hb : ∀ b ∈ fpOf H q o, ∃ u, G1 b = some u ∧ H1 b = some u) (r : Rep K B.F G1 (.ref q) x) : EnvC K B G1 H1 σ (ρ.set i (some (Sl.d x))) n ∧ Same G G1 := by
  obtain ⟨q', h1, h2, h3⟩ := e.ow i s o hi hs
  rw [hq] at h1
  cases h1
  have sm : Same G G1 := fun b u hu => by
    rw [hG b fun z => by rw [(h3 b z).g] at hu; cases hu]; exact hu
  have fdH : ∀ p c a l, B.F = some p → H p = some (.dK (fdK c a l)) → H1 p = some (.dK (fdK c a l)) ∧ H1 c = H c := fun p c a l f hp => ⟨by rw [hH p fun z => (h3 p z).f f]; exact hp, hH c fun z => (h3 c z).c p c a l f hp rfl⟩
  have fdB : ∀ p c a l, B.F = some p → H1 p = some (.dK (fdK c a l)) → H p = some (.dK (fdK c a l)) := fun p c a l f hp => by
    rw [hH p fun z => (h3 p z).f f] at hp; exact hp
  have rest : ∀ (j : Nat) (s' : Sl) (o' : OwO) (q' : Addr), i ≠ j → ρ[j]? = some (some s') → slO s' = some o' → σ[j]? = some (some (V.ref q')) → ∀ b ∈ fpOf H q' o', b ∉ fpOf H q o := fun j s' o' q' hij hj hs' hq' b hb hb' => e.ap i j s s' o o' q q' hij hi hs hj hs' hq hq' b hb' hb
  refine ⟨⟨⟨fun b u hu => ?_, fun p f => ?_, e.w.tb.step (fun b ps z z2 => by rw [hG b (h2.notT (.t _) z)]; exact z2) fun b o t z => by rw [hH b (h2.notT t z)]; exact z⟩, ⟨fun b u hu f t => ?_, fun p c a l f hp => ?_, fun b hb' => ?_, e.x.g.trans sm, fun b k1 k2 => ?_⟩, by rw [List.length_set]; exact e.len, fun j y hj => ?_, fun j s' o' hj hs' => ?_, fun j k s1 s2 o1 o2 q1 q2 hjk k1 hs1 k2 hs2 e1 e2 => ?_⟩, sm⟩
  · by_cases c : b ∈ fpOf H q o
    · obtain ⟨u', g1, g2⟩ := hb b c
      rw [g1] at hu; cases hu; exact g2
    · rw [hG b c] at hu
      rw [hH b c]; exact e.w.sub b u hu
  · obtain ⟨⟨c, ns, a, l, g1, g2, g3⟩, g4⟩ := e.w.fd p f
    obtain ⟨k1, k2⟩ := fdH p c a l f g1
    exact ⟨⟨c, ns, a, l, k1, by rw [k2]; exact g2, g3⟩, by rw [hG p fun z => (h3 p z).f f]; exact g4⟩
  · rw [hH b fun z => by rw [(h3 b z).b] at hu; cases hu]; exact e.x.to b u hu f t
  · obtain ⟨a', l', z⟩ := e.x.fd p c a l f hp
    exact ⟨a', l', (fdH p c a' l' f z).1⟩
  · by_cases c : b ∈ fpOf H q o
    · obtain ⟨u', g1, g2⟩ := hb b c
      rw [g2]; exact fun y => nomatch y
    · rw [hH b c]; exact e.x.kp b hb'
  · rw [hG b fun z => by rw [(h3 b z).b] at k2; exact k2 rfl]; exact e.x.gx b k1 k2
  · rcases set_at hj with ⟨rfl, z, _⟩ | ⟨c, hj'⟩
    · cases z
      exact ⟨_, hq, r⟩
    · obtain ⟨v, g1, g2⟩ := e.d j y hj'
      exact ⟨v, g1, g2.mono sm⟩
  · rcases set_at hj with ⟨rfl, z, _⟩ | ⟨c, hj'⟩
    · subst z; cases hs'
    · obtain ⟨q2, g1, g2, g3⟩ := e.ow j s' o' hj' hs'
      have far := rest j s' o' q2 c hj' hs' g1
      refine ⟨q2, g1, g2.ext sm fun b hb => hH b (far b hb), ?_⟩
      rw [fpOf_ext fun b hb => hH b (far b hb)]
      intro b hb
      have f := g3 b hb
      exact ⟨by rw [hG b (far b hb)]; exact f.g, f.b, f.f, fun p c a l hp hp1 => f.c p c a l hp (fdB p c a l hp hp1)⟩
  · rcases set_at k1 with ⟨rfl, z, _⟩ | ⟨c, k1'⟩
    · subst z; cases hs1
    · rcases set_at k2 with ⟨rfl, z2, _⟩ | ⟨c', k2'⟩
      · subst z2; cases hs2
      · rw [fpOf_ext fun b hb => hH b (rest j s1 o1 q1 c k1' hs1 e1 b hb), fpOf_ext fun b hb => hH b (rest k s2 o2 q2 c' k2' hs2 e2 b hb)]
        exact e.ap j k s1 s2 o1 o2 q1 q2 hjk k1' hs1 k2' hs2 e1 e2
/-- one's own is changed -/
theorem EnvC.change {i : Nat} {q : Addr} {s s' : Sl} {o o' : OwO} (e : EnvC K B G H σ ρ n) (hi : ρ[i]? = some (some s)) (hs : slO s = some o) (hq : σ[i]? = some (some (V.ref q)))
    (hH : ∀ b, b ∉ fpOf H q o → H1 b = H b) (hk : ∀ b, H b ≠ none → H1 b ≠ none) (hs' : slO s' = some o') (h1 : OwnAt K B.F G H1 q o') (h2 : ∀ b ∈ fpOf H1 q o', b ∈ fpOf H q o) : EnvC K B G H1 σ (ρ.set i (some s')) n := by
  obtain ⟨q', h0, h0', h3⟩ := e.ow i s o hi hs
  rw [hq] at h0
  cases h0
  have fdH : ∀ p c a l, B.F = some p → H p = some (.dK (fdK c a l)) → H1 p = some (.dK (fdK c a l)) ∧ H1 c = H c := fun p c a l f hp => ⟨by rw [hH p fun z => (h3 p z).f f]; exact hp, hH c fun z => (h3 c z).c p c a l f hp rfl⟩
  have fdB : ∀ p c a l, B.F = some p → H1 p = some (.dK (fdK c a l)) → H p = some (.dK (fdK c a l)) := fun p c a l f hp => by
    rw [hH p fun z => (h3 p z).f f] at hp; exact hp
  have rest : ∀ (j : Nat) (s' : Sl) (o' : OwO) (q' : Addr), i ≠ j → ρ[j]? = some (some s') → slO s' = some o' → σ[j]? = some (some (V.ref q')) → ∀ b ∈ fpOf H q' o', b ∉ fpOf H q o := fun j s' o' q' hij hj hs' hq' b hb hb' => e.ap i j s s' o o' q q' hij hi hs hj hs' hq hq' b hb' hb
  have fr : ∀ b, Fre B G H b → Fre B G H1 b := fun b f => ⟨f.g, f.b, f.f, fun p c a l hp hp1 => f.c p c a l hp (fdB p c a l hp hp1)⟩
  refine ⟨⟨fun b u hu => ?_, fun p f => ?_, e.w.tb.step (fun _ _ _ z => z) fun b o t z => by rw [hH b (h0'.notT t z)]; exact z⟩, ⟨fun b u hu f t => ?_, fun p c a l f hp => ?_, fun b hb' => hk b (e.x.kp b hb'), e.x.g, e.x.gx⟩, by rw [List.length_set]; exact e.len, fun j y hj => ?_, fun j s2 o2 hj hs2 => ?_, fun j k s1 s2 o1 o2 q1 q2 hjk k1 hs1 k2 hs2 e1 e2 => ?_⟩
  · rw [hH b fun z => by rw [(h3 b z).g] at hu; cases hu]; exact e.w.sub b u hu
  · obtain ⟨⟨c, ns, a, l, g1, g2, g3⟩, g4⟩ := e.w.fd p f
    obtain ⟨k1, k2⟩ := fdH p c a l f g1
    exact ⟨⟨c, ns, a, l, k1, by rw [k2]; exact g2, g3⟩, g4⟩
  · rw [hH b fun z => by rw [(h3 b z).b] at hu; cases hu]; exact e.x.to b u hu f t
  · obtain ⟨a', l', z⟩ := e.x.fd p c a l f hp
    exact ⟨a', l', (fdH p c a' l' f z).1⟩
  · rcases set_at hj with ⟨rfl, z, _⟩ | ⟨c, hj'⟩
    · subst z; cases hs'
    · exact e.d j y hj'
  · rcases set_at hj with ⟨rfl, z, _⟩ | ⟨c, hj'⟩
    · subst z
      rw [hs'] at hs2
      cases hs2
      exact ⟨q, hq, h1, fun b hb => fr b (h3 b (h2 b hb))⟩
    · obtain ⟨q2, g1, g2, g3⟩ := e.ow j s2 o2 hj' hs2
      have far := rest j s2 o2 q2 c hj' hs2 g1
      refine ⟨q2, g1, g2.ext (Same.refl _) fun b hb => hH b (far b hb), ?_⟩
      rw [fpOf_ext fun b hb => hH b (far b hb)]
      exact fun b hb => fr b (g3 b hb)
  · rcases set_at k1 with ⟨rfl, z, _⟩ | ⟨c, k1'⟩
    · rcases set_at k2 with ⟨rfl, z2, _⟩ | ⟨c', k2'⟩
      · exact absurd rfl hjk
      · subst z
        rw [hs'] at hs1
        cases hs1
        rw [hq] at e1
        cases e1
        have far := rest k s2 o2 q2 c' k2' hs2 e2
        rw [fpOf_ext (H := H) (H' := H1) fun b hb => hH b (far b hb)]
        exact fun b hb hb' => far b hb' (h2 b hb)
    · rcases set_at k2 with ⟨rfl, z2, _⟩ | ⟨c', k2'⟩
      · subst z2
        rw [hs'] at hs2
        cases hs2
        rw [hq] at e2
        cases e2
        have far := rest j s1 o1 q1 c k1' hs1 e1
        rw [fpOf_ext (H := H) (H' := H1) fun b hb => hH b (far b hb)]
        exact fun b hb hb' => far b hb (h2 b hb')
      · rw [fpOf_ext (H := H) (H' := H1) fun b hb => hH b (rest j s1 o1 q1 c k1' hs1 e1 b hb), fpOf_ext (H := H) (H' := H1) fun b hb => hH b (rest k s2 o2 q2 c' k2' hs2 e2 b hb)]
        exact e.ap j k s1 s2 o1 o2 q1 q2 hjk k1' hs1 k2' hs2 e1 e2
/-- freeze a slot -/
def fzS : Sl → Sl
  | .own xs => .d (.lst xs)
  | .ownL xss => .d (.lst (xss.map .lst))
  | s => s
def fzI (i : Nat) (ρ : Ro) : Ro := match ρ[i]? with
  | some (some s) => ρ.set i (some (fzS s))
  | _ => ρ
def fzs : List Nat → Ro → Ro
  | [], ρ => ρ
  | i :: r, ρ => fzs r (fzI i ρ)
theorem set_same {α : Type} {l : List α} {i : Nat} {x : α} (h : l[i]? = some x) : l.set i x = l := by
  apply List.ext_getElem?
  intro j
  by_cases c : i = j
  · subst c
    rw [List.getElem?_set_self (List.getElem?_eq_some_iff.mp h).1, h]
  · rw [List.getElem?_set_ne c]
def layG (fp : List Addr) (G H : Hp) : Hp := fun b => if b ∈ fp then H b else G b
theorem rep_ll {F : Option Addr} : ∀ {us : List V} {xss : List (List D)}, Same G G1 → (∀ b ∈ refs us, G1 b = H b) → OwLL K F G H us xss → RepL K F G1 us (xss.map D.lst)
  | _, _, _, _, .nil => .nil
  | _, _, sm, e, .cons h r s => .cons (.lst (by rw [e _ (by simp [refs])]; exact h) (r.mono sm)) (rep_ll sm (fun b hb => e b (by simp [refs, hb])) s)
theorem EnvC.freeze1 (e : EnvC K B G H σ ρ n) (i : Nat) : ∃ G1, EnvC K B G1 H σ (Dw.fzI i ρ) n ∧ Same G G1 := by
  unfold Dw.fzI
  split
  · rename_i s h
    cases s with
    | own xs =>
      obtain ⟨q, h1, h2, h3⟩ := e.ow i _ _ h rfl
      obtain ⟨vs, k1, k2⟩ := h2
      refine ⟨upd G q (.lst vs), e.share h rfl h1 (fun _ _ => rfl) (fun b hb => upd_ne fun z => hb (by simp [fpOf, z])) (fun b hb => ?_) (.lst upd_same (k2.mono (new_to (h3 q fpOf_self).g)))⟩
      simp only [fpOf, List.mem_singleton] at hb
      subst hb
      exact ⟨_, upd_same, k1⟩
    | ownL xss =>
      obtain ⟨q, h1, h2, h3⟩ := e.ow i _ _ h rfl
      have th := h2.there
      obtain ⟨us, k1, k2, k3⟩ := h2
      have sm : Same G (layG (fpOf H q (.ll xss)) G H) := fun b u hu => by
        unfold layG
        rw [if_neg fun z => by rw [(h3 b z).g] at hu; cases hu]; exact hu
      have at_ : ∀ b ∈ fpOf H q (.ll xss), layG (fpOf H q (.ll xss)) G H b = H b := fun b hb => by unfold layG; rw [if_pos hb]
      have hr : ∀ b ∈ refs us, b ∈ fpOf H q (.ll xss) := fun b hb => by simp only [fpOf, k1]; exact List.mem_cons_of_mem _ hb
      refine ⟨layG (fpOf H q (.ll xss)) G H, e.share h rfl h1 (fun _ _ => rfl) (fun b hb => by unfold layG; rw [if_neg hb]) (fun b hb => ?_) (.lst (by rw [at_ q fpOf_self]; exact k1) (rep_ll sm (fun b hb => at_ b (hr b hb)) k2))⟩
      obtain ⟨u, hu⟩ := th b hb
      exact ⟨u, by rw [at_ b hb]; exact hu, hu⟩
    | d x => exact ⟨G, by rw [show fzS (.d x) = .d x from rfl, set_same h]; exact e, Same.refl _⟩
    | ownK es => exact ⟨G, by rw [show fzS (.ownK es) = .ownK es from rfl, set_same h]; exact e, Same.refl _⟩
    | ownT w es => exact ⟨G, by rw [show fzS (.ownT w es) = .ownT w es from rfl, set_same h]; exact e, Same.refl _⟩
    | ownTL w es => exact ⟨G, by rw [show fzS (.ownTL w es) = .ownTL w es from rfl, set_same h]; exact e, Same.refl _⟩
    | ownKL es => exact ⟨G, by rw [show fzS (.ownKL es) = .ownKL es from rfl, set_same h]; exact e, Same.refl _⟩
  · exact ⟨G, e, Same.refl _⟩
theorem EnvC.freeze : ∀ (is : List Nat) {ρ : Ro} {G : Hp}, EnvC K B G H σ ρ n → ∃ G1, EnvC K B G1 H σ (fzs is ρ) n ∧ Same G G1
  | [], _, G, e => ⟨G, e, Same.refl _⟩
  | i :: r, _, _, e => by
    obtain ⟨G1, e1, s1⟩ := e.freeze1 i
    obtain ⟨G2, e2, s2⟩ := EnvC.freeze r e1
    exact ⟨G2, e2, s1.trans s2⟩
end
/-! ### exceptions: what is wished of them -/
/-- by the class, the own dict's address, slots and heap; by the class, the fields, the slots' data -/
structure ZX where
  E : WX
  Ed : Value → List (Str × D) → Ro → Nat → Prop
/-- the exception's own dict bears the fields -/
def XR (K : PySem.W.Frag) (F : Option Addr) (G : Hp) (dx : Option Addr) (fs : List (Str × D)) : Prop := (dx = none ∧ fs = []) ∨ ∃ dd fvs, dx = some dd ∧ G dd = some (.xd fvs) ∧ RepF K F G fvs fs
def Zk (K : PySem.W.Frag) (B : Bx) (Z : ZX) : Prop := ∀ c fs dx G H σ ρ n, EnvC K B G H σ ρ n → Z.Ed c fs ρ n → XR K B.F G dx fs → Z.E c dx σ H
structure EnvD (K : PySem.W.Frag) (Z : ZX) (B : Bx) (G H : Hp) (σ : L2.St) (ρ : Ro) (n : Nat) : Prop extends EnvC K B G H σ ρ n where
  z : Zk K B Z
section
variable {K : PySem.W.Frag} {Z : ZX} {B : Bx} {G H G1 H1 : Hp} {σ : L2.St} {ρ : Ro} {n m : Nat}
theorem EnvD.ext (e : EnvD K Z B G H σ ρ n) (x : Ext B.F G H G1 H1) (w : Wd B.F G1 H1 m) : EnvD K Z B G1 H1 σ ρ m := ⟨e.toEnvC.ext x w, e.z⟩
theorem EnvD.setD {i : Nat} {v : V} {x : D} (e : EnvD K Z B G H σ ρ n) (r : Rep K B.F G v x) : EnvD K Z B G H (σ.set i (some v)) (ρ.set i (some (Sl.d x))) n := ⟨e.toEnvC.setD r, e.z⟩
theorem EnvD.change {i : Nat} {q : Addr} {s s' : Sl} {o o' : OwO} (e : EnvD K Z B G H σ ρ n) (hi : ρ[i]? = some (some s)) (hs : slO s = some o) (hq : σ[i]? = some (some (V.ref q)))
    (hH : ∀ b, b ∉ fpOf H q o → H1 b = H b) (hk : ∀ b, H b ≠ none → H1 b ≠ none) (hs' : slO s' = some o') (h1 : OwnAt K B.F G H1 q o') (h2 : ∀ b ∈ fpOf H1 q o', b ∈ fpOf H q o) : EnvD K Z B G H1 σ (ρ.set i (some s')) n := ⟨e.toEnvC.change hi hs hq hH hk hs' h1 h2, e.z⟩
theorem EnvD.cells {q : Addr} (e : EnvD K Z B G H σ ρ n) (x : Ext B.F G H G1 H1) (h : H q = none) : ∀ p c a l, B.F = some p → H1 p = some (.dK (fdK c a l)) → q ≠ c := e.toEnvC.cells x h
theorem EnvD.freeze (is : List Nat) {ρ : Ro} {G : Hp} (e : EnvD K Z B G H σ ρ n) : ∃ G1, EnvD K Z B G1 H σ (fzs is ρ) n ∧ Same G G1 := by
  obtain ⟨G1, e1, s⟩ := e.toEnvC.freeze is
  exact ⟨G1, ⟨e1, e.z⟩, s⟩
end
end Dw

/-! ### expressions by data -/
namespace Dw
open PySem PySem.Spec PyProof.Rows L2 Fw
abbrev QD := D → Nat → Prop
abbrev QL := List D → Nat → Prop
abbrev QB := Bool → Nat → Prop
abbrev TD := Ro → Nat → QD → Prop
abbrev TL := Ro → Nat → QL → Prop
abbrev TB := Ro → Nat → QB → Prop
/-- what the caller wishes, as what is wished of the data -/
def KD (K : PySem.W.Frag) (F : Option Addr) (G H : Hp) (Qd : QD) (Q : VK) : Prop := ∀ d n' v H' G', Qd d n' → Ext F G H G' H' → Wd F G' H' n' → Rep K F G' v d → Q v H'
def KL (K : PySem.W.Frag) (F : Option Addr) (G H : Hp) (Qd : QL) (Q : List V → Hp → Prop) : Prop := ∀ ds n' vs H' G', Qd ds n' → Ext F G H G' H' → Wd F G' H' n' → RepL K F G' vs ds → Q vs H'
/-- .. of a list made new, of one's own -/
def KO (K : PySem.W.Frag) (F : Option Addr) (G H : Hp) (Qd : QL) (Q : VK) : Prop := ∀ ds n' q vs H' G', Qd ds n' → Ext F G H G' H' → Wd F G' H' n' → H q = none → H' q = some (.lst vs) → G' q = none → RepL K F G' vs ds → Q (.ref q) H'
def KB (F : Option Addr) (G H : Hp) (Qd : QB) (Q : Bool → Hp → Prop) : Prop := ∀ b n' H', Qd b n' → Ext F G H G H' → Wd F G H' n' → Q b H'
def dl (K : PySem.W.Frag) (Z : ZX) (td : TD) : TE := fun σ H Q => ∃ B G ρ n Qd, EnvD K Z B G H σ ρ n ∧ td ρ n Qd ∧ KD K B.F G H Qd Q
def dla (K : PySem.W.Frag) (Z : ZX) (td : TL) : TA := fun σ H Q => ∃ B G ρ n Qd, EnvD K Z B G H σ ρ n ∧ td ρ n Qd ∧ KL K B.F G H Qd Q
def dlo (K : PySem.W.Frag) (Z : ZX) (td : TL) : TE := fun σ H Q => ∃ B G ρ n Qd, EnvD K Z B G H σ ρ n ∧ td ρ n Qd ∧ KO K B.F G H Qd Q
def dlt (K : PySem.W.Frag) (Z : ZX) (td : TB) : TT := fun σ H Q => ∃ B G ρ n Qd, EnvD K Z B G H σ ρ n ∧ td ρ n Qd ∧ KB B.F G H Qd Q
structure DE (X : Cx) (Z : ZX) (e : Expr) (td : TD) : Prop where
  pe : PE X e (dl X.K Z td)
structure DA (X : Cx) (Z : ZX) (es : List Expr) (td : TL) : Prop where
  pa : PA X es (dla X.K Z td)
structure DO (X : Cx) (Z : ZX) (e : Expr) (td : TL) : Prop where
  pe : PE X e (dlo X.K Z td)
structure DT (X : Cx) (Z : ZX) (e : Expr) (td : TB) : Prop where
  pt : PT X e (dlt X.K Z td)
structure DW (X : Cx) (Z : ZX) (e : Expr) (td : TB) : Prop where
  pw : PW X e (dlt X.K Z td)
section
variable {X : Cx} {Z : ZX} {e : Expr} {es : List Expr}
theorem pe_imp {t t' : TE} (h : PE X e t) (i : ∀ σ H Q, t' σ H Q → t σ H Q) : PE X e t' := ⟨fun pins s σ H Q I q => h.run pins s σ H Q I (i σ H Q q)⟩
theorem pt_imp {t t' : TT} (h : PT X e t) (i : ∀ σ H Q, t' σ H Q → t σ H Q) : PT X e t' := ⟨fun pins s σ H Q I q => h.run pins s σ H Q I (i σ H Q q)⟩
theorem pw_imp {t t' : TT} (h : PW X e t) (i : ∀ σ H Q, t' σ H Q → t σ H Q) : PW X e t' := ⟨fun w pins s σ H Q I q => h.run w pins s σ H Q I (i σ H Q q)⟩
theorem pa_imp {t t' : TA} (h : PA X es t) (i : ∀ σ H Q, t' σ H Q → t σ H Q) : PA X es t' := ⟨fun pos pins s σ H Q I q => h.run pos pins s σ H Q I (i σ H Q q)⟩
end
section
variable {K : PySem.W.Frag} {F : Option Addr} {G H G1 H1 : Hp} {n : Nat} {Qd : QD} {Q : VK}
theorem KD.here {d : D} {v : V} (k : KD K F G H Qd Q) (h : Qd d n) (w : Wd F G H n) (r : Rep K F G v d) : Q v H := k d n v H G h Ext.refl w r
theorem KD.trans (k : KD K F G H Qd Q) (x : Ext F G H G1 H1) : KD K F G1 H1 Qd Q := fun d n v H' G' h x' w r => k d n v H' G' h (x.trans x') w r
/-- a new object that is shared -/
theorem KD.new {d : D} {q : Addr} {o : HO} (k : KD K F G H Qd Q) (h : Qd d n) (w : Wd F G H n) (hq : H q = none) (r : Rep K F (upd G q o) (.ref q) d) : Q (.ref q) (upd H q o) :=
  k d n _ _ _ h (Ext.share hq (w.free hq)) (w.share hq) r
end
/-- two ways -/
def br (b : Bool) (p q : Prop) : Prop := (b = true → p) ∧ (b = false → q)
def dC (d : D) : TD := fun _ n Q => Q d n
def dVar (i : Nat) : TD := fun ρ n Q => match ρ[i]? with
  | some (some (.d x)) => Q x n
  | _ => False
section
variable {X : Cx} {Z : ZX} {e a b c : Expr} {es rest : List Expr} {pos : Pos} {ta tb tc : TD} {tl : TL}
theorem de_c {v : V} {d : D} (h : PE X e (tC v)) (r : ∀ K F G, Rep K F G v d) : DE X Z e (dC d) := ⟨pe_imp h fun σ H Q ⟨B, G, ρ, n, Qd, env, q, k⟩ => k.here q env.w (r _ _ _)⟩
theorem de_int {i : Int} {j pos} : DE X Z (.Constant (.int i) j pos) (dC (.int i)) := de_c pe_int fun _ _ _ => .int i
theorem de_bl {b j pos} : DE X Z (.Constant (.bool b) j pos) (dC (.bl b)) := de_c pe_bl fun _ _ _ => .bl b
theorem de_non {j pos} : DE X Z (.Constant .none j pos) (dC .non) := de_c pe_non fun _ _ _ => .non
theorem de_str {x j pos} : DE X Z (.Constant (.str x) j pos) (dC (.str x)) := de_c pe_str fun _ _ _ => .str x
theorem de_gval {x : Str} {pos : Pos} {a : Addr} (hg : Gl X x) (hm : X.mg x = some (.ref a)) (hdb : (x == ("__debug__" : Str)) = false := by decide) : DE X Z (.Name x pos) (dC (.val (.ref a))) :=
  de_c (pe_glob (v := .ref a) hg hm rfl hdb) fun _ _ _ => .val _
theorem de_gty {x : Str} {pos : Pos} {T : String} (hg : Gl X x) (hm : X.mg x = none) (hv : bootBuiltins x = some (.type T)) (hn : x ≠ "__name__" := by decide) (hdb : (x == ("__debug__" : Str)) = false := by decide) : DE X Z (.Name x pos) (dC (.val (.ty T))) :=
  de_c (pe_bltn (v := .ty T) (u := .type T) hg hm hv rfl hn hdb) fun _ _ _ => .val _
theorem dv (i : Nat) {x : Str} {pos : Pos} (hN : X.N[i]? = some x := by rfl) (hv : Vis X.env.scope x := by first | exact Or.inl rfl | exact Or.inr (Or.inl rfl) | exact Or.inr (Or.inr rfl)) (hd : (x == ("__debug__" : Str)) = false := by decide)
    (hcd : (x == ("__classdict__" : Str)) = false := by decide) : DE X Z (.Name x pos) (dVar i) := by
  refine ⟨pe_imp (pv i hN hv hd hcd) fun σ H Q ⟨B, G, ρ, n, Qd, env, q, k⟩ => ?_⟩
  unfold dVar at q
  split at q
  · rename_i y h
    obtain ⟨v, h1, h2⟩ := env.d i y h
    exact ⟨v, h1, k.here q env.w h2⟩
  · exact q.elim
/-! two operands -/
abbrev RD2 := D → D → Nat → QD → Prop
def d2 (rd : RD2) (ta tb : TD) : TD := fun ρ n Q => ta ρ n fun x n1 => tb ρ n1 fun y n2 => rd x y n2 Q
def Cv2 (K : PySem.W.Frag) (r : R2) (rd : RD2) : Prop := ∀ F G H n x y dx dy Qd (Q : VK), Wd F G H n → Rep K F G x dx → Rep K F G y dy → rd dx dy n Qd → KD K F G H Qd Q → r x y H Q
theorem dl2 {K : PySem.W.Frag} {r : R2} {rd : RD2} (cv : Cv2 K r rd) {σ : L2.St} {H : Hp} {Q : VK} (h : dl K Z (d2 rd ta tb) σ H Q) : tOp r (dl K Z ta) (dl K Z tb) σ H Q := by
  obtain ⟨B, G, ρ, n, Qd, env, q, k⟩ := h
  refine ⟨B, G, ρ, n, _, env, q, fun dx n1 v H1 G1 q1 x1 w1 r1 => ?_⟩
  refine ⟨B, G1, ρ, n1, _, env.ext x1 w1, q1, fun dy n2 u H2 G2 q2 x2 w2 r2 => ?_⟩
  exact cv B.F G2 H2 n2 v u dx dy Qd Q w2 (r1.mono x2.g) r2 q2 (k.trans (x1.trans x2))
theorem de_op {op : Operator} {r : R2} {rd : RD2} (ho : OpR X (binaryOp op) r) (cv : Cv2 X.K r rd) (ha : DE X Z a ta) (hb : DE X Z b tb) : DE X Z (.BinOp a op b pos) (d2 rd ta tb) :=
  ⟨pe_imp (pe_op ho ha.pe hb.pe) fun _ _ _ => dl2 cv⟩
theorem de_cmp {op : CmpOp} {r : R2} {rd : RD2} (ho : OpR X (compareOp op) r) (cv : Cv2 X.K r rd) (ha : DE X Z a ta) (hb : DE X Z b tb) (hm : behindInMarks op b = false) : DE X Z (.Compare a [op] [b] pos) (d2 rd ta tb) :=
  ⟨pe_imp (pe_cmpR ho ha.pe hb.pe hm) fun _ _ _ => dl2 cv⟩
theorem Cv2.or {K : PySem.W.Frag} {r r' : R2} {rd rd' rd2 : RD2} (h : Cv2 K r rd) (h' : Cv2 K r' rd') (z : ∀ x y n Q, rd2 x y n Q → rd x y n Q ∨ rd' x y n Q) : Cv2 K (fun x y H Q => r x y H Q ∨ r' x y H Q) rd2 :=
  fun F G H n x y dx dy Qd Q w rx ry q k => (z _ _ _ _ q).elim (fun q => .inl (h F G H n x y dx dy Qd Q w rx ry q k)) fun q => .inr (h' F G H n x y dx dy Qd Q w rx ry q k)
/-! + -/
def dAdd : RD2
  | .int i, .int j, n, Q => Q (.int (i + j)) n
  | .str s, .str t, n, Q => s.length + t.length ≤ sizeLine ∧ Q (.str (s ++ t)) n
  | .lst xs, .lst ys, n, Q => xs.length + ys.length ≤ sizeLine ∧ Q (.lst (xs ++ ys)) n
  | .tup xs, .tup ys, n, Q => xs.length + ys.length ≤ sizeLine ∧ Q (.tup (xs ++ ys)) n
  | _, _, _, _ => False
theorem cv_add {K : PySem.W.Frag} : Cv2 K (fun x y H Q => rI0 (fun i j => .int (i + j)) x y H Q ∨ (∃ i j, x = .str i ∧ y = .str j ∧ i.length + j.length ≤ sizeLine ∧ Q (.str (i ++ j)) H) ∨ rCat x y H Q ∨ rCatA K x y H Q) dAdd := by
  intro F G H n x y dx dy Qd Q w rx ry q k
  unfold dAdd at q
  split at q
  · cases rx; cases ry
    exact .inl ⟨_, _, rfl, rfl, k.here q w (.int _)⟩
  · cases rx; cases ry
    exact .inr (.inl ⟨_, _, rfl, rfl, q.1, k.here q.2 w (.str _)⟩)
  · cases rx with | lst h1 r1 => cases ry with | lst h2 r2 =>
    refine .inr (.inr (.inl ⟨_, _, _, _, rfl, rfl, w.sub _ _ h1, w.sub _ _ h2, by rw [r1.length, r2.length]; exact q.1, fun p hp => k.new q.2 w hp ?_⟩))
    exact .lst upd_same ((r1.append r2).mono (new_to (w.free hp)))
  · cases rx with | tup h1 r1 => cases ry with | tup h2 r2 =>
    refine .inr (.inr (.inr ⟨_, _, _, _, rfl, rfl, sqT_same w.sub h1, sqT_same w.sub h2, by rw [r1.length, r2.length]; exact q.1, fun e => ?_, fun e1 e2 => ?_, fun e1 e2 p hp => ?_⟩))
    · subst e
      cases r1
      exact k.here q.2 w (.tup h2 r2)
    · subst e2
      cases r2
      rw [List.append_nil] at q
      exact k.here q.2 w (.tup h1 r1)
    · exact k.new q.2 w hp (.tup (SqT.of upd_same) ((r1.append r2).mono (new_to (w.free hp))))
  · exact q.elim
theorem de_add (ha : DE X Z a ta) (hb : DE X Z b tb) : DE X Z (.BinOp a .Add b pos) (d2 dAdd ta tb) := de_op (OpR.or op_add (OpR.or op_add_str (OpR.or op_cat op_catA))) cv_add ha hb
/-! - * // % ** -/
def dInt (C : Int → Int → Prop) (f : Int → Int → Int) : RD2
  | .int i, .int j, n, Q => C i j ∧ Q (.int (f i j)) n
  | _, _, _, _ => False
theorem cv_int {K : PySem.W.Frag} {C : Int → Int → Prop} {f : Int → Int → Int} : Cv2 K (rI C fun i j => .int (f i j)) (dInt C f) := by
  intro F G H n x y dx dy Qd Q w rx ry q k
  unfold dInt at q
  split at q
  · cases rx; cases ry
    exact ⟨_, _, rfl, rfl, q.1, k.here q.2 w (.int _)⟩
  · exact q.elim
def dSub : RD2
  | .int i, .int j, n, Q => Q (.int (i - j)) n
  | _, _, _, _ => False
theorem de_sub (ha : DE X Z a ta) (hb : DE X Z b tb) : DE X Z (.BinOp a .Sub b pos) (d2 dSub ta tb) := de_op op_sub (by
  intro F G H n x y dx dy Qd Q w rx ry q k
  unfold dSub at q
  split at q
  · cases rx; cases ry
    exact ⟨_, _, rfl, rfl, k.here q w (.int _)⟩
  · exact q.elim) ha hb
def dPow : RD2 := dInt CPow fun i j => i ^ j.toNat
theorem de_pow (ha : DE X Z a ta) (hb : DE X Z b tb) : DE X Z (.BinOp a .Pow b pos) (d2 dPow ta tb) := de_op op_pow cv_int ha hb
def dNeg : D → Nat → QD → Prop
  | .int i, n, Q => Q (.int (-i)) n
  | _, _, _ => False
def d1 (rd : D → Nat → QD → Prop) (ta : TD) : TD := fun ρ n Q => ta ρ n fun x n1 => rd x n1 Q
theorem de_neg (ha : DE X Z a ta) : DE X Z (.UnaryOp .USub a pos) (d1 dNeg ta) := ⟨pe_imp (pe_un un_neg ha.pe) fun σ H Q ⟨B, G, ρ, n, Qd, env, q, k⟩ => ⟨B, G, ρ, n, _, env, q, fun d n1 v H1 G1 q1 x1 w1 r1 => by
  unfold dNeg at q1
  split at q1
  · cases r1
    exact ⟨_, rfl, (k.trans x1).here q1 w1 (.int _)⟩
  · exact q1.elim⟩⟩
/-! comparisons -/
def dLess (f : Int → Int → Bool) (g : Str → Str → Bool) : RD2
  | .int i, .int j, n, Q => Q (.bl (f i j)) n
  | .str s, .str t, n, Q => Q (.bl (g s t)) n
  | _, _, _, _ => False
theorem cv_less {K : PySem.W.Frag} {f : Int → Int → Bool} {g : Str → Str → Bool} : Cv2 K (fun x y H Q => rI0 (fun i j => .bl (f i j)) x y H Q ∨ ∃ i j, x = .str i ∧ y = .str j ∧ Q (.bl (g i j)) H) (dLess f g) := by
  intro F G H n x y dx dy Qd Q w rx ry q k
  unfold dLess at q
  split at q
  · cases rx; cases ry
    exact .inl ⟨_, _, rfl, rfl, k.here q w (.bl _)⟩
  · cases rx; cases ry
    exact .inr ⟨_, _, rfl, rfl, k.here q w (.bl _)⟩
  · exact q.elim
abbrev ltS (s t : Str) : Bool := decide (s.cps.toList < t.cps.toList)
def dLt : RD2 := dLess (fun i j => decide (i < j)) fun s t => ltS s t
/-! a < b < c -/
end
end Dw

namespace Dw
open PySem PySem.Spec PyProof.Rows L2 Fw
mutual
/-- plain data -/
def D.py : D → PyData
  | .non => .none | .bl b => .bool b | .int i => .int i | .str s => .str s | .tup l => .tuple (pyL l) | .lst l => .list (pyL l) | _ => .none
def pyL : List D → List PyData
  | [] => [] | d :: r => D.py d :: pyL r
end
mutual
/-- plain data, at most k deep -/
def dpt : Nat → D → Bool
  | _, .non => true | _, .bl _ => true | _, .int _ => true | _, .str s => PyData.strOk s | k + 1, .tup l => dptL k l | k + 1, .lst l => dptL k l | _, _ => false
def dptL : Nat → List D → Bool
  | _, [] => true | k, d :: r => dpt k d && dptL k r
end
theorem dptL_all (k : Nat) : ∀ l : List D, dptL k l = l.all (dpt k)
  | [] => by simp [dptL]
  | d :: r => by rw [dptL, List.all_cons, dptL_all k r]
def eqD (x y : D) : Bool := PyData.eqv x.py y.py
section
variable {K : PySem.W.Frag} {F : Option Addr} {H : Hp}
mutual
theorem Rep.dp : ∀ {v : V} {x : D} {k : Nat}, Rep K F H v x → dpt k x = true → Dp K H v x.py
  | _, _, _, .non, _ => by rw [D.py]; exact .non
  | _, _, _, .bl b, _ => by rw [D.py]; exact .bl b
  | _, _, _, .int i, _ => by rw [D.py]; exact .int i
  | _, _, _, .str s, _ => by rw [D.py]; exact .str s
  | _, _, k + 1, .tup h r, e => by rw [D.py]; rw [dpt] at e; exact .tup h (RepL.dp r e)
  | _, _, 0, .tup h r, e => by simp [dpt] at e
  | _, _, k + 1, .lst h r, e => by rw [D.py]; rw [dpt] at e; exact .lst (SqL.of h) (RepL.dp r e)
  | _, _, 0, .lst h r, e => by simp [dpt] at e
  | _, _, k, .obj _ _, e => by cases k <;> simp [dpt] at e
  | _, _, k, .exc _ _, e => by cases k <;> simp [dpt] at e
  | _, _, k, .dct _ _, e => by cases k <;> simp [dpt] at e
  | _, _, k, .dtt _ _, e => by cases k <;> simp [dpt] at e
  | _, _, k, .fn _, e => by cases k <;> simp [dpt] at e
  | _, _, k, .feed _, e => by cases k <;> simp [dpt] at e
  | _, _, k, .scr _, e => by cases k <;> simp [dpt] at e
  | _, _, k, .val _, e => by cases k <;> simp [dpt] at e
theorem RepL.dp : ∀ {vs : List V} {xs : List D} {k : Nat}, RepL K F H vs xs → dptL k xs = true → DpAll K H vs (pyL xs)
  | _, _, _, .nil, _ => by rw [pyL]; exact .nil
  | _, _, k, .cons h r, e => by
    rw [dptL, Bool.and_eq_true] at e
    rw [pyL]
    exact .cons (Rep.dp h e.1) (RepL.dp r e.2)
end
end
mutual
theorem dpt_lay : ∀ (k : Nat) (x : D), dpt k x = true → PyData.canLay0 x.py = true ∧ PyData.depth x.py ≤ k
  | k, .non, _ => by rw [D.py]; exact ⟨rfl, Nat.zero_le _⟩
  | k, .bl b, _ => by rw [D.py]; exact ⟨rfl, Nat.zero_le _⟩
  | k, .int i, _ => by rw [D.py]; exact ⟨rfl, Nat.zero_le _⟩
  | k, .str s, e => by
    rw [D.py]
    have e' : PyData.strOk s = true := by cases k <;> simpa [dpt] using e
    exact ⟨e', Nat.zero_le _⟩
  | k + 1, .tup l, e => by
    rw [dpt] at e
    rw [D.py]
    obtain ⟨h1, h2⟩ := dptL_lay k l e
    exact ⟨h1, Nat.succ_le_succ h2⟩
  | 0, .tup l, e => by simp [dpt] at e
  | k + 1, .lst l, e => by
    rw [dpt] at e
    rw [D.py]
    obtain ⟨h1, h2⟩ := dptL_lay k l e
    exact ⟨h1, Nat.succ_le_succ h2⟩
  | 0, .lst l, e => by simp [dpt] at e
  | k, .obj _ _, e => by cases k <;> simp [dpt] at e
  | k, .exc _ _, e => by cases k <;> simp [dpt] at e
  | k, .dct _, e => by cases k <;> simp [dpt] at e
  | k, .dtt _ _, e => by cases k <;> simp [dpt] at e
  | k, .fn _ _ _, e => by cases k <;> simp [dpt] at e
  | k, .feed, e => by cases k <;> simp [dpt] at e
  | k, .scr _, e => by cases k <;> simp [dpt] at e
  | k, .val _, e => by cases k <;> simp [dpt] at e
theorem dptL_lay : ∀ (k : Nat) (xs : List D), dptL k xs = true → PyData.canLayAll0 (pyL xs) = true ∧ PyData.depthAll (pyL xs) ≤ k
  | k, [], _ => by rw [pyL]; exact ⟨rfl, Nat.zero_le _⟩
  | k, x :: r, e => by
    rw [dptL, Bool.and_eq_true] at e
    obtain ⟨h1, h2⟩ := dpt_lay k x e.1
    obtain ⟨h3, h4⟩ := dptL_lay k r e.2
    rw [pyL]
    refine ⟨?_, ?_⟩
    · show (PyData.canLay0 x.py && PyData.canLayAll0 (pyL r)) = true
      rw [h1, h3]; rfl
    · show max (PyData.depth x.py) (PyData.depthAll (pyL r)) ≤ k
      omega
end
theorem dpt_shaped {x : D} (h : dpt 60 x = true) : SeqAt.shaped x.py = true := by
  obtain ⟨h1, h2⟩ := dpt_lay 60 x h
  unfold SeqAt.shaped
  rw [h1, decide_eq_true (by omega)]; rfl
section
variable {X : Cx} {Z : ZX} {e a b c : Expr} {es rest : List Expr} {pos : Pos} {ta tb tc : TD} {tl : TL} {K : PySem.W.Frag}
/-! == != -/
def dEqB (f : Bool → Bool) : RD2
  | .int i, .int j, n, Q => Q (.bl (f (decide (i = j)))) n
  | .str s, .str t, n, Q => Q (.bl (f (decide (s = t)))) n
  | .bl a, .bl b, n, Q => Q (.bl (f (decide (a = b)))) n
  | x, y, n, Q => dpt 60 x = true ∧ dpt 60 y = true ∧ Q (.bl (f (eqD x y))) n
def dEq : RD2 := dEqB fun b => b
def dNe : RD2 := dEqB fun b => !b
theorem cv_eq (f : Bool → Bool) : Cv2 K (fun x y H Q => (scal x y = true ∧ Q (.bl (f (decide (x = y)))) H) ∨ ∃ d e, Dp K H x d ∧ Dp K H y e ∧ SeqAt.shaped d = true ∧ SeqAt.shaped e = true ∧ Q (.bl (f (PyData.eqv d e))) H) (dEqB f) := by
  intro F G H n x y dx dy Qd Q w rx ry q k
  unfold dEqB at q
  split at q
  · cases rx; cases ry
    refine .inl ⟨rfl, ?_⟩
    have e : ∀ i j : Int, decide (V.int i = V.int j) = decide (i = j) := fun i j => by rw [dec_int]; by_cases h : i = j <;> simp [h]
    rw [e]
    exact k.here q w (.bl _)
  · cases rx; cases ry
    refine .inl ⟨rfl, ?_⟩
    have e : ∀ i j : Str, decide (V.str i = V.str j) = decide (i = j) := fun i j => by rw [dec_str]; by_cases h : i = j <;> simp [h]
    rw [e]
    exact k.here q w (.bl _)
  · cases rx; cases ry
    refine .inl ⟨rfl, ?_⟩
    have e : ∀ i j : Bool, decide (V.bl i = V.bl j) = decide (i = j) := fun i j => by cases i <;> cases j <;> rfl
    rw [e]
    exact k.here q w (.bl _)
  · exact .inr ⟨_, _, (rx.mono w.sub).dp q.1, (ry.mono w.sub).dp q.2.1, dpt_shaped q.1, dpt_shaped q.2.1, k.here q.2.2 w (.bl _)⟩
theorem de_eq (hu : X.A.units + 64 < cLine) (ha : DE X Z a ta) (hb : DE X Z b tb) : DE X Z (.Compare a [.Eq] [b] pos) (d2 dEq ta tb) := de_cmp (OpR.or op_eq (op_eqD hu)) (cv_eq fun b => b) ha hb (nomark _)
/-! is None -/
def dIsB (f : Bool → Bool) : RD2
  | .val _, _, _, _ => False
  | .non, .non, n, Q => Q (.bl (f true)) n
  | _, .non, n, Q => Q (.bl (f false)) n
  | _, _, _, _ => False
def dIsnt : RD2 := dIsB fun b => !b
theorem cv_is (f : Bool → Bool) : Cv2 K (fun x y H Q => y = .non ∧ Q (.bl (f (decide (x = .non)))) H) (dIsB f) := by
  intro F G H n x y dx dy Qd Q w rx ry q k
  unfold dIsB at q
  split at q
  · exact q.elim
  · cases rx; cases ry
    exact ⟨rfl, k.here q w (.bl _)⟩
  · rename_i h1 h2
    cases ry
    refine ⟨rfl, ?_⟩
    have e : decide (x = V.non) = false := by
      apply decide_eq_false
      intro z
      subst z
      cases rx with
      | non => exact h2 rfl
      | val => exact h1 _ rfl
    rw [e]
    exact k.here q w (.bl _)
  · exact q.elim
/-! and, or, not, if: values -/
def dAndV (ta tb : TD) : TD := fun ρ n Q => ta ρ n fun x n1 => match x with
  | .bl k => br k (tb ρ n1 Q) (Q (.bl false) n1)
  | _ => False
/-! tests: all lists of one's own are lent meanwhile -/
def fzA (ρ : Ro) : Ro := ρ.map fun o => match o with
  | some s => some (fzS s)
  | none => none
theorem EnvD.lend {B : Bx} {G H : Hp} {σ : L2.St} {ρ : Ro} {n : Nat} (e : EnvD K Z B G H σ ρ n) : ∃ G1, EnvD K Z B G1 H σ (fzA ρ) n ∧ Same G G1 := by
  have step : ∀ k : Nat, ∃ G1, EnvD K Z B G1 H σ (fzs (List.range k) ρ) n ∧ Same G G1 := fun k => e.freeze _
  have app : ∀ (is js : List Nat) (ρ : Ro), fzs (is ++ js) ρ = fzs js (fzs is ρ) := fun is => by
    induction is with
    | nil => intro js ρ; rfl
    | cons i r ih => intro js ρ; exact ih js _
  have at_ : ∀ (k : Nat) (j : Nat), (fzs (List.range k) ρ)[j]? = if j < k then (fzA ρ)[j]? else ρ[j]? := fun k => by
    induction k with
    | zero => intro j; rw [if_neg (by omega)]; rfl
    | succ k ih =>
      intro j
      rw [List.range_succ, app]
      show (fzI k (fzs (List.range k) ρ))[j]? = _
      have hk := ih k
      rw [if_neg (Nat.lt_irrefl _)] at hk
      unfold fzI
      split
      · rename_i s h
        rw [hk] at h
        by_cases c : k = j
        · subst c
          rw [if_pos (by omega), List.getElem?_set_self]
          · unfold fzA
            rw [List.getElem?_map, h]; rfl
          · have := (List.getElem?_eq_some_iff.mp (hk.trans h)).1
            exact this
        · rw [List.getElem?_set_ne c, ih j]
          by_cases c2 : j < k
          · rw [if_pos c2, if_pos (by omega)]
          · rw [if_neg c2, if_neg (by omega)]
      · rename_i hno
        rw [ih j]
        by_cases c2 : j < k
        · rw [if_pos c2, if_pos (by omega)]
        · rw [if_neg c2]
          by_cases c : j = k
          · subst c
            rw [if_pos (by omega)]
            unfold fzA
            rw [List.getElem?_map]
            rw [hk] at hno
            cases q : ρ[j]? with
            | none => rfl
            | some o =>
              cases o with
              | none => rfl
              | some s => exact absurd q (hno s)
          · rw [if_neg (by omega)]
  obtain ⟨G1, e1, s⟩ := step ρ.length
  have eq : fzs (List.range ρ.length) ρ = fzA ρ := by
    apply List.ext_getElem?
    intro j
    rw [at_]
    by_cases c : j < ρ.length
    · rw [if_pos c]
    · rw [if_neg c]
      unfold fzA
      rw [List.getElem?_map, List.getElem?_eq_none (by omega)]; rfl
  exact ⟨G1, eq ▸ e1, s⟩
/-- what was lent is one's own again -/
theorem back {F : Option Addr} {G G1 G2 H H1 : Hp} {m : Nat} (s : Same G G1) (x : Ext F G1 H G2 H1) (w : Wd F G2 H1 m) (w0 : ∀ p, F = some p → G p = none) : Ext F G H G H1 ∧ Wd F G H1 m :=
  ⟨⟨x.to, x.fd, x.kp, Same.refl _, fun _ h _ => h⟩, ⟨(s.trans x.g).trans w.sub, fun p f => ⟨(w.fd p f).1, w0 p f⟩, w.tb.sub (s.trans x.g)⟩⟩
/-- a comparison -/
def dTestB (ta : TD) : TB := fun ρ n Q => ta (fzA ρ) n fun x n1 => match x with
  | .bl b => Q b n1
  | _ => False
theorem dlt_testB {σ : L2.St} {H : Hp} {Q : Bool → Hp → Prop} (h : dlt K Z (dTestB ta) σ H Q) : dl K Z ta σ H fun x H1 => ∃ k, x = .bl k ∧ Q k H1 := by
  obtain ⟨B, G, ρ, n, Qd, env, q, k⟩ := h
  obtain ⟨G1, env1, s⟩ := env.lend
  refine ⟨B, G1, _, n, _, env1, q, fun dx n1 v H1 G2 q1 x1 w1 r1 => ?_⟩
  split at q1
  · cases r1
    obtain ⟨x2, w2⟩ := back s x1 w1 fun p f => (env.w.fd p f).2
    exact ⟨_, rfl, k _ n1 H1 q1 x2 w2⟩
  · exact q1.elim
theorem dt_cmp {op : CmpOp} {r : R2} {rd : RD2} (ho : OpR X (compareOp op) r) (cv : Cv2 X.K r rd) (ha : DE X Z a ta) (hb : DE X Z b tb) (hm : behindInMarks op b = false) : DT X Z (.Compare a [op] [b] pos) (dTestB (d2 rd ta tb)) :=
  ⟨pt_imp (pt_cmpR ho ha.pe hb.pe hm) fun _ _ _ h => dl2 cv (dlt_testB h)⟩
theorem dt_lt (ha : DE X Z a ta) (hb : DE X Z b tb) : DT X Z (.Compare a [.Lt] [b] pos) (dTestB (d2 dLt ta tb)) := dt_cmp (OpR.or op_lt op_lt_str) cv_less ha hb (nomark _)
theorem dt_eq (hu : X.A.units + 64 < cLine) (ha : DE X Z a ta) (hb : DE X Z b tb) : DT X Z (.Compare a [.Eq] [b] pos) (dTestB (d2 dEq ta tb)) := dt_cmp (OpR.or op_eq (op_eqD hu)) (cv_eq fun b => b) ha hb (nomark _)
theorem dt_ne (hu : X.A.units + 64 < cLine) (ha : DE X Z a ta) (hb : DE X Z b tb) : DT X Z (.Compare a [.NotEq] [b] pos) (dTestB (d2 dNe ta tb)) := dt_cmp (OpR.or op_ne (op_neD hu)) (cv_eq fun b => !b) ha hb (nomark _)
theorem dt_isnt (ha : DE X Z a ta) (hb : DE X Z b tb) : DT X Z (.Compare a [.IsNot] [b] pos) (dTestB (d2 dIsnt ta tb)) := dt_cmp op_notN (cv_is fun b => !b) ha hb (nomark _)
variable {xa xb : TB}
def dAnd (ta tb : TB) : TB := fun ρ n Q => ta ρ n fun b n1 => br b (tb ρ n1 Q) (Q false n1)
def dOr (ta tb : TB) : TB := fun ρ n Q => ta ρ n fun b n1 => br b (Q true n1) (tb ρ n1 Q)
theorem KB.trans {F : Option Addr} {G H H1 : Hp} {Qd : QB} {Q : Bool → Hp → Prop} (k : KB F G H Qd Q) (x : Ext F G H G H1) : KB F G H1 Qd Q := fun b n H' h x' w => k b n H' h (x.trans x') w
theorem dw_and (ha : DT X Z a xa) (hb : DW X Z (.BoolOp .And (b :: rest) pos) xb) : DW X Z (.BoolOp .And (a :: b :: rest) pos) (dAnd xa xb) := ⟨pw_imp (pw_and ha.pt hb.pw) fun σ H Q ⟨B, G, ρ, n, Qd, env, q, k⟩ =>
  ⟨B, G, ρ, n, _, env, q, fun c n1 H1 q1 x1 w1 => by
    cases c with
    | true =>
      replace q1 := q1.1 rfl
      exact iteT ⟨B, G, ρ, n1, _, env.ext x1 w1, q1, k.trans x1⟩
    | false =>
      replace q1 := q1.2 rfl
      exact iteF (k false n1 H1 q1 x1 w1)⟩⟩
theorem dw_or (ha : DT X Z a xa) (hb : DW X Z (.BoolOp .Or (b :: rest) pos) xb) : DW X Z (.BoolOp .Or (a :: b :: rest) pos) (dOr xa xb) := ⟨pw_imp (pw_or ha.pt hb.pw) fun σ H Q ⟨B, G, ρ, n, Qd, env, q, k⟩ =>
  ⟨B, G, ρ, n, _, env, q, fun c n1 H1 q1 x1 w1 => by
    cases c with
    | true =>
      replace q1 := q1.1 rfl
      exact iteT (k true n1 H1 q1 x1 w1)
    | false =>
      replace q1 := q1.2 rfl
      exact iteF ⟨B, G, ρ, n1, _, env.ext x1 w1, q1, k.trans x1⟩⟩⟩
theorem dw_and1 (ha : DT X Z a xa) : DW X Z (.BoolOp .And [a] pos) xa := ⟨pw_and1 ha.pt⟩
theorem dw_or1 (ha : DT X Z a xa) : DW X Z (.BoolOp .Or [a] pos) xa := ⟨pw_or1 ha.pt⟩
theorem DW.dt (h : DW X Z a xa) : DT X Z a xa := ⟨h.pw.pt⟩
def dIfV (tt : TB) (ta tb : TD) : TD := fun ρ n Q => tt ρ n fun b n1 => br b (ta ρ n1 Q) (tb ρ n1 Q)
theorem de_ifExp (hc : DT X Z c xa) (ha : DE X Z a ta) (hb : DE X Z b tb) : DE X Z (.IfExp c a b pos) (dIfV xa ta tb) := ⟨pe_imp (pe_ifExp hc.pt ha.pe hb.pe) fun σ H Q ⟨B, G, ρ, n, Qd, env, q, k⟩ =>
  ⟨B, G, ρ, n, _, env, q, fun c n1 H1 q1 x1 w1 => by
    cases c with
    | true =>
      replace q1 := q1.1 rfl
      exact iteT ⟨B, G, ρ, n1, _, env.ext x1 w1, q1, k.trans x1⟩
    | false =>
      replace q1 := q1.2 rfl
      exact iteF ⟨B, G, ρ, n1, _, env.ext x1 w1, q1, k.trans x1⟩⟩⟩
/-! argument lists, displays -/
def dNil : TL := fun _ n Q => Q [] n
def dCons (ta : TD) (tl : TL) : TL := fun ρ n Q => ta ρ n fun x n1 => tl ρ n1 fun xs n2 => Q (x :: xs) n2
theorem da_nil : DA X Z [] dNil := ⟨pa_imp pa_nil fun σ H Q ⟨B, G, ρ, n, Qd, env, q, k⟩ => k [] n [] H G q Ext.refl env.w .nil⟩
theorem da_cons (ha : DE X Z e ta) (hr : DA X Z es tl) (hs : starEach (e :: es) X.env = (false, eval e X.env) :: starEach es X.env := by rfl) : DA X Z (e :: es) (dCons ta tl) := ⟨pa_imp (pa_cons ha.pe hr.pa hs) fun σ H Q ⟨B, G, ρ, n, Qd, env, q, k⟩ => by
  refine ⟨B, G, ρ, n, _, env, q, fun dx n1 v H1 G1 q1 x1 w1 r1 => ?_⟩
  refine ⟨B, G1, ρ, n1, _, env.ext x1 w1, q1, fun ds n2 vs H2 G2 q2 x2 w2 r2 => ?_⟩
  exact k (dx :: ds) n2 (v :: vs) H2 G2 q2 (x1.trans x2) w2 (.cons (r1.mono x2.g) r2)⟩
def dTup (tl : TL) : TD := fun ρ n Q => tl ρ n fun xs n1 => xs.length ≤ sizeLine ∧ Q (.tup xs) n1
def dLst (tl : TL) : TL := fun ρ n Q => tl ρ n fun xs n1 => xs.length ≤ sizeLine ∧ Q xs n1
theorem de_tup {x1} (h : DA X Z es tl) : DE X Z (.Tuple es x1 pos) (dTup tl) := ⟨pe_imp (pe_tup h.pa) fun σ H Q ⟨B, G, ρ, n, Qd, env, q, k⟩ =>
  ⟨B, G, ρ, n, _, env, q, fun ds n1 vs H1 G1 q1 x1 w1 r1 => ⟨by rw [r1.length]; exact q1.1, fun p hp => (k.trans x1).new q1.2 w1 hp (.tup (SqT.of upd_same) (r1.mono (new_to (w1.free hp))))⟩⟩⟩
theorem do_lst (h : DA X Z es tl) : DO X Z (.List es pos) (dLst tl) := ⟨pe_imp (pe_lst h.pa) fun σ H Q ⟨B, G, ρ, n, Qd, env, q, k⟩ =>
  ⟨B, G, ρ, n, _, env, q, fun ds n1 vs H1 G1 q1 x1 w1 r1 => ⟨by rw [r1.length]; exact q1.1, fun p hp => by
    have h0 : H p = none := by
      cases z : H p with
      | none => rfl
      | some o => exact absurd hp (x1.kp p (by rw [z]; exact fun y => nomatch y))
    exact k ds n1 p vs _ G1 q1.2 (x1.trans (Ext.new hp)) (w1.new hp) h0 upd_same (w1.free hp) r1⟩⟩⟩
/-- a list made new, shared at once -/
def dSh (tl : TL) : TD := fun ρ n Q => tl ρ n fun xs n1 => Q (.lst xs) n1
theorem DO.de (h : DO X Z e tl) : DE X Z e (dSh tl) := ⟨pe_imp h.pe fun σ H Q ⟨B, G, ρ, n, Qd, env, q, k⟩ =>
  ⟨B, G, ρ, n, _, env, q, fun ds n1 p vs H1 G1 q1 x1 w1 h0 h1 h2 r1 => k (.lst ds) n1 _ H1 (upd G1 p (.lst vs)) q1 (x1.freeze h0 h2) (w1.freeze h1) (.lst upd_same (r1.mono (new_to h2)))⟩⟩
end
end Dw

namespace Dw
open PySem PySem.Spec PyProof.Rows L2 Fw
section
variable {X : Cx} {Z : ZX} {e a b c : Expr} {es rest : List Expr} {pos : Pos} {ta tb tc : TD} {tl : TL} {K : PySem.W.Frag}
/-! x[i] -/
def dIx : RD2
  | .lst l, .int i, n, Q => (match atI l i with | some d => Q d n | none => False)
  | .tup l, .int i, n, Q => (match atI l i with | some d => Q d n | none => False)
  | .str s, .int i, n, Q => s.length ≤ sizeLine ∧ (match atI s.cps.toList i with | some c => Q (.str ⟨#[c]⟩) n | none => False)
  | _, _, _, _ => False
theorem RepL.atI {F : Option Addr} {G : Hp} {vs : List V} {ds : List D} {i : Int} {d : D} (r : RepL K F G vs ds) (h : L2.atI ds i = some d) : ∃ v, L2.atI vs i = some v ∧ Rep K F G v d := by
  unfold L2.atI at h ⊢
  rw [r.length]
  cases q : ixN ds.length i with
  | none => rw [q] at h; cases h
  | some j =>
    rw [q] at h
    exact r.get h
theorem cv_ix : Cv2 K (rIx K) dIx := by
  intro F G H n x y dx dy Qd Q w rx ry q k
  unfold dIx at q
  split at q
  · split at q
    · rename_i d h
      cases rx with | lst h1 r1 => cases ry with | int _ =>
      obtain ⟨v, e1, e2⟩ := r1.atI h
      exact .inl ⟨_, _, _, v, rfl, rfl, SqL.of (w.sub _ _ h1), e1, k.here q w e2⟩
    · exact q.elim
  · split at q
    · rename_i d h
      cases rx with | tup h1 r1 => cases ry with | int _ =>
      obtain ⟨v, e1, e2⟩ := r1.atI h
      exact .inr (.inl ⟨_, _, _, v, rfl, rfl, sqT_same w.sub h1, e1, k.here q w e2⟩)
    · exact q.elim
  · obtain ⟨q0, q⟩ := q
    split at q
    · rename_i d h
      cases rx; cases ry
      exact .inr (.inr ⟨_, _, _, rfl, rfl, q0, h, k.here q w (.str _)⟩)
    · exact q.elim
  · exact q.elim
/-! x[i:j] -/
abbrev TP := Ro → Nat → (Option Int → Nat → Prop) → Prop
def dlp (K : PySem.W.Frag) (Z : ZX) (tp : TP) : L2.TO := fun σ H Q => ∃ B G ρ n Qd, EnvD K Z B G H σ ρ n ∧ tp ρ n Qd ∧ ∀ o n' H' G', Qd o n' → Ext B.F G H G' H' → Wd B.F G' H' n' → Q o H'
structure DP (X : Cx) (Z : ZX) (e : Option Expr) (tp : TP) : Prop where
  po : PO X e (dlp X.K Z tp)
theorem SlR.or {r r' : V → Option Int → Option Int → Hp → VK → Prop} (h : SlR X r) (h' : SlR X r') : SlR X (fun x l u H Q => r x l u H Q ∨ r' x l u H Q) := by
  intro pins s σ H x v vl vu lo hi sl Q I rx hs pl pu q
  rcases q with q | q
  · exact h pins s σ H x v vl vu lo hi sl Q I rx hs pl pu q
  · exact h' pins s σ H x v vl vu lo hi sl Q I rx hs pl pu q
/-! calls of what is known -/
abbrev RDC := List D → Nat → QD → Prop
def dCb (rd : RDC) (tl : TL) : TD := fun ρ n Q => tl ρ n fun ds n1 => rd ds n1 Q
def CvC (K : PySem.W.Frag) (r : List V → Hp → VK → Prop) (rd : RDC) : Prop := ∀ F G H n vs ds Qd (Q : VK), Wd F G H n → RepL K F G vs ds → rd ds n Qd → KD K F G H Qd Q → r vs H Q
theorem dlc {r : List V → Hp → VK → Prop} {rd : RDC} (cv : CvC K r rd) {σ : L2.St} {H : Hp} {Q : VK} (h : dl K Z (dCb rd tl) σ H Q) : tCB r (dla K Z tl) σ H Q := by
  obtain ⟨B, G, ρ, n, Qd, env, q, k⟩ := h
  exact ⟨B, G, ρ, n, _, env, q, fun ds n1 vs H1 G1 q1 x1 w1 r1 => cv B.F G1 H1 n1 vs ds Qd Q w1 r1 q1 (k.trans x1)⟩
theorem KO.trans {F : Option Addr} {G H G1 H1 : Hp} {Qd : QL} {Q : VK} (k : KO K F G H Qd Q) (x : Ext F G H G1 H1) : KO K F G1 H1 Qd Q := fun ds n q vs H' G' h x' w h0 h1 h2 r => by
  have e0 : H q = none := by
    cases z : H q with
    | none => rfl
    | some o => exact absurd h0 (x.kp q (by rw [z]; exact fun y => nomatch y))
  exact k ds n q vs H' G' h (x.trans x') w e0 h1 h2 r
theorem KO.new {F : Option Addr} {G H : Hp} {Qd : QL} {Q : VK} {ds : List D} {vs : List V} {n : Nat} {q : Addr} (k : KO K F G H Qd Q) (h : Qd ds n) (w : Wd F G H n) (hq : H q = none) (r : RepL K F G vs ds) : Q (.ref q) (upd H q (.lst vs)) :=
  k ds n q vs _ G h (Ext.new hq) (w.new hq) hq upd_same (w.free hq) r
theorem de_callB {r : List V → Hp → VK → Prop} {rd : RDC} {x : Str} {id : String} {p : Pos} (hc : CallR X (.builtin id) r) (cv : CvC X.K r rd) (hg : Gl X x) (hm : X.mg x = none) (hv : bootBuiltins x = some (.builtin id)) (ha : DA X Z (e :: es) tl)
    (hn : x ≠ "__name__" := by decide) (hdb : (x == ("__debug__" : Str)) = false := by decide) (he : starEach (e :: es) X.env = (false, eval e X.env) :: starEach es X.env := by rfl)
    (hpl : (backTo pos (starEach es X.env)).any (·.1) = false := by rfl) : DE X Z (.Call (.Name x p) (e :: es) [] pos) (dCb rd tl) := ⟨pe_imp (pe_callB hc hg hm hv ha.pa hn hdb he hpl) fun _ _ _ => dlc cv⟩
theorem CallR.or {f : Value} {r r' : List V → Hp → VK → Prop} (h : CallR X f r) (h' : CallR X f r') : CallR X f (fun xs H Q => r xs H Q ∨ r' xs H Q) := by
  intro pins s σ H xs us Q I rv q
  rcases q with q | q
  · exact h pins s σ H xs us Q I rv q
  · exact h' pins s σ H xs us Q I rv q
/-! len -/
/-! abs, max, min of two, int, bool, str, ord, chr -/
/-! list(x), tuple(x) -/
/-! any, all, sum of a list -/
/-! repr of plain data -/
mutual
theorem py_nodict : ∀ x : D, x.py.hasDict = false
  | .non => by rw [D.py]; rfl
  | .bl _ => by rw [D.py]; rfl
  | .int _ => by rw [D.py]; rfl
  | .str _ => by rw [D.py]; rfl
  | .tup l => by rw [D.py]; exact pyL_nodict l
  | .lst l => by rw [D.py]; exact pyL_nodict l
  | .obj _ _ => by simp [D.py]; rfl
  | .exc _ _ => by simp [D.py]; rfl
  | .dct _ => by simp [D.py]; rfl
  | .dtt _ _ => by simp [D.py]; rfl
  | .fn _ _ _ => by simp [D.py]; rfl
  | .feed => by simp [D.py]; rfl
  | .scr _ => by simp [D.py]; rfl
  | .val _ => by simp [D.py]; rfl
theorem pyL_nodict : ∀ xs : List D, PyData.hasDictAll (pyL xs) = false
  | [] => by rw [pyL]; rfl
  | x :: r => by
    rw [pyL]
    show (PyData.hasDict x.py || PyData.hasDictAll (pyL r)) = false
    rw [py_nodict x, pyL_nodict r]; rfl
end
/-! fields -/
structure FldOk (K : PySem.W.Frag) (P : Addr → Prop) (f : Str) : Prop where
  ok : ∀ C, P C → Cls K C ∧ NoAttr K C f
end
end Dw

/-! ### statements by data -/
namespace Dw
open PySem PySem.Spec PyProof.Rows L2 Fw
structure DEnds where
  nx : Ro → Nat → Prop
  rt : QD
  ro : QL := fun _ _ => False
  rk : List (Key × D) → Nat → Prop := fun _ _ => False
  bk : Ro → Nat → Prop := fun _ _ => False
  ct : Ro → Nat → Prop := fun _ _ => False
abbrev TZ := DEnds → Ro → Nat → Prop
structure Lnk (K : PySem.W.Frag) (Z : ZX) (B : Bx) (De : DEnds) (D : Ends) : Prop where
  nx : ∀ G H σ ρ n, EnvD K Z B G H σ ρ n → De.nx ρ n → D.nx σ H
  bk : ∀ G H σ ρ n, EnvD K Z B G H σ ρ n → De.bk ρ n → D.bk σ H
  ct : ∀ G H σ ρ n, EnvD K Z B G H σ ρ n → De.ct ρ n → D.ct σ H
  rt : ∀ G H n v d, De.rt d n → Ext B.F B.G B.H G H → Wd B.F G H n → Rep K B.F G v d → D.rt v H
  ro : ∀ G H n q vs ds, De.ro ds n → Ext B.F B.G B.H G H → Wd B.F G H n → B.H q = none → H q = some (.lst vs) → G q = none → RepL K B.F G vs ds → D.rt (.ref q) H
  rk : ∀ G H n q kvs es, De.rk es n → Ext B.F B.G B.H G H → Wd B.F G H n → B.H q = none → H q = some (.dK kvs) → G q = none → RepK K B.F G kvs es → D.rt (.ref q) H
def dls (K : PySem.W.Frag) (Z : ZX) (tz : TZ) : TS := fun D σ H => ∃ B G ρ n De, EnvD K Z B G H σ ρ n ∧ tz De ρ n ∧ Lnk K Z B De D
structure DS (X : Cx) (Z : ZX) (st : Stmt) (tz : TZ) : Prop where
  ps : PS X st (dls X.K Z tz)
structure DSs (X : Cx) (Z : ZX) (st : List Stmt) (tz : TZ) : Prop where
  pss : PSs X st (dls X.K Z tz)
section
variable {X : Cx} {Z : ZX} {st : Stmt} {sts : List Stmt} {rest : List Stmt} {tz tu : TZ} {e : Expr} {td : TD} {tl : TL} {pos : Pos}
theorem ps_imp {t t' : TS} (h : PS X st t) (i : ∀ D σ H, t' D σ H → t D σ H) : PS X st t' := ⟨fun pins s σ H D I q => h.run pins s σ H D I (i D σ H q)⟩
theorem pss_imp {t t' : TS} (h : PSs X sts t) (i : ∀ D σ H, t' D σ H → t D σ H) : PSs X sts t' := ⟨fun pins s σ H D I q => h.run pins s σ H D I (i D σ H q)⟩
theorem DSs.nox (h : DSs X.nox Z sts tz) : DSs X Z sts tz := ⟨h.pss.nox⟩
def dNext : TZ := fun De ρ n => De.nx ρ n
def dSeq (t u : TZ) : TZ := fun De ρ n => t { De with nx := u De } ρ n
theorem Lnk.seq {K : PySem.W.Frag} {B : Bx} {De : DEnds} {D : Ends} {u : TZ} (l : Lnk K Z B De D) : Lnk K Z B { De with nx := u De } { D with nx := dls K Z u D } :=
  ⟨fun G H σ ρ n env h => ⟨B, G, ρ, n, De, env, h, l⟩, l.bk, l.ct, l.rt, l.ro, l.rk⟩
theorem dss_nil : DSs X Z [] dNext := ⟨pss_imp pss_nil fun D σ H ⟨B, G, ρ, n, De, env, q, l⟩ => l.nx G H σ ρ n env q⟩
theorem dss_one (h : DS X Z st tz) : DSs X Z [st] tz := ⟨pss_one h.ps⟩
theorem dss_cons (h : DS X Z st tz) (hr : DSs X Z rest tu) : DSs X Z (st :: rest) (dSeq tz tu) := ⟨pss_imp (pss_cons h.ps hr.pss) fun D σ H ⟨B, G, ρ, n, De, env, q, l⟩ => ⟨B, G, ρ, n, _, env, q, l.seq⟩⟩
/-- one goes on by what is said between -/
def dCut1 (t u : TZ) : TZ := fun De ρ n => ∃ J : Ro → Nat → Prop, t { De with nx := J } ρ n ∧ ∀ ρ' n', J ρ' n' → u De ρ' n'
theorem dss_cut (h : DS X Z st tz) (hr : DSs X Z rest tu) : DSs X Z (st :: rest) (dCut1 tz tu) := ⟨pss_imp (pss_cons h.ps hr.pss) fun D σ H ⟨B, G, ρ, n, De, env, ⟨J, q, hJ⟩, l⟩ =>
  ⟨B, G, ρ, n, { De with nx := J }, env, q, ⟨fun G H σ ρ n env h => ⟨B, G, ρ, n, De, env, hJ _ _ h, l⟩, l.bk, l.ct, l.rt, l.ro, l.rk⟩⟩⟩
/-- numbers, texts, truths, None: they keep nothing of one's own -/
def flatD : D → Bool
  | .non => true | .bl _ => true | .int _ => true | .str _ => true | _ => false
theorem Rep.flat {K : PySem.W.Frag} {F : Option Addr} {G G' : Hp} {v : V} {d : D} (r : Rep K F G v d) (h : flatD d = true) : Rep K F G' v d := by
  cases r <;> first | exact .non | exact .bl _ | exact .int _ | exact .str _ | cases h
def keepO (d : D) (ρ ρ' : Ro) : Ro := if flatD d = true then ρ else ρ'
theorem EnvD.keep {K : PySem.W.Frag} {B : Bx} {G H G1 H1 G2 : Hp} {σ : L2.St} {ρ ρ1 : Ro} {n m : Nat} {v : V} {d : D} (e : EnvD K Z B G H σ ρ n) (e1 : EnvD K Z B G1 H σ ρ1 n) (s : Same G G1) (x : Ext B.F G1 H G2 H1) (w : Wd B.F G2 H1 m) (r : Rep K B.F G2 v d) :
    ∃ G3, EnvD K Z B G3 H1 σ (keepO d ρ ρ1) m ∧ Rep K B.F G3 v d := by
  unfold keepO
  by_cases c : flatD d = true
  · rw [if_pos c]
    obtain ⟨x2, w2⟩ := back s x w fun p f => (e.w.fd p f).2
    exact ⟨G, e.ext x2 w2, r.flat c⟩
  · rw [if_neg c]
    exact ⟨G2, e1.ext x w, r⟩
/-- x = e -/
def dSet (i : Nat) (is : List Nat) (td : TD) : TZ := fun De ρ n => td (fzs is ρ) n fun d n1 => De.nx ((keepO d ρ (fzs is ρ)).set i (some (.d d))) n1
theorem ds_set {i : Nat} (is : List Nat) {x : Str} {pos' : Pos} (hN : X.N.Nodup) (hi : X.N[i]? = some x) (hx : Loc X.env.scope x) (he : DE X Z e td) (hs : swapsWith e (some (.Name x pos')) pos.line X.env = pure false := by rfl) (hf : X.fn x = true ∨ X.env.scope.names.lookup x = some .local := by first | exact .inl rfl | exact .inr rfl | assumption) :
    DS X Z (.Assign [.Name x pos'] e pos) (dSet i is td) := ⟨ps_imp (ps_set hN hi hx he.pe hs hf) fun D σ H ⟨B, G, ρ, n, De, env, q, l⟩ => by
  obtain ⟨G1, env1, s⟩ := env.freeze is
  refine ⟨B, G1, _, n, _, env1, q, fun d n1 v H1 G2 q1 x1 w1 r1 => ?_⟩
  obtain ⟨G3, e3, r3⟩ := env.keep env1 s x1 w1 r1
  exact l.nx G3 H1 _ _ n1 (e3.setD r3) q1⟩
def dRet (td : TD) : TZ := fun De ρ n => td (fzA ρ) n De.rt
theorem ds_ret (he : DE X Z e td) : DS X Z (.Return (some e) pos) (dRet td) := ⟨ps_imp (ps_ret he.pe) fun D σ H ⟨B, G, ρ, n, De, env, q, l⟩ => by
  obtain ⟨G1, env1, s⟩ := env.lend
  exact ⟨B, G1, _, n, _, env1, q, fun d n1 v H1 G2 q1 x1 w1 r1 => l.rt G2 H1 n1 v d q1 (env1.x.trans x1) w1 r1⟩⟩
theorem free0 {F : Option Addr} {G H G1 H1 : Hp} {q : Addr} (x : Ext F G H G1 H1) (h : H1 q = none) : H q = none := by
  cases z : H q with
  | none => rfl
  | some o => exact absurd h (x.kp q (by rw [z]; exact fun y => nomatch y))
def dIf (tt : TB) (t u : TZ) : TZ := fun De ρ n => tt ρ n fun b n1 => br b (t De ρ n1) (u De ρ n1)
theorem ds_if {c : Expr} {a b : List Stmt} {tt : TB} (hc : DT X Z c tt) (ha : DSs X Z a tz) (hb : DSs X Z b tu) : DS X Z (.If c a b pos) (dIf tt tz tu) := ⟨ps_imp (ps_if hc.pt ha.pss hb.pss) fun D σ H ⟨B, G, ρ, n, De, env, q, l⟩ =>
  ⟨B, G, ρ, n, _, env, q, fun c n1 H1 q1 x1 w1 => by
    cases c with
    | true =>
      replace q1 := q1.1 rfl
      exact iteT ⟨B, G, ρ, n1, De, env.ext x1 w1, q1, l⟩
    | false =>
      replace q1 := q1.2 rfl
      exact iteF ⟨B, G, ρ, n1, De, env.ext x1 w1, q1, l⟩⟩⟩
structure While (tt : TB) (tb : TZ) (De : DEnds) (ρ : Ro) (n : Nat) : Prop where
  ex : ∃ W : Nat → Ro → Nat → Prop, (∃ m, W m ρ n) ∧ ∀ m ρ n, W m ρ n → tt ρ n fun b n1 =>
  br b (tb { De with nx := fun ρ' n' => ∃ m', m' < m ∧ W m' ρ' n', ct := fun ρ' n' => ∃ m', m' < m ∧ W m' ρ' n', bk := De.nx } ρ n1) (De.nx ρ n1)
/-! what is one's own is changed -/
theorem EnvC.put {K : PySem.W.Frag} {B : Bx} {G H : Hp} {σ : L2.St} {ρ : Ro} {n : Nat} {i : Nat} {q : Addr} {vs : List V} {xs xs' : List D} (e : EnvC K B G H σ ρ n) (hi : ρ[i]? = some (some (Sl.own xs))) (hq : σ[i]? = some (some (V.ref q))) (r : RepL K B.F G vs xs') :
    EnvC K B G (upd H q (.lst vs)) σ (ρ.set i (some (.own xs'))) n := by
  refine e.change hi rfl hq (fun b hb => upd_ne fun z => hb (by simp [fpOf, z])) new_kp rfl ⟨vs, upd_same, r⟩ fun b hb => ?_
  simpa [fpOf] using hb
theorem EnvD.put {K : PySem.W.Frag} {B : Bx} {G H : Hp} {σ : L2.St} {ρ : Ro} {n : Nat} {i : Nat} {q : Addr} {vs : List V} {xs xs' : List D} (e : EnvD K Z B G H σ ρ n) (hi : ρ[i]? = some (some (Sl.own xs))) (hq : σ[i]? = some (some (V.ref q))) (r : RepL K B.F G vs xs') :
    EnvD K Z B G (upd H q (.lst vs)) σ (ρ.set i (some (.own xs'))) n := ⟨e.toEnvC.put hi hq r, e.z⟩
end
end Dw

namespace Dw
open PySem PySem.Spec PyProof.Rows L2 Fw
section
variable {X : Cx} {Z : ZX} {e a : Expr} {td ta tb tk : TD} {tl : TL} {pos : Pos}
/-! ### what is walked -/
def ItR (K : PySem.W.Frag) (F : Option Addr) (G : Hp) (J : It) (ds : List D) : Prop := ∀ G2 H2 n2, Same G G2 → Wd F G2 H2 n2 →
  (∀ (i : Nat) (d : D), ds[i]? = some d → J.go i H2 ∧ ∀ x H3, J.yld i H2 x H3 → ∃ G3, Ext F G2 H2 G3 H3 ∧ Wd F G3 H3 n2 ∧ Rep K F G3 x d) ∧ ∀ i, ds.length ≤ i → J.stop i H2
def dli (K : PySem.W.Frag) (Z : ZX) (ti : TL) : TI := fun σ H R => ∃ B G ρ n Qd, EnvD K Z B G H σ ρ n ∧ ti ρ n Qd ∧ ∀ ds n' J H' G', Qd ds n' → Ext B.F G H G' H' → Wd B.F G' H' n' → ItR K B.F G' J ds → R J H'
structure DI (X : Cx) (Z : ZX) (tg iter : Expr) (ti : TL) : Prop where
  pi : PI X tg iter (dli X.K Z ti)
variable {tg : Expr} {K : PySem.W.Frag} {F : Option Addr} {G : Hp}
theorem pi_imp {iter : Expr} {t t' : TI} (h : PI X tg iter t) (i : ∀ σ H R, t' σ H R → t σ H R) : PI X tg iter t' := ⟨fun pins s σ H R I q => h.run pins s σ H R I (i σ H R q)⟩
/-! range -/
def rngD (lo : Int) (n : Nat) : List D := (List.range n).map fun i => .int (lo + (i : Nat))
theorem rngD_len (lo : Int) (n : Nat) : (rngD lo n).length = n := by unfold rngD; simp
theorem it_range (lo : Int) (m : Nat) : ItR K F G (Itr lo m) (rngD lo m) := fun G2 H2 n2 s w => by
  refine ⟨fun i d hd => ?_, fun i hi => by rw [rngD_len] at hi; exact hi⟩
  have hlt : i < m := by
    have := (List.getElem?_eq_some_iff.mp hd).1
    rw [rngD_len] at this
    exact this
  refine ⟨hlt, fun x H3 z => ?_⟩
  obtain ⟨rfl, rfl⟩ := z
  have e : (rngD lo m)[i]? = some (.int (lo + (i : Nat))) := by
    unfold rngD
    rw [List.getElem?_map, List.getElem?_range hlt]; rfl
  rw [e] at hd
  cases hd
  exact ⟨G2, Ext.refl, w, .int _⟩
def dRng1 (tl : TL) : TL := fun ρ n Q => tl ρ n fun ds n1 => match ds with
  | [.int j] => -(2 ^ 62) ≤ j ∧ j < 2 ^ 62 ∧ Q (rngD 0 j.toNat) n1
  | _ => False
variable {b : Expr} {p : Pos}
theorem di_range1 (hm : X.mg "range" = none) (ha : DA X Z [a] tl) (hg : Gl X "range" := by rfl) (hs : starEach [a] X.env = [(false, eval a X.env)] := by rfl) : DI X Z tg (.Call (.Name "range" p) [a] [] pos) (dRng1 tl) :=
  ⟨pi_imp (pi_range1 hg hm ha.pa hs) fun σ H R ⟨B, G, ρ, n, Qd, env, q, k⟩ => ⟨B, G, ρ, n, _, env, q, fun ds n1 vs H1 G1 q1 x1 w1 r1 => by
    split at q1
    · cases r1 with | cons h r =>
      cases r; cases h
      exact ⟨_, rfl, q1.1, q1.2.1, k _ n1 _ H1 G1 q1.2.2 x1 w1 (it_range _ _)⟩
    · exact q1.elim⟩⟩
/-! enumerate, zip, reversed of lists -/
variable {elts : List Expr} {kk : Nat} {tpos : Pos} {e2 : Expr}
/-! ### targets -/
abbrev TGd := D → Ro → Nat → (Ro → Nat → Prop) → Prop
abbrev TGsd := List D → Ro → Nat → (Ro → Nat → Prop) → Prop
/-- all slots but vs are as they were -/
def Eqo (vs : List Nat) (σ σ' : L2.St) : Prop := σ'.length = σ.length ∧ ∀ j : Nat, j ∉ vs → σ'[j]? = σ[j]?
theorem Eqo.refl {vs : List Nat} {σ : L2.St} : Eqo vs σ σ := ⟨rfl, fun _ _ => rfl⟩
theorem Eqo.trans {vs us : List Nat} {σ σ1 σ2 : L2.St} (a : Eqo vs σ σ1) (b : Eqo us σ1 σ2) : Eqo (vs ++ us) σ σ2 :=
  ⟨b.1.trans a.1, fun j hj => by
    rw [List.mem_append, not_or] at hj
    rw [b.2 j hj.2, a.2 j hj.1]⟩
def dlg (K : PySem.W.Frag) (Z : ZX) (us : List Nat) (g : TGd) : TG := fun v σ H Q => ∃ B G ρ n d Qd, EnvD K Z B G H σ ρ n ∧ Rep K B.F G v d ∧ g d ρ n Qd ∧ ∀ ρ' n' σ' , Qd ρ' n' → EnvD K Z B G H σ' ρ' n' → (n' = n) → Eqo us σ σ' → Q σ' H
def dlgs (K : PySem.W.Frag) (Z : ZX) (us : List Nat) (g : TGsd) : TGs := fun vs σ H Q => ∃ B G ρ n ds Qd, EnvD K Z B G H σ ρ n ∧ RepL K B.F G vs ds ∧ g ds ρ n Qd ∧ ∀ ρ' n' σ', Qd ρ' n' → EnvD K Z B G H σ' ρ' n' → (n' = n) → Eqo us σ σ' → Q σ' H
structure DG (X : Cx) (Z : ZX) (tg : Expr) (us : List Nat) (g : TGd) : Prop where
  pg : PG X tg (dlg X.K Z us g)
structure DGs (X : Cx) (Z : ZX) (tgs : List Expr) (us : List Nat) (g : TGsd) : Prop where
  pgs : PGs X tgs (dlgs X.K Z us g)
def dgName (i : Nat) : TGd := fun d ρ n Q => Q (ρ.set i (some (.d d))) n
theorem dg_name {i : Nat} {x : Str} (hN : X.N.Nodup) (hi : X.N[i]? = some x) (hx : Loc X.env.scope x) (hf : X.fn x = true ∨ X.env.scope.names.lookup x = some .local := by first | exact .inl rfl | exact .inr rfl | assumption) : DG X Z (.Name x pos) [i] (dgName i) :=
  ⟨⟨fun pins s σ H v u Q I r ⟨B, G, ρ, n, d, Qd, env, rv, q, k⟩ => (pg_name hN hi hx hf).run pins s σ H v u Q I r (k _ n _ q (env.setD rv) rfl ⟨List.length_set .., fun j hj => List.getElem?_set_ne (fun z => hj (by simp [z]))⟩)⟩⟩
/-- a, b = e1, e2 -/
def dPar (i j : Nat) (is : List Nat) (tl : TL) : TZ := fun De ρ n => tl (fzs is ρ) n fun ds n1 => match ds with
  | [d, d'] => De.nx (((fzs is ρ).set i (some (.d d))).set j (some (.d d'))) n1
  | _ => False
theorem ds_par {i j : Nat} (is : List Nat) {x y : Str} {px py pt : Pos} {kt k2 pt2} (hc : X.calm = true) (hN : X.N.Nodup) (hi : X.N[i]? = some x) (hj : X.N[j]? = some y) (hij : i ≠ j)
    (hx : X.env.scope.names.lookup x = some .local) (hy : X.env.scope.names.lookup y = some .local) (ha : DA X Z [a, b] tl)
    (hw : swappedStores [.Tuple [.Name x px, .Name y py] kt pt] (.Tuple [a, b] k2 pt2) X.env = pure (some [x, y]))
    (hs : swapsWithSole [.Tuple [.Name x px, .Name y py] kt pt] (.Tuple [a, b] k2 pt2) pos.line X.env = pure false := by rfl) :
    DS X Z (.Assign [.Tuple [.Name x px, .Name y py] kt pt] (.Tuple [a, b] k2 pt2) pos) (dPar i j is tl) := ⟨ps_imp (ps_par hc hN hi hj hij hx hy ha.pa hw hs) fun D σ H ⟨B, G, ρ, n, De, env, q, l⟩ => by
  obtain ⟨G1, env1, s⟩ := env.freeze is
  refine ⟨B, G1, _, n, _, env1, q, fun ds n1 vs H1 G2 q1 x1 w1 r1 => ?_⟩
  split at q1
  · cases r1 with | cons h r =>
    cases r with | cons h' r =>
    cases r
    exact ⟨_, _, rfl, l.nx G2 H1 _ _ n1 (((env1.ext x1 w1).setD h).setD h') q1⟩
  · exact q1.elim⟩
/-! ### for -/
theorem EnvC.rebase {B : Bx} {G H : Hp} {σ : L2.St} {ρ : Ro} {n : Nat} (e : EnvC K B G H σ ρ n) : EnvC K ⟨B.F, G, B.H⟩ G H σ ρ n :=
  ⟨e.w, ⟨e.x.to, e.x.fd, e.x.kp, Same.refl _, fun b h _ => h⟩, e.len, e.d, fun i s o h1 h2 => by
    obtain ⟨q, k1, k2, k3⟩ := e.ow i s o h1 h2
    exact ⟨q, k1, k2, fun b hb => ⟨(k3 b hb).g, (k3 b hb).b, (k3 b hb).f, (k3 b hb).c⟩⟩, e.ap⟩
theorem EnvC.unbase {B : Bx} {G1 H1 G H : Hp} {σ : L2.St} {ρ : Ro} {n : Nat} (x : Ext B.F B.G B.H G1 H1) (e : EnvC K ⟨B.F, G1, B.H⟩ G H σ ρ n) : EnvC K B G H σ ρ n :=
  ⟨e.w, ⟨e.x.to, e.x.fd, e.x.kp, x.g.trans e.x.g, fun b h h' => e.x.gx b (x.gx b h h') h'⟩, e.len, e.d, fun i s o h1 h2 => by
    obtain ⟨q, k1, k2, k3⟩ := e.ow i s o h1 h2
    exact ⟨q, k1, k2, fun b hb => ⟨(k3 b hb).g, (k3 b hb).b, (k3 b hb).f, (k3 b hb).c⟩⟩, e.ap⟩
theorem EnvD.rebase {B : Bx} {G H : Hp} {σ : L2.St} {ρ : Ro} {n : Nat} (e : EnvD K Z B G H σ ρ n) : EnvD K Z ⟨B.F, G, B.H⟩ G H σ ρ n :=
  ⟨e.toEnvC.rebase, fun c fs dx G' H' σ' ρ' n' e' h r => e.z c fs dx G' H' σ' ρ' n' (e'.unbase e.x) h r⟩
theorem EnvD.unbase {B : Bx} {G1 H1 G H : Hp} {σ : L2.St} {ρ : Ro} {n : Nat} (x : Ext B.F B.G B.H G1 H1) (z : Zk K B Z) (e : EnvD K Z ⟨B.F, G1, B.H⟩ G H σ ρ n) : EnvD K Z B G H σ ρ n := ⟨e.toEnvC.unbase x, z⟩
theorem Lnk.rebase {B : Bx} {G1 H1 : Hp} {De : DEnds} {D : Ends} (x : Ext B.F B.G B.H G1 H1) (z : Zk K B Z) (l : Lnk K Z B De D) : Lnk K Z ⟨B.F, G1, B.H⟩ De D := by
  have up : ∀ {G H : Hp}, Ext B.F G1 B.H G H → Ext B.F B.G B.H G H := fun y => ⟨y.to, y.fd, y.kp, x.g.trans y.g, fun b h h' => y.gx b (x.gx b h h') h'⟩
  exact ⟨fun G H σ ρ n env h => l.nx G H σ ρ n (env.unbase x z) h, fun G H σ ρ n env h => l.bk G H σ ρ n (env.unbase x z) h, fun G H σ ρ n env h => l.ct G H σ ρ n (env.unbase x z) h,
    fun G H n v d h y w r => l.rt G H n v d h (up y) w r, fun G H n q vs ds h y w h0 h1 h2 r => l.ro G H n q vs ds h (up y) w h0 h1 h2 r, fun G H n q vs ds h y w h0 h1 h2 r => l.rk G H n q vs ds h (up y) w h0 h1 h2 r⟩
/-- by what holds behind i turns -/
structure Loop (g : TGd) (tb : TZ) (De : DEnds) (ds : List D) (ρ : Ro) (n : Nat) : Prop where
  ex : ∃ J : Nat → Ro → Nat → Prop, J 0 ρ n ∧
  (∀ (i : Nat) (d : D) (ρ : Ro) (n : Nat), ds[i]? = some d → J i ρ n → g d ρ n fun ρ' n' => tb { De with nx := J (i + 1), ct := J (i + 1), bk := De.nx } ρ' n') ∧ ∀ ρ n, J ds.length ρ n → De.nx ρ n
/-- turn by turn -/
def dLoop (g : TGd) (tb : TZ) (De : DEnds) : List D → Ro → Nat → Prop
  | [], ρ, n => De.nx ρ n
  | d :: r, ρ, n => g d ρ n fun ρ' n' => tb { De with nx := dLoop g tb De r, ct := dLoop g tb De r, bk := De.nx } ρ' n'
theorem Loop.all {g : TGd} {tb : TZ} {De : DEnds} {ds : List D} {ρ : Ro} {n : Nat} (h : dLoop g tb De ds ρ n) : Loop g tb De ds ρ n := by
  refine ⟨fun i => dLoop g tb De (ds.drop i), h, fun i d ρ n hd q => ?_, fun ρ n q => ?_⟩
  · have c := (List.getElem?_eq_some_iff.mp hd).1
    have e : ds[i] = d := by
      rw [List.getElem?_eq_getElem c] at hd
      exact Option.some.inj hd
    dsimp only at q
    rw [List.drop_eq_getElem_cons c, e] at q
    exact q
  · dsimp only at q
    rw [List.drop_length] at q
    exact q
def dFor (is : List Nat) (ti : TL) (g : TGd) (tb : TZ) : TZ := fun De ρ n => ti (fzs is ρ) n fun ds n1 => Loop g tb De ds (fzs is ρ) n1
theorem ds_for {iter : Expr} {body : List Stmt} {ti : TL} {g : TGd} {tz : TZ} {us : List Nat} (is : List Nat) (hp : PassesOwn (model X.prog X.w) X.A X.env X.xe) (hc : X.calm = true) (hi : DI X Z tg iter ti) (hg : DG X Z tg us g) (hb : DSs X Z body tz)
    (hs : ∀ x, foldedSetIterable iter X.env x = pure x := by intro _; rfl) : DS X Z (.For tg iter body [] pos) (dFor is ti g tz) := ⟨ps_imp (ps_for hp hc hi.pi hg.pg hb.pss hs) fun D σ H ⟨B, G, ρ, n, De, env, q, l⟩ => by
  obtain ⟨G1, env1, s⟩ := env.freeze is
  refine ⟨B, G1, _, n, _, env1, q, fun ds n1 J H1 G2 q1 x1 w1 it => ?_⟩
  obtain ⟨Jv, j0, js, jd⟩ := q1.ex
  have env2 := (env1.ext x1 w1)
  have xb := env2.x
  have l2 := l.rebase xb env.z
  refine ⟨fun i m σ H => m = ds.length - i ∧ i ≤ ds.length ∧ ∃ G ρ n, EnvD X.K Z ⟨B.F, G2, B.H⟩ G H σ ρ n ∧ Jv i ρ n, ⟨_, rfl, Nat.zero_le _, G2, _, n1, env2.rebase, j0⟩, ?_⟩
  rintro i m σ3 H3 ⟨rfl, hi, G3, ρ3, n3, env3, q3⟩
  obtain ⟨it1, it2⟩ := it G3 H3 n3 env3.x.g env3.w
  by_cases c : i < ds.length
  · have hd : ds[i]? = some ds[i] := List.getElem?_eq_getElem c
    obtain ⟨go, step⟩ := it1 i _ hd
    refine .inr ⟨go, fun σ' H' => i + 1 ≤ ds.length ∧ ∃ G ρ n, EnvD X.K Z ⟨B.F, G2, B.H⟩ G H' σ' ρ n ∧ Jv (i + 1) ρ n, fun σ' H' ⟨h1, h2⟩ => ⟨_, by omega, rfl, h1, h2⟩, fun x H' y => ?_⟩
    obtain ⟨G4, x4, w4, r4⟩ := step x H' y
    refine ⟨⟨B.F, G2, B.H⟩, G4, ρ3, n3, _, _, env3.ext x4 w4, r4, js i _ ρ3 n3 hd q3, fun ρ' n' σ' q' env' _ _ => ?_⟩
    exact ⟨_, G4, ρ', n', _, env', q', ⟨fun G H σ ρ n env h => ⟨c, G, ρ, n, env, h⟩, fun G H σ ρ n env h => l2.nx G H σ ρ n env h, fun G H σ ρ n env h => ⟨c, G, ρ, n, env, h⟩, l2.rt, l2.ro, l2.rk⟩⟩
  · have e : i = ds.length := by omega
    subst e
    exact .inl ⟨it2 _ (Nat.le_refl _), l2.nx G3 H3 σ3 ρ3 n3 env3 (jd _ _ q3)⟩⟩
/-! ### comprehensions -/
def wipeD (ρ : Ro) : List Nat → Ro
  | [] => ρ
  | v :: vs => (wipeD ρ vs).set v none
theorem EnvC.unset {B : Bx} {G H : Hp} {σ : L2.St} {ρ : Ro} {n : Nat} (e : EnvC K B G H σ ρ n) (i : Nat) : EnvC K B G H (σ.set i none) (ρ.set i none) n := by
  have e1 : ∀ (j : Nat) (y : Sl), (ρ.set i none)[j]? = some (some y) → i ≠ j ∧ ρ[j]? = some (some y) := fun j y h => by
    by_cases c : i = j
    · subst c
      rw [List.getElem?_set] at h
      simp only [if_true] at h
      split at h <;> cases h
    · rw [List.getElem?_set_ne c] at h
      exact ⟨c, h⟩
  refine ⟨e.w, e.x, by rw [List.length_set, List.length_set]; exact e.len, fun j y h => ?_, fun j s o h hs => ?_, fun j k s s' o o' q q' hjk k1 hs k2 hs' => ?_⟩
  · obtain ⟨c, h'⟩ := e1 j _ h
    rw [List.getElem?_set_ne c]; exact e.d j y h'
  · obtain ⟨c, h'⟩ := e1 j _ h
    rw [List.getElem?_set_ne c]; exact e.ow j s o h' hs
  · obtain ⟨c, h1⟩ := e1 j _ k1
    obtain ⟨c', h2⟩ := e1 k _ k2
    rw [List.getElem?_set_ne c, List.getElem?_set_ne c']
    exact e.ap j k s s' o o' q q' hjk h1 hs h2 hs'
theorem EnvD.unset {B : Bx} {G H : Hp} {σ : L2.St} {ρ : Ro} {n : Nat} (e : EnvD K Z B G H σ ρ n) (i : Nat) : EnvD K Z B G H (σ.set i none) (ρ.set i none) n := ⟨e.toEnvC.unset i, e.z⟩
theorem EnvD.wipe {B : Bx} {G H : Hp} {σ : L2.St} {ρ : Ro} {n : Nat} (e : EnvD K Z B G H σ ρ n) : ∀ vs : List Nat, EnvD K Z B G H (L2.wipe σ vs) (wipeD ρ vs) n
  | [] => e
  | v :: vs => (EnvD.wipe e vs).unset v
theorem wipe_at (σ : L2.St) : ∀ (vs : List Nat) (j : Nat), (L2.wipe σ vs)[j]? = if j ∈ vs then (if j < σ.length then some none else none) else σ[j]?
  | [], j => by simp [L2.wipe]
  | v :: vs, j => by
    show ((L2.wipe σ vs).set v none)[j]? = _
    by_cases c : v = j
    · subst c
      rw [if_pos (by simp), List.getElem?_set]
      simp only [if_true]
      rw [wipe_length]
    · rw [List.getElem?_set_ne c, wipe_at σ vs j]
      have : (j ∈ v :: vs) ↔ j ∈ vs := by simp [Ne.symm c]
      simp only [this]
theorem wipe_eqo {us vs : List Nat} {σ σ' : L2.St} (h : Eqo us (L2.wipe σ vs) σ') (hu : ∀ j ∈ us, j ∈ vs) : L2.wipe σ' vs = L2.wipe σ vs := by
  apply List.ext_getElem?
  intro j
  have hl : σ'.length = σ.length := by rw [h.1, wipe_length]
  rw [wipe_at, wipe_at, hl]
  by_cases c : j ∈ vs
  · rw [if_pos c, if_pos c]
  · rw [if_neg c, if_neg c, h.2 j (fun z => c (hu j z)), wipe_at, if_neg c]
structure DTs (X : Cx) (Z : ZX) (ifs : List Expr) (tt : TB) : Prop where
  pts : PTs X ifs (dlt X.K Z tt)
def dYes : TB := fun _ n Q => Q true n
theorem dts_nil : DTs X Z [] dYes := ⟨⟨fun pins s σ H Q I ⟨B, G, ρ, n, Qd, env, q, k⟩ => pts_nil.run pins s σ H Q I (k true n H q Ext.refl env.w)⟩⟩
/-- what is made, by what holds behind i turns -/
structure Comp (g : TGd) (tt : TB) (te : TD) (ds : List D) (ρ : Ro) (n : Nat) (Q : QL) : Prop where
  ex : ∃ J : Nat → List D → Nat → Prop, J 0 [] n ∧
  (∀ (i : Nat) (d : D) (acc : List D) (n : Nat), ds[i]? = some d → J i acc n → g d ρ n fun ρ' n' => tt ρ' n' fun b n2 => br b (te ρ' n2 fun y n3 => J (i + 1) (acc ++ [y]) n3) (J (i + 1) acc n2)) ∧ ∀ acc n, J ds.length acc n → Q acc n
def dLc (ti : TL) (g : TGd) (tt : TB) (te : TD) (vs : List Nat) : TL := fun ρ n Q => ti ρ n fun ds n1 => ds.length ≤ sizeLine ∧ Comp g tt te ds (wipeD ρ vs) n1 Q
theorem dlo_lc {ti : TL} {g : TGd} {tt : TB} {te : TD} {us vs : List Nat} (hu : ∀ j ∈ us, j ∈ vs) {σ : L2.St} {H : Hp} {Q : VK} (h : dlo K Z (dLc ti g tt te vs) σ H Q) : tLc (dli K Z ti) (dlg K Z us g) (dlt K Z tt) (dl K Z te) vs σ H Q := by
  obtain ⟨B, G, ρ, n, Qd, env, q, k⟩ := h
  refine ⟨B, G, ρ, n, _, env, q, fun ds n1 J H1 G1 q1 x1 w1 it D hD => ?_⟩
  obtain ⟨hz, ⟨Jv, j0, js, jd⟩⟩ := q1
  have hD0 : H D = none := free0 x1 hD
  have hG1 : G1 D = none := w1.free hD
  refine ⟨fun i m H2 => m = ds.length - i ∧ i ≤ ds.length ∧ ∃ G2 n2 us acc, Ext B.F G1 H1 G2 H2 ∧ Wd B.F G2 H2 n2 ∧ H2 D = some (.lst us) ∧ G2 D = none ∧ RepL K B.F G2 us acc ∧ acc.length ≤ i ∧ Jv i acc n2,
    ⟨_, rfl, Nat.zero_le _, G1, n1, [], [], Ext.new hD, w1.new hD, upd_same, hG1, .nil, Nat.le_refl _, j0⟩, ?_⟩
  rintro i m H2 ⟨rfl, hi, G2, n2, vs2, acc, x2, w2, hD2, hG2, r2, hl, j2⟩
  obtain ⟨it1, it2⟩ := it G2 H2 n2 x2.g w2
  by_cases c : i < ds.length
  · have hd : ds[i]? = some ds[i] := List.getElem?_eq_getElem c
    obtain ⟨go, step⟩ := it1 i _ hd
    refine .inr ⟨go, fun H3 => i + 1 ≤ ds.length ∧ ∃ G3 n3 us acc, Ext B.F G1 H1 G3 H3 ∧ Wd B.F G3 H3 n3 ∧ H3 D = some (.lst us) ∧ G3 D = none ∧ RepL K B.F G3 us acc ∧ acc.length ≤ i + 1 ∧ Jv (i + 1) acc n3, fun H3 ⟨h1, h2⟩ => ⟨_, by omega, rfl, h1, h2⟩, fun x H3 y => ?_⟩
    obtain ⟨G3, x3, w3, r3⟩ := step x H3 y
    have env3 := ((env.ext x1 w1).ext x2 w2).ext x3 w3
    have ne : ∀ {G3 H3 n3}, Wd B.F G3 H3 n3 → H3 D = some (.lst vs2) → B.F ≠ some D := fun w h => w.notfd h
    have keep : ∀ {G4 H4 : Hp}, Ext B.F G2 H2 G4 H4 → H4 D = some (.lst vs2) ∧ G4 D = none := fun x4 => ⟨x4.to _ _ hD2 (ne w2 hD2) (by (first | assumption | exact fun _ z => nomatch z | (intro ps z; cases z))), x4.gx _ hG2 (by rw [hD2]; exact fun z => nomatch z)⟩
    refine ⟨B, G3, _, n2, _, _, env3.wipe vs, r3, js i _ acc n2 hd j2, fun ρ4 n4 σ4 q4 env4 e4 o4 => ⟨wipe_eqo o4 hu, ?_⟩⟩
    refine ⟨B, G3, ρ4, n4, _, env4, q4, fun b n5 H5 q5 x5 w5 => ?_⟩
    cases b with
    | true =>
      replace q5 := q5.1 rfl
      refine iteT ⟨B, G3, ρ4, n5, _, env4.ext x5 w5, q5, fun dy n6 v H6 G6 q6 x6 w6 r6 => ?_⟩
      have xx := (x3.trans x5).trans x6
      obtain ⟨k1, k2⟩ := keep xx
      have hne : D ≠ D → False := fun z => z rfl
      have up : ∀ b u, H6 b = some u → b ≠ D → upd H6 D (.lst (vs2 ++ [v])) b = some u := fun b u h hn => by rw [upd_ne hn]; exact h
      have fdH : ∀ p c a l, B.F = some p → H6 p = some (.dK (fdK c a l)) → upd H6 D (.lst (vs2 ++ [v])) p = some (.dK (fdK c a l)) := fun p c a l f h => up p _ h (ne_of h k1 (by intro z; cases z))
      have cne : ∀ p c a l, B.F = some p → H6 p = some (.dK (fdK c a l)) → c ≠ D := fun p c a l f h => Ne.symm (env.cells (x1.trans (x2.trans xx)) hD0 p c a l f h)
      refine ⟨vs2, k1, by rw [r2.length]; omega, c, G6, n6, _, _, ?_, ?_, upd_same, k2, (r2.mono xx.g).append (.cons r6 .nil), by rw [List.length_append]; exact Nat.add_le_add hl (Nat.le_refl 1), q6⟩
      · have y := x2.trans xx
        exact ⟨fun b u h f t => up b u (y.to b u h f t) (ne_of_none h hD), fun p c a l f h => by
          obtain ⟨a', l', z⟩ := y.fd p c a l f h
          exact ⟨a', l', fdH p c a' l' f z⟩, fun b h => new_kp b (y.kp b h), y.g, y.gx⟩
      · refine ⟨fun b u h => up b u (w6.sub b u h) (ne_of_none h k2), fun p f => ?_, w6.tb.put0 k1 (by (first | assumption | exact Dw.nto_l | exact Dw.nto_k | exact Dw.nto_i | exact Dw.nto_f | exact Dw.nto_t | exact Dw.nto_n)) _⟩
        obtain ⟨⟨c', ns, a, l, g1, g2, g3⟩, g4⟩ := w6.fd p f
        exact ⟨⟨c', ns, a, l, fdH p c' a l f g1, up _ _ g2 (cne p c' a l f g1), g3⟩, g4⟩
    | false =>
      replace q5 := q5.2 rfl
      have xx := x3.trans x5
      obtain ⟨k1, k2⟩ := keep xx
      exact iteF ⟨c, G3, n5, vs2, acc, x2.trans xx, w5, k1, k2, r2.mono xx.g, Nat.le_succ_of_le hl, q5⟩
  · have e : i = ds.length := by omega
    subst e
    exact .inl ⟨it2 _ (Nat.le_refl _), k acc n2 D vs2 H2 G2 (jd _ _ j2) (x1.trans x2) w2 hD0 hD2 hG2 r2⟩
variable {elt iter : Expr} {ifs : List Expr} {scope : Scope} {own : List (Str × Nat)} {ti : TL} {g : TGd} {tt : TB} {te : TD} {us : List Nat}
theorem do_lc (hc : X.calm = true) (hN : X.N.Nodup) (hi : DI X Z tg iter ti) (ok : BlkOk X.N X.env.scope scope own)
    (hg : ∀ (s : Shared) (H : Hp) (C : Addr) (cl : List (Str × Addr)) (fp : List Addr), DG (X.blk s H scope (compEnvC scope cl C X.env) fp) Z tg us g) (ht : ∀ (s : Shared) (H : Hp) (C : Addr) (cl : List (Str × Addr)) (fp : List Addr), DTs (X.blk s H scope (compEnvC scope cl C X.env) fp) Z ifs tt)
    (he : ∀ (s : Shared) (H : Hp) (C : Addr) (cl : List (Str × Addr)) (fp : List Addr), DE (X.blk s H scope (compEnvC scope cl C X.env) fp) Z elt te) (hu : ∀ j ∈ us, j ∈ own.map (·.2) := by decide) (hs : ∀ x, foldedSetIterable iter X.env x = pure x := by intro _; rfl) :
    DO X Z (.ListComp elt [⟨tg, iter, ifs, 0⟩] scope pos) (dLc ti g tt te (own.map (·.2))) :=
  ⟨pe_imp (pe_lc hc hN hi.pi ok (fun s H C cl fp => (hg s H C cl fp).pg) (fun s H C cl fp => (ht s H C cl fp).pts) (fun s H C cl fp => (he s H C cl fp).pe) hs) fun _ _ _ h => dlo_lc hu h⟩
/-- a comprehension whose parts are functions -/
theorem Comp.pure {ds : List D} {ρ : Ro} {n : Nat} {Q : QL} (p : D → Bool) (f : D → D)
    (h : ∀ d ∈ ds, ∀ (R : QL), ∀ acc, (p d = true → R (acc ++ [f d]) n) → (p d = false → R acc n) → g d ρ n fun ρ' n' => tt ρ' n' fun b n2 => br b (te ρ' n2 fun y n3 => R (acc ++ [y]) n3) (R acc n2))
    (q : Q ((ds.filter p).map f) n) : Comp g tt te ds ρ n Q := by
  refine ⟨fun i acc m => m = n ∧ acc = ((ds.take i).filter p).map f, ⟨rfl, rfl⟩, ?_, ?_⟩
  · rintro i d acc m hd ⟨rfl, rfl⟩
    have hm : d ∈ ds := List.mem_of_getElem? hd
    have e : ds.take (i + 1) = ds.take i ++ [d] := by rw [List.take_succ, hd]; rfl
    refine h d hm (fun acc' m' => m' = m ∧ acc' = ((ds.take (i + 1)).filter p).map f) _ (fun c => ⟨rfl, ?_⟩) (fun c => ⟨rfl, ?_⟩)
    · rw [e, List.filter_append, List.filter_cons_of_pos c, List.map_append]; rfl
    · rw [e, List.filter_append, List.filter_cons_of_neg (by rw [c]; decide), List.map_append]; simp
  · rintro acc m ⟨rfl, rfl⟩
    rw [List.take_length]
    exact q
end
end Dw

/-! ### defs and calls by data -/
namespace Dw
open PySem PySem.Spec PyProof.Rows L2 Fw
def Gd (g : Bool) (A : Around) : Prop := g = true → A.guards = some []
/-- FnOk; g: where no repr is under way -/
structure FnX (g : Bool) (P : Program) (w : World) (K : PySem.W.Frag) (mg : Str → Option Value) (base : Heap) (CX : CXT) (k : Nat) (f : Addr) (fd : FuncData) (ps : List Str) (sp : Sp) : Prop where
  len : ∀ vs H Q E, sp vs H Q E → vs.length = ps.length
  run : ∀ (A : Around) (outer : List PySem.Env) (s : Shared) (H : Hp) (args : Args) (us : List Value) (vs : List V) (Q : VK) (E : XK), Gd g A → Room k A → Env0 P w K mg base A outer s H →
    BindsTo s fd args (ps.zip us) → Vals vs us → sp vs H Q E → codeAny (model P w) A (.call (.ref f) args) (CR CX outer P w H s Q E) s
section
variable {g : Bool} {P : Program} {w : World} {K : PySem.W.Frag} {mg : Str → Option Value} {base : Heap} {CX : CXT} {k : Nat} {f : Addr} {fd : FuncData} {ps : List Str} {sp : Sp}
theorem FnX.of (F : FnOk P w K mg base CX k f fd ps sp) : FnX g P w K mg base CX k f fd ps sp := ⟨F.len, fun A outer s H args us vs Q E _ => F.run A outer s H args us vs Q E⟩
theorem FnX.ok (F : FnX false P w K mg base CX k f fd ps sp) : FnOk P w K mg base CX k f fd ps sp := ⟨F.len, fun A outer s H args us vs Q E => F.run A outer s H args us vs Q E (fun z => nomatch z)⟩
theorem FnX.toG (F : FnX true P w K mg base CX k f fd ps sp) : FnG P w K mg base CX k f fd ps sp := ⟨F.len, fun A outer s H args us vs Q E h => F.run A outer s H args us vs Q E (fun _ => h)⟩
theorem FnX.mono {j : Nat} (F : FnX g P w K mg base CX j f fd ps sp) (h : j ≤ k) : FnX g P w K mg base CX k f fd ps sp :=
  ⟨F.len, fun A outer s H args us vs Q E g hr => F.run A outer s H args us vs Q E g (hr.mono h)⟩
theorem FnX.imp {sp' : Sp} (F : FnX g P w K mg base CX k f fd ps sp) (h : ∀ vs H Q E, sp' vs H Q E → sp vs H Q E) : FnX g P w K mg base CX k f fd ps sp' :=
  ⟨fun vs H Q E q => F.len vs H Q E (h _ _ _ _ q), fun A outer s H args us vs Q E hg hr he hb hv hs => F.run A outer s H args us vs Q E hg hr he hb hv (h _ _ _ _ hs)⟩
theorem fnX {x qual : Str} {params : Arguments} {body : List Stmt} {scope : Scope} {dvs : List V} {kws : List (Str × V)} {N : List Str} (F : FunD K x qual params body scope dvs kws f fd) (S : FnScope N ps scope)
    (len : ∀ vs H Q E, sp vs H Q E → vs.length = ps.length)
    (hb : ∀ (cdv : Value) (A : Around) (outer : List PySem.Env) (s : Shared) (H : Hp) (vs : List V) (Q : VK) (E : XK), Gd g A → Room k (A.deeper (envOfC qual scope s.heap.objs.size f cdv)) → sp vs H Q E →
      ∃ t, PSs (cxOf CX P w K mg base N qual scope f cdv A outer s H E) body t ∧ t { nx := fun _ H' => Q .non H', rt := Q } (start N vs) H) : FnX g P w K mg base CX (k + 1) f fd ps sp := by
  obtain ⟨oc, od, dV, kV, doc, pm, an, cdv, ct, osl, rfl, lk, hcd, _, _⟩ := F.ex
  refine ⟨len, ?_⟩
  intro A outer s H args us vs Q E hg hr e0 bt rv hsp
  have stay : ∀ b o, base.get? b = some o → s.heap.get? b = some o := fun b o e => (e0.bs b o e).1
  have KX : K.In s.heap := e0.mod.kin.keeps stay
  have lim : s.heap.NoLimit := e0.mod.nolimit.keeps stay
  refine codeAny_call_function hr.depth (KX _ _ lk) rfl S.co S.gen rfl (PySem.W.codeRec_of KX hcd) (bt _ _ _ _ ?_)
  refine wpAny_newFunctionEnv_cells S.kind (fun y hy => ?_) fun env he s1 ic => ?_
  · rcases S.par y.1 (List.of_mem_zip hy).1 with q | q
    · exact Or.inl q
    · exact Or.inr ⟨q, PySem.W.cellsFrom_some _ _ _ (Or.inl q)⟩
  subst he
  refine ⟨lim.keeps ic.toInCall.keep, codeAny_func ?_⟩
  obtain ⟨t, ht, hq⟩ := hb cdv A outer s H vs Q E hg (hr.deeper _) hsp
  have J := inv_start (CX := CX) (N := N) (qual := qual) (f := f) (cd := cdv) (E := E) S hr.hd e0 (len _ _ _ _ hsp) rv ic
  refine wpAny_mono (ht.run [] s1 (start N vs) H _ J hq) (fun fl s' z => ?_) fun _ _ z => z
  cases fl with
  | ret u =>
    obtain ⟨v, _, H', J', r', q'⟩ := z
    exact ⟨v, H', J'.os, J'.bare, J'.base, J'.hok, r', q'⟩
  | next =>
    obtain ⟨_, H', J', q'⟩ := z
    exact ⟨.non, H', J'.os, J'.bare, J'.base, J'.hok, rfl, q'⟩
  | brk =>
    obtain ⟨_, _, _, q'⟩ := z
    exact q'.elim
  | cont =>
    obtain ⟨_, _, _, q'⟩ := z
    exact q'.elim
end
abbrev XD := Value → List (Str × D) → Nat → Prop
abbrev SpD := List D → Nat → QD → XD → Prop
abbrev SpO := List D → Nat → QL → XD → Prop
def KX (K : PySem.W.Frag) (F : Option Addr) (G H : Hp) (Ed : XD) (E : XK) : Prop := ∀ c fs n' dx H' G', Ed c fs n' → Ext F G H G' H' → Wd F G' H' n' → XR K F G' dx fs → E c dx H'
/-- a promise by data -/
def liftSp (K : PySem.W.Frag) (spd : SpD) : Sp := fun vs H Q E => ∃ F G n ds Qd Ed, Wd F G H n ∧ RepL K F G vs ds ∧ spd ds n Qd Ed ∧ KD K F G H Qd Q ∧ KX K F G H Ed E
/-- .. of a list made new -/
def liftSpO (K : PySem.W.Frag) (spd : SpO) : Sp := fun vs H Q E => ∃ F G n ds Qd Ed, Wd F G H n ∧ RepL K F G vs ds ∧ spd ds n Qd Ed ∧ KO K F G H Qd Q ∧ KX K F G H Ed E
def startD (N : List Str) (ds : List D) : Ro := ds.map (fun d => some (Sl.d d)) ++ List.replicate (N.length - ds.length) none
def zOf (E : XK) (Ed : XD) : ZX := ⟨fun c dx _ H => E c dx H, fun c fs _ n => Ed c fs n⟩
theorem start_env {K : PySem.W.Frag} {F : Option Addr} {G H : Hp} {n : Nat} {vs : List V} {ds : List D} {E : XK} {Ed : XD} (N : List Str) (w : Wd F G H n) (r : RepL K F G vs ds) (k : KX K F G H Ed E) : EnvD K (zOf E Ed) ⟨F, G, H⟩ G H (start N vs) (startD N ds) n := by
  have at_ : ∀ (i : Nat) (y : Sl), (startD N ds)[i]? = some (some y) → ∃ x, ds[i]? = some x ∧ y = .d x := fun i y h => by
    unfold startD at h
    by_cases c : i < ds.length
    · rw [List.getElem?_append_left (by rw [List.length_map]; exact c), List.getElem?_map, List.getElem?_eq_getElem c] at h
      exact ⟨ds[i], List.getElem?_eq_getElem c, by cases h; rfl⟩
    · rw [List.getElem?_append_right (by rw [List.length_map]; omega), List.getElem?_replicate] at h
      split at h <;> cases h
  refine ⟨⟨w, Ext.refl, ?_, fun i x h => ?_, fun i s o h hs => ?_, fun i j s s' o o' q q' _ h hs => ?_⟩, fun c fs dx G' H' σ ρ n' e h r => k c fs n' dx H' G' h e.x e.w r⟩
  · unfold L2.start startD
    rw [List.length_append, List.length_append, List.length_map, List.length_map, List.length_replicate, List.length_replicate, r.length]
  · obtain ⟨x', h1, h2⟩ := at_ i _ h
    cases h2
    obtain ⟨v, e1, e2⟩ := r.get h1
    refine ⟨v, ?_, e2⟩
    unfold L2.start
    have c : i < vs.length := (List.getElem?_eq_some_iff.mp e1).1
    rw [List.getElem?_append_left (by rw [List.length_map]; exact c), List.getElem?_map, e1]; rfl
  · obtain ⟨x', h1, h2⟩ := at_ i _ h
    subst h2
    cases hs
  · obtain ⟨x', h1, h2⟩ := at_ i _ h
    subst h2
    cases hs
section
variable {g : Bool} {P : Program} {w : World} {K : PySem.W.Frag} {mg : Str → Option Value} {base : Heap} {CX : CXT} {k : Nat} {f : Addr} {fd : FuncData} {ps N : List Str} {spd : SpD} {spo : SpO}
  {x qual : Str} {params : Arguments} {body : List Stmt} {scope : Scope} {dvs : List V} {kws : List (Str × V)}
theorem fnD (F : FunD K x qual params body scope dvs kws f fd) (S : FnScope N ps scope) (len : ∀ ds n Qd Ed, spd ds n Qd Ed → ds.length = ps.length)
    (hb : ∀ (cdv : Value) (A : Around) (outer : List PySem.Env) (s : Shared) (H : Hp) (E : XK) (Ed : XD), Gd g A → Room k (A.deeper (envOfC qual scope s.heap.objs.size f cdv)) →
      ∃ tz, DSs (cxOf CX P w K mg base N qual scope f cdv A outer s H E) (zOf E Ed) body tz ∧ ∀ ds n Qd, spd ds n Qd Ed → tz { nx := fun _ n' => Qd .non n', rt := Qd } (startD N ds) n) :
    FnX g P w K mg base CX (k + 1) f fd ps (liftSp K spd) := by
  refine fnX F S (fun vs H Q E h => ?_) fun cdv A outer s H vs Q E hg hr h => ?_
  · obtain ⟨F, G, n, ds, Qd, Ed, w, r, q, _⟩ := h
    rw [r.length]; exact len ds n Qd Ed q
  · obtain ⟨F', G, n, ds, Qd, Ed, w, r, q, kd, kx⟩ := h
    obtain ⟨tz, h1, h2⟩ := hb cdv A outer s H E Ed hg hr
    refine ⟨_, h1.pss, ⟨F', G, H⟩, G, _, n, _, start_env N w r kx, h2 ds n Qd q, ⟨fun G' H' σ ρ n' env h => kd .non n' .non H' G' h env.x env.w .non, fun _ _ _ _ _ _ h => h.elim, fun _ _ _ _ _ _ h => h.elim, fun G' H' n' v d h x w r => kd d n' v H' G' h x w r, fun _ _ _ _ _ _ h => h.elim, fun _ _ _ _ _ _ h => h.elim⟩⟩
end
/-! ### calls -/
structure DK (X : Cx) (Z : ZX) (kws : List Keyword) (td : TL) : Prop where
  pk : PK X kws (dla X.K Z td)
section
variable {X : Cx} {Z : ZX} {e : Expr} {es : List Expr} {kws : List Keyword} {ta : TD} {tl tk : TL} {pos kpos : Pos} {nm : Option Str}
theorem pk_imp {t t' : TA} (h : PK X kws t) (i : ∀ σ H Q, t' σ H Q → t σ H Q) : PK X kws t' := ⟨fun pos pins s σ H Q I q => h.run pos pins s σ H Q I (i σ H Q q)⟩
theorem dk_nil : DK X Z [] dNil := ⟨pk_imp pk_nil fun σ H Q ⟨B, G, ρ, n, Qd, env, q, k⟩ => k [] n [] H G q Ext.refl env.w .nil⟩
theorem dk_cons (ha : DE X Z e ta) (hr : DK X Z kws tl) : DK X Z (⟨nm, e, kpos⟩ :: kws) (dCons ta tl) := ⟨pk_imp (pk_cons ha.pe hr.pk) fun σ H Q ⟨B, G, ρ, n, Qd, env, q, k⟩ => by
  refine ⟨B, G, ρ, n, _, env, q, fun dx n1 v H1 G1 q1 x1 w1 r1 => ?_⟩
  refine ⟨B, G1, ρ, n1, _, env.ext x1 w1, q1, fun ds n2 vs H2 G2 q2 x2 w2 r2 => ?_⟩
  exact k (dx :: ds) n2 (v :: vs) H2 G2 q2 (x1.trans x2) w2 (.cons (r1.mono x2.g) r2)⟩
end
/-- what is called by the module's name x with n values and the keywords ks -/
structure Cal (X : Cx) (Z : ZX) (x : Str) (n : Nat) (ks : List Str) (sd : List D → List D → Nat → Ro → QD → Prop) : Prop where
  ex : ∃ a : Addr, X.mg x = some (.ref a) ∧ PySem.W.keepIn X.K (.ref a) = true ∧ ∀ (pins : List (Addr × Obj)) (s : Shared) (σ : L2.St) (H : Hp) (us ws : List Value) (vs zs : List V) (Q : VK) B G ρ m ds es Qd, Inv X pins σ H s → Vals vs us → Vals zs ws → vs.length = n → zs.length = ks.length →
    EnvD X.K Z B G H σ ρ m → RepL X.K B.F G vs ds → RepL X.K B.F G zs es → sd ds es m ρ Qd → KD X.K B.F G H Qd Q → wpAny (model X.prog X.w) X.A (call (.ref a) us (ks.zip ws)) (EP X pins σ Q) X.xe s
structure CalO (X : Cx) (Z : ZX) (x : Str) (n : Nat) (ks : List Str) (sd : List D → List D → Nat → Ro → QL → Prop) : Prop where
  ex : ∃ a : Addr, X.mg x = some (.ref a) ∧ PySem.W.keepIn X.K (.ref a) = true ∧ ∀ (pins : List (Addr × Obj)) (s : Shared) (σ : L2.St) (H : Hp) (us ws : List Value) (vs zs : List V) (Q : VK) B G ρ m ds es Qd, Inv X pins σ H s → Vals vs us → Vals zs ws → vs.length = n → zs.length = ks.length →
    EnvD X.K Z B G H σ ρ m → RepL X.K B.F G vs ds → RepL X.K B.F G zs es → sd ds es m ρ Qd → KO X.K B.F G H Qd Q → wpAny (model X.prog X.w) X.A (call (.ref a) us (ks.zip ws)) (EP X pins σ Q) X.xe s
def dCall {α : Type} (n m : Nat) (sd : List D → List D → Nat → Ro → (α → Nat → Prop) → Prop) (tl tk : TL) : Ro → Nat → (α → Nat → Prop) → Prop := fun ρ k Q => tl ρ k fun ds n1 => tk ρ n1 fun es n2 => ds.length = n ∧ es.length = m ∧ sd ds es n2 ρ Q
section
variable {X : Cx} {Z : ZX} {x : Str} {n : Nat} {ks : List Str} {sd : List D → List D → Nat → Ro → QD → Prop} {so : List D → List D → Nat → Ro → QL → Prop} {e : Expr} {es : List Expr} {kws : List Keyword} {tl tk : TL} {p pos : Pos}
theorem de_call (c : Cal X Z x n [] sd) (hg : Gl X x) (ha : DA X Z (e :: es) tl) (hdb : (x == ("__debug__" : Str)) = false := by decide) (he : starEach (e :: es) X.env = (false, eval e X.env) :: starEach es X.env := by rfl)
    (hpl : (backTo pos (starEach es X.env)).any (·.1) = false := by rfl) : DE X Z (.Call (.Name x p) (e :: es) [] pos) (dCall n 0 sd tl dNil) := by
  obtain ⟨a, hm, hk, run⟩ := c.ex
  refine ⟨⟨fun pins s σ H Q I ⟨B, G, ρ, m, Qd, env, q, k⟩ => wpAny_Call_Name_kw (ld_glob I hg hm ?_ hdb)⟩⟩
  refine PySem.W.callWith_K (h₀ := X.base) I.ok.mod.kin hk (thn (ha.pa.run pos pins s σ H (fun vs H1 => ∃ n1 ds G1, (ds.length = n ∧ ([] : List D).length = 0 ∧ sd ds [] n1 ρ Qd) ∧ Ext B.F G H G1 H1 ∧ Wd B.F G1 H1 n1 ∧ RepL X.K B.F G1 vs ds) I ⟨B, G, ρ, m, _, env, q, fun ds n1 vs H1 G1 q1 x1 w1 r1 => by
    have q2 : ds.length = n ∧ ([] : List D).length = 0 ∧ sd ds [] n1 ρ Qd := q1
    exact ⟨n1, ds, G1, q2, x1, w1, r1⟩⟩) fun us s1 z => ?_) he hpl
  obtain ⟨vs, H1, I1, r, n1, ds, G1, ⟨l1, _, q1⟩, x1, w1, r1⟩ := z
  exact ⟨I1.kIn, run pins s1 σ H1 us [] vs [] Q B G1 ρ n1 ds [] Qd I1 r .nil (by rw [r1.length]; exact l1) rfl (env.ext x1 w1) r1 .nil q1 (k.trans x1)⟩
theorem de_call0 (c : Cal X Z x 0 [] sd) (hg : Gl X x) (hdb : (x == ("__debug__" : Str)) = false := by decide) : DE X Z (.Call (.Name x p) [] [] pos) (dCall 0 0 sd dNil dNil) := by
  obtain ⟨a, hm, hk, run⟩ := c.ex
  refine ⟨⟨fun pins s σ H Q I ⟨B, G, ρ, m, Qd, env, q, k⟩ => wpAny_Call_Name_kw (ld_glob I hg hm ?_ hdb)⟩⟩
  exact PySem.W.callWith_K0 I.kIn hk (run pins s σ H [] [] [] [] Q B G ρ m [] [] Qd I .nil .nil rfl rfl env .nil .nil q.2.2 k)
end
/-- the def that the module's name x holds, called with n values and the keywords ks; gD: the arguments in the parameters' order -/
structure Fb (g : Bool) (P : Program) (w : World) (K : PySem.W.Frag) (mg : Str → Option Value) (base : Heap) (CX : CXT) (k : Nat) (x : Str) (n : Nat) (ks : List Str) (gD : List D → List D → List D) (sp : Sp) : Prop where
  ex : ∃ (f : Addr) (fd : FuncData) (ps : List Str) (g' : List Value → List Value → List Value) (gV : List V → List V → List V), FnX g P w K mg base CX k f fd ps sp ∧ mg x = some (.ref f) ∧ PySem.W.keepIn K (.ref f) = true ∧ KBn K fd ps n ks g' gV ∧
    ∀ F G vs ds zs es, vs.length = n → zs.length = ks.length → RepL K F G vs ds → RepL K F G zs es → RepL K F G (gV vs zs) (gD ds es)
def sdOf (gD : List D → List D → List D) (spd : SpD) : List D → List D → Nat → Ro → QD → Prop := fun ds es n _ Q => spd (gD ds es) n Q fun _ _ _ => False
section
variable {g : Bool} {X : Cx} {Z : ZX} {x : Str} {n k : Nat} {ks : List Str} {gD : List D → List D → List D} {spd : SpD} {spo : SpO}
theorem Fb.cal (D : Fb g X.prog X.w X.K X.mg X.base CX0 k x n ks gD (liftSp X.K spd)) (gd : Gd g X.A) (hr : Room k X.A) : Cal X Z x n ks (sdOf gD spd) := by
  obtain ⟨f, fd, ps, g', gV, F, hm, hk, hb, rel⟩ := D.ex
  refine ⟨f, hm, hk, fun pins s σ H us ws vs zs Q B G ρ m ds es Qd I r rz l1 l2 env rd re q k' => ?_⟩
  refine wpAny_call (codeAny_mono (F.run X.A X.stack s H ⟨us, ks.zip ws⟩ (g' us ws) (gV vs zs) Q E0 gd hr I.env0 (hb.to s us ws I.kIn (r.length.symm.trans l1) (rz.length.symm.trans l2)) (hb.rel r rz)
    ⟨B.F, G, m, _, Qd, _, env.w, rel _ _ _ _ _ _ l1 l2 rd re, q, k', fun _ _ _ _ _ _ h => h.elim⟩) fun r s' hq => ?_)
  rcases r with er | (_ | _ | _ | u)
  · exact hq.elim
  all_goals first | exact I.after hq | exact False.elim hq
/-- called with all its parameters' values -/
theorem fb_all {P : Program} {w : World} {K : PySem.W.Frag} {mg : Str → Option Value} {base : Heap} {CX : CXT} {f : Addr} {fd : FuncData} {ps : List Str} {sp : Sp} (F : FnX g P w K mg base CX k f fd ps sp) (hm : mg x = some (.ref f)) (hk : PySem.W.keepIn K (.ref f) = true) (hb : Binds K fd ps []) :
    Fb g P w K mg base CX k x ps.length [] (fun ds _ => ds) sp :=
  ⟨f, fd, ps, fun us _ => us, fun vs _ => vs, F, hm, hk, ⟨fun s us ws X l1 l2 => by
    have h := hb s us X (by rw [List.append_nil]; exact l1)
    rw [List.append_nil] at h
    rw [List.zip_nil_left]
    exact h, fun r1 _ => r1⟩, fun _ _ _ _ _ _ _ _ r _ => r⟩
end
end Dw

namespace Dw
open PySem PySem.Spec PyProof.Rows L2 Fw
section
variable {X : Cx} {Z : ZX} {e a b : Expr} {es : List Expr} {pos p : Pos} {ta tb td : TD} {tl : TL} {K : PySem.W.Frag}
/-! list + list, list * k, of one's own -/
/-! f'..' -/
abbrev TJ := Str → Ro → Nat → (Str → Nat → Prop) → Prop
def djCons (ta : TD) (tj : TJ) : TJ := fun acc ρ n Q => ta ρ n fun x n1 => match x with
  | .str y => (acc ++ y).length ≤ sizeLine ∧ tj (acc ++ y) ρ n1 Q
  | _ => False
structure DJ (X : Cx) (Z : ZX) (es : List Expr) (tj : TJ) : Prop where
  ex : ∃ ts : List TE, PJ X es ts ∧ ∀ (acc : Str) σ H (Q : Str → Hp → Prop) B G ρ n Qd, EnvD X.K Z B G H σ ρ n → tj acc ρ n Qd → (∀ out n' H' G', Qd out n' → Ext B.F G H G' H' → Wd B.F G' H' n' → Q out H') → tJs ts acc σ H Q
/-! sep.join(list) -/
def strsD : List D → Option (List Str)
  | [] => some []
  | .str b :: r => (strsD r).map (b :: ·)
  | _ :: _ => none
def dJoin : Str → D → Nat → QD → Prop
  | a, .lst l, n, Q => ∃ ys, strsD l = some ys ∧ (ys.map (·.length)).sum + ys.length * a.length ≤ 16777216 ∧ Q (.str (Txt.join a ys)) n
  | a, .tup l, n, Q => ∃ ys, strsD l = some ys ∧ (ys.map (·.length)).sum + ys.length * a.length ≤ 16777216 ∧ Q (.str (Txt.join a ys)) n
  | _, _, _, _ => False
variable {apos : Pos}
/-! x in y -/
theorem eqV_eqD {F : Option Addr} {G : Hp} {v u : V} {x y : D} (r : Rep K F G v x) (r' : Rep K F G u y) (h : flatD x = true) (h' : flatD y = true) : flatV v = true ∧ eqV v u = eqD x y := by
  cases r <;> cases h <;> cases r' <;> cases h' <;> exact ⟨rfl, rfl⟩
theorem any_eqD {F : Option Addr} {G : Hp} {u : V} {y : D} (r' : Rep K F G u y) (h' : flatD y = true) : ∀ {vs : List V} {l : List D}, RepL K F G vs l → l.all flatD = true → vs.all flatV = true ∧ vs.any (fun z => eqV z u) = l.any fun z => eqD z y
  | _, _, .nil, _ => ⟨rfl, rfl⟩
  | _, _, .cons h r, e => by
    rw [List.all_cons, Bool.and_eq_true] at e
    obtain ⟨a1, a2⟩ := eqV_eqD h r' e.1 h'
    obtain ⟨b1, b2⟩ := any_eqD r' h' r e.2
    rw [List.all_cons, List.any_cons, List.any_cons, a1, a2, b1, b2]
    exact ⟨rfl, rfl⟩
theorem flatV_of {F : Option Addr} {G : Hp} {v : V} {x : D} (r : Rep K F G v x) (h : flatD x = true) : flatV v = true := by
  cases r <;> cases h <;> rfl
def dInB (f : Bool → Bool) : RD2
  | .str s, .str t, n, Q => (match s.cps.toList with
    | [c] => Q (.bl (f (decide (c ∈ t.cps.toList)))) n
    | _ => False)
  | x, .lst l, n, Q => (flatD x = true ∧ l.all flatD = true ∧ Q (.bl (f (l.any fun z => eqD z x))) n) ∨ (dpt 60 x = true ∧ dpt 60 (.lst l) = true ∧ Q (.bl (f (l.any fun z => eqD z x))) n)
  | x, .tup l, n, Q => flatD x = true ∧ l.all flatD = true ∧ Q (.bl (f (l.any fun z => eqD z x))) n
  | _, _, _, _ => False
def dIn : RD2 := dInB fun b => b
def dNotin : RD2 := dInB fun b => !b
theorem pyL_any (x : D) : ∀ l : List D, ((pyL l).any fun z => PyData.eqv z x.py) = l.any fun z => eqD z x
  | [] => by rw [pyL]; rfl
  | d :: r => by rw [pyL, List.any_cons, List.any_cons, pyL_any x r]; rfl
theorem cv_in (f : Bool → Bool) : Cv2 K (fun x y H Q => (∃ (c : Nat) (z : Str), x = .str ⟨#[c]⟩ ∧ y = .str z ∧ Q (.bl (f (decide (c ∈ z.cps.toList)))) H) ∨ (∃ p xs, y = .ref p ∧ (SqL K H p xs ∨ SqT K H p xs) ∧ flatV x = true ∧ xs.all flatV = true ∧ Q (.bl (f (inV x xs))) H) ∨
    ∃ d ds, Dp K H x d ∧ Dp K H y (.list ds) ∧ SeqAt.shaped d = true ∧ SeqAt.shaped (.list ds) = true ∧ Q (.bl (f (ds.any fun z => PyData.eqv z d))) H) (dInB f) := by
  intro F G H n x y dx dy Qd Q w rx ry q k
  unfold dInB at q
  split at q
  · cases rx; cases ry
    split at q
    · rename_i s t l0 c e
      obtain ⟨⟨l⟩⟩ := s
      have e' : l = [c] := e
      subst e'
      exact .inl ⟨c, t, rfl, rfl, k.here q w (.bl _)⟩
    · exact q.elim
  · cases ry with | lst h1 r1 =>
    rcases q with ⟨h2, h3, q⟩ | ⟨h2, h3, q⟩
    · obtain ⟨a1, a2⟩ := any_eqD rx h2 r1 h3
      refine .inr (.inl ⟨_, _, rfl, .inl (SqL.of (w.sub _ _ h1)), flatV_of rx h2, a1, ?_⟩)
      unfold inV
      rw [a2]
      exact k.here q w (.bl _)
    · have hd := ((Rep.lst h1 r1).mono w.sub).dp h3
      have hs := dpt_shaped h3
      rw [D.py] at hd hs
      refine .inr (.inr ⟨_, _, (rx.mono w.sub).dp h2, hd, dpt_shaped h2, hs, ?_⟩)
      rw [pyL_any]
      exact k.here q w (.bl _)
  · cases ry with | tup h1 r1 =>
    obtain ⟨h2, h3, q⟩ := q
    obtain ⟨a1, a2⟩ := any_eqD rx h2 r1 h3
    refine .inr (.inl ⟨_, _, rfl, .inr (sqT_same w.sub h1), flatV_of rx h2, a1, ?_⟩)
    unfold inV
    rw [a2]
    exact k.here q w (.bl _)
  · exact q.elim
theorem opr_imp {f : Value → Value → Sem Value} {r r' : R2} (h : OpR X f r) (i : ∀ x y H Q, r' x y H Q → r x y H Q) : OpR X f r' := fun pins s σ H x y v u Q I rx ry q => h pins s σ H x y v u Q I rx ry (i _ _ _ _ q)
theorem op_in_all (hu : X.A.units + 65 < cLine) : OpR X (compareOp .In) (fun x y H Q => (∃ (c : Nat) (z : Str), x = .str ⟨#[c]⟩ ∧ y = .str z ∧ Q (.bl ((fun b => b) (decide (c ∈ z.cps.toList)))) H) ∨ (∃ p xs, y = .ref p ∧ (SqL X.K H p xs ∨ SqT X.K H p xs) ∧ flatV x = true ∧ xs.all flatV = true ∧ Q (.bl ((fun b => b) (inV x xs))) H) ∨
    ∃ d ds, Dp X.K H x d ∧ Dp X.K H y (.list ds) ∧ SeqAt.shaped d = true ∧ SeqAt.shaped (.list ds) = true ∧ Q (.bl ((fun b => b) (ds.any fun z => PyData.eqv z d))) H) :=
  OpR.or op_in_sign (OpR.or (opr_imp op_in_seq fun x y H Q ⟨p, xs, h1, h2, h3, h4, q⟩ => ⟨p, xs, h1, h2, h3, h4, q⟩) (op_inD hu))
theorem op_notin_all (hu : X.A.units + 65 < cLine) : OpR X (compareOp .NotIn) (fun x y H Q => (∃ (c : Nat) (z : Str), x = .str ⟨#[c]⟩ ∧ y = .str z ∧ Q (.bl ((fun b => !b) (decide (c ∈ z.cps.toList)))) H) ∨ (∃ p xs, y = .ref p ∧ (SqL X.K H p xs ∨ SqT X.K H p xs) ∧ flatV x = true ∧ xs.all flatV = true ∧ Q (.bl ((fun b => !b) (inV x xs))) H) ∨
    ∃ d ds, Dp X.K H x d ∧ Dp X.K H y (.list ds) ∧ SeqAt.shaped d = true ∧ SeqAt.shaped (.list ds) = true ∧ Q (.bl ((fun b => !b) (ds.any fun z => PyData.eqv z d))) H) :=
  OpR.or op_notIn_sign (OpR.or (opr_imp op_notIn_seq fun x y H Q ⟨p, xs, h1, h2, h3, h4, q⟩ => ⟨p, xs, h1, h2, h3, h4, q⟩) (op_notInD hu))
theorem units65 {k : Nat} {A : Around} (hr : Room k A) : A.units + 65 < cLine := by have := hr.un; omega
theorem de_in {k : Nat} (hr : Room k X.A) (ha : DE X Z a ta) (hb : DE X Z b tb) (hm : behindInMarks .In b = false := by rfl) : DE X Z (.Compare a [.In] [b] pos) (d2 dIn ta tb) := de_cmp (op_in_all (units65 hr)) (cv_in fun b => b) ha hb hm
theorem dt_in {k : Nat} (hr : Room k X.A) (ha : DE X Z a ta) (hb : DE X Z b tb) (hm : behindInMarks .In b = false := by rfl) : DT X Z (.Compare a [.In] [b] pos) (dTestB (d2 dIn ta tb)) := dt_cmp (op_in_all (units65 hr)) (cv_in fun b => b) ha hb hm
theorem dt_notin {k : Nat} (hr : Room k X.A) (ha : DE X Z a ta) (hb : DE X Z b tb) (hm : behindInMarks .NotIn b = false := by rfl) : DT X Z (.Compare a [.NotIn] [b] pos) (dTestB (d2 dNotin ta tb)) := dt_cmp (op_notin_all (units65 hr)) (cv_in fun b => !b) ha hb hm
/-! sorted -/
/-! isinstance -/
/-- what isinstance asks of an own class -/
structure IsK (K : PySem.W.Frag) (C : Addr) : Prop where
  cl : Cls K C
  ca : PySem.W.findIn K (.ref C) "__class__" = some (some (.builtin "object.__class__"))
  cn : PySem.W.specialIn K (.builtin "object.__class__") "__get__" = some (some (.builtin "getset_descriptor.__get__"))
  ct : PySem.W.takesIn K (.builtin "object.__class__") = some true
  cm : PySem.W.mroIn K C (.type "object") = some true
inductive TyD (K : PySem.W.Frag) : D → Value → Prop where
  | non : TyD K .non (.type "NoneType")
  | bl (b : Bool) : TyD K (.bl b) (.type "bool")
  | int (i : Int) : TyD K (.int i) (.type "int")
  | str (s : Str) : TyD K (.str s) (.type "str")
  | tup (l : List D) : TyD K (.tup l) (.type "tuple")
  | lst (l : List D) : TyD K (.lst l) (.type "list")
  | dct (es : List (Key × D)) : TyD K (.dct es) (.type "dict")
  | obj {C : Addr} (fs : List (Str × D)) : IsK K C → TyD K (.obj C fs) (.ref C)
theorem tyx_of {F : Option Addr} {H : Hp} {v : V} {x : D} {t : Value} (r : Rep K F H v x) (h : TyD K x t) : TyX K H v t := by
  cases h with
  | non => cases r; exact .base .non
  | bl b => cases r; exact .base (.bl b)
  | int i => cases r; exact .base (.int i)
  | str s => cases r; exact .base (.str s)
  | tup l =>
    cases r with | tup h _ =>
    rcases h with (h | ⟨o, h⟩) | ⟨o, its, n, h, hc, _⟩
    · exact .base (.tup h)
    · exact .fTuple h
    · exact .kTuple h hc
  | lst l =>
    cases r with | lst h _ =>
    exact .base (.lst h)
  | dct es =>
    cases r with | dct h _ =>
    exact .fDict h
  | obj fs I =>
    cases r with | obj h _ =>
    exact .base (.ins h I.cl I.ca I.cn I.ct I.cm)
def clsD : V → Option Value
  | .ty n => some (.type n)
  | .ref C => some (.ref C)
  | _ => none
theorem clsD_ok {c : V} {u : Value} (h : clsD c = some u) : ClsV c u := by
  cases c <;> cases h
  · exact .own _
  · exact .ty _
/-- isinstance(x, c): data, or an exception that was kept -/
def dIsi (K : PySem.W.Frag) : RDC
  | [.exc C fs, .val c], n, Q => ∃ u b, clsD c = some u ∧ ExcK K C ∧ PySem.W.kitOne K (.ref C) u = some b ∧ Q (.bl b) n
  | [x, .val c], n, Q => ∃ t u b, TyD K x t ∧ clsD c = some u ∧ PySem.W.kitOne K t u = some b ∧ Q (.bl b) n
  | _, _, _ => False
theorem cv_isi : CvC K (fun xs H Q => rIsi K xs H Q ∨ ∃ (a D : Addr) (d : Option Addr) (fs : List (Str × V)) (c : V) (cv : Value) (b : Bool), xs = [.ref a, c] ∧ Kept H a D d fs ∧ ExcK K D ∧ ClsV c cv ∧ PySem.W.kitOne K (.ref D) cv = some b ∧ Q (.bl b) H) (dIsi K) := by
  intro F G H n vs ds Qd Q w r q k
  unfold dIsi at q
  split at q
  · cases r with | cons h r => cases r with | cons h' r =>
    cases r
    cases h' with | val _ =>
    cases h with | exc h1 r1 =>
    obtain ⟨u, b, e1, e2, e3, q⟩ := q
    exact .inr ⟨_, _, _, _, _, u, b, rfl, kept_same w.sub h1, e2, clsD_ok e1, e3, k.here q w (.bl _)⟩
  · cases r with | cons h r => cases r with | cons h' r =>
    cases r
    cases h' with | val _ =>
    obtain ⟨t, u, b, e1, e2, e3, q⟩ := q
    exact .inl ⟨_, _, t, u, b, rfl, clsD_ok e2, tyx_of (h.mono w.sub) e1, e3, k.here q w (.bl _)⟩
  · exact q.elim
theorem de_isi (hm : X.mg "isinstance" = none) (ha : DA X Z (e :: es) tl) (hg : Gl X "isinstance" := by rfl) (he : starEach (e :: es) X.env = (false, eval e X.env) :: starEach es X.env := by rfl)
    (hpl : (backTo pos (starEach es X.env)).any (·.1) = false := by rfl) : DE X Z (.Call (.Name "isinstance" p) (e :: es) [] pos) (dCb (dIsi X.K) tl) := de_callB (CallR.or call_isi call_isK) cv_isi hg hm (by decide +kernel) ha (by decide) (by decide) he hpl
def clsL : List D → Option (List Value)
  | [] => some []
  | .val c :: r => match clsD c, clsL r with
    | some u, some us => some (u :: us)
    | _, _ => none
  | _ :: _ => none
/-- isinstance(x, (c1, c2, ..)), the tuple written there -/
def dIsiT (K : PySem.W.Frag) (td : TD) (tl : TL) : TD := fun ρ n Q => td ρ n fun x n1 => tl ρ n1 fun cs n2 => cs.length ≤ sizeLine ∧ ∃ us, clsL cs = some us ∧ (match x with
  | .exc C fs => ∃ b, ExcK K C ∧ PySem.W.kitAny K (.ref C) us = some b ∧ Q (.bl b) n2
  | x => ∃ t b, TyD K x t ∧ PySem.W.kitAny K t us = some b ∧ Q (.bl b) n2)
/-! e.f of an exception that was kept -/
def dKf (K : PySem.W.Frag) (f : Str) (td : TD) : TD := fun ρ n Q => td ρ n fun x n1 => match x with
  | .exc C fs => ExcK K C ∧ PySem.W.findIn K (.ref C) f = some none ∧ (match fs.lookup f with | some d => Q d n1 | none => False)
  | _ => False
theorem de_kf {f : Str} (he : DE X Z e td) (hb : attributeBase e f X.env (eval e X.env) = eval e X.env := by rfl) : DE X Z (.Attribute e f pos) (dKf X.K f td) := ⟨pe_imp (pe_kf he.pe hb) fun σ H Q ⟨B, G, ρ, n, Qd, env, q, k⟩ =>
  ⟨B, G, ρ, n, _, env, q, fun dx n1 v H1 G1 q1 x1 w1 r1 => by
    split at q1
    · obtain ⟨e1, e2, q1⟩ := q1
      split at q1
      · rename_i d h
        cases r1 with | exc h1 r =>
        obtain ⟨v, g1, g2⟩ := r.lookup h
        exact ⟨_, _, _, _, v, rfl, kept_same w1.sub h1, e1, e2, g1, (k.trans x1).here q1 w1 g2⟩
      · exact q1.elim
    · exact q1.elim⟩⟩
/-! raise -/
/-! try: .. except x as n: y = n -/
end
end Dw

/-! ### own classes by data -/
namespace Dw
open PySem PySem.Spec PyProof.Rows L2 Fw
def putD (f : Str) (v : D) : List (Str × D) → List (Str × D)
  | [] => [(f, v)]
  | (g, w) :: r => if g = f then (g, v) :: r else (g, w) :: putD f v r
theorem RepF.put {K : PySem.W.Frag} {F : Option Addr} {G : Hp} {f : Str} {v : V} {d : D} (h : Rep K F G v d) : ∀ {vs : List (Str × V)} {ds : List (Str × D)}, RepF K F G vs ds → RepF K F G (putF f v vs) (putD f d ds)
  | _, _, .nil => .cons h .nil
  | _, _, .cons (f := g) h' r => by
    show RepF K F G (if g = f then (g, v) :: _ else (g, _) :: putF f v _) (if g = f then (g, d) :: _ else (g, _) :: putD f d _)
    split
    · exact .cons h r
    · exact .cons h' (RepF.put h r)
theorem RepF.length {K : PySem.W.Frag} {F : Option Addr} {G : Hp} : ∀ {vs : List (Str × V)} {ds : List (Str × D)}, RepF K F G vs ds → vs.length = ds.length
  | _, _, .nil => rfl
  | _, _, .cons _ r => by rw [List.length_cons, List.length_cons, RepF.length r]
abbrev QF := List (Str × D) → Nat → Prop
abbrev SpI := List D → Nat → QF → XD → Prop
/-- __init__ by data -/
def spMk (K : PySem.W.Frag) (C : Addr) (ini : SpI) : Sp := fun vs H Q E => ∃ F G n ds Qd Ed a dx ws, vs = .ref a :: ws ∧ H a = some (.ins C dx []) ∧ G a = none ∧ Wd F G H n ∧ RepL K F G ws ds ∧ ini ds n Qd Ed ∧
  (∀ fs n' H' G' fvs, Qd fs n' → Ext F G H G' H' → Wd F G' H' n' → RepF K F G' fvs fs → Q .non (upd H' a (.ins C dx fvs))) ∧ KX K F G H Ed E
abbrev TW := QF → Ro → Nat → Prop
abbrev TN := QF → List (Str × D) → Ro → Nat → Prop
def zNo : ZX := ⟨fun _ _ _ _ => False, fun _ _ _ _ => False⟩
theorem zNo_ok {K : PySem.W.Frag} {B : Bx} : Zk K B zNo := fun _ _ _ _ _ _ _ _ _ h _ => h.elim
/-- ahead of the first store -/
def dlz (K : PySem.W.Frag) (Z : ZX) (C : Addr) (tw : TW) : TS := fun D σ H => ∃ B G ρ n a dx Qd, EnvD K Z B G H σ ρ n ∧ B.F ≠ some a ∧ B.H a = some (.ins C dx []) ∧ B.G a = none ∧ ρ[0]? = some (some (Sl.d (.val (.ref a)))) ∧ tw Qd ρ n ∧
  ∀ fs n' σ' H2 G2 fvs, Qd fs n' → Ext B.F B.G B.H G2 H2 → Wd B.F G2 H2 n' → RepF K B.F G2 fvs fs → D.nx σ' (upd H2 a (.ins C dx fvs))
/-- behind it: H' is the heap as it were without the stores -/
def dln (K : PySem.W.Frag) (C : Addr) (tn : TN) : TS := fun D σ H => ∃ F G ρ n fs fvs a dx Qd H', H = upd H' a (.ins C dx fvs) ∧ H' a = some (.ins C dx []) ∧ EnvC K ⟨F, G, H⟩ G H σ ρ n ∧ G a = none ∧ ρ[0]? = some (some (Sl.d (.val (.ref a)))) ∧ RepF K F G fvs fs ∧ tn Qd fs ρ n ∧
  ∀ fs n' σ' H2 G2 fvs, Qd fs n' → Ext F G H' G2 H2 → Wd F G2 H2 n' → RepF K F G2 fvs fs → D.nx σ' (upd H2 a (.ins C dx fvs))
structure DZs (X : Cx) (Z : ZX) (C : Addr) (sts : List Stmt) (tw : TW) : Prop where
  pss : PSs X sts (dlz X.K Z C tw)
structure DNs (X : Cx) (C : Addr) (sts : List Stmt) (tn : TN) : Prop where
  pss : PSs X sts (dln X.K C tn)
section
variable {X : Cx} {Z : ZX} {C : Addr} {st : Stmt} {rest sts : List Stmt} {tz : TZ} {tw : TW} {tn : TN} {e : Expr} {td : TD} {pos : Pos}
def noOwn (ρ : Ro) : Bool := ρ.all fun o => match o with
  | some s => (slO s).isNone
  | none => true
end
section
variable {P : Program} {w : World} {K : PySem.W.Frag} {mg : Str → Option Value} {base : Heap} {CX : CXT} {k : Nat} {f C : Addr} {fd : FuncData} {ps N : List Str} {ini : SpI}
  {x qual : Str} {params : Arguments} {body : List Stmt} {scope : Scope} {dvs : List V} {kws : List (Str × V)}
end
/-- the class that the module's name x holds, called with n values and the keywords ks -/
structure Mb (P : Program) (w : World) (K : PySem.W.Frag) (mg : Str → Option Value) (base : Heap) (CX : CXT) (k : Nat) (x : Str) (C : Addr) (n : Nat) (ks : List Str) (gD : List D → List D → List D) (ini : SpI) : Prop where
  ex : ∃ (f : Addr) (fd : FuncData) (ps : List Str) (g' : List Value → List Value → List Value) (gV : List V → List V → List V), FnOk P w K mg base CX k f fd ps (spMk K C ini) ∧ mg x = some (.ref C) ∧ Mk K C f ∧ KBn K fd ps (n + 1) ks g' gV ∧
    ∀ F G a vs ds zs es, vs.length = n → zs.length = ks.length → RepL K F G vs ds → RepL K F G zs es → ∃ ws, gV (V.ref a :: vs) zs = V.ref a :: ws ∧ RepL K F G ws (gD ds es)
section
variable {X : Cx} {Z : ZX} {x : Str} {n k : Nat} {C : Addr} {ks : List Str} {gD : List D → List D → List D} {ini : SpI}
def sdMk (C : Addr) (gD : List D → List D → List D) (ini : SpI) : List D → List D → Nat → Ro → QD → Prop := fun ds es n _ Q => ini (gD ds es) n (fun fs n' => Q (.obj C fs) n') fun _ _ _ => False
theorem mk_run {CX : CXT} {f : Addr} {fd : FuncData} {ps : List Str} {g' : List Value → List Value → List Value} {gV : List V → List V → List V} (F : FnOk X.prog X.w X.K X.mg X.base CX k f fd ps (spMk X.K C ini)) (M : Mk X.K C f) (hb : KBn X.K fd ps (n + 1) ks g' gV)
    (rel : ∀ F G a vs ds zs es, vs.length = n → zs.length = ks.length → RepL X.K F G vs ds → RepL X.K F G zs es → ∃ ws, gV (V.ref a :: vs) zs = V.ref a :: ws ∧ RepL X.K F G ws (gD ds es))
    {pins : List (Addr × Obj)} {s : Shared} {σ : L2.St} {H : Hp} {us ws : List Value} {vs zs : List V} {Q : VK} {B : Bx} {G : Hp} {ρ : Ro} {m : Nat} {ds es : List D} {Qd : QD} {E : XK} {Ed : XD} (hr : Room (k + 1) X.A) (I : Inv X pins σ H s) (r : Vals vs us) (rz : Vals zs ws) (l1 : vs.length = n) (l2 : zs.length = ks.length)
    (env : EnvD X.K Z B G H σ ρ m) (rd : RepL X.K B.F G vs ds) (re : RepL X.K B.F G zs es) (q : ini (gD ds es) m (fun fs n' => Qd (.obj C fs) n') Ed) (kd : KD X.K B.F G H Qd Q) (kx : ∀ (a dx : Addr), H a = none → H dx = none → dx ≠ a → KX X.K B.F G (upd (upd H dx (.own a)) a (.ins C dx [])) Ed E)
    (hx : PassesAt CX X σ E) : wpAny (model X.prog X.w) X.A (call (.ref C) us (ks.zip ws)) (EP X pins σ Q) X.xe s := by
  have f1 : H (s.heap.objs.size + 1) = none := I.hok.fresh (Nat.le_succ _)
  have f2 : H s.heap.objs.size = none := I.hok.fresh (Nat.le_refl _)
  have ne : s.heap.objs.size ≠ s.heap.objs.size + 1 := Nat.ne_of_lt (Nat.lt_succ_self _)
  have I2 := Inv.made (C := C) I
  generalize hA : s.heap.objs.size + 1 = a at *
  generalize hD : s.heap.objs.size = dx at *
  have f3 : upd H dx (.own a) a = none := by rw [upd_ne (Ne.symm ne)]; exact f1
  have x1 : Ext B.F G H G (upd (upd H dx (.own a)) a (.ins C dx [])) := (Ext.new f2).trans (Ext.new f3)
  have w1 : Wd B.F G (upd (upd H dx (.own a)) a (.ins C dx [])) m := (env.w.new f2).new f3
  obtain ⟨ws', e1, r1⟩ := rel B.F G a vs ds zs es l1 l2 rd re
  have r0 : Vals (V.ref a :: vs) (Value.ref a :: us) := .cons rfl r
  have r2 := hb.rel r0 rz
  have n1 : (Value.ref a :: us).length = n + 1 := by rw [List.length_cons, ← r.length, l1]
  have hG : G a = none := env.w.free f1
  have sp : spMk X.K C ini (gV (V.ref a :: vs) zs) (upd (upd H dx (.own a)) a (.ins C dx [])) (fun v H2 => v = .non ∧ Q (.ref a) H2) E := by
    refine ⟨B.F, G, m, gD ds es, _, Ed, a, dx, ws', e1, upd_same, hG, w1, r1, q, fun fs n' H' G' fvs h x w r => ⟨rfl, ?_⟩, kx a dx f1 f2 ne⟩
    have hF : B.F ≠ some a := fun f => by
      obtain ⟨⟨c, ns, a', l, z, _⟩, _⟩ := env.w.fd a f
      rw [f1] at z; cases z
    have ha' : H' a = some (.ins C dx []) := x.to _ _ upd_same hF (by (first | assumption | exact fun _ z => nomatch z | (intro ps z; cases z)))
    have hG' : G' a = none := x.gx a hG (by rw [upd_same]; exact fun z => nomatch z)
    have far : ∀ b, b ≠ a → upd H' a (.ins C dx fvs) b = H' b := fun b hb => upd_ne hb
    refine kd (.obj C fs) n' (.ref a) _ (upd G' a (.ins C dx fvs)) h ⟨fun b o hb f nt => ?_, fun p c a' l f hb => ?_, fun b hb => ?_, x.g.trans (new_to hG'), fun b hb hb' => ?_⟩ ⟨fun b o hb => ?_, fun p f => ?_, w.tb.put1 ha' nto_i _ _⟩ (.obj upd_same (r.mono (new_to hG')))
    · rw [far b (ne_of_none hb f1)]
      exact (x1.trans x).to b o hb f nt
    · obtain ⟨a2, l2, z⟩ := (x1.trans x).fd p c a' l f hb
      exact ⟨a2, l2, by rw [far p (ne_of_none hb f1)]; exact z⟩
    · have hb2 : b ≠ a := fun z => by subst z; exact hb f1
      rw [far b hb2]
      exact (x1.trans x).kp b hb
    · have hb2 : b ≠ a := fun z => by subst z; exact hb' f1
      rw [upd_ne hb2]
      exact (x1.trans x).gx b hb hb'
    · by_cases cc : b = a
      · subst cc; rw [upd_same] at hb ⊢; exact hb
      · rw [upd_ne cc] at hb; rw [far b cc]; exact w.sub b o hb
    · obtain ⟨⟨c, ns, a', l, k1, k2, k3⟩, k4⟩ := w.fd p f
      have e1 : p ≠ a := ne_of k1 ha' (by intro z; cases z)
      have e2 : c ≠ a := ne_of k2 ha' (by intro z; cases z)
      exact ⟨⟨c, ns, a', l, by rw [far p e1]; exact k1, by rw [far c e2]; exact k2, k3⟩, by rw [upd_ne e1]; exact k4⟩
  subst hA
  subst hD
  refine wpAny_call (make_map (f := f) I.kIn M.makes M.init (beq_iff_eq.mp M.fn) (codeAny_mono (F.run _ X.stack _ _ ⟨Value.ref (s.heap.objs.size + 1) :: us, ks.zip ws⟩ (g' (Value.ref (s.heap.objs.size + 1) :: us) ws) _ _ E (hr.make C us (ks.zip ws))
    (I2.env0.make C us (ks.zip ws)) (hb.to _ (Value.ref (s.heap.objs.size + 1) :: us) ws I2.kIn n1 (rz.length.symm.trans l2)) r2 sp) fun r s' hq' => ?_))
  cases r with
  | error e => exact hx pins _ _ e s' I2 hq'
  | ok fl =>
    cases fl with
    | ret u =>
      obtain ⟨v, H', I3, rv, ev, q3⟩ := I2.after hq'
      subst ev
      exact ⟨rv, ⟨V.ref (s.heap.objs.size + 1), H', I3, rfl, q3⟩⟩
    | next => exact False.elim hq'
    | brk => exact False.elim hq'
    | cont => exact False.elim hq'
theorem Mb.cal (D : Mb X.prog X.w X.K X.mg X.base CX0 k x C n ks gD ini) (hr : Room (k + 1) X.A) : Cal X Z x n ks (sdMk C gD ini) := by
  obtain ⟨f, fd, ps, g', gV, F, hm, M, hb, rel⟩ := D.ex
  exact ⟨C, hm, M.kp, fun pins s σ H us ws vs zs Q B G ρ m ds es Qd I r rz l1 l2 env rd re q kd => mk_run (E := E0) F M hb rel hr I r rz l1 l2 env rd re q kd (fun _ _ _ _ _ _ _ _ _ _ _ h => h.elim) (fun _ _ _ _ _ _ h => h.elim)⟩
end
end Dw

namespace Dw
open PySem PySem.Spec PyProof.Rows L2 Fw
/-- the method m of the class at C -/
structure Mt (P : Program) (w : World) (K : PySem.W.Frag) (mg : Str → Option Value) (base : Heap) (k : Nat) (m : Str) (C : Addr) (spd : SpD) : Prop where
  ex : ∃ (f : Addr) (fd : FuncData) (ps : List Str), FnOk P w K mg base CX0 k f fd ps (liftSp K spd) ∧ Cls K C ∧ Meth K C m f ∧ Binds K fd ps []
section
variable {X : Cx} {Z : ZX} {o e a b : Expr} {es : List Expr} {td ta tb : TD} {tl : TL} {k : Nat} {m : Str} {C : Addr} {spd : SpD} {apos pos : Pos} {K : PySem.W.Frag}
/-! == and != by an own __eq__ -/
structure OwnEq (P : Program) (w : World) (K : PySem.W.Frag) (mg : Str → Option Value) (base : Heap) (k : Nat) (C : Addr) (spd : SpD) : Prop where
  ex : ∃ (g : Addr) (fd : FuncData) (ps : List Str), PySem.W.findIn K (.ref C) "__eq__" = some (some (.ref g)) ∧ PySem.W.findIn K (.ref C) "__ne__" = some (some (.builtin "object.__ne__")) ∧ PySem.W.mroIn K C (.type "object") = some true ∧ PySem.W.isFn K (.ref g) = true ∧
    FnOk P w K mg base CX0 k g fd ps (liftSp K spd) ∧ Binds K fd ps []
theorem OwnEq.eq (D : OwnEq X.prog X.w X.K X.mg X.base k C spd) (hr : Room k X.A) : OpR X (compareOp .Eq) (rOwnD X.K C (liftSp X.K spd) E0) := by
  obtain ⟨g, fd, ps, h1, h2, h3, h4, F, hb⟩ := D.ex
  exact op_eqOwn h1 h4 F hb hr pass0
theorem OwnEq.ne (D : OwnEq X.prog X.w X.K X.mg X.base k C spd) (hr : Room (k + 1) X.A) : OpR X (compareOp .NotEq) (rOwnN X.K C (liftSp X.K spd) E0) := by
  obtain ⟨g, fd, ps, h1, h2, h3, h4, F, hb⟩ := D.ex
  exact op_neOwn h1 h2 h3 h4 F hb hr pass0
/-! str(x) by an own __str__ -/
structure OwnStr (P : Program) (w : World) (K : PySem.W.Frag) (mg : Str → Option Value) (base : Heap) (k : Nat) (C : Addr) (spd : SpD) : Prop where
  ex : ∃ (g : Addr) (fd : FuncData) (ps : List Str), PySem.W.findIn K (.ref C) "__str__" = some (some (.ref g)) ∧ PySem.W.isFn K (.ref g) = true ∧ FnOk P w K mg base CX0 k g fd ps (liftSp K spd) ∧ Binds K fd ps []
theorem OwnStr.call (D : OwnStr X.prog X.w X.K X.mg X.base k C spd) (hr : Room (k + 2) X.A) : CallR X (.type "str") (fun xs H Q => rStrOwn C (liftSp X.K spd) E0 xs H Q ∨ (∃ i, xs = [.int i] ∧ i.natAbs.log2 < 1920 ∧ Q (.str (toString i)) H) ∨ ∃ a, xs = [.str a] ∧ Q (.str a) H) := by
  obtain ⟨g, fd, ps, h1, h2, F, hb⟩ := D.ex
  exact CallR.or (call_strOwn h1 h2 F hb hr pass0) (CallR.or call_str_int SkE.call_str_str)
end
end Dw
namespace Dw
open PySem PySem.Spec PyProof.Rows L2 Fw
/-- no exception leaves -/
theorem DSs.nx {X : Cx} {Z : ZX} {sts : List Stmt} {tz : TZ} (h : DSs X.nox zNo sts tz) : DSs X Z sts tz := by
  refine ⟨pss_imp h.pss.nox fun D σ H ⟨B, G, ρ, n, De, env, q, l⟩ => ⟨B, G, ρ, n, De, ⟨env.toEnvC, zNo_ok⟩, q, ⟨fun G H σ ρ n e h => l.nx G H σ ρ n ⟨e.toEnvC, env.z⟩ h, fun G H σ ρ n e h => l.bk G H σ ρ n ⟨e.toEnvC, env.z⟩ h, fun G H σ ρ n e h => l.ct G H σ ρ n ⟨e.toEnvC, env.z⟩ h, l.rt, l.ro, l.rk⟩⟩⟩
end Dw

namespace Dw
open PySem PySem.Spec PyProof.Rows L2 Fw
/-! x in [..], x an object with an own __eq__, the items builtin data -/
section
open PySem.SeqAt AutoSeq1 MeetsSeq MeetsSeq2 MeetsSeq3 SeqRoads2
/-- a builtin value whose __eq__ declines what is an instance of C -/
inductive Dec (K : PySem.W.Frag) (C : Addr) (H : Hp) : V → Prop where
  | non : PySem.W.subIn K (.ref C) (.type "NoneType") = some false → Dec K C H .non
  | bl (b : Bool) : PySem.W.subIn K (.ref C) (.type "bool") = some false → Dec K C H (.bl b)
  | int (i : Int) : PySem.W.subIn K (.ref C) (.type "int") = some false → Dec K C H (.int i)
  | str (x : Str) : PySem.W.subIn K (.ref C) (.type "str") = some false → Dec K C H (.str x)
  | tup {p : Addr} {xs : List V} : SqT K H p xs → PySem.W.subIn K (.ref C) (.type "tuple") = some false → Dec K C H (.ref p)
  | lst {p : Addr} {xs : List V} : SqL K H p xs → PySem.W.subIn K (.ref C) (.type "list") = some false → Dec K C H (.ref p)
end
section
variable {X : Cx} {Z : ZX} {a b : Expr} {ta tb : TD} {k : Nat} {C : Addr} {spd : SpD} {pos : Pos} {K : PySem.W.Frag}
end
end Dw

/-! ### order of data, sorted, zip of tuples, list(text), reads of one's own -/
namespace Dw
open PySem PySem.Spec PyProof.Rows L2 Fw
section
variable {X : Cx} {Z : ZX} {e a b c : Expr} {es : List Expr} {pos p : Pos} {ta tb tc td tk : TD} {tl : TL} {K : PySem.W.Frag}
/-! sorted -/
theorem RepL.zip {F : Option Addr} {G : Hp} : ∀ {vs : List V} {l : List D}, RepL K F G vs l → (vs.zip l).map (·.1) = vs ∧ (vs.zip l).map (·.2) = l ∧ ∀ p ∈ vs.zip l, Rep K F G p.1 p.2
  | _, _, .nil => ⟨rfl, rfl, by simp⟩
  | _, _, .cons h r => by
    obtain ⟨h1, h2, h3⟩ := RepL.zip r
    refine ⟨by simp [h1], by simp [h2], fun p hp => ?_⟩
    simp only [List.zip_cons_cons, List.mem_cons] at hp
    rcases hp with rfl | hp
    · exact h
    · exact h3 p hp
theorem RepL.pairs {F : Option Addr} {G : Hp} : ∀ (ps : List (V × D)), (∀ p ∈ ps, Rep K F G p.1 p.2) → RepL K F G (ps.map (·.1)) (ps.map (·.2))
  | [], _ => .nil
  | p :: r, h => .cons (h p (by simp)) (RepL.pairs r fun q hq => h q (by simp [hq]))
/-! zip of lists, of tuples -/
variable {elts : List Expr} {kk : Nat} {tpos : Pos} {e2 : Expr}
/-! list(text) -/
/-! reads of a list of one's own -/
end
end Dw

/-! ### {elt for .. in ..}, elt a tuple of numbers; how many there are -/
namespace Dw
open PySem PySem.Spec PyProof.Rows L2 Fw
section
variable {X : Cx} {pins : List (Addr × Obj)} {σ : L2.St} {H : Hp} {s : Shared} {E : Value → Shared → Prop}
end
section
variable {X : Cx}
end
/-! by data -/
section
variable {X : Cx} {Z : ZX} {K : PySem.W.Frag}
variable {elt iter tg : Expr} {ifs : List Expr} {scope : Scope} {own : List (Str × Nat)} {ti : TL} {g : TGd} {tt : TB} {te : TD} {us : List Nat} {pos p pos2 : Pos}
end
end Dw

/-! ### dicts by data: keys are numbers and texts -/
namespace Dw
open PySem PySem.Spec PyProof.Rows L2 Fw
def keyD : D → Option Key
  | .int i => some (.inl i)
  | .str s => some (.inr s)
  | _ => none
def valD (es : List (Key × D)) (k : Key) : Option D := (es.find? fun kv => decide (kv.1 = k)).map (·.2)
def putE (es : List (Key × D)) (k : Key) (d : D) : List (Key × D) := if (es.any fun kv => decide (kv.1 = k)) = true then es.map (fun kv => if kv.1 = k then (kv.1, d) else kv) else es ++ [(k, d)]
section
variable {K : PySem.W.Frag} {F : Option Addr} {G : Hp}
theorem rep_key {v : V} {d : D} {k : Key} (h : keyD d = some k) (r : Rep K F G v d) : v = kV k := by
  cases r <;> cases h <;> rfl
theorem RepK.length : ∀ {vs : List (Key × V)} {ds : List (Key × D)}, RepK K F G vs ds → vs.length = ds.length
  | _, _, .nil => rfl
  | _, _, .cons _ r => by rw [List.length_cons, List.length_cons, RepK.length r]
theorem RepK.val {k : Key} : ∀ {vs : List (Key × V)} {ds : List (Key × D)}, RepK K F G vs ds → (valV vs k = none ∧ valD ds k = none) ∨ ∃ v d, valV vs k = some v ∧ valD ds k = some d ∧ Rep K F G v d
  | _, _, .nil => .inl ⟨rfl, rfl⟩
  | _, _, .cons (f := f) (v := v) (d := d) (vs := vs) (ds := ds) h r => by
    by_cases c : f = k
    · refine .inr ⟨v, d, ?_, ?_, h⟩
      · unfold valV; simp [c]
      · unfold valD; simp [c]
    · have e1 : valV ((f, v) :: vs) k = valV vs k := by unfold valV; simp [c]
      have e2 : valD ((f, d) :: ds) k = valD ds k := by unfold valD; simp [c]
      rw [e1, e2]
      exact RepK.val r
theorem RepK.any {k : Key} : ∀ {vs : List (Key × V)} {ds : List (Key × D)}, RepK K F G vs ds → (vs.any fun kv => decide (kv.1 = k)) = ds.any fun kv => decide (kv.1 = k)
  | _, _, .nil => rfl
  | _, _, .cons _ r => by rw [List.any_cons, List.any_cons, RepK.any r]
theorem RepK.map {k : Key} {v : V} {d : D} (h : Rep K F G v d) : ∀ {vs : List (Key × V)} {ds : List (Key × D)}, RepK K F G vs ds → RepK K F G (vs.map fun kv => if kv.1 = k then (kv.1, v) else kv) (ds.map fun kv => if kv.1 = k then (kv.1, d) else kv)
  | _, _, .nil => .nil
  | _, _, .cons (f := f) h' r => by
    rw [List.map_cons, List.map_cons]
    by_cases c : f = k
    · rw [if_pos c, if_pos c]; exact .cons h (RepK.map h r)
    · rw [if_neg c, if_neg c]; exact .cons h' (RepK.map h r)
theorem RepK.append : ∀ {vs ws : List (Key × V)} {ds es : List (Key × D)}, RepK K F G vs ds → RepK K F G ws es → RepK K F G (vs ++ ws) (ds ++ es)
  | _, _, _, _, .nil, s => s
  | _, _, _, _, .cons h r, s => .cons h (RepK.append r s)
theorem RepK.put {k : Key} {v : V} {d : D} {vs : List (Key × V)} {ds : List (Key × D)} (h : Rep K F G v d) (r : RepK K F G vs ds) : RepK K F G (putK vs k v) (putE ds k d) := by
  unfold putK putE
  rw [r.any]
  split
  · exact r.map h
  · exact r.append (.cons h .nil)
theorem RepK.get : ∀ {vs : List (Key × V)} {ds : List (Key × D)} {i : Nat} {k : Key} {d : D}, RepK K F G vs ds → ds[i]? = some (k, d) → ∃ v, vs[i]? = some (k, v) ∧ Rep K F G v d
  | _, _, _, _, _, .nil, e => by simp at e
  | _, _, 0, _, _, .cons h _, e => by
    simp at e; obtain ⟨rfl, rfl⟩ := e; exact ⟨_, rfl, h⟩
  | _, _, i + 1, k, d, .cons _ r, e => by
    obtain ⟨v, h1, h2⟩ := RepK.get (i := i) (k := k) (d := d) r (by simpa using e)
    exact ⟨v, by simpa using h1, h2⟩
end
/-- a slot that holds a dict, shared or one's own -/
def slotK (ρ : Ro) (i : Nat) : Option (List (Key × D)) := match ρ[i]? with
  | some (some (.ownK es)) => some es
  | some (some (.d (.dct es))) => some es
  | _ => none
theorem EnvC.dict {K : PySem.W.Frag} {B : Bx} {G H : Hp} {σ : L2.St} {ρ : Ro} {n i : Nat} {es : List (Key × D)} (e : EnvC K B G H σ ρ n) (h : slotK ρ i = some es) : ∃ a kvs, σ[i]? = some (some (V.ref a)) ∧ Rd H a (.dK kvs) ∧ RepK K B.F G kvs es := by
  unfold slotK at h
  split at h
  · rename_i es' hi
    cases h
    obtain ⟨q, h1, ⟨kvs, h2, h3⟩, _⟩ := e.ow i _ _ hi rfl
    exact ⟨q, kvs, h1, .inl h2, h3⟩
  · rename_i es' hi
    cases h
    obtain ⟨v, h1, h2⟩ := e.d i _ hi
    cases h2 with | dct k1 k2 =>
    exact ⟨_, _, h1, .inr ⟨_, e.w.sub _ _ k1⟩, k2⟩
  · cases h
section
variable {X : Cx} {Z : ZX} {e a b c o : Expr} {es : List Expr} {pos p apos : Pos} {ta tb tc td tk tx : TD} {tl : TL} {K : PySem.W.Frag}
/-! d[k], k in d, d.get -/
def rIxDk : R2 := fun x y H Q => ∃ a v, x = .ref a ∧ DGet H a y (some v) ∧ Q v H
theorem ix_dk (hu : X.A.units + 64 < cLine) : IxR X rIxDk := by
  intro value slice pins s σ H x y v u Q I rx ry h hs
  obtain ⟨a, w', rfl, g, q⟩ := h
  cases rx
  exact tail_any (dict_typeIs I g) slot_dict_getitem.lookup (d_getItem (by omega) I g ry fun w2 s2 I2 r2 => ⟨w', H, I2, r2, q⟩) hs
theorem IxR.or {r r' : R2} (h : IxR X r) (h' : IxR X r') : IxR X (fun x y H Q => r x y H Q ∨ r' x y H Q) := by
  intro value slice pins s σ H x y v u Q I rx ry q hs
  rcases q with q | q
  · exact h value slice pins s σ H x y v u Q I rx ry q hs
  · exact h' value slice pins s σ H x y v u Q I rx ry q hs
/-- x[k] of a list, a tuple, a text, a dict -/
def dIxA : RD2
  | .dct es, y, n, Q => (match keyD y with
    | some k => (match valD es k with | some d => Q d n | none => False)
    | none => False)
  | x, y, n, Q => dIx x y n Q
theorem cv_ixA : Cv2 K (fun x y H Q => rIxDk x y H Q ∨ rIx K x y H Q) dIxA := by
  intro F G H n x y dx dy Qd Q w rx ry q k
  unfold dIxA at q
  split at q
  · split at q
    · rename_i ky hk
      split at q
      · rename_i d hd
        cases rx with | @dct a o kvs es h1 r1 =>
        have := rep_key hk ry
        subst this
        rcases r1.val (k := ky) with ⟨_, e2⟩ | ⟨v, d', e1, e2, e3⟩
        · rw [hd] at e2; cases e2
        · rw [hd] at e2
          cases e2
          exact .inl ⟨a, v, rfl, .inl ⟨kvs, ky, .inr ⟨o, w.sub _ _ h1⟩, rfl, e1.symm⟩, k.here q w e3⟩
      · exact q.elim
    · exact q.elim
  · exact .inr (cv_ix F G H n x y _ _ Qd Q w rx ry q k)
theorem de_ixA (hu : X.A.units + 64 < cLine) (ha : DE X Z a ta) (hb : DE X Z b tb) (hs : PlainIx b := by exact fun _ _ => rfl) : DE X Z (.Subscript a b pos) (d2 dIxA ta tb) := ⟨pe_imp (pe_ix (IxR.or (ix_dk hu) ix_seq) ha.pe hb.pe hs) fun _ _ _ => dl2 cv_ixA⟩
variable {x : Str} {p1 : Pos} {i : Nat}
end
end Dw

/-! ### dicts made, changed, locked, walked -/
namespace Dw
open PySem PySem.Spec PyProof.Rows L2 Fw
abbrev QK := List (Key × D) → Nat → Prop
abbrev TK := Ro → Nat → QK → Prop
def KOK (K : PySem.W.Frag) (F : Option Addr) (G H : Hp) (Qd : QK) (Q : VK) : Prop := ∀ es n' q kvs H' G', Qd es n' → Ext F G H G' H' → Wd F G' H' n' → H q = none → H' q = some (.dK kvs) → G' q = none → RepK K F G' kvs es → Q (.ref q) H'
def dlk (K : PySem.W.Frag) (Z : ZX) (tk : TK) : TE := fun σ H Q => ∃ B G ρ n Qd, EnvD K Z B G H σ ρ n ∧ tk ρ n Qd ∧ KOK K B.F G H Qd Q
structure DOK (X : Cx) (Z : ZX) (e : Expr) (tk : TK) : Prop where
  pe : PE X e (dlk X.K Z tk)
section
variable {X : Cx} {Z : ZX} {e a b c o : Expr} {es : List Expr} {pos p apos : Pos} {ta tb tc td tx ty : TD} {tl : TL} {tk : TK} {K : PySem.W.Frag} {tz : TZ} {st : Stmt}
/-- {} -/
def dD0 : TK := fun _ n Q => Q [] n
theorem do_d0 : DOK X Z (.Dict [] [] pos) dD0 := ⟨pe_imp pe_dnewK fun σ H Q ⟨B, G, ρ, n, Qd, env, q, k⟩ p hp => k [] n p [] _ G q (Ext.new hp) (env.w.new hp) hp upd_same (env.w.free hp) .nil⟩
/-- what is made new is shared at once, and locked -/
theorem pe_lockNew {t : TE} (h : PE X e t) : PE X e (fun σ H Q => t σ H fun v H' => ∃ q u, v = .ref q ∧ H' q = some u ∧ Mut (some u) ∧ ∀ od, Q v (upd H' q (.frz od u))) := by
  refine ⟨fun pins s σ H Q I q => ?_⟩
  refine thn (h.run pins s σ H _ I q) fun v s1 ⟨x, H1, I1, r1, y, u, ex, hy, mu, q1⟩ => ?_
  subst ex
  obtain ⟨od, I2⟩ := I1.lock hy mu
  exact ⟨.ref y, _, I2, r1, q1 od⟩
def dShK (tk : TK) : TD := fun ρ n Q => tk ρ n fun es n1 => Q (.dct es) n1
theorem DOK.de (h : DOK X Z e tk) : DE X Z e (dShK tk) := ⟨pe_imp (pe_lockNew h.pe) fun σ H Q ⟨B, G, ρ, n, Qd, env, q, k⟩ =>
  ⟨B, G, ρ, n, _, env, q, fun es n1 p kvs H1 G1 q1 x1 w1 h0 h1 h2 r1 => ⟨p, _, rfl, h1, trivial, fun od => by
    have ne : B.F ≠ some p := fun f => by
      obtain ⟨⟨c, ns, a, l, g1, _⟩, _⟩ := env.w.fd p f
      rw [h0] at g1; cases g1
    refine k (.dct es) n1 _ _ (upd G1 p (.frz od (.dK kvs))) q1 ⟨fun b u hb f t => ?_, fun p' c a l f hb => ?_, fun b hb => new_kp b (x1.kp b hb), x1.g.trans (new_to h2), fun b hb hb' => ?_⟩ ⟨fun b u hb => ?_, fun p' f => ?_, w1.tb.put1 h1 nto_k _ _⟩ (.dct upd_same (r1.mono (new_to h2)))
    · rw [upd_ne (ne_of_none hb h0)]; exact x1.to b u hb f t
    · obtain ⟨a', l', z⟩ := x1.fd p' c a l f hb
      exact ⟨a', l', by rw [upd_ne (ne_of_none hb h0)]; exact z⟩
    · rw [upd_ne (fun z => hb' (by rw [z]; exact h0))]; exact x1.gx b hb hb'
    · by_cases c : b = p
      · subst c; rw [upd_same] at hb ⊢; exact hb
      · rw [upd_ne c] at hb ⊢; exact w1.sub b u hb
    · obtain ⟨⟨c, ns, a, l, g1, g2, g3⟩, g4⟩ := w1.fd p' f
      have e1 : p' ≠ p := fun z => ne (by rw [← z]; exact f)
      have e2 : c ≠ p := Ne.symm (env.cells x1 h0 p' c a l f g1)
      exact ⟨⟨c, ns, a, l, by rw [upd_ne e1]; exact g1, by rw [upd_ne e2]; exact g2, g3⟩, by rw [upd_ne e1]; exact g4⟩⟩⟩⟩
theorem EnvD.putK {B : Bx} {G H : Hp} {σ : L2.St} {ρ : Ro} {n : Nat} {i : Nat} {q : Addr} {kvs : List (Key × V)} {xs xs' : List (Key × D)} (e : EnvD K Z B G H σ ρ n) (hi : ρ[i]? = some (some (Sl.ownK xs))) (hq : σ[i]? = some (some (V.ref q))) (r : RepK K B.F G kvs xs') :
    EnvD K Z B G (upd H q (.dK kvs)) σ (ρ.set i (some (.ownK xs'))) n := by
  refine e.change hi rfl hq (fun b hb => upd_ne fun z => hb (by simp [fpOf, z])) new_kp rfl ⟨kvs, upd_same, r⟩ fun b hb => ?_
  simpa [fpOf] using hb
/-! walks -/
variable {elts : List Expr} {kk : Nat} {tpos : Pos} {tg : Expr}
/-! {k: v for ..} -/
structure CompK (g : TGd) (tt : TB) (tk te : TD) (ds : List D) (ρ : Ro) (n : Nat) (Q : QK) : Prop where
  ex : ∃ J : Nat → List (Key × D) → Nat → Prop, J 0 [] n ∧
  (∀ (i : Nat) (d : D) (acc : List (Key × D)) (n : Nat), ds[i]? = some d → J i acc n → g d ρ n fun ρ' n' => tt ρ' n' fun b n2 => br b (tk ρ' n2 fun y n3 => te ρ' n3 fun z n4 => match keyD y with | some k => J (i + 1) (putE acc k z) n4 | none => False) (J (i + 1) acc n2)) ∧ ∀ acc n, J ds.length acc n → Q acc n
variable {kx vx iter : Expr} {ifs : List Expr} {scope : Scope} {own : List (Str × Nat)} {ti : TL} {g : TGd} {tt : TB} {tky te : TD} {us : List Nat}
end
end Dw

/-! ### lists of lists of one's own -/
namespace Dw
open PySem PySem.Spec PyProof.Rows L2 Fw
abbrev QLL := List (List D) → Nat → Prop
abbrev TLL := Ro → Nat → QLL → Prop
def KOL (K : PySem.W.Frag) (F : Option Addr) (G H : Hp) (Qd : QLL) (Q : VK) : Prop := ∀ xss n' q H' G', Qd xss n' → Ext F G H G' H' → Wd F G' H' n' → (∀ b ∈ fpOf H' q (.ll xss), H b = none ∧ G' b = none) → OwnAt K F G' H' q (.ll xss) → Q (.ref q) H'
def dll (K : PySem.W.Frag) (Z : ZX) (tL : TLL) : TE := fun σ H Q => ∃ B G ρ n Qd, EnvD K Z B G H σ ρ n ∧ tL ρ n Qd ∧ KOL K B.F G H Qd Q
structure DOL (X : Cx) (Z : ZX) (e : Expr) (tL : TLL) : Prop where
  pe : PE X e (dll X.K Z tL)
section
variable {X : Cx} {Z : ZX} {K : PySem.W.Frag} {F : Option Addr} {G H G1 H1 : Hp}
theorem OwLL.length : ∀ {us : List V} {xss : List (List D)}, OwLL K F G H us xss → us.length = xss.length ∧ (refs us).length = us.length
  | _, _, .nil => ⟨rfl, rfl⟩
  | _, _, .cons h r s => by
    obtain ⟨h1, h2⟩ := OwLL.length s
    exact ⟨by simp [h1], by simp [refs, h2]⟩
variable {tg iter : Expr} {scope : Scope} {own : List (Str × Nat)} {ti : TL} {g : TGd} {us : List Nat} {pos pl : Pos}
/-! one list of them grows -/
theorem OwLL.at : ∀ {us : List V} {xss : List (List D)} {j : Nat} {xs : List D}, OwLL K F G H us xss → xss[j]? = some xs → ∃ r vs, us[j]? = some (.ref r) ∧ r ∈ refs us ∧ H r = some (.lst vs) ∧ RepL K F G vs xs
  | _, _, _, _, .nil, e => by simp at e
  | _, _, 0, _, .cons (r := r) h rp s, e => by
    simp at e; subst e
    exact ⟨r, _, rfl, by simp [refs], h, rp⟩
  | _, _, j + 1, xs, .cons h rp s, e => by
    obtain ⟨r, vs, h1, h2, h3, h4⟩ := OwLL.at (j := j) (xs := xs) s (by simpa using e)
    exact ⟨r, vs, by simpa using h1, by simp [refs, h2], h3, h4⟩
theorem refs_at : ∀ {us : List V} {xss : List (List D)} {j : Nat} {r : Addr}, OwLL K F G H us xss → us[j]? = some (.ref r) → (refs us)[j]? = some r
  | _, _, _, _, .nil, e => by simp at e
  | _, _, 0, _, .cons h rp s, e => by simp at e; subst e; rfl
  | _, _, j + 1, r, .cons h rp s, e => by simpa [refs] using refs_at (j := j) (r := r) s (by simpa using e)
theorem OwLL.put : ∀ {us : List V} {xss : List (List D)} {j : Nat} {r : Addr} {vs : List V} {xs : List D}, OwLL K F G H us xss → (refs us).Nodup → us[j]? = some (.ref r) → RepL K F G vs xs → OwLL K F G (upd H r (.lst vs)) us (xss.set j xs)
  | _, _, _, _, _, _, .nil, _, e, _ => by simp at e
  | _, _, 0, r, vs, xs, .cons (r := r') h rp s, nd, e, rs => by
    simp at e; subst e
    refine .cons upd_same rs (s.ext (Same.refl _) fun b hb => upd_ne fun z => ?_)
    simp only [refs, List.nodup_cons] at nd
    exact nd.1 (z ▸ hb)
  | _, _, j + 1, r, vs, xs, .cons (r := r') h rp s, nd, e, rs => by
    simp only [refs, List.nodup_cons] at nd
    rw [List.getElem?_cons_succ] at e
    have : r' ≠ r := fun z => by
      have m := List.mem_of_getElem? (refs_at s e)
      exact nd.1 (z ▸ m)
    exact .cons (by rw [upd_ne this]; exact h) rp (OwLL.put s nd.2 e rs)
/-- ds_app2: x[k].append(e), x a list of lists of one's own; both by a slot -/
theorem EnvC.app2 {B : Bx} {σ : L2.St} {ρ : Ro} {n i j : Nat} {q r : Addr} {us : List V} {vs : List V} {xss : List (List D)} {xs : List D} (e : EnvC K B G H σ ρ n) (hi : ρ[i]? = some (some (.ownL xss))) (hq : σ[i]? = some (some (V.ref q))) (hu : H q = some (.lst us)) (hr : us[j]? = some (.ref r)) (rs : RepL K B.F G vs xs) :
    EnvC K B G (upd H r (.lst vs)) σ (ρ.set i (some (.ownL (xss.set j xs)))) n := by
  obtain ⟨q', h1, ⟨us', h2, h3, h4⟩, h5⟩ := e.ow i _ _ hi rfl
  rw [hq] at h1
  cases h1
  rw [hu] at h2
  cases h2
  have nd := List.nodup_cons.mp h4
  have rm : r ∈ refs us := List.mem_of_getElem? (refs_at h3 hr)
  have rq : r ≠ q := fun z => nd.1 (z ▸ rm)
  have fp : fpOf H q (.ll xss) = q :: refs us := by simp only [fpOf, hu]
  have hq2 : upd H r (.lst vs) q = some (.lst us) := by rw [upd_ne (Ne.symm rq)]; exact hu
  refine e.change (s' := .ownL (xss.set j xs)) hi rfl hq (fun b hb => upd_ne fun z => hb (by rw [fp, z]; exact List.mem_cons_of_mem _ rm)) new_kp rfl ⟨us, hq2, h3.put nd.2 hr rs, h4⟩ fun b hb => ?_
  simp only [fpOf, hq2] at hb
  rw [fp]; exact hb
/-! a slot that is there only in thought -/
theorem EnvC.unsnoc {B : Bx} {σ : L2.St} {ρ : Ro} {n : Nat} {x : Option V} {y : Option Sl} (e : EnvC K B G H (σ ++ [x]) (ρ ++ [y]) n) : EnvC K B G H σ ρ n := by
  have len : σ.length = ρ.length := by simpa using e.len
  have at_ : ∀ (i : Nat) (y' : Sl), ρ[i]? = some (some y') → i < ρ.length ∧ (ρ ++ [y])[i]? = some (some y') := fun i y' h => by
    have c : i < ρ.length := (List.getElem?_eq_some_iff.mp h).1
    exact ⟨c, by rw [List.getElem?_append_left c]; exact h⟩
  have sg : ∀ i : Nat, i < ρ.length → (σ ++ [x])[i]? = σ[i]? := fun i hi => List.getElem?_append_left (by rw [len]; exact hi)
  refine ⟨e.w, e.x, len, fun i y h => ?_, fun i s o h hs => ?_, fun i j s s' o o' q q' hij h1 hs h2 hs' h3 h4 => ?_⟩
  · obtain ⟨c, h⟩ := at_ i _ h
    rw [← sg i c]; exact e.d i y h
  · obtain ⟨c, h⟩ := at_ i _ h
    rw [← sg i c]; exact e.ow i s o h hs
  · obtain ⟨c, h1⟩ := at_ i _ h1
    obtain ⟨c', h2⟩ := at_ j _ h2
    rw [← sg i c] at h3
    rw [← sg j c'] at h4
    exact e.ap i j s s' o o' q q' hij h1 hs h2 hs' h3 h4
end
end Dw

/-! ### __init__: self.f = [[] for ..]; for ..: self.f[k].append(e) -/
namespace Dw
open PySem PySem.Spec PyProof.Rows L2 Fw
section
variable {X : Cx} {Z : ZX} {K : PySem.W.Frag} {B : Bx} {G H G1 H1 : Hp} {σ : L2.St} {ρ : Ro} {n m : Nat} {q : Addr} {yss : List (List D)}
theorem noOwn_not (h : noOwn ρ = true) (i : Nat) (s : Sl) (o : OwO) (hi : ρ[i]? = some (some s)) (ho : slO s = some o) : False := by
  have := List.all_eq_true.mp h _ (List.mem_of_getElem? hi)
  simp [ho] at this
/-- a list of lists of one's own that no slot holds -/
structure Gst (K : PySem.W.Frag) (B : Bx) (G H : Hp) (σ : L2.St) (ρ : Ro) (n : Nat) (q : Addr) (yss : List (List D)) : Prop where
  env : EnvC K B G H σ ρ n
  no : noOwn ρ = true
  ow : OwnAt K B.F G H q (.ll yss)
  fr : ∀ b ∈ fpOf H q (.ll yss), Fre B G H b
theorem Gst.graft (g : Gst K B G H σ ρ n q yss) : EnvC K B G H (σ ++ [some (.ref q)]) (ρ ++ [some (.ownL yss)]) n := by
  have e := g.env
  have at_ : ∀ (i : Nat) (y : Sl), (ρ ++ [some (.ownL yss)])[i]? = some (some y) → (i < ρ.length ∧ ρ[i]? = some (some y)) ∨ (i = ρ.length ∧ y = .ownL yss) := fun i y h => by
    by_cases c : i < ρ.length
    · rw [List.getElem?_append_left c] at h; exact .inl ⟨c, h⟩
    · rw [List.getElem?_append_right (by omega)] at h
      cases z : i - ρ.length with
      | zero => rw [z] at h; exact .inr ⟨by omega, by simpa using h.symm⟩
      | succ k => rw [z] at h; simp at h
  have sg : ∀ i : Nat, i < ρ.length → (σ ++ [some (.ref q)])[i]? = σ[i]? := fun i hi => List.getElem?_append_left (by rw [e.len]; exact hi)
  have sl : (σ ++ [some (V.ref q)])[ρ.length]? = some (some (V.ref q)) := by rw [List.getElem?_append_right (by rw [e.len]; exact Nat.le_refl _), e.len, Nat.sub_self]; rfl
  refine ⟨e.w, e.x, by simp [e.len], fun i y h => ?_, fun i s o h hs => ?_, fun i j s s' o o' q1 q2 hij h1 hs h2 hs' h3 h4 => ?_⟩
  · rcases at_ i _ h with ⟨c, h⟩ | ⟨_, h⟩
    · rw [sg i c]; exact e.d i y h
    · cases h
  · rcases at_ i _ h with ⟨c, h⟩ | ⟨rfl, z⟩
    · exact (noOwn_not g.no i s o h hs).elim
    · subst z
      cases hs
      exact ⟨q, sl, g.ow, g.fr⟩
  · rcases at_ i _ h1 with ⟨c, h1⟩ | ⟨rfl, _⟩
    · exact (noOwn_not g.no i s o h1 hs).elim
    · rcases at_ j _ h2 with ⟨c, h2⟩ | ⟨rfl, _⟩
      · exact (noOwn_not g.no j s' o' h2 hs').elim
      · exact absurd rfl hij
theorem Gst.ext (g : Gst K B G H σ ρ n q yss) (x : Ext B.F G H G1 H1) (w : Wd B.F G1 H1 m) : Gst K B G1 H1 σ ρ m q yss := by
  have sm : ∀ b ∈ fpOf H q (.ll yss), Fre B G1 H1 b ∧ H1 b = H b := fun b hb => (g.fr b hb).ext g.env.w x (g.ow.thereN b hb)
  refine ⟨g.env.ext x w, g.no, g.ow.ext x.g fun b hb => (sm b hb).2, ?_⟩
  rw [fpOf_ext fun b hb => (sm b hb).2]
  exact fun b hb => (sm b hb).1
theorem Gst.set {σ' : L2.St} {ρ' : Ro} (g : Gst K B G H σ ρ n q yss) (e : EnvC K B G H σ' ρ' m) (no : noOwn ρ' = true) : Gst K B G H σ' ρ' m q yss := ⟨e, no, g.ow, g.fr⟩
theorem set_snoc {α : Type} (l : List α) (x y : α) : (l ++ [x]).set l.length y = l ++ [y] := by
  rw [List.set_append_right _ _ (Nat.le_refl _), Nat.sub_self]; rfl
theorem Gst.app {us vs : List V} {j : Nat} {r : Addr} {xs : List D} (g : Gst K B G H σ ρ n q yss) (hu : H q = some (.lst us)) (hr : us[j]? = some (.ref r)) (rs : RepL K B.F G vs xs) : Gst K B G (upd H r (.lst vs)) σ ρ n q (yss.set j xs) := by
  have hi : (ρ ++ [some (Sl.ownL yss)])[ρ.length]? = some (some (.ownL yss)) := by rw [List.getElem?_append_right (Nat.le_refl _), Nat.sub_self]; rfl
  have hq : (σ ++ [some (V.ref q)])[ρ.length]? = some (some (V.ref q)) := by rw [List.getElem?_append_right (by rw [g.env.len]; exact Nat.le_refl _), g.env.len, Nat.sub_self]; rfl
  have e := g.graft.app2 hi hq hu hr rs
  rw [set_snoc] at e
  obtain ⟨q', h1, h2, h3⟩ := e.ow ρ.length (.ownL (yss.set j xs)) _ (by rw [List.getElem?_append_right (Nat.le_refl _), Nat.sub_self]; rfl) rfl
  rw [hq] at h1
  cases h1
  exact ⟨e.unsnoc, g.no, h2, h3⟩
structure Onw (f : Str) (g : TGd) (tk tv : TD) (Qd : QF) (fs : List (Str × D)) (xss : List (List D)) (ds : List D) (ρ : Ro) (n : Nat) : Prop where
  ex : ∃ J : Nat → List (List D) → Ro → Nat → Prop, J 0 xss ρ n ∧
    (∀ i d yss ρ' n', ds[i]? = some d → J i yss ρ' n' → g d ρ' n' fun ρ2 n3 => (noOwn ρ2 = true ∧ ρ2[0]? = ρ'[0]?) ∧ tk ρ2 n3 fun y n4 => (match y with
      | .int k => (match ixN yss.length k with
        | some j => tv ρ2 n4 fun z n5 => (yss.getD j []).length < sizeLine ∧ J (i + 1) (yss.set j (yss.getD j [] ++ [z])) ρ2 n5
        | none => False)
      | _ => False)) ∧ ∀ yss ρ' n', J ds.length yss ρ' n' → Qd (putD f (.lst (yss.map D.lst)) fs) n'
variable {e tg iter kx vx : Expr} {tL : TLL} {ti : TL} {g : TGd} {tk tv : TD} {C : Addr} {us : List Nat} {f x : Str} {p p' p1 p2 p3 p4 p5 p6 p7 pos : Pos}
end
end Dw

/-! ### calls by keywords alone; a, b, c = x, y, z; the order of data is one -/
namespace Dw
open PySem PySem.Spec PyProof.Rows L2 Fw
section
variable {X : Cx} {Z : ZX} {x : Str} {ks : List Str} {sd : List D → List D → Nat → Ro → QD → Prop} {kws : List Keyword} {tk tl : TL} {p pos : Pos} {a b c : Expr}
theorem de_callK0 (c : Cal X Z x 0 ks sd) (hg : Gl X x) (hkw : DK X Z kws tk)
    (hall : (backToKw pos (keywordEach kws X.env)).all (·.1.isSome) = true := by rfl) (hks : (backToKw pos (keywordEach kws X.env)).filterMap (·.1) = ks := by rfl)
    (hdb : (x == ("__debug__" : Str)) = false := by decide)
    (hpl : ((backTo pos (starEach [] X.env)).any (·.1) || (backToKw pos (keywordEach kws X.env)).any (·.1.isNone)) = false := by rfl) : DE X Z (.Call (.Name x p) [] kws pos) (dCall 0 ks.length sd dNil tk) := by
  obtain ⟨a, hm, hk, run⟩ := c.ex
  refine ⟨⟨fun pins s σ H Q I ⟨B, G, ρ, m, Qd, env, q, k⟩ => wpAny_Call_Name_kw (ld_glob I hg hm ?_ hdb)⟩⟩
  refine PySem.W.callWith_KW0 (h₀ := X.base) I.ok.mod.kin hk hall (thn (hkw.pk.run pos pins s σ H (fun zs H2 => ∃ n2 es G2, (([] : List D).length = 0 ∧ es.length = ks.length ∧ sd [] es n2 ρ Qd) ∧ Ext B.F G H G2 H2 ∧ Wd B.F G2 H2 n2 ∧ RepL X.K B.F G2 zs es) I ⟨B, G, ρ, m, _, env, q, fun es n2 zs H2 G2 q2 x2 w2 r2 => ⟨n2, es, G2, q2, x2, w2, r2⟩⟩) fun ws s2 z2 => ?_) hpl
  obtain ⟨zs, H2, I2, rz, n2, es', G2, ⟨l1, l2, q2⟩, x2, w2, r2⟩ := z2
  refine ⟨I2.kIn, ?_⟩
  rw [hks]
  exact run pins s2 σ H2 [] ws [] zs Q B G2 ρ n2 [] es' Qd I2 .nil rz rfl (by rw [r2.length]; exact l2) (env.ext x2 w2) .nil r2 q2 (k.trans x2)
end
/-! list(range(e)) -/
section
variable {X : Cx} {Z : ZX} {ta tb : TD} {p p2 pos pos2 : Pos} {a b : Expr} {K : PySem.W.Frag}
end
/-! order -/
end Dw

namespace Dw
open PySem PySem.Spec PyProof.Rows L2 Fw
section
variable {X : Cx} {Z : ZX} {a b : Expr} {tl : TL} {tb : TD} {pos : Pos}
end
end Dw

/-! Dw20: list(range(a, b, c)). Own work. -/
namespace Dw
open PySem PySem.Spec PyProof.Rows L2 Fw
section
variable {X : Cx} {Z : ZX} {p p2 pos pos2 : Pos} {a b c : Expr} {K : PySem.W.Frag}
end
end Dw

/-! Dw21: len(x) by an own __len__. Own work. -/
namespace Fw
open PySem PySem.Spec PyProof.Rows L2
section
variable {X : Cx} {C g : Addr} {CX : CXT} {n : Nat} {fd : FuncData} {ps : List Str} {sp : Sp} {E : XK}
theorem lenOwn_ {prog : Program} {w : World} {A : Around} {E : Value → Shared → Prop} {s : Shared} {K : PySem.W.Frag} {x C f : Addr} {ox : Obj} {od : Option Obj} {Q : Value → Shared → Prop} (X : K.In s.heap) (I : PySem.W.InstAt s.heap x ox C od) (hs : PySem.W.findIn K (.ref C) "__len__" = some (some (.ref f))) (hf : PySem.W.isFn K (.ref f) = true)
    (h : wpAny (model prog w) A.in1 (call (.ref f) [.ref x]) (PySem.W.LenBack Q) E s) : wpAny (model prog w) A (call (.builtin "len") [.ref x]) Q E s := by
  refine Calls.call_function_entry kind_len plain_len entry_len (args_len1 _) ?_
  unfold Builtin.«len»
  refine wpAny_bind (m := oneArg "len" _) (wpAny_pure ?_)
  refine wpAny_bind (m := callSpecial? (.ref x) (Str.ofString "__len__")) (PySem.W.special_fn X I hs (beq_iff_eq.mp hf) (wpAny_mono h (fun r s' hr => ?_) fun _ _ y => y))
  cases r <;> first | exact hr.elim | skip
  rename_i n u
  obtain ⟨⟨h0, h1⟩, hq⟩ := hr
  refine wpAny_bind (wpAny_holding (wpAny_pure ?_))
  refine wpAny_bind (wpAny_letGo ?_)
  show wpAny _ _ (if n < 0 then _ else _) _ _ _
  rw [if_neg (by omega)]
  show wpAny _ _ (if n ≥ 2 ^ 63 then _ else _) _ _ _
  rw [if_neg (by omega)]
  exact wpAny_bind (wpAny_mkInt (wpAny_pure ⟨_, rfl, hq⟩))
def rLenOwn (C : Addr) (sp : Sp) (E : XK) : List V → Hp → VK → Prop := fun xs H Q => ∃ (a dx : Addr) (fs : List (Str × V)), xs = [.ref a] ∧ H a = some (.ins C dx fs) ∧ sp [.ref a] H (fun z H' => ∃ i : Int, z = .int i ∧ 0 ≤ i ∧ i < 2 ^ 63 ∧ Q z H') E
theorem call_lenOwn (hs : PySem.W.findIn X.K (.ref C) "__len__" = some (some (.ref g))) (hf : PySem.W.isFn X.K (.ref g) = true) (F : FnOk X.prog X.w X.K X.mg X.base CX n g fd ps sp) (hb : Binds X.K fd ps []) (hr : Room (n + 1) X.A) (hx : Passes CX X E) : CallR X (.builtin "len") (rLenOwn C sp E) := by
  intro pins s σ H xs us Q I r h
  obtain ⟨a, dx, fs, rfl, ha, q⟩ := h
  obtain ⟨u, rfl, ru⟩ := vals1 r
  cases (show u = Value.ref a from ru)
  obtain ⟨mA, O, _⟩ := ins_get I.hok ha
  obtain ⟨od, J, _⟩ := O.look
  have hr2 : Room n X.A.in1 := Room.in1 hr
  refine lenOwn_ I.kIn J hs hf ?_
  have r2 : Vals [V.ref a] [Value.ref a] := .cons rfl .nil
  have hl : [Value.ref a].length = ps.length := r2.length.symm.trans (F.len _ _ _ _ q)
  refine wpAny_call (codeAny_mono (F.run X.A.in1 X.stack s H ⟨[.ref a], []⟩ [.ref a] [.ref a] _ E hr2 I.env0.in1 (hb s [.ref a] I.kIn (by rw [List.append_nil]; exact hl)) r2 q) fun r s' hq => ?_)
  rcases r with er | (_ | _ | _ | w)
  · exact hx pins σ H s er s' I hq
  all_goals first | exact False.elim hq | skip
  obtain ⟨z', H', I', rz, x, rfl, x0, x1, qz⟩ := I.after hq
  obtain ⟨t, rfl⟩ := (show ∃ t, w = Value.int x t from rz)
  exact ⟨⟨x0, x1⟩, .int x, H', I'.tok _, ⟨_, rfl⟩, qz⟩
end
end Fw
namespace Dw
open PySem PySem.Spec PyProof.Rows L2 Fw
section
variable {X : Cx} {K : PySem.W.Frag} {C : Addr} {k : Nat} {spd : SpD}
structure OwnLen (P : Program) (w : World) (K : PySem.W.Frag) (mg : Str → Option Value) (base : Heap) (k : Nat) (C : Addr) (spd : SpD) : Prop where
  ex : ∃ (g : Addr) (fd : FuncData) (ps : List Str), PySem.W.findIn K (.ref C) "__len__" = some (some (.ref g)) ∧ PySem.W.isFn K (.ref g) = true ∧ FnOk P w K mg base CX0 k g fd ps (liftSp K spd) ∧ Binds K fd ps []
theorem OwnLen.call (D : OwnLen X.prog X.w X.K X.mg X.base k C spd) (hr : Room (k + 1) X.A) : CallR X (.builtin "len") (fun xs H Q => rLenOwn C (liftSp X.K spd) E0 xs H Q ∨ ∃ x n, xs = [x] ∧ LenV X.K x H n ∧ Q (.int n) H) := by
  obtain ⟨g, fd, ps, h1, h2, F, hb⟩ := D.ex
  exact CallR.or (call_lenOwn h1 h2 F hb hr pass0) call_len
end
end Dw

/-! Dw22: e.replace(..) of written texts, where e itself gives a token out. Own work. -/
namespace Dw
open PySem PySem.Spec PyProof.Rows L2 Fw
section
variable {X : Cx} {Z : ZX} {e a b o : Expr} {es : List Expr} {te ta tb to : TE} {pos p apos c0 c1 : Pos}
/-- its evaluation gives a token out -/
def PEG (X : Cx) (e : Expr) (t : TE) : Prop :=
  ∀ (pins : List (Addr × Obj)) (s : Shared) (σ : L2.St) (H : Hp) (Q : VK), Inv X pins σ H s → t σ H Q → wpAny (model X.prog X.w) X.A (eval e X.env) (fun v s' => 1 ≤ s'.toks ∧ EP X pins σ Q v s') X.xe s
def PAG (X : Cx) (es : List Expr) (t : TA) : Prop :=
  ∀ (pos : Pos) (pins : List (Addr × Obj)) (s : Shared) (σ : L2.St) (H : Hp) (Q : List V → Hp → Prop), Inv X pins σ H s → t σ H Q → wpAny (model X.prog X.w) X.A (spliced (backTo pos (starEach es X.env))) (fun us s' => 1 ≤ s'.toks ∧ AP X pins σ Q us s') X.xe s
/-! over data -/
structure DGE (X : Cx) (Z : ZX) (e : Expr) (td : TD) : Prop where
  pe : PEG X e (dl X.K Z td)
structure DGA (X : Cx) (Z : ZX) (es : List Expr) (td : TL) : Prop where
  pa : PAG X es (dla X.K Z td)
variable {td td1 td2 : TD} {tl : TL}
end
end Dw

/-! Dw23: sorted(a tuple). Own work, after the library's sorted(a list). -/
namespace Fw
open PySem PySem.Spec PySem.F Builtin PyProof.Rows PySem.W PySem.Calls
section
variable {prog : Program} {w : World} {A : Around} {E : Value → Shared → Prop} {s : Shared}
variable {β : Type} {R : Value → β → Prop} {enc : β → PyData} {vs : List Value} {bs : List β}
end
end Fw
namespace Dw
open PySem PySem.Spec PyProof.Rows L2 Fw
section
variable {X : Cx} {Z : ZX} {K : PySem.W.Frag}
end
end Dw

/-! Dw24: [e for a in x if p for b in y if q]. Own work. -/
namespace Dw
open PySem PySem.Spec PyProof.Rows L2 Fw
section
variable {X : Cx} {Z : ZX} {K : PySem.W.Frag} {tg tg1 iter1 : Expr} {pos : Pos}
/-- no slot is one's own -/
def noSl (ρ : Ro) : Bool := ρ.all fun s => match s with
  | some s => (slO s).isNone
  | none => true
theorem noSl_at {ρ : Ro} (h : noSl ρ = true) {i : Nat} {s : Sl} {o : OwO} (hi : ρ[i]? = some (some s)) (ho : slO s = some o) : False := by
  have := List.all_eq_true.mp h _ (List.mem_of_getElem? hi)
  dsimp only at this
  rw [ho] at this
  cases this
/-- what is made, by what holds behind i turns, and behind j turns within -/
structure Comp2 (g : TGd) (tt : TB) (ti1 : TL) (g1 : TGd) (tt1 : TB) (te : TD) (vs1 : List Nat) (ds : List D) (ρ : Ro) (n : Nat) (Q : QL) : Prop where
  ex : ∃ J : Nat → List D → Nat → Prop, J 0 [] n ∧
    (∀ (i : Nat) (d : D) (acc : List D) (n : Nat), ds[i]? = some d → J i acc n → g d ρ n fun ρ' n' => tt ρ' n' fun b n2 => br b (noSl ρ' = true ∧ ti1 ρ' n2 fun es n3 => ∃ Ji : Nat → List D → Nat → Prop, Ji 0 acc n3 ∧
      (∀ (j : Nat) (e : D) (acc : List D) (n : Nat), es[j]? = some e → Ji j acc n → g1 e (wipeD ρ' vs1) n fun ρ2 n' => tt1 ρ2 n' fun b n2 => br b (te ρ2 n2 fun y n3 => acc.length < sizeLine ∧ Ji (j + 1) (acc ++ [y]) n3) (Ji (j + 1) acc n2)) ∧
      ∀ acc n, Ji es.length acc n → J (i + 1) acc n) (J (i + 1) acc n2)) ∧ ∀ acc n, J ds.length acc n → Q acc n
variable {elt iter : Expr} {ifs ifs1 : List Expr} {scope : Scope} {own : List (Str × Nat)} {ti ti1 : TL} {g g1 : TGd} {tt tt1 : TB} {te : TD} {us us1 vs1 : List Nat}
end
end Dw

/-! Dw25: y = [[] for ..]; y[k].append(e). Own work. -/
namespace Dw
open PySem PySem.Spec PyProof.Rows L2 Fw
section
variable {X : Cx} {Z : ZX} {K : PySem.W.Frag} {tg iter kx vx : Expr} {scope : Scope} {own : List (Str × Nat)} {ti : TL} {g : TGd} {tk tv : TD} {us : List Nat} {pos pl : Pos}
end
end Dw

/-! Dw26: y = {k: v for ..}, y a local name. Own work, after the library's y = [..]. -/
namespace Dw
open PySem PySem.Spec PyProof.Rows L2 Fw
section
variable {X : Cx} {Z : ZX} {K : PySem.W.Frag}
variable {kx vx tg iter : Expr} {ifs : List Expr} {scope : Scope} {own : List (Str × Nat)} {ti : TL} {g : TGd} {tt : TB} {tky te : TD} {us : List Nat} {pos : Pos}
end
end Dw

/-! Dw27: min(a list of ints), max(..). Own work. -/
namespace Dw
open PySem PySem.Spec PyProof.Rows L2 Fw
section
variable {K : PySem.W.Frag}
end
end Dw

/-! Dw28: sets by comprehensions of one generator and of two, sorted. Own work. -/
namespace Dw
open PySem PySem.Spec PyProof.Rows L2 Fw
/-! the two loops of {e for a in x if p for b in y if q} -/
section
variable {pg : Program} {wo : World} {Ar : Around} {Rz : Result → Shared → Prop} {s0 : Shared} {el ta ia tb ib : Expr} {fa fb : List Expr} {sco : Scope} {po : Pos} {itv acv : Value} {en : PySem.Env}
end
/-! ### a set of some kind: the empty one, and how it grows -/
structure SetG where
  z : Addr → HO
  ad : Addr → V → Hp → (Hp → Prop) → Prop
structure SetGk (X : Cx) (g : SetG) : Prop where
  nw : ∀ (H : Hp) (h : Heap), ObjOk X.prog X.w H (h.push { cls := .type "set", dict := none, data := .set #[] 0 (.fresh 0 0 (!X.w.params.followText "set-order")) }) h.objs.size (g.z h.objs.size)
  pl : ∀ (Y : Cx), Y.prog = X.prog → Y.w = X.w → Y.K = X.K → Y.A = X.A → ∀ (pins : List (Addr × Obj)) (σ : L2.St) (H : Hp) (s : Shared) (S : Addr) (y : V) (v : Value) (Nx : Hp → Prop) (E : Value → Shared → Prop), Inv Y pins σ H s → RelV y v → g.ad S y H Nx →
    wpAny (model Y.prog Y.w) Y.A (call (.builtin "set.add") [.ref S, v]) (fun _ s' => ∃ H', Inv Y pins σ H' s' ∧ Nx H') E s
section
variable {X : Cx} {sg : SetG}
end
/-! sets of ints -/
def setI (w : World) : SetG := ⟨fun a => SetO w a (fun _ => false) 0, fun S y H Nx => ∃ (k : Int) (T : Int → Bool) (c : Nat), y = .int k ∧ H S = some (SetO w S T c) ∧ c + 1 < scanBound ∧ Nx (upd H S (SetO w S (fun j => T j || decide (j = k)) (if T k = true then c else c + 1)))⟩
end Dw

/-! Dw29: sorted({e for ..}) of numbers, min(a list of texts). Own work. -/
namespace Dw
open PySem PySem.Spec PyProof.Rows L2 Fw
section
variable {X : Cx} {Z : ZX} {K : PySem.W.Frag} {tg tg1 iter1 : Expr} {pos : Pos}
theorem nto_so {w : World} {a : Addr} {S : Int → Bool} {n : Nat} : ¬ TO (SetO w a S n) := ext_ne fun h ⟨o, es, ep, t, h1, _, h2, _⟩ => ⟨a, o, h1, fun vs z => by rw [h2] at z; cases z⟩
/-- what was made new meanwhile is put otherwise -/
theorem own_put {B : Bx} {G H G1 H1 G2 H2 G6 H6 : Hp} {σ : L2.St} {ρ : Ro} {n n6 : Nat} {S : Addr} {u : HO} (env : EnvD K Z B G H σ ρ n) (x1 : Ext B.F G H G1 H1) (hS : H1 S = none) (x2 : Ext B.F G1 H1 G2 H2)
    (hS2 : H2 S = some u) (hG2 : G2 S = none) (xx : Ext B.F G2 H2 G6 H6) (w6 : Wd B.F G6 H6 n6) (nu : ¬ TO u := by first | exact nto_so | (first | assumption | exact Dw.nto_l | exact Dw.nto_k | exact Dw.nto_i | exact Dw.nto_f | exact Dw.nto_t | exact Dw.nto_n)) :
    H6 S = some u ∧ G6 S = none ∧ ∀ u', Ext B.F G1 H1 G6 (upd H6 S u') ∧ Wd B.F G6 (upd H6 S u') n6 := by
  have hS0 : H S = none := free0 x1 hS
  have nf : B.F ≠ some S := fun f => by
    obtain ⟨⟨c, ns, a, l, h1, _⟩, _⟩ := env.w.fd S f
    rw [hS0] at h1; cases h1
  have k1 : H6 S = some u := xx.to _ _ hS2 nf (nt_of nu)
  have k2 : G6 S = none := xx.gx _ hG2 (by rw [hS2]; exact fun z => nomatch z)
  refine ⟨k1, k2, fun u' => ?_⟩
  have up : ∀ b o, H6 b = some o → b ≠ S → upd H6 S u' b = some o := fun b o h hn => by rw [upd_ne hn]; exact h
  have fdH : ∀ p c a l, B.F = some p → H6 p = some (.dK (fdK c a l)) → upd H6 S u' p = some (.dK (fdK c a l)) := fun p c a l f h => up p _ h (fun z => nf (by rw [← z]; exact f))
  have cne : ∀ p c a l, B.F = some p → H6 p = some (.dK (fdK c a l)) → c ≠ S := fun p c a l f h => Ne.symm (env.cells (x1.trans (x2.trans xx)) hS0 p c a l f h)
  constructor
  · have y := x2.trans xx
    exact ⟨fun b o h f t => up b o (y.to b o h f t) (ne_of_none h hS), fun p c a l f h => by
      obtain ⟨a', l', z⟩ := y.fd p c a l f h
      exact ⟨a', l', fdH p c a' l' f z⟩, fun b h => new_kp b (y.kp b h), y.g, y.gx⟩
  · refine ⟨fun b o h => up b o (w6.sub b o h) (ne_of_none h k2), fun p f => ?_, w6.tb.put0 k1 nu _⟩
    obtain ⟨⟨c', ns, a, l, g1, g2, g3⟩, g4⟩ := w6.fd p f
    exact ⟨⟨c', ns, a, l, fdH p c' a l f g1, up _ _ g2 (cne p c' a l f g1), g3⟩, g4⟩
def isIntD : D → Bool
  | .int _ => true
  | _ => false
/-- numbers of a set, by what was put in -/
structure SetH (w : World) (H : Hp) (S : Addr) (acc : List D) : Prop where
  ex : ∃ (T : Int → Bool) (c : Nat) (L : List Int), H S = some (SetO w S T c) ∧ L.Nodup ∧ L.length = c ∧ (∀ k, T k = true ↔ k ∈ L) ∧ (∀ k, k ∈ L ↔ D.int k ∈ acc) ∧ c ≤ acc.length
theorem SetH.zero {w : World} {H : Hp} {S : Addr} : SetH w (upd H S (SetO w S (fun _ => false) 0)) S [] := ⟨_, _, [], upd_same, .nil, rfl, by simp, by simp, Nat.le_refl _⟩
theorem SetH.add {w : World} {H H' : Hp} {S : Addr} {acc : List D} {k : Int} {Nx : Hp → Prop} (h : SetH w H S acc) (e : H' S = H S) (few : acc.length < 4000) (nx : ∀ u, SetH w (upd H' S u) S (acc ++ [.int k]) → Nx (upd H' S u)) : (setI w).ad S (.int k) H' Nx := by
  obtain ⟨T, c, L, h1, nd, hl, hT, hL, hc⟩ := h.ex
  refine ⟨k, T, c, rfl, by rw [e]; exact h1, by unfold scanBound; omega, nx _ ?_⟩
  by_cases cm : k ∈ L
  · have tk : T k = true := (hT k).mpr cm
    refine ⟨_, _, L, upd_same, nd, by rw [if_pos tk]; exact hl, fun j => ?_, fun j => ?_, by rw [if_pos tk, List.length_append]; omega⟩
    · rw [Bool.or_eq_true, hT j, decide_eq_true_eq]
      exact ⟨fun z => z.elim id fun y => y ▸ cm, .inl⟩
    · rw [List.mem_append, List.mem_singleton, hL j]
      exact ⟨.inl, fun z => z.elim id fun y => by cases y; exact (hL k).mp cm⟩
  · have tk : ¬ T k = true := fun z => cm ((hT k).mp z)
    refine ⟨_, _, k :: L, upd_same, List.nodup_cons.mpr ⟨cm, nd⟩, by rw [if_neg tk, List.length_cons, hl], fun j => ?_, fun j => ?_, by rw [if_neg tk, List.length_append]; simp; omega⟩
    · rw [Bool.or_eq_true, hT j, decide_eq_true_eq, List.mem_cons]
      exact Or.comm
    · rw [List.mem_append, List.mem_singleton, List.mem_cons, hL j]
      constructor
      · rintro (rfl | z)
        · exact .inr rfl
        · exact .inl z
      · rintro (z | z)
        · exact .inr z
        · cases z; exact .inl rfl
/-- what is put in, by what holds behind i turns -/
structure CompS (g : TGd) (tt : TB) (te : TD) (ds : List D) (ρ : Ro) (n : Nat) (Q : QL) : Prop where
  ex : ∃ J : Nat → List D → Nat → Prop, J 0 [] n ∧
    (∀ (i : Nat) (d : D) (acc : List D) (n : Nat), ds[i]? = some d → J i acc n → g d ρ n fun ρ' n' => tt ρ' n' fun b n2 => br b (te ρ' n2 fun y n3 => acc.length < 4000 ∧ isIntD y = true ∧ J (i + 1) (acc ++ [y]) n3) (J (i + 1) acc n2)) ∧ ∀ acc n, J ds.length acc n → Q acc n
structure Comp2S (g : TGd) (tt : TB) (ti1 : TL) (g1 : TGd) (tt1 : TB) (te : TD) (vs1 : List Nat) (ds : List D) (ρ : Ro) (n : Nat) (Q : QL) : Prop where
  ex : ∃ J : Nat → List D → Nat → Prop, J 0 [] n ∧
    (∀ (i : Nat) (d : D) (acc : List D) (n : Nat), ds[i]? = some d → J i acc n → g d ρ n fun ρ' n' => tt ρ' n' fun b n2 => br b (noSl ρ' = true ∧ ti1 ρ' n2 fun es n3 => ∃ Ji : Nat → List D → Nat → Prop, Ji 0 acc n3 ∧
      (∀ (j : Nat) (e : D) (acc : List D) (n : Nat), es[j]? = some e → Ji j acc n → g1 e (wipeD ρ' vs1) n fun ρ2 n' => tt1 ρ2 n' fun b n2 => br b (te ρ2 n2 fun y n3 => acc.length < 4000 ∧ isIntD y = true ∧ Ji (j + 1) (acc ++ [y]) n3) (Ji (j + 1) acc n2)) ∧
      ∀ acc n, Ji es.length acc n → J (i + 1) acc n) (J (i + 1) acc n2)) ∧ ∀ acc n, J ds.length acc n → Q acc n
variable {elt iter : Expr} {ifs ifs1 : List Expr} {scope : Scope} {own : List (Str × Nat)} {ti ti1 : TL} {g g1 : TGd} {tt tt1 : TB} {te : TD} {us us1 vs1 : List Nat} {p pos2 : Pos}
/-- pure parts -/
theorem CompS.pure {ds : List D} {ρ : Ro} {n : Nat} {Q : QL} (few : ds.length ≤ 4000) (p : D → Bool) (f : D → Int)
    (h : ∀ d ∈ ds, ∀ (R : QL), ∀ acc, acc.length < 4000 → (p d = true → R (acc ++ [.int (f d)]) n) → (p d = false → R acc n) → g d ρ n fun ρ' n' => tt ρ' n' fun b n2 => br b (te ρ' n2 fun y n3 => acc.length < 4000 ∧ isIntD y = true ∧ R (acc ++ [y]) n3) (R acc n2))
    (q : Q (((ds.filter p).map f).map D.int) n) : CompS g tt te ds ρ n Q := by
  refine ⟨fun i acc m => m = n ∧ acc = (((ds.take i).filter p).map f).map D.int, ⟨rfl, rfl⟩, ?_, ?_⟩
  · rintro i d acc m hd ⟨rfl, rfl⟩
    have hm : d ∈ ds := List.mem_of_getElem? hd
    have hi := (List.getElem?_eq_some_iff.mp hd).1
    have e : ds.take (i + 1) = ds.take i ++ [d] := by rw [List.take_succ, hd]; rfl
    have hl : ((((ds.take i).filter p).map f).map D.int).length < 4000 := by
      rw [List.length_map, List.length_map]
      have h1 := List.length_filter_le p (ds.take i)
      rw [List.length_take] at h1
      omega
    refine h d hm (fun acc' m' => m' = m ∧ acc' = (((ds.take (i + 1)).filter p).map f).map D.int) _ hl (fun c => ⟨rfl, ?_⟩) (fun c => ⟨rfl, ?_⟩)
    · rw [e, List.filter_append, List.filter_cons_of_pos c, List.map_append, List.map_append]; rfl
    · rw [e, List.filter_append, List.filter_cons_of_neg (by rw [c]; decide), List.map_append, List.map_append]; simp
  · rintro acc m ⟨rfl, rfl⟩
    rw [List.take_length]
    exact q
end
/-! min(a list of texts) -/
section
variable {X : Cx} {K : PySem.W.Frag}
end
end Dw

/-! Dw30: y = [e for a in x if p for b in y if q], y a local name. Own work. -/
namespace Dw
open PySem PySem.Spec PyProof.Rows L2 Fw
section
variable {X : Cx} {Z : ZX} {tg tg1 iter1 : Expr} {pos : Pos} {elt iter : Expr} {ifs ifs1 : List Expr} {scope : Scope} {own : List (Str × Nat)} {ti ti1 : TL} {g g1 : TGd} {tt tt1 : TB} {te : TD} {us us1 vs1 : List Nat}
end
end Dw

/-! Dw31: data with dicts in it: displays, repr. Own work. -/
namespace Dw
open PySem PySem.Spec PyProof.Rows L2 Fw
/-! as the library's data -/
def kPy : Key → PyData
  | .inl i => .int i
  | .inr s => .str s
mutual
def D.px : D → PyData
  | .non => .none | .bl b => .bool b | .int i => .int i | .str s => .str s | .tup l => .tuple (pxL l) | .lst l => .list (pxL l) | .dct es => .dict (pxK es) | _ => .none
def pxL : List D → List PyData
  | [] => [] | d :: r => D.px d :: pxL r
def pxK : List (Key × D) → List (PyData × PyData)
  | [] => [] | (k, d) :: r => (kPy k, D.px d) :: pxK r
end
mutual
/-- plain data with dicts, at most k deep -/
def dpx : Nat → D → Bool
  | _, .non => true | _, .bl _ => true | _, .int _ => true | _, .str _ => true | k + 1, .tup l => dpxL k l | k + 1, .lst l => dpxL k l | k + 1, .dct es => dpxK k es | _, _ => false
def dpxL : Nat → List D → Bool
  | _, [] => true | k, d :: r => dpx k d && dpxL k r
def dpxK : Nat → List (Key × D) → Bool
  | _, [] => true | k, (_, d) :: r => dpx k d && dpxK k r
end
mutual
theorem px_depth : ∀ (k : Nat) (x : D), dpx k x = true → x.px.depth ≤ k
  | k, .non, _ => by rw [D.px]; exact Nat.zero_le _
  | k, .bl _, _ => by rw [D.px]; exact Nat.zero_le _
  | k, .int _, _ => by rw [D.px]; exact Nat.zero_le _
  | k, .str _, _ => by rw [D.px]; exact Nat.zero_le _
  | k + 1, .tup l, h => by
    rw [dpx] at h
    rw [D.px]
    have := pxL_depth k l h
    show PyData.depthAll (pxL l) + 1 ≤ k + 1
    omega
  | k + 1, .lst l, h => by
    rw [dpx] at h
    rw [D.px]
    have := pxL_depth k l h
    show PyData.depthAll (pxL l) + 1 ≤ k + 1
    omega
  | k + 1, .dct es, h => by
    rw [dpx] at h
    rw [D.px]
    have := pxK_depth k es h
    show PyData.depthKv (pxK es) + 1 ≤ k + 1
    omega
  | 0, .tup _, h => by simp [dpx] at h
  | 0, .lst _, h => by simp [dpx] at h
  | 0, .dct _, h => by simp [dpx] at h
  | _, .obj _ _, h => by simp [dpx] at h
  | _, .exc _ _, h => by simp [dpx] at h
  | _, .feed, h => by simp [dpx] at h
  | _, .scr _, h => by simp [dpx] at h
  | _, .val _, h => by simp [dpx] at h
  | _, .dtt _ _, h => by simp [dpx] at h
  | _, .fn _ _ _, h => by simp [dpx] at h
theorem pxL_depth : ∀ (k : Nat) (l : List D), dpxL k l = true → PyData.depthAll (pxL l) ≤ k
  | k, [], _ => by rw [pxL]; exact Nat.zero_le _
  | k, d :: r, h => by
    rw [dpxL, Bool.and_eq_true] at h
    rw [pxL]
    have h1 := px_depth k d h.1
    have h2 := pxL_depth k r h.2
    show max (PyData.depth (D.px d)) (PyData.depthAll (pxL r)) ≤ k
    omega
theorem pxK_depth : ∀ (k : Nat) (l : List (Key × D)), dpxK k l = true → PyData.depthKv (pxK l) ≤ k
  | k, [], _ => by rw [pxK]; exact Nat.zero_le _
  | k, (f, d) :: r, h => by
    rw [dpxK, Bool.and_eq_true] at h
    rw [pxK]
    have h1 := px_depth k d h.1
    have h2 := pxK_depth k r h.2
    have h3 : (kPy f).depth = 0 := by cases f <;> rfl
    show max (max (PyData.depth (kPy f)) (PyData.depth (D.px d))) (PyData.depthKv (pxK r)) ≤ k
    omega
end
section
variable {X : Cx} {Z : ZX} {K : PySem.W.Frag} {F : Option Addr} {H : Hp} {pins : List (Addr × Obj)} {σ : L2.St} {s : Shared}
theorem sys_free (I : Inv X pins σ H s) (hs : SysIn X.base) : H sysModules = none := by
  obtain ⟨o, es, ep, e, d⟩ := hs
  obtain ⟨b1, b2⟩ := I.ok.bs _ _ e
  exact I.base.free _ _ b1 b2 (I.ok.noex _ _ e)
theorem key_reads {h : Heap} {k : Key} {u : Value} (r : keyIs k u = true) : Reads h u (kPy k) [] := by
  rcases keyIs_shape r with ⟨i, t, rfl, rfl⟩ | ⟨x, t, rfl, rfl⟩
  · exact Reads.int i t
  · exact Reads.str x t
mutual
theorem Rep.readsX (I : Inv X pins σ H s) (hs : SysIn X.base) : ∀ {v : V} {x : D} {k : Nat} {u : Value}, Rep X.K F H v x → dpx k x = true → RelV v u → ∃ as, Reads s.heap u x.px as ∧ sysModules ∉ as
  | _, _, _, _, .non, _, r => by cases r; rw [D.px]; exact ⟨_, Reads.none, by simp⟩
  | _, _, _, _, .bl b, _, r => by cases r; rw [D.px]; exact ⟨_, Reads.bool b, by simp⟩
  | _, _, _, _, .int i, _, r => by obtain ⟨t, rfl⟩ := r; rw [D.px]; exact ⟨_, Reads.int i t, by simp⟩
  | _, _, _, _, .str y, _, r => by obtain ⟨t, rfl⟩ := r; rw [D.px]; exact ⟨_, Reads.str y t, by simp⟩
  | _, _, k + 1, _, .tup h q, hd, r => by
    cases r
    rw [dpx] at hd
    rw [D.px]
    obtain ⟨its, rv, ⟨o, ho, hc, n, hdt⟩, _⟩ := I.tuple h
    obtain ⟨as, h1, h2⟩ := RepL.readsX I hs q hd rv
    exact ⟨_, Reads.tuple ho hc hdt h1, h2⟩
  | _, _, k + 1, _, .lst (a := a) h q, hd, r => by
    cases r
    rw [dpx] at hd
    rw [D.px]
    obtain ⟨its, rv, ⟨o, n, ho, hc, _, hdt⟩, _⟩ := I.list (SqL.of h)
    obtain ⟨as, h1, h2⟩ := RepL.readsX I hs q hd rv
    refine ⟨_, Reads.list ho hc hdt h1, ?_⟩
    rw [List.mem_cons]
    rintro (z | z)
    · have := sys_free I hs
      rw [z, h] at this
      cases this
    · exact h2 z
  | _, _, k + 1, _, .dct (a := a) h q, hd, r => by
    cases r
    rw [dpx] at hd
    rw [D.px]
    obtain ⟨ns, ho, hx, es, ep, vs, hdt, hsz, kv, o', es', ho', hx', hdt', hk, hp, nd⟩ := I.frzK h
    rw [ho] at ho'
    cases ho'
    rw [hdt] at hdt'
    cases hdt'
    obtain ⟨as, bs, h1, h2, h3, h4⟩ := RepK.readsX I hs q hd kv hp
    refine ⟨_, Reads.dict ho hx.1 hdt h1 h2, ?_⟩
    rw [List.cons_append, List.mem_cons, List.mem_append]
    rintro (z | z | z)
    · rw [← z] at ns
      simp at ns
    · exact h3 z
    · exact h4 z
  | _, _, 0, _, .tup _ _, hd, _ => by simp [dpx] at hd
  | _, _, 0, _, .lst _ _, hd, _ => by simp [dpx] at hd
  | _, _, 0, _, .dct _ _, hd, _ => by simp [dpx] at hd
  | _, _, _, _, .obj _ _, hd, _ => by simp [dpx] at hd
  | _, _, _, _, .exc _ _, hd, _ => by simp [dpx] at hd
  | _, _, _, _, .feed _, hd, _ => by simp [dpx] at hd
  | _, _, _, _, .scr _, hd, _ => by simp [dpx] at hd
  | _, _, _, _, .val _, hd, _ => by simp [dpx] at hd
  | _, _, _, _, .dtt _ _, hd, _ => by simp [dpx] at hd
  | _, _, _, _, .fn _, hd, _ => by simp [dpx] at hd
theorem RepL.readsX (I : Inv X pins σ H s) (hs : SysIn X.base) : ∀ {vs : List V} {xs : List D} {k : Nat} {us : List Value}, RepL X.K F H vs xs → dpxL k xs = true → Vals vs us → ∃ as, ReadsAll s.heap us (pxL xs) as ∧ sysModules ∉ as
  | _, _, _, _, .nil, _, r => by cases r; rw [pxL]; exact ⟨_, ReadsAll.nil, by simp⟩
  | _, _, _, _, .cons h q, hd, r => by
    rw [dpxL, Bool.and_eq_true] at hd
    cases r with
    | cons r1 r2 =>
      obtain ⟨as, h1, h2⟩ := Rep.readsX I hs h hd.1 r1
      obtain ⟨bs, h3, h4⟩ := RepL.readsX I hs q hd.2 r2
      rw [pxL]
      refine ⟨_, ReadsAll.cons h1 h3, ?_⟩
      rw [List.mem_append]
      exact fun z => z.elim h2 h4
theorem RepK.readsX (I : Inv X pins σ H s) (hs : SysIn X.base) : ∀ {kvs : List (Key × V)} {es : List (Key × D)} {k : Nat} {vs : List (Key × Value)} {ents : List DictEntry}, RepK X.K F H kvs es → dpxK k es = true → KV kvs vs → Pairs (mixKind X.prog X.w) ents vs →
    ∃ as bs, ReadsAll s.heap (ents.map (·.key)) ((pxK es).map (·.1)) as ∧ ReadsAll s.heap (ents.map (·.val)) ((pxK es).map (·.2)) bs ∧ sysModules ∉ as ∧ sysModules ∉ bs
  | _, _, _, _, _, .nil, _, r, p => by
    cases r
    cases p
    rw [pxK]
    exact ⟨_, _, ReadsAll.nil, ReadsAll.nil, by simp, by simp⟩
  | _, _, _, _, _, .cons h q, hd, r, p => by
    rw [dpxK, Bool.and_eq_true] at hd
    cases r with
    | cons r1 r2 =>
      cases p with
      | cons p1 p2 p3 =>
        obtain ⟨e1, e2⟩ := r1
        rw [← e1] at p1
        obtain ⟨as, h1, h2⟩ := Rep.readsX I hs h hd.1 e2
        obtain ⟨bs, cs, h3, h4, h5, h6⟩ := RepK.readsX I hs q hd.2 r2 p3
        rw [pxK]
        rw [← p2] at h1
        refine ⟨_, _, ReadsAll.cons (key_reads p1) h3, ReadsAll.cons h1 h4, ?_, ?_⟩
        · simpa using h5
        · rw [List.mem_append]
          exact fun z => z.elim h2 h6
end
/-- repr of data with dicts -/
def rReprX (K : PySem.W.Frag) : List V → Hp → VK → Prop := fun xs H Q => ∃ (v : V) (F : Option Addr) (x : D), xs = [v] ∧ Rep K F H v x ∧ dpx 60 x = true ∧ x.px.showable = true ∧ x.px.shown.length ≤ sizeLine ∧ Q (.str x.px.shown) H
theorem call_reprX (hs : SysIn X.base) (hg : X.A.guards = some []) (hu : X.A.units + 64 < cLine) : CallR X (.builtin "repr") (rReprX X.K) := by
  intro pins s σ H xs us Q I r h
  obtain ⟨v, F, x, rfl, hr, hd, hsh, hz, q⟩ := h
  obtain ⟨u, rfl, ru⟩ := vals1 r
  obtain ⟨as, rd, na⟩ := hr.readsX I hs hd ru
  have dp := px_depth 60 x hd
  cases hr with
  | non =>
    cases ru
    rw [D.px] at q
    exact PySem.P.repr_of_none ⟨.str _, H, I.tok _, ⟨_, rfl⟩, q⟩
  | bl b =>
    cases ru
    rw [D.px] at q
    exact PySem.P.repr_of_bool ⟨.str _, H, I.tok _, ⟨_, rfl⟩, q⟩
  | int i =>
    obtain ⟨t, rfl⟩ := ru
    rw [D.px] at q hsh
    exact PySem.P.repr_of_int (of_decide_eq_true hsh) ⟨.str _, H, I.tok _, ⟨_, rfl⟩, q⟩
  | str y =>
    obtain ⟨t, rfl⟩ := ru
    rw [D.px] at q hz
    exact PySem.P.repr_of_str ⟨.str _, H, I.tok _, ⟨_, rfl⟩, q⟩ hz
  | tup h1 h2 =>
    cases ru
    exact repr_of_reads' rd hsh (fun _ => na) hg (by omega) (fun _ _ z => z) (fun h' u tk k => ⟨.str _, H, I.kept (t' := tk) k, ⟨_, rfl⟩, q⟩) hz
  | lst h1 h2 =>
    cases ru
    exact repr_of_reads' rd hsh (fun _ => na) hg (by omega) (fun _ _ z => z) (fun h' u tk k => ⟨.str _, H, I.kept (t' := tk) k, ⟨_, rfl⟩, q⟩) hz
  | dct h1 h2 =>
    cases ru
    exact repr_of_reads' rd hsh (fun _ => na) hg (by omega) (fun _ _ z => z) (fun h' u tk k => ⟨.str _, H, I.kept (t' := tk) k, ⟨_, rfl⟩, q⟩) hz
  | _ => simp [dpx] at hd
def dReprX : RDC
  | [x], n, Q => dpx 60 x = true ∧ x.px.showable = true ∧ x.px.shown.length ≤ sizeLine ∧ Q (.str x.px.shown) n
  | _, _, _ => False
theorem cv_reprX : CvC K (rReprX K) dReprX := by
  intro F G H n vs ds Qd Q w r q k
  unfold dReprX at q
  split at q
  · cases r with | cons h r =>
    cases r
    exact ⟨_, F, _, rfl, h.mono w.sub, q.1, q.2.1, q.2.2.1, k.here q.2.2.2 w (.str _)⟩
  · exact q.elim
/-! {k: v, ..} -/
def dPairs : List (TD × TD) → Ro → Nat → QK → Prop
  | [], _, n, Q => Q [] n
  | (tk, tv) :: r, ρ, n, Q => tk ρ n fun x n1 => match keyD x with
    | some k => tv ρ n1 fun y n2 => dPairs r ρ n2 fun ps n3 => Q ((k, y) :: ps) n3
    | none => False
def mergeE (es : List (Key × D)) : List (Key × D) := es.foldl (fun acc kv => putE acc kv.1 kv.2) []
def dDisp (ts : List (TD × TD)) : TK := fun ρ n Q => dPairs ts ρ n fun ps n1 => ps.length ≤ 15 ∧ Q (mergeE ps) n1
structure DPs (X : Cx) (Z : ZX) (pos : Pos) (keys : List (Option Expr)) (values : List Expr) (ts : List (TD × TD)) : Prop where
  pp : PPs X pos keys values (ts.map fun p => (dl X.K Z p.1, dl X.K Z p.2))
variable {pos : Pos} {k v : Expr} {ks : List (Option Expr)} {vs : List Expr} {tk tv : TD} {ts : List (TD × TD)}
theorem dps_nil : DPs X Z pos [] [] [] := ⟨pps_nil⟩
theorem dps_cons (hk : DE X Z k tk) (hv : DE X Z v tv) (hr : DPs X Z pos ks vs ts) : DPs X Z pos (some k :: ks) (v :: vs) ((tk, tv) :: ts) := ⟨pps_cons hk.pe hv.pe hr.pp⟩
theorem dl_pairs {B : Bx} : ∀ (ts : List (TD × TD)) {G H : Hp} {σ : L2.St} {ρ : Ro} {n : Nat} {Qd : QK} {Q : List (V × V) → Hp → Prop}, EnvD K Z B G H σ ρ n → dPairs ts ρ n Qd →
    (∀ ps n' kvs H' G', Qd ps n' → Ext B.F G H G' H' → Wd B.F G' H' n' → RepK K B.F G' kvs ps → Q (kvs.map fun kv => (kV kv.1, kv.2)) H') → tPairs (ts.map fun p => (dl K Z p.1, dl K Z p.2)) σ H Q
  | [], G, H, σ, ρ, n, Qd, Q, env, q, k => k [] n [] H G q Ext.refl env.w .nil
  | (tk, tv) :: r, G, H, σ, ρ, n, Qd, Q, env, q, k => by
    refine ⟨B, G, ρ, n, _, env, q, fun dx n1 v H1 G1 q1 x1 w1 r1 => ?_⟩
    split at q1
    · rename_i kk hk
      refine ⟨B, G1, ρ, n1, _, env.ext x1 w1, q1, fun dy n2 u H2 G2 q2 x2 w2 r2 => ?_⟩
      refine dl_pairs r ((env.ext x1 w1).ext x2 w2) q2 fun ps n3 kvs H3 G3 q3 x3 w3 r3 => ?_
      have e := rep_key hk r1
      subst e
      exact k ((kk, dy) :: ps) n3 ((kk, u) :: kvs) H3 G3 q3 ((x1.trans x2).trans x3) w3 (.cons (r2.mono x3.g) r3)
    · exact q1.elim
theorem RepK.merge {F : Option Addr} {G : Hp} : ∀ {kvs : List (Key × V)} {es : List (Key × D)} {acc : List (Key × V)} {ac : List (Key × D)}, RepK K F G kvs es → RepK K F G acc ac → RepK K F G (mergeK acc kvs) (es.foldl (fun a kv => putE a kv.1 kv.2) ac)
  | _, _, _, _, .nil, h => h
  | _, _, acc, ac, .cons (f := f) (v := v) (d := d) (vs := vs) (ds := ds) h r, h0 => by
    show RepK K F G (mergeK (putK acc f v) vs) (ds.foldl (fun a kv => putE a kv.1 kv.2) (putE ac f d))
    exact RepK.merge r (h0.put h)
theorem do_disp (h : DPs X Z pos ks vs ts) (hall : ks.all (·.isSome) = true := by rfl) (hl : ks.length = vs.length := by rfl) (h0 : ks ≠ [] := by exact fun z => nomatch z) (h15 : ks.length ≤ 15 := by decide) : DOK X Z (.Dict ks vs pos) (dDisp ts) :=
  ⟨pe_imp (pe_disp h.pp hall hl h0 h15) fun σ H Q ⟨B, G, ρ, n, Qd, env, q, kk⟩ p hp => by
    refine dl_pairs ts (env.ext (Ext.new hp) (env.w.new hp)) q fun ps n1 kvs H1 G1 q1 x1 w1 r1 => ?_
    have ne : B.F ≠ some p := fun f => by
      obtain ⟨⟨c, ns, a, l, g1, _⟩, _⟩ := env.w.fd p f
      rw [hp] at g1; cases g1
    obtain ⟨k1, k2, k3⟩ := own_put env (Ext.refl (F := B.F) (G := G) (H := H)) hp (Ext.new (o := HO.dK []) hp) upd_same (env.w.free hp) x1 w1
    exact ⟨k1, kvs, rfl, by rw [r1.length]; exact q1.1, kk _ n1 p _ _ G1 q1.2 (k3 _).1 (k3 _).2 hp upd_same k2 (r1.merge .nil)⟩⟩
end
end Dw

/-! Dw32: dicts whose keys are tuples of numbers and texts, nested. Own work. -/
namespace Dw
open PySem PySem.Spec PyProof.Rows L2 Fw
mutual
def nkD : D → Option NK
  | .int i => some (.num i) | .str s => some (.text s) | .tup l => (nkDs l).map .tup | _ => none
def nkDs : List D → Option (List NK)
  | [] => some []
  | d :: r => match nkD d, nkDs r with
    | some k, some ks => some (k :: ks)
    | _, _ => none
end
mutual
theorem nkD_eq : ∀ (d : D) (k : NK), nkD d = some k → d = dN k
  | .int i, k, h => by rw [nkD] at h; cases h; rw [dN]
  | .str s, k, h => by rw [nkD] at h; cases h; rw [dN]
  | .tup l, k, h => by
    rw [nkD] at h
    cases q : nkDs l with
    | none => rw [q] at h; cases h
    | some ks =>
      rw [q] at h
      cases h
      rw [dN, nkDs_eq l ks q]
  | .non, k, h => by simp [nkD] at h
  | .bl _, k, h => by simp [nkD] at h
  | .lst _, k, h => by simp [nkD] at h
  | .obj _ _, k, h => by simp [nkD] at h
  | .exc _ _, k, h => by simp [nkD] at h
  | .feed, k, h => by simp [nkD] at h
  | .scr _, k, h => by simp [nkD] at h
  | .val _, k, h => by simp [nkD] at h
  | .dct _, k, h => by simp [nkD] at h
  | .dtt _ _, k, h => by simp [nkD] at h
  | .fn _ _ _, k, h => by simp [nkD] at h
theorem nkDs_eq : ∀ (l : List D) (ks : List NK), nkDs l = some ks → l = dNs ks
  | [], ks, h => by rw [nkDs] at h; cases h; rw [dNs]
  | d :: r, ks, h => by
    rw [nkDs] at h
    cases q : nkD d with
    | none => simp [q] at h
    | some k =>
      cases q2 : nkDs r with
      | none => simp [q, q2] at h
      | some ks' =>
        simp [q, q2] at h
        subst h
        rw [dNs, ← nkD_eq d k q, ← nkDs_eq r ks' q2]
end
/-- data that may be such a key -/
def keyT : D → Option NK
  | .tup l => (match nkDs l with
    | some ks => if (NestedKey.tup ks).depth ≤ 8 then some (.tup ks) else none
    | none => none)
  | _ => none
section
variable {X : Cx} {Z : ZX} {K : PySem.W.Frag} {F : Option Addr} {G H : Hp} {pins : List (Addr × Obj)} {σ : L2.St} {s : Shared}
mutual
theorem Rep.nk (I : Inv X pins σ H s) : ∀ (k : NK) {v : V} {u : Value}, Rep X.K F H v (dN k) → RelV v u → NestedIs s.heap k u
  | .none, v, u, h, r => by rw [dN] at h; cases h; cases r; exact .none
  | .num i, v, u, h, r => by rw [dN] at h; cases h; obtain ⟨t, rfl⟩ := r; exact .int i t
  | .text x, v, u, h, r => by rw [dN] at h; cases h; obtain ⟨t, rfl⟩ := r; exact .text x t
  | .tup ks, v, u, h, r => by
    rw [dN] at h
    cases h with | tup h q =>
    cases r
    obtain ⟨its, rv, ⟨o, ho, hc, n, hdt⟩, _⟩ := I.tuple h
    exact .tup ho hc hdt (RepL.nk I ks q rv)
theorem RepL.nk (I : Inv X pins σ H s) : ∀ (ks : List NK) {vs : List V} {us : List Value}, RepL X.K F H vs (dNs ks) → Vals vs us → NestedAll s.heap ks us
  | [], vs, us, h, r => by rw [dNs] at h; cases h; cases r; exact .nil
  | k :: ks, vs, us, h, r => by
    rw [dNs] at h
    cases h with | cons h q =>
    cases r with | cons r1 r2 =>
    exact .cons (Rep.nk I k h r1) (RepL.nk I ks q r2)
end
/-! the entries -/
def valT (es : List (NK × D)) (k : NK) : Option D := (es.find? fun kv => decide (kv.1 = k)).map (·.2)
def putT (es : List (NK × D)) (k : NK) (d : D) : List (NK × D) := if (es.any fun kv => decide (kv.1 = k)) = true then es.map (fun kv => if kv.1 = k then (kv.1, d) else kv) else es ++ [(k, d)]
def storeT (xs : List (NK × Addr × V)) (k : NK) (b : Addr) (v : V) : List (NK × Addr × V) := if (xs.any fun x => decide (x.1 = k)) = true then xs.map (fun x => if x.1 = k then (x.1, x.2.1, v) else x) else xs ++ [(k, b, v)]
abbrev PRel : NK × Addr × V → NK × Addr × Value → Prop := fun p q => p.1 = q.1 ∧ p.2.1 = q.2.1 ∧ RelV p.2.2 q.2.2
theorem RepT.length : ∀ {xs : List (NK × Addr × V)} {es : List (NK × D)}, RepT K F G xs es → xs.length = es.length
  | _, _, .nil => rfl
  | _, _, .cons _ _ _ r => by rw [List.length_cons, List.length_cons, RepT.length r]
theorem RepT.any {k : NK} : ∀ {xs : List (NK × Addr × V)} {es : List (NK × D)}, RepT K F G xs es → (xs.any fun x => decide (x.1 = k)) = es.any fun kv => decide (kv.1 = k)
  | _, _, .nil => rfl
  | _, _, .cons _ _ _ r => by rw [List.any_cons, List.any_cons, RepT.any r]
theorem RepT.map {k : NK} {v : V} {d : D} (h : Rep K F G v d) : ∀ {xs : List (NK × Addr × V)} {es : List (NK × D)}, RepT K F G xs es → RepT K F G (xs.map fun x => if x.1 = k then (x.1, x.2.1, v) else x) (es.map fun kv => if kv.1 = k then (kv.1, d) else kv)
  | _, _, .nil => .nil
  | _, _, .cons (f := f) h0 hd h' r => by
    rw [List.map_cons, List.map_cons]
    by_cases c : f = k
    · rw [if_pos c, if_pos c]; exact .cons h0 hd h (RepT.map h r)
    · rw [if_neg c, if_neg c]; exact .cons h0 hd h' (RepT.map h r)
theorem RepT.append : ∀ {xs ys : List (NK × Addr × V)} {es fs : List (NK × D)}, RepT K F G xs es → RepT K F G ys fs → RepT K F G (xs ++ ys) (es ++ fs)
  | _, _, _, _, .nil, s => s
  | _, _, _, _, .cons h0 hd h r, s => .cons h0 hd h (RepT.append r s)
theorem RepT.put {k : NK} {b : Addr} {v : V} {d : D} {xs : List (NK × Addr × V)} {es : List (NK × D)} (hk : Rep K F G (.ref b) (dN k)) (hd : k.depth ≤ 8) (h : Rep K F G v d) (r : RepT K F G xs es) : RepT K F G (storeT xs k b v) (putT es k d) := by
  unfold storeT putT
  rw [r.any]
  split
  · exact r.map h
  · exact r.append (.cons hk hd h .nil)
theorem RepT.get : ∀ {xs : List (NK × Addr × V)} {es : List (NK × D)} {i : Nat} {k : NK} {d : D}, RepT K F G xs es → es[i]? = some (k, d) → ∃ b v, xs[i]? = some (k, b, v) ∧ Rep K F G (.ref b) (dN k) ∧ Rep K F G v d
  | _, _, _, _, _, .nil, e => by simp at e
  | _, _, 0, _, _, .cons h0 _ h _, e => by
    simp at e; obtain ⟨rfl, rfl⟩ := e; exact ⟨_, _, rfl, h0, h⟩
  | _, _, i + 1, k, d, .cons _ _ _ r, e => by
    obtain ⟨b, v, h1, h2⟩ := RepT.get (i := i) (k := k) (d := d) r (by simpa using e)
    exact ⟨b, v, by simpa using h1, h2⟩
theorem RepT.val {k : NK} : ∀ {xs : List (NK × Addr × V)} {es : List (NK × D)} {us : List (NK × Addr × Value)}, RepT K F G xs es → Paired PRel xs us → (valueAt (pairsH us) k = none ∧ valT es k = none) ∨ ∃ u v d, valueAt (pairsH us) k = some u ∧ RelV v u ∧ valT es k = some d ∧ Rep K F G v d
  | _, _, _, .nil, .nil => .inl ⟨rfl, rfl⟩
  | _, _, _, .cons (f := f) (v := v) (d := d) h0 hd h r, .cons (b := q) (l₂ := us) e p => by
    obtain ⟨q1, q2, q3⟩ := q
    obtain ⟨e1, e2, e3⟩ := e
    have e1' : f = q1 := e1
    subst e1'
    by_cases c : f = k
    · refine .inr ⟨q3, v, d, ?_, e3, ?_, h⟩
      · unfold valueAt pairsH; simp [c]
      · unfold valT; simp [c]
    · rcases RepT.val (k := k) r p with ⟨h1, h2⟩ | ⟨u, v', d', h1, h2, h3, h4⟩
      · refine .inl ⟨?_, ?_⟩
        · unfold valueAt pairsH at h1 ⊢; simpa [c] using h1
        · unfold valT at h2 ⊢; simpa [c] using h2
      · refine .inr ⟨u, v', d', ?_, h2, ?_, h4⟩
        · unfold valueAt pairsH at h1 ⊢; simpa [c] using h1
        · unfold valT at h3 ⊢; simpa [c] using h3
theorem paired_store {k : NK} {b : Addr} {v : V} {r : Value} (rv : RelV v r) : ∀ {xs : List (NK × Addr × V)} {us : List (NK × Addr × Value)}, Paired PRel xs us → Paired PRel (storeT xs k b v) (storedH us k b r) := by
  have any_ : ∀ {xs : List (NK × Addr × V)} {us : List (NK × Addr × Value)}, Paired PRel xs us → (xs.any fun x => decide (x.1 = k)) = (atKey us k).isSome := fun {xs us} p => by
    induction p with
    | nil => rfl
    | @cons a q as qs e _ ih =>
      have e1 : a.1 = q.1 := e.1
      rw [List.any_cons, ih, e1]
      unfold atKey
      by_cases c : q.1 = k <;> simp [c]
  have map_ : ∀ {xs : List (NK × Addr × V)} {us : List (NK × Addr × Value)}, Paired PRel xs us → Paired PRel (xs.map fun x => if x.1 = k then (x.1, x.2.1, v) else x) (us.map (putAt k r)) := fun {xs us} p => by
    induction p with
    | nil => exact .nil
    | @cons a q as qs e _ ih =>
      have e1 : a.1 = q.1 := e.1
      rw [List.map_cons, List.map_cons]
      refine .cons ?_ ih
      unfold putAt
      by_cases c : a.1 = k
      · rw [if_pos c, if_pos (by rw [← e1]; exact c)]; exact ⟨e.1, e.2.1, rv⟩
      · rw [if_neg c, if_neg (by rw [← e1]; exact c)]; exact e
  have app_ : ∀ {xs ys : List (NK × Addr × V)} {us ws : List (NK × Addr × Value)}, Paired PRel xs us → Paired PRel ys ws → Paired PRel (xs ++ ys) (us ++ ws) := fun {xs ys us ws} p q => by
    induction p with
    | nil => exact q
    | cons e _ ih => exact .cons e ih
  intro xs us p
  unfold storeT storedH
  rw [any_ p]
  split
  · exact map_ p
  · exact app_ p (.cons ⟨rfl, rfl, rv⟩ .nil)
theorem storeT_len (xs : List (NK × Addr × V)) (k : NK) (b : Addr) (v : V) : (storeT xs k b v).length ≤ xs.length + 1 := by
  unfold storeT
  split <;> simp
/-! the object -/
theorem nd_ok {w : World} {P : Program} {h : Heap} {a : Addr} {xs : List (NK × Addr × V)} (q : NDh w a xs h) : ObjOk P w H h a (NDO w a xs) := by
  have st : ∀ h1 h2 : Heap, NDh w a xs h1 → (∀ o, h1.get? a = some o → h2.get? a = some o) → NDh w a xs h2 := fun h1 h2 ⟨z, y, us, p, o, es, ep, e, r⟩ k => ⟨z, y, us, p, o, es, ep, k _ e, r⟩
  obtain ⟨_, _, us, p, o, es, ep, e, r⟩ := id q
  exact ⟨q, ⟨o, e⟩, st⟩
theorem nd_of {P : Program} {w : World} {xs : List (NK × Addr × V)} {us : List (NK × Addr × Value)} {h : Heap} {a : Addr} (z : xs.length ≤ sizeLine) (y : (a == sysModules) = false) (p : Paired PRel xs us) (d : h.DictOfH (nestedKind P w) a us) : NDh w a xs h := by
  obtain ⟨o, es, ep, h1, h2, h3, h4, _, h6⟩ := d
  exact ⟨z, y, us, p, o, es, ep, h1, h2, h3, h4, h6⟩
theorem nd_at {a : Addr} {xs : List (NK × Addr × V)} {es : List (NK × D)} (I : Inv X pins σ H s) (h : Rd H a (NDO X.w a xs)) (r : RepT X.K F H xs es) : xs.length ≤ sizeLine ∧ (a == sysModules) = false ∧ ∃ us, Paired PRel xs us ∧ s.heap.DictOfH (nestedKind X.prog X.w) a us := by
  obtain ⟨⟨z, y, us, p, o, ents, ep, h1, h2, h3, h4, h5⟩, _⟩ := h.ok I.hok
  refine ⟨z, y, us, p, o, ents, ep, h1, h2, h3, h4, ?_, h5⟩
  have go : ∀ {xs : List (NK × Addr × V)} {es : List (NK × D)} {us : List (NK × Addr × Value)}, RepT X.K F H xs es → Paired PRel xs us → ∀ q ∈ us, (nestedKind X.prog X.w).is s.heap q.1 q.2.1 := fun {xs es us} r p => by
    induction p generalizing es with
    | nil => exact fun q hq => nomatch hq
    | @cons a q as qs e _ ih =>
      cases r with
      | cons g0 gd g gr =>
        obtain ⟨q1, q2, q3⟩ := q
        obtain ⟨e1, e2, _⟩ := e
        intro x hx
        rcases List.mem_cons.mp hx with z | z
        · rw [z]
          have e1' : _ = q1 := e1
          have e2' : _ = q2 := e2
          subst e1' e2'
          exact ⟨g0.nk I _ rfl, gd⟩
        · exact ih gr x z
  exact go r p
/-! reading -/
/-- the dict at x, the key y: what is there -/
structure NGet (K : PySem.W.Frag) (w : World) (H : Hp) (a : Addr) (y : V) (o : Option V) : Prop where
  ex : ∃ (F : Option Addr) (b : Addr) (k : NK) (xs : List (NK × Addr × V)) (es : List (NK × D)), y = .ref b ∧ Rep K F H (.ref b) (dN k) ∧ k.depth ≤ 8 ∧ Rd H a (NDO w a xs) ∧ RepT K F H xs es ∧
    ((o = none ∧ valT es k = none) ∨ ∃ v, o = some v ∧ ∀ us, Paired PRel xs us → ∃ u, valueAt (pairsH us) k = some u ∧ RelV v u)
theorem NGet.run {a : Addr} {y : V} {o : Option V} {u : Value} (I : Inv X pins σ H s) (g : NGet X.K X.w H a y o) (ry : RelV y u) : ∃ b k us, u = .ref b ∧ (nestedKind X.prog X.w).is s.heap k b ∧ (a == sysModules) = false ∧ s.heap.DictOfH (nestedKind X.prog X.w) a us ∧
    ((o = none ∧ valueAt (pairsH us) k = none) ∨ ∃ v r, o = some v ∧ valueAt (pairsH us) k = some r ∧ RelV v r) := by
  obtain ⟨F, b, k, xs, es, rfl, hk, hd, hx, hr, ho⟩ := g.ex
  obtain ⟨z, ns, us, p, d⟩ := nd_at I hx hr
  cases ry
  refine ⟨b, k, us, rfl, ⟨hk.nk I _ rfl, hd⟩, ns, d, ?_⟩
  rcases ho with ⟨h1, h2⟩ | ⟨v, h1, h2⟩
  · rcases hr.val (k := k) p with ⟨g1, g2⟩ | ⟨u, v, d', g1, g2, g3, g4⟩
    · exact .inl ⟨h1, g1⟩
    · rw [h2] at g3; cases g3
  · obtain ⟨r, g1, g2⟩ := h2 us p
    exact .inr ⟨v, r, h1, g1, g2⟩
/-! writing -/
structure NPut (K : PySem.W.Frag) (w : World) (H : Hp) (a : Addr) (y v : V) (H' : Hp) : Prop where
  ex : ∃ (F : Option Addr) (b : Addr) (k : NK) (xs : List (NK × Addr × V)) (es : List (NK × D)), y = .ref b ∧ Rep K F H (.ref b) (dN k) ∧ k.depth ≤ 8 ∧ H a = some (NDO w a xs) ∧ RepT K F H xs es ∧ xs.length < sizeLine ∧ H' = upd H a (NDO w a (storeT xs k b v))
theorem NPut.run {a : Addr} {y v : V} {H' : Hp} {u r : Value} (I : Inv X pins σ H s) (g : NPut X.K X.w H a y v H') (ry : RelV y u) (rv : RelV v r) : ∃ b k us, u = .ref b ∧ (nestedKind X.prog X.w).is s.heap k b ∧ s.heap.DictOfH (nestedKind X.prog X.w) a us ∧ us.length ≤ sizeLine ∧
    ∀ h' t', h'.DictOfH (nestedKind X.prog X.w) a (storedH us k b r) → Heap.SameBut a s.heap h' → Inv X pins σ H' { s with heap := h', toks := t' } := by
  obtain ⟨F, b, k, xs, es, rfl, hk, hd, hx, hr, hl, rfl⟩ := g.ex
  obtain ⟨z, ns, us, p, d⟩ := nd_at I (.inl hx) hr
  cases ry
  refine ⟨b, k, us, rfl, ⟨hk.nk I _ rfl, hd⟩, d, by rw [← Paired.length p]; exact z, fun h' t' d' sb => ?_⟩
  have there : ∃ q, h'.get? a = some q := let ⟨q, _, _, hq, _⟩ := d'; ⟨q, hq⟩
  have lz : (storeT xs k b v).length ≤ sizeLine := by have := storeT_len xs k b v; omega
  exact d_write I (by rw [hx]; exact True.intro) sb there (nd_ok (nd_of lz ns (paired_store rv p) d'))
/-! walking -/
end
end Dw

/-! Dw33: dicts of nested keys, by data. Own work. -/
namespace Dw
open PySem PySem.Spec PyProof.Rows L2 Fw
section
variable {X : Cx} {Z : ZX} {e a b c o : Expr} {es : List Expr} {pos p apos : Pos} {ta tb tc td tk tx ty : TD} {tl : TL} {K : PySem.W.Frag} {x : Str} {p1 : Pos} {i : Nat} {st : Stmt} {tz : TZ}
/-! made, changed, shared -/
abbrev QT := List (NK × D) → Nat → Prop
abbrev TT_ := Ro → Nat → QT → Prop
def KOT (K : PySem.W.Frag) (w : World) (F : Option Addr) (G H : Hp) (Qd : QT) (Q : VK) : Prop := ∀ es n' q xs H' G', Qd es n' → Ext F G H G' H' → Wd F G' H' n' → H q = none → H' q = some (NDO w q xs) → G' q = none → RepT K F G' xs es → Q (.ref q) H'
def dltt (K : PySem.W.Frag) (w : World) (Z : ZX) (tk : TT_) : TE := fun σ H Q => ∃ B G ρ n Qd, EnvD K Z B G H σ ρ n ∧ tk ρ n Qd ∧ KOT K w B.F G H Qd Q
structure DOT (X : Cx) (Z : ZX) (e : Expr) (tk : TT_) : Prop where
  pe : PE X e (dltt X.K X.w Z tk)
/-! walks -/
end
end Dw

/-! Dw34: {k: v for ..} with keys that are tuples. Own work. -/
namespace Dw
open PySem PySem.Spec PyProof.Rows L2 Fw
/-- a dict of some kind: the empty one, and how it grows -/
structure DictG where
  z : Addr → HO
  ad : Addr → V → V → Hp → (Hp → Prop) → Prop
structure DictGk (X : Cx) (g : DictG) : Prop where
  nw : ∀ (H : Hp) (h : Heap), sysModules < h.objs.size → ObjOk X.prog X.w H (h.push { cls := .type "dict", data := .dict #[] }) h.objs.size (g.z h.objs.size)
  pl : ∀ (Y : Cx), Y.prog = X.prog → Y.w = X.w → Y.K = X.K → Y.A = X.A → ∀ (pins : List (Addr × Obj)) (σ : L2.St) (H : Hp) (s : Shared) (S : Addr) (y z : V) (u r : Value) (Nx : Hp → Prop) (E : Value → Shared → Prop), Inv Y pins σ H s → RelV y u → RelV z r → g.ad S y z H Nx →
    wpAny (model Y.prog Y.w) Y.A (dictSet S u r) (fun _ s' => ∃ H', Inv Y pins σ H' s' ∧ Nx H') E s
section
variable {X : Cx} {sg : DictG}
end
/-! nested keys -/
section
variable {X : Cx} {Z : ZX} {K : PySem.W.Frag} {tg : Expr} {pos : Pos}
structure CompT (g : TGd) (tt : TB) (tk te : TD) (ds : List D) (ρ : Ro) (n : Nat) (Q : QT) : Prop where
  ex : ∃ J : Nat → List (NK × D) → Nat → Prop, J 0 [] n ∧
  (∀ (i : Nat) (d : D) (acc : List (NK × D)) (n : Nat), ds[i]? = some d → J i acc n → g d ρ n fun ρ' n' => tt ρ' n' fun b n2 => br b (tk ρ' n2 fun y n3 => te ρ' n3 fun z n4 => match keyT y with | some k => J (i + 1) (putT acc k z) n4 | none => False) (J (i + 1) acc n2)) ∧ ∀ acc n, J ds.length acc n → Q acc n
variable {kx vx iter : Expr} {ifs : List Expr} {scope : Scope} {own : List (Str × Nat)} {ti : TL} {g : TGd} {tt : TB} {tky te : TD} {us : List Nat}
end
end Dw

/-! Dw35: sorted(set(a text)). Own work, after the library's sets of ints. -/
namespace Dw
open PySem PySem.Spec PyProof.Rows L2 Fw
def txOf (e : Int × Value) : Str := match e.2 with | .str k _ => k | _ => Str.empty
def TxE (w : World) (e : Int × Value) : Prop := ∃ k tk, e.2 = Value.str k tk ∧ e.1 = hashStr w k
/-- the set of texts at a: L its members, each once; it can be walked -/
structure SetS (w : World) (h : Heap) (a : Addr) (L : List Str) : Prop where
  ex : ∃ o es ep t, h.get? a = some o ∧ o.ExactSet ∧ o.data = .set es ep t ∧ (∀ e ∈ es.toList, TxE w e) ∧ L.Nodup ∧ (es.toList.map txOf).Perm L ∧ es.size < scanBound ∧ t.fits es.size = true ∧ Ris t.place.toList ∧
    (w.params.followText "set-order" = true ∨ t.led = true)
section
variable {P : Program} {w : World} {h h' : Heap} {a : Addr} {L : List Str}
theorem SetS.at (R : SetS w h a L) (k : ∀ o, h.get? a = some o → h'.get? a = some o) : SetS w h' a L := by
  obtain ⟨o, es, ep, t, ho, r⟩ := R.ex
  exact ⟨o, es, ep, t, k o ho, r⟩
variable {A : Around} {E : Value → Shared → Prop} {s : Shared}
end
/-! the text's signs, one by one -/
section
variable {P : Program} {w : World} {A : Around} {R : Result → Shared → Prop} {I : Addr} {fp wr : List Addr} {G : Array GenState → Array GenState → Prop} {Pv : Nat → Value → Prop} {St : Nat → Shared → Prop}
variable {E : Value → Shared → Prop} {s : Shared}
end
end Dw

/-! Dw36: sorted(set(a text)) by data. Own work. -/
namespace Dw
open PySem PySem.Spec PyProof.Rows L2 Fw
def SetSO (w : World) (a : Addr) (L : List Str) : HO := .ext fun h => SetS w h a L
section
variable {X : Cx} {Z : ZX} {K : PySem.W.Frag}
variable {e : Expr} {te : TD} {p p2 pos pos2 : Pos}
end
end Dw

/-! Dw37: x[::-1] of lists, tuples, texts. Own work. -/
namespace Dw
open PySem PySem.Spec PyProof.Rows L2 Fw
section
variable {P : Program} {w : World} {A : Around} {E : Value → Shared → Prop} {s : Shared}
end
section
variable {X : Cx} {Z : ZX} {K : PySem.W.Frag} {e : Expr} {te : TE} {k : Nat} {p1 p2 p3 pos : Pos}
end
end Dw

/-! Dw38: e in x, e not in x, x a list of one's own. Own work. -/
namespace Dw
open PySem PySem.Spec PyProof.Rows L2 Fw
section
variable {X : Cx} {Z : ZX} {K : PySem.W.Frag} {b : Expr} {tk : TD} {i : Nat} {x : Str} {p1 pos : Pos}
variable {k : Nat}
end
end Dw

/-! ### loops and comprehensions over things of a type of one's own -/
namespace Dw
open PySem PySem.Spec PyProof.Rows L2 Fw
theorem part_at {α : Type} {f : α → D} {l : List α} {i : Nat} {d : D} (h : (l.map f)[i]? = some d) : ∃ a, d = f a ∧ l = l.take i ++ a :: l.drop (i + 1) ∧ l.take (i + 1) = l.take i ++ [a] := by
  rw [List.getElem?_map] at h
  cases e : l[i]? with
  | none => rw [e] at h; cases h
  | some a =>
    rw [e] at h
    cases h
    have hi := (List.getElem?_eq_some_iff.mp e).1
    have hv := (List.getElem?_eq_some_iff.mp e).2
    refine ⟨a, rfl, ?_, by rw [List.take_succ, e]; rfl⟩
    rw [← hv, ← List.drop_eq_getElem_cons hi, List.take_append_drop]
section
variable {g : TGd} {tt : TB} {te tk : TD} {tb : TZ} {De : DEnds} {α β : Type} {ρ : Ro} {n : Nat} {Q : QL}
/-- a loop, by what holds behind those gone through -/
theorem Loop.of (f : α → D) (l : List α) (J : List α → Ro → Nat → Prop) (h0 : J [] ρ n)
    (st : ∀ (pre : List α) (a : α) (suf : List α) (ρ : Ro) (n : Nat), l = pre ++ a :: suf → J pre ρ n → g (f a) ρ n fun ρ' n' => tb { De with nx := J (pre ++ [a]), ct := J (pre ++ [a]), bk := De.nx } ρ' n')
    (fin : ∀ ρ n, J l ρ n → De.nx ρ n) : Loop g tb De (l.map f) ρ n := by
  refine ⟨fun i => J (l.take i), by simpa using h0, fun i d ρ n hd hJ => ?_, fun ρ n hJ => fin ρ n (by rw [List.length_map, List.take_length] at hJ; exact hJ)⟩
  obtain ⟨a, rfl, e1, e2⟩ := part_at hd
  have := st (l.take i) a (l.drop (i + 1)) ρ n e1 hJ
  rw [← e2] at this
  exact this
theorem Comp.of (f : α → D) (l : List α) (J : List α → List D → Nat → Prop) (h0 : J [] [] n)
    (st : ∀ (pre : List α) (a : α) (suf : List α) (acc : List D) (n : Nat), l = pre ++ a :: suf → J pre acc n → g (f a) ρ n fun ρ' n' => tt ρ' n' fun b n2 => br b (te ρ' n2 fun y n3 => J (pre ++ [a]) (acc ++ [y]) n3) (J (pre ++ [a]) acc n2))
    (fin : ∀ acc n, J l acc n → Q acc n) : Comp g tt te (l.map f) ρ n Q := by
  refine ⟨fun i => J (l.take i), by simpa using h0, fun i d acc n hd hJ => ?_, fun acc n hJ => fin acc n (by rw [List.length_map, List.take_length] at hJ; exact hJ)⟩
  obtain ⟨a, rfl, e1, e2⟩ := part_at hd
  have := st (l.take i) a (l.drop (i + 1)) acc n e1 hJ
  rw [← e2] at this
  exact this
/-- dict comprehensions -/
theorem CompT.of {Q : QT} (f : α → D) (l : List α) (J : List α → List (NK × D) → Nat → Prop) (h0 : J [] [] n)
    (st : ∀ (pre : List α) (a : α) (suf : List α) (acc : List (NK × D)) (n : Nat), l = pre ++ a :: suf → J pre acc n → g (f a) ρ n fun ρ' n' => tt ρ' n' fun b n2 => br b (tk ρ' n2 fun y n3 => te ρ' n3 fun z n4 => match keyT y with | some k => J (pre ++ [a]) (putT acc k z) n4 | none => False) (J (pre ++ [a]) acc n2))
    (fin : ∀ acc n, J l acc n → Q acc n) : CompT g tt tk te (l.map f) ρ n Q := by
  refine ⟨fun i => J (l.take i), by simpa using h0, fun i d acc n hd hJ => ?_, fun acc n hJ => fin acc n (by rw [List.length_map, List.take_length] at hJ; exact hJ)⟩
  obtain ⟨a, rfl, e1, e2⟩ := part_at hd
  have := st (l.take i) a (l.drop (i + 1)) acc n e1 hJ
  rw [← e2] at this
  exact this
theorem CompK.of {Q : QK} (f : α → D) (l : List α) (J : List α → List (Key × D) → Nat → Prop) (h0 : J [] [] n)
    (st : ∀ (pre : List α) (a : α) (suf : List α) (acc : List (Key × D)) (n : Nat), l = pre ++ a :: suf → J pre acc n → g (f a) ρ n fun ρ' n' => tt ρ' n' fun b n2 => br b (tk ρ' n2 fun y n3 => te ρ' n3 fun z n4 => match keyD y with | some k => J (pre ++ [a]) (putE acc k z) n4 | none => False) (J (pre ++ [a]) acc n2))
    (fin : ∀ acc n, J l acc n → Q acc n) : CompK g tt tk te (l.map f) ρ n Q := by
  refine ⟨fun i => J (l.take i), by simpa using h0, fun i d acc n hd hJ => ?_, fun acc n hJ => fin acc n (by rw [List.length_map, List.take_length] at hJ; exact hJ)⟩
  obtain ⟨a, rfl, e1, e2⟩ := part_at hd
  have := st (l.take i) a (l.drop (i + 1)) acc n e1 hJ
  rw [← e2] at this
  exact this
end
end Dw

/-! ### repr of data: when it may be asked -/
namespace Dw
open PySem PySem.Spec PyProof.Rows L2 Fw
def okKy : Key → Bool
  | .inl i => decide (i.natAbs.log2 < 1920)
  | .inr s => PyData.strOk s
mutual
/-- plain data, at most k deep, numbers of at most 1920 bits -/
def okR : Nat → D → Bool
  | _, .non => true | _, .bl _ => true | _, .int i => decide (i.natAbs.log2 < 1920) | _, .str s => PyData.strOk s | k + 1, .tup l => okRL k l | k + 1, .lst l => okRL k l | k + 1, .dct es => okRK k es | _, _ => false
def okRL : Nat → List D → Bool
  | _, [] => true | k, d :: r => okR k d && okRL k r
def okRK : Nat → List (Key × D) → Bool
  | _, [] => true | k, (kk, d) :: r => okKy kk && okR k d && okRK k r
end
def blkKy : Key → Nat
  | .inl _ => 0
  | .inr s => s.cps.size
mutual
/-- how much there is in it -/
def blkD : D → Nat
  | .str s => s.cps.size | .tup l => blkL l | .lst l => blkL l | .dct es => blkK es | _ => 0
def blkL : List D → Nat
  | [] => 0 | d :: r => blkD d + 1 + blkL r
def blkK : List (Key × D) → Nat
  | [] => 0 | (k, d) :: r => blkKy k + blkD d + 2 + blkK r
end
theorem okRL_all (k : Nat) : ∀ l : List D, okRL k l = l.all (okR k)
  | [] => by simp [okRL]
  | d :: r => by rw [okRL, List.all_cons, okRL_all k r]
theorem okR_lst {k : Nat} {l : List D} (h : ∀ x ∈ l, okR k x = true) : okR (k + 1) (.lst l) = true := by
  rw [okR, okRL_all]; exact List.all_eq_true.mpr h
theorem okR_tup {k : Nat} {l : List D} (h : ∀ x ∈ l, okR k x = true) : okR (k + 1) (.tup l) = true := by
  rw [okR, okRL_all]; exact List.all_eq_true.mpr h
mutual
theorem okR_mono : ∀ {k m : Nat} {d : D}, k ≤ m → okR k d = true → okR m d = true
  | _, _, .non, _, _ => by simp [okR]
  | _, _, .bl _, _, _ => by simp [okR]
  | _, _, .int i, _, h => by rw [okR] at h ⊢; exact h
  | _, _, .str s, _, h => by rw [okR] at h ⊢; exact h
  | k + 1, m + 1, .tup l, e, h => by rw [okR] at h ⊢; exact okRL_mono (by omega) h
  | k + 1, m + 1, .lst l, e, h => by rw [okR] at h ⊢; exact okRL_mono (by omega) h
  | k + 1, m + 1, .dct l, e, h => by rw [okR] at h ⊢; exact okRK_mono (by omega) h
  | 0, _, .tup l, _, h => by simp [okR] at h
  | 0, _, .lst l, _, h => by simp [okR] at h
  | 0, _, .dct l, _, h => by simp [okR] at h
  | k + 1, 0, .tup l, e, h => by omega
  | k + 1, 0, .lst l, e, h => by omega
  | k + 1, 0, .dct l, e, h => by omega
  | _, _, .obj _ _, _, h => by simp [okR] at h
  | _, _, .exc _ _, _, h => by simp [okR] at h
  | _, _, .feed, _, h => by simp [okR] at h
  | _, _, .scr _, _, h => by simp [okR] at h
  | _, _, .val _, _, h => by simp [okR] at h
  | _, _, .dtt _ _, _, h => by simp [okR] at h
  | _, _, .fn _ _ _, _, h => by simp [okR] at h
theorem okRL_mono : ∀ {k m : Nat} {l : List D}, k ≤ m → okRL k l = true → okRL m l = true
  | _, _, [], _, _ => by simp [okRL]
  | _, _, d :: r, e, h => by
    rw [okRL, Bool.and_eq_true] at h ⊢
    exact ⟨okR_mono e h.1, okRL_mono e h.2⟩
theorem okRK_mono : ∀ {k m : Nat} {l : List (Key × D)}, k ≤ m → okRK k l = true → okRK m l = true
  | _, _, [], _, _ => by simp [okRK]
  | _, _, (kk, d) :: r, e, h => by
    rw [okRK, Bool.and_eq_true, Bool.and_eq_true] at h ⊢
    exact ⟨⟨h.1.1, okR_mono e h.1.2⟩, okRK_mono e h.2⟩
end
theorem kPy_ok {k : Key} (h : okKy k = true) : (kPy k).showable = true ∧ (kPy k).leavesShort 1921 = true ∧ (kPy k).bulk = blkKy k := by
  cases k with
  | inl i =>
    have h := of_decide_eq_true h
    exact ⟨decide_eq_true h, decide_eq_true (int_text_len_1921 h), rfl⟩
  | inr s =>
    refine ⟨rfl, ?_, rfl⟩
    show (s.cps.toList.all fun c => decide (c < 16 ^ 8)) = true
    rw [List.all_eq_true]
    intro c hc
    have : s.cps.all (· < 0x110000) = true := h
    rw [Array.all_eq_true'] at this
    have := this c (by simpa using hc)
    have := of_decide_eq_true this
    exact decide_eq_true (by omega)
mutual
theorem okR_px : ∀ {k : Nat} {d : D}, okR k d = true → dpx k d = true ∧ d.px.showable = true ∧ d.px.leavesShort 1921 = true ∧ d.px.bulk = blkD d
  | _, .non, _ => by rw [D.px, dpx]; exact ⟨rfl, rfl, rfl, by simp [PyData.bulk, blkD]⟩
  | _, .bl _, _ => by rw [D.px, dpx]; exact ⟨rfl, rfl, rfl, by simp [PyData.bulk, blkD]⟩
  | _, .int i, h => by
    rw [okR] at h
    have k := kPy_ok (k := .inl i) h
    rw [D.px, dpx]
    exact ⟨rfl, k.1, k.2.1, by simp [PyData.bulk, blkD]⟩
  | _, .str s, h => by
    rw [okR] at h
    have k := kPy_ok (k := .inr s) h
    rw [D.px, dpx]
    exact ⟨rfl, k.1, k.2.1, by simp [PyData.bulk, blkD]⟩
  | k + 1, .tup l, h => by
    rw [okR] at h
    have := okRL_px h
    rw [D.px, dpx, PyData.showable, PyData.leavesShort, PyData.bulk, blkD]
    exact this
  | k + 1, .lst l, h => by
    rw [okR] at h
    have := okRL_px h
    rw [D.px, dpx, PyData.showable, PyData.leavesShort, PyData.bulk, blkD]
    exact this
  | k + 1, .dct l, h => by
    rw [okR] at h
    have := okRK_px h
    rw [D.px, dpx, PyData.showable, PyData.leavesShort, PyData.bulk, blkD]
    exact this
  | 0, .tup l, h => by simp [okR] at h
  | 0, .lst l, h => by simp [okR] at h
  | 0, .dct l, h => by simp [okR] at h
  | _, .obj _ _, h => by simp [okR] at h
  | _, .exc _ _, h => by simp [okR] at h
  | _, .feed, h => by simp [okR] at h
  | _, .scr _, h => by simp [okR] at h
  | _, .val _, h => by simp [okR] at h
  | _, .dtt _ _, h => by simp [okR] at h
  | _, .fn _ _ _, h => by simp [okR] at h
theorem okRL_px : ∀ {k : Nat} {l : List D}, okRL k l = true → dpxL k l = true ∧ PyData.showableAll (pxL l) = true ∧ PyData.leavesShortAll 1921 (pxL l) = true ∧ PyData.bulkAll (pxL l) = blkL l
  | _, [], _ => by rw [pxL, dpxL]; exact ⟨rfl, rfl, rfl, by simp [PyData.bulkAll, blkL]⟩
  | _, d :: r, h => by
    rw [okRL, Bool.and_eq_true] at h
    obtain ⟨a1, a2, a3, a4⟩ := okR_px h.1
    obtain ⟨b1, b2, b3, b4⟩ := okRL_px h.2
    rw [pxL, dpxL, PyData.showableAll, PyData.leavesShortAll, PyData.bulkAll, blkL, a1, a2, a3, a4, b1, b2, b3, b4]
    exact ⟨rfl, rfl, rfl, rfl⟩
theorem okRK_px : ∀ {k : Nat} {l : List (Key × D)}, okRK k l = true → dpxK k l = true ∧ PyData.showableKv (pxK l) = true ∧ PyData.leavesShortKv 1921 (pxK l) = true ∧ PyData.bulkKv (pxK l) = blkK l
  | _, [], _ => by rw [pxK, dpxK]; exact ⟨rfl, rfl, rfl, by simp [PyData.bulkKv, blkK]⟩
  | _, (kk, d) :: r, h => by
    rw [okRK, Bool.and_eq_true, Bool.and_eq_true] at h
    obtain ⟨c1, c2, c3⟩ := kPy_ok h.1.1
    obtain ⟨a1, a2, a3, a4⟩ := okR_px h.1.2
    obtain ⟨b1, b2, b3, b4⟩ := okRK_px h.2
    rw [pxK, dpxK, PyData.showableKv, PyData.leavesShortKv, PyData.bulkKv, blkK, a1, a2, a3, a4, b1, b2, b3, b4, c1, c2, c3]
    exact ⟨rfl, rfl, rfl, rfl⟩
end
/-- repr may be asked -/
structure Rpr (d : D) : Prop where
  ok : okR 60 d = true
  few : blkD d ≤ 8000
theorem reprX_of {x : D} {n : Nat} {Q : QD} (h : Rpr x) (q : Q (.str x.px.shown) n) : dReprX [x] n Q := by
  obtain ⟨a1, a2, a3, a4⟩ := okR_px h.ok
  refine ⟨a1, a2, ?_, q⟩
  have h1 := PyData.shown_le_bulk 1921 (by decide) _ a3
  rw [a4] at h1
  have h2 : (1921 + 2) * blkD x ≤ (1921 + 2) * 8000 := Nat.mul_le_mul_left _ h.few
  have h3 : (1921 + 2) * 8000 + 10000 ≤ sizeLine := by decide
  omega
theorem Rpr.a {x : D} (h : Rpr x) : dpx 60 x = true := (okR_px h.ok).1
theorem Rpr.b {x : D} (h : Rpr x) : x.px.showable = true := (okR_px h.ok).2.1
theorem Rpr.c {x : D} (h : Rpr x) : x.px.shown.length ≤ sizeLine := (reprX_of (n := 0) (Q := fun _ _ => True) h trivial).2.2.1
end Dw

/-! ### isinstance within a comprehension -/
namespace Dw
open PySem PySem.Spec PyProof.Rows L2 Fw
end Dw

/-! ### what one owns grows; x.pop() within an expression -/
namespace Dw
open PySem PySem.Spec PyProof.Rows L2 Fw
section
variable {K : PySem.W.Frag} {B : Bx} {G H G1 H1 : Hp} {σ : L2.St} {ρ : Ro} {n m : Nat}
/-- one's own is changed, and gets what is new -/
theorem EnvC.grow {i : Nat} {q : Addr} {s s' : Sl} {o o' : OwO} (e : EnvC K B G H σ ρ n) (hi : ρ[i]? = some (some s)) (hs : slO s = some o) (hq : σ[i]? = some (some (V.ref q)))
    (hH : ∀ b, b ∉ fpOf H q o → H b ≠ none → H1 b = H b) (hk : ∀ b, H b ≠ none → H1 b ≠ none) (hs' : slO s' = some o') (h1 : OwnAt K B.F G H1 q o') (h2 : ∀ b ∈ fpOf H1 q o', b ∈ fpOf H q o ∨ H b = none) : EnvC K B G H1 σ (ρ.set i (some s')) n := by
  obtain ⟨q', h0, h0', h3⟩ := e.ow i s o hi hs
  rw [hq] at h0
  cases h0
  have so : ∀ {b : Addr} {u : HO}, H b = some u → H b ≠ none := fun h z => by rw [h] at z; cases z
  have fdH : ∀ p c a l, B.F = some p → H p = some (.dK (fdK c a l)) → H1 p = some (.dK (fdK c a l)) := fun p c a l f hp => by rw [hH p (fun z => (h3 p z).f f) (so hp)]; exact hp
  have fdB : ∀ p c a l, B.F = some p → H1 p = some (.dK (fdK c a l)) → H p = some (.dK (fdK c a l)) := fun p c a l f hp => by
    obtain ⟨⟨c0, ns, a0, l0, g1, g2, _⟩, _⟩ := e.w.fd p f
    rw [hH p (fun z => (h3 p z).f f) (so g1)] at hp; exact hp
  have rest : ∀ (j : Nat) (s' : Sl) (o' : OwO) (q' : Addr), i ≠ j → ρ[j]? = some (some s') → slO s' = some o' → σ[j]? = some (some (V.ref q')) → ∀ b ∈ fpOf H q' o', b ∉ fpOf H q o ∧ H b ≠ none := fun j s' o' q' hij hj hs' hq' b hb => ⟨fun hb' => e.ap i j s s' o o' q q' hij hi hs hj hs' hq hq' b hb' hb, by
    obtain ⟨q2, k1, k2, _⟩ := e.ow j s' o' hj hs'
    rw [hq'] at k1
    cases k1
    obtain ⟨u, hu⟩ := k2.there b hb
    exact so hu⟩
  have fr : ∀ b, Fre B G H b → Fre B G H1 b := fun b f => ⟨f.g, f.b, f.f, fun p c a l hp hp1 => f.c p c a l hp (fdB p c a l hp hp1)⟩
  have nw : ∀ b, H b = none → Fre B G H b := fun b hb => by
    refine ⟨e.w.free hb, ?_, fun f => ?_, fun p c a l f hp z => ?_⟩
    · cases z : B.H b with
      | none => rfl
      | some o => exact absurd hb (e.x.kp b (by rw [z]; exact fun y => nomatch y))
    · obtain ⟨⟨c, ns, a, l, g1, _⟩, _⟩ := e.w.fd b f
      rw [hb] at g1; cases g1
    · obtain ⟨⟨c0, ns, a0, l0, g1, g2, _⟩, _⟩ := e.w.fd p f
      rw [g1] at hp
      have := fdK_inj (Option.some.inj hp)
      rw [z, ← this, g2] at hb; cases hb
  refine ⟨⟨fun b u hu => ?_, fun p f => ?_, e.w.tb.step (fun _ _ _ z => z) fun b o t z => by rw [hH b (h0'.notT t z) (so z)]; exact z⟩, ⟨fun b u hu f nt => ?_, fun p c a l f hp => ?_, fun b hb' => hk b (e.x.kp b hb'), e.x.g, e.x.gx⟩, by rw [List.length_set]; exact e.len, fun j y hj => ?_, fun j s2 o2 hj hs2 => ?_, fun j k s1 s2 o1 o2 q1 q2 hjk k1 hs1 k2 hs2 e1 e2 => ?_⟩
  · have hb := e.w.sub b u hu
    rw [hH b (fun z => by rw [(h3 b z).g] at hu; cases hu) (so hb)]; exact hb
  · obtain ⟨⟨c, ns, a, l, g1, g2, g3⟩, g4⟩ := e.w.fd p f
    refine ⟨⟨c, ns, a, l, fdH p c a l f g1, ?_, g3⟩, g4⟩
    rw [hH c (fun z => (h3 c z).c p c a l f g1 rfl) (so g2)]; exact g2
  · have hb := e.x.to b u hu f nt
    rw [hH b (fun z => by rw [(h3 b z).b] at hu; cases hu) (so hb)]; exact hb
  · obtain ⟨a', l', z⟩ := e.x.fd p c a l f hp
    exact ⟨a', l', fdH p c a' l' f z⟩
  · rcases set_at hj with ⟨rfl, z, _⟩ | ⟨c, hj'⟩
    · subst z; cases hs'
    · exact e.d j y hj'
  · rcases set_at hj with ⟨rfl, z, _⟩ | ⟨c, hj'⟩
    · subst z
      rw [hs'] at hs2
      cases hs2
      exact ⟨q, hq, h1, fun b hb => (h2 b hb).elim (fun hb => fr b (h3 b hb)) fun hb => fr b (nw b hb)⟩
    · obtain ⟨q2, g1, g2, g3⟩ := e.ow j s2 o2 hj' hs2
      have far := rest j s2 o2 q2 c hj' hs2 g1
      refine ⟨q2, g1, g2.ext (Same.refl _) fun b hb => hH b (far b hb).1 (far b hb).2, ?_⟩
      rw [fpOf_ext fun b hb => hH b (far b hb).1 (far b hb).2]
      exact fun b hb => fr b (g3 b hb)
  · rcases set_at k1 with ⟨rfl, z, _⟩ | ⟨c, k1'⟩
    · rcases set_at k2 with ⟨rfl, z2, _⟩ | ⟨c', k2'⟩
      · exact absurd rfl hjk
      · subst z
        rw [hs'] at hs1
        cases hs1
        rw [hq] at e1
        cases e1
        have far := rest k s2 o2 q2 c' k2' hs2 e2
        rw [fpOf_ext (H := H) (H' := H1) fun b hb => hH b (far b hb).1 (far b hb).2]
        exact fun b hb hb' => (h2 b hb).elim (far b hb').1 (far b hb').2
    · rcases set_at k2 with ⟨rfl, z2, _⟩ | ⟨c', k2'⟩
      · subst z2
        rw [hs'] at hs2
        cases hs2
        rw [hq] at e2
        cases e2
        have far := rest j s1 o1 q1 c k1' hs1 e1
        rw [fpOf_ext (H := H) (H' := H1) fun b hb => hH b (far b hb).1 (far b hb).2]
        exact fun b hb hb' => (h2 b hb').elim (far b hb).1 (far b hb).2
      · rw [fpOf_ext (H := H) (H' := H1) fun b hb => hH b (rest j s1 o1 q1 c k1' hs1 e1 b hb).1 (rest j s1 o1 q1 c k1' hs1 e1 b hb).2, fpOf_ext (H := H) (H' := H1) fun b hb => hH b (rest k s2 o2 q2 c' k2' hs2 e2 b hb).1 (rest k s2 o2 q2 c' k2' hs2 e2 b hb).2]
        exact e.ap j k s1 s2 o1 o2 q1 q2 hjk k1' hs1 k2' hs2 e1 e2
end
/-! an expression that changes what one owns -/
abbrev TX := Ro → Nat → (D → Ro → Nat → Prop) → Prop
def dlx (K : PySem.W.Frag) (Z : ZX) (tx : TX) : TE := fun σ H Q => ∃ B G ρ n Qd, EnvD K Z B G H σ ρ n ∧ tx ρ n Qd ∧ ∀ d ρ' n' v H' G', Qd d ρ' n' → EnvD K Z B G' H' σ ρ' n' → Rep K B.F G' v d → Q v H'
structure DX (X : Cx) (Z : ZX) (e : Expr) (tx : TX) : Prop where
  pe : PE X e (dlx X.K Z tx)
section
variable {X : Cx} {Z : ZX} {e b c : Expr} {x : Str} {p1 apos pos cpos : Pos}
/-! d.get(e, f), e such a one -/
/-! for tg in such a one -/
abbrev TIX := Ro → Nat → (List D → Ro → Nat → Prop) → Prop
def dlix (K : PySem.W.Frag) (Z : ZX) (ti : TIX) : TI := fun σ H R => ∃ B G ρ n Qd, EnvD K Z B G H σ ρ n ∧ ti ρ n Qd ∧ ∀ ds ρ' n' J H' G', Qd ds ρ' n' → EnvD K Z B G' H' σ ρ' n' → ItR K B.F G' J ds → R J H'
structure DIX (X : Cx) (Z : ZX) (tg iter : Expr) (ti : TIX) : Prop where
  pi : PI X tg iter (dlix X.K Z ti)
end
end Dw

/-! ### d.setdefault(k, []).append(e) -/
namespace Dw
open PySem PySem.Spec PyProof.Rows L2 Fw
section
variable {κ : Type} [DecidableEq κ]
/-- those of k -/
def atP (ps : List (κ × List D)) (k : κ) : List D := ((ps.find? fun e => decide (e.1 = k)).map (·.2)).getD []
abbrev ab (es : List (κ × Addr × List D)) : List (κ × List D) := es.map fun e => (e.1, e.2.2)
def addA (k : κ) (z : D) : List (κ × Addr × List D) → List (κ × Addr × List D)
  | [] => []
  | e :: t => if e.1 = k then (e.1, e.2.1, e.2.2 ++ [z]) :: t else e :: addA k z t
end
section
variable {K : PySem.W.Frag} {F : Option Addr} {G H H' : Hp}
theorem OwKL.find {k : Key} : ∀ {us : List (Key × V)} {es : List (Key × Addr × List D)}, OwKL K F G H us es → (valV us k = none ∧ (es.any fun e => decide (e.1 = k)) = false) ∨
    ∃ r vs xs, valV us k = some (.ref r) ∧ (es.any fun e => decide (e.1 = k)) = true ∧ r ∈ es.map (·.2.1) ∧ H r = some (.lst vs) ∧ RepL K F G vs xs ∧ atP (ab es) k = xs
  | _, _, .nil => .inl ⟨rfl, rfl⟩
  | _, _, .cons (f := f) (r := r) (vs := vs) (xs := xs) (us := us) (es := es) h rp s => by
    by_cases c : f = k
    · refine .inr ⟨r, vs, xs, valV_pos (p := (f, V.ref r)) c, by simp [c], by simp, h, rp, ?_⟩
      unfold atP ab; simp [c]
    · rcases OwKL.find (k := k) s with ⟨h1, h2⟩ | ⟨r', vs', xs', h1, h2, h3, h4, h5, h6⟩
      · exact .inl ⟨by rw [valV_neg (p := (f, V.ref r)) c]; exact h1, by simp only [List.any_cons, c, decide_false, Bool.false_or]; exact h2⟩
      · refine .inr ⟨r', vs', xs', by rw [valV_neg (p := (f, V.ref r)) c]; exact h1, by simp only [List.any_cons, c, decide_false, Bool.false_or]; exact h2, List.mem_cons_of_mem _ h3, h4, h5, ?_⟩
        unfold atP ab at h6 ⊢
        simpa [c] using h6
theorem OwKL.add {k : Key} {r : Addr} {v : V} {z : D} {vs : List V} (hv : Rep K F G v z) (hr : H r = some (.lst vs)) : ∀ {us : List (Key × V)} {es : List (Key × Addr × List D)}, OwKL K F G H us es → (es.map (·.2.1)).Nodup → valV us k = some (.ref r) → OwKL K F G (upd H r (.lst (vs ++ [v]))) us (addA k z es)
  | _, _, .nil, _, h => by cases h
  | _, _, .cons (f := f) (r := r') (vs := vs') (xs := xs') (us := us) (es := es) h rp s, nd, hk => by
    rw [List.map_cons, List.nodup_cons] at nd
    show OwKL K F G _ _ (if f = k then _ else _)
    by_cases c : f = k
    · rw [valV_pos (p := (f, V.ref r')) c] at hk
      cases hk
      rw [hr] at h
      cases h
      rw [if_pos c]
      refine .cons upd_same (rp.append (.cons hv .nil)) (s.ext (Same.refl _) fun b hb => upd_ne fun e => nd.1 (e ▸ hb))
    · rw [valV_neg (p := (f, V.ref r')) c] at hk
      rw [if_neg c]
      rcases OwKL.find (k := k) s with ⟨h1, _⟩ | ⟨r2, _, _, h1, _, h3, _⟩
      · rw [h1] at hk; cases hk
      · rw [h1] at hk
        cases hk
        have ne : r' ≠ r := fun e => nd.1 (by rw [show (f, r', xs').2.1 = r from e]; exact h3)
        exact .cons (by rw [upd_ne ne]; exact h) rp (OwKL.add hv hr s nd.2 h1)
theorem OwKL.length : ∀ {us : List (Key × V)} {es : List (Key × Addr × List D)}, OwKL K F G H us es → us.length = es.length
  | _, _, .nil => rfl
  | _, _, .cons _ _ s => by rw [List.length_cons, List.length_cons, OwKL.length s]
end
section
variable {X : Cx} {Z : ZX} {x : Str} {kx vx : Expr} {tk tv : TD}
end
end Dw

/-! ### dicts of lists are shared; the same with nested tuple keys; x.extend(e) -/
namespace Dw
open PySem PySem.Spec PyProof.Rows L2 Fw
section
variable {K : PySem.W.Frag} {F : Option Addr} {G G' H H' : Hp}
end
section
variable {X : Cx} {Z : ZX} {st : Stmt} {tz : TZ}
abbrev lsK {κ : Type} (ps : List (κ × List D)) : List (κ × D) := ps.map fun e => (e.1, .lst e.2)
end
section
variable {X : Cx} {Z : ZX} {x : Str} {vx : Expr} {tv : TD}
end
end Dw

/-! ### dicts: ==, !=, dict(x), x.update(e); a dict `in` a list of texts; a tuple that is the module's -/
namespace Dw
open PySem PySem.Spec PyProof.Rows L2 Fw
section
variable {X : Cx} {Z : ZX} {x : Str} {pos : Pos}
/-- the tuple of texts at a -/
def tupS (K : PySem.W.Frag) (a : Addr) (ss : List Str) : Bool := match K.lookup a with
  | some ⟨.type "tuple", _, .seq its _, _⟩ => decide (its.size ≤ 1000) && decide (its.toList.length = ss.length) && ((its.toList.zip ss).all fun p => match p.1 with | .str z _ => decide (z = p.2) | _ => false)
  | _ => false
theorem tupS_ok {K : PySem.W.Frag} {a : Addr} {ss : List Str} (h : tupS K a ss = true) : ∀ F G, Rep K F G (.ref a) (.tup (ss.map D.str)) := by
  unfold tupS at h
  split at h
  · rename_i dd its n sl hl
    simp only [Bool.and_eq_true, decide_eq_true_eq] at h
    obtain ⟨⟨h1, h2⟩, h3⟩ := h
    intro F G
    have vs : Vals (ss.map V.str) its.toList := by
      clear hl h1
      generalize its.toList = us at h2 h3
      induction ss generalizing us with
      | nil =>
        cases us with
        | nil => exact .nil
        | cons _ _ => cases h2
      | cons z r ih =>
        cases us with
        | nil => cases h2
        | cons u us =>
          simp only [List.zip_cons_cons, List.all_cons, Bool.and_eq_true] at h3
          refine .cons ?_ (ih us (by simpa using h2) h3.2)
          cases u with
          | str y t =>
            have := of_decide_eq_true h3.1
            subst this
            exact ⟨t, rfl⟩
          | _ => cases h3.1
    have sq : SqT K G a (ss.map V.str) := .inr ⟨_, its, n, hl, rfl, rfl, Nat.le_trans h1 (by decide), vs⟩
    refine .tup sq ?_
    clear hl h1 h2 h3 vs sq
    induction ss with
    | nil => exact .nil
    | cons z r ih => exact .cons (.str z) ih
  · cases h
end
/-! == and != of dicts -/
section
variable {X : Cx} {Z : ZX} {K : PySem.W.Frag}
end
end Dw

/-! ### dict(x), x.update(e); == and != where dicts may stand; a dict `in` a list of texts -/
namespace Dw
open PySem PySem.Spec PyProof.Rows L2 Fw
section
variable {X : Cx} {Z : ZX} {K : PySem.W.Frag} {e a b vx : Expr} {ta tb te tv : TD} {pos p : Pos} {x : Str}
/-! ==, != of any data, dicts too -/
end
end Dw

/-! ### a dict `in` a list of texts -/
namespace Dw
open PySem PySem.Spec PyProof.Rows L2 Fw
section
open PySem.SeqAt AutoSeq1 MeetsSeq MeetsSeq2 MeetsSeq3 SeqRoads2
end
section
variable {X : Cx} {Z : ZX} {K : PySem.W.Frag} {a b : Expr} {ta tb : TD} {pos : Pos}
end
end Dw

/-! ### a call's arguments bound, by the kernel -/
namespace Dw
open PySem PySem.Spec PyProof.Rows L2 Fw
noncomputable def bk (fd : FuncData) (args : Args) : (t : (σ : Type) × Sem σ × (σ → Option (Array Value) → Sem (List (Str × Value)))) ×' (bindArgs fd args = t.2.1 >>= fun r => seqItems? fd.defaults >>= t.2.2 r) := by
  refine ⟨⟨?a, ?b, ?c⟩, ?d⟩
  case d =>
    unfold bindArgs
    exact rfl
end Dw

/-! ### dicts of the module read by data: d[k], d.get(k, e); e.get(k, f) of any dict -/
namespace Dw
open PySem PySem.Spec PyProof.Rows L2 Fw
/-- a text, or a tuple of texts -/
def gvD : Str ⊕ List Str → D
  | .inl s => .str s
  | .inr ss => .tup (ss.map D.str)
def gvB (K : PySem.W.Frag) : Value → Str ⊕ List Str → Bool
  | .str z _, .inl s => decide (z = s)
  | .ref a, .inr ss => tupS K a ss
  | _, _ => false
theorem gvB_ok {K : PySem.W.Frag} {u : Value} {g : Str ⊕ List Str} (h : gvB K u g = true) : ∃ v, RelV v u ∧ ∀ F G, Rep K F G v (gvD g) := by
  cases g with
  | inl s =>
    cases u with
    | str z t =>
      have : z = s := of_decide_eq_true h
      subst this
      exact ⟨.str z, ⟨t, rfl⟩, fun _ _ => .str z⟩
    | _ => cases h
  | inr ss =>
    cases u with
    | ref a => exact ⟨.ref a, rfl, tupS_ok h⟩
    | _ => cases h
/-- what stands at some keys -/
def gdtB (K : PySem.W.Frag) (a : Addr) (kvs : List (Str × Option (Str ⊕ List Str))) : Bool := kvs.all fun q => match PySem.W.nsIn K a q.1, q.2 with
  | some (some u), some g => gvB K u g
  | some none, none => true
  | _, _ => false
structure GDt (K : PySem.W.Frag) (w : World) (a : Addr) (kvs : List (Str × Option (Str ⊕ List Str))) : Prop where
  tab : ∃ es n, KDict K w a es n
  vals : gdtB K a kvs = true
theorem lookup_mem {α : Type} {l : List (Str × α)} {s : Str} {x : α} (h : l.lookup s = some x) : (s, x) ∈ l := by
  induction l with
  | nil => cases h
  | cons p r ih =>
    obtain ⟨k, v⟩ := p
    rw [List.lookup_cons] at h
    cases e : s == k with
    | true =>
      rw [e] at h
      cases h
      rw [eq_of_beq e]; exact List.mem_cons_self
    | false =>
      rw [e] at h
      exact List.mem_cons_of_mem _ (ih h)
theorem GDt.at_ {K : PySem.W.Frag} {w : World} {a : Addr} {kvs : List (Str × Option (Str ⊕ List Str))} (D : GDt K w a kvs) {s : Str} {o : Option (Str ⊕ List Str)} (h : kvs.lookup s = some o) :
    (o = none ∧ PySem.W.nsIn K a s = some none) ∨ ∃ g u v, o = some g ∧ PySem.W.nsIn K a s = some (some u) ∧ RelV v u ∧ ∀ F G, Rep K F G v (gvD g) := by
  have := List.all_eq_true.mp D.vals _ (lookup_mem h)
  simp only at this
  split at this
  · rename_i u g h1
    obtain ⟨v, h3, h4⟩ := gvB_ok this
    exact .inr ⟨g, u, v, rfl, h1, h3, h4⟩
  · rename_i h1
    exact .inl ⟨rfl, h1⟩
  · cases this
section
variable {X : Cx} {Z : ZX} {e b c o : Expr} {pos p1 apos : Pos} {td tk tx : TD} {x : Str} {a : Addr} {kvs : List (Str × Option (Str ⊕ List Str))}
end
end Dw

/-! ### promises over the heap as promises by data; x *= e, x -= e; texts as lists of codes -/
namespace Dw
open PySem PySem.Spec PyProof.Rows L2 Fw
section
variable {K : PySem.W.Frag} {F : Option Addr} {G H H' : Hp} {n : Nat} {Qd : QD} {Q : VK}
theorem same_ext (w : Wd F G H n) (s : Same H H') : Ext F G H G H' ∧ Wd F G H' n :=
  ⟨⟨fun b o h _ _ => s b o h, fun p c a l _ h => ⟨a, l, s _ _ h⟩, fun b h => by
    cases e : H b with
    | none => exact absurd e h
    | some o => rw [s b o e]; exact nofun, Same.refl _, fun _ h _ => h⟩,
   ⟨fun b o h => s b o (w.sub b o h), fun p f => by
    obtain ⟨⟨c, ns, a, l, h1, h2, h3⟩, h4⟩ := w.fd p f
    exact ⟨⟨c, ns, a, l, s _ _ h1, s _ _ h2, h3⟩, h4⟩, w.tb.step (fun _ _ _ z => z) fun b o _ z => s b o z⟩⟩
/-- an answer that lies nowhere -/
theorem KD.flat (k : KD K F G H Qd Q) (w : Wd F G H n) {d : D} {v : V} (q : Qd d n) (s : Same H H') (r : ∀ G, Rep K F G v d) : Q v H' :=
  k d n v H' G q (same_ext w s).1 (same_ext w s).2 (r G)
theorem same_share (w : Wd F G H n) (s : Same H H') {T : Addr} {o : HO} (hT : H T = none) (hT' : H' T = some o) : Ext F G H (upd G T o) H' ∧ Wd F (upd G T o) H' n := by
  have hG : G T = none := w.free hT
  obtain ⟨x, w'⟩ := same_ext w s
  refine ⟨⟨x.to, x.fd, x.kp, new_to hG, fun b h1 h2 => ?_⟩, ⟨fun b u h => ?_, fun p f => ?_, w.tb.step (fun b ps z z2 => by rw [upd_ne (ne_of_none z hT)]; exact z2) fun b o _ z => s b o z⟩⟩
  · rw [upd_ne (fun z => h2 (by rw [z]; exact hT))]; exact h1
  · by_cases c : b = T
    · subst c; rw [upd_same] at h; cases h; exact hT'
    · rw [upd_ne c] at h; exact w'.sub b u h
  · obtain ⟨h1, h2⟩ := w'.fd p f
    refine ⟨h1, ?_⟩
    obtain ⟨⟨c, ns, a, l, g1, _⟩, _⟩ := w.fd p f
    rw [upd_ne (fun z => by rw [z, hT] at g1; cases g1)]
    exact h2
/-- a tuple made new -/
theorem KD.tup (k : KD K F G H Qd Q) (w : Wd F G H n) {vs : List V} {ds : List D} {T : Addr} (q : Qd (.tup ds) n) (s : Same H H') (hT : H T = none) (hT' : H' T = some (.tup vs)) (r : ∀ G, RepL K F G vs ds) : Q (.ref T) H' :=
  k (.tup ds) n (.ref T) H' _ q (same_share w s hT hT').1 (same_share w s hT hT').2 (.tup (SqT.of upd_same) (r _))
end
section
variable {X : Cx} {Z : ZX} {e : Expr} {pos : Pos} {td : TD}
end
/-! texts as lists of codes -/
end Dw

/-! ### a dict of one's own is lent while an expression is evaluated whose value lies nowhere -/
namespace Dw
open PySem PySem.Spec PyProof.Rows L2 Fw
section
variable {X : Cx} {Z : ZX} {e : Expr} {td : TD}
end
end Dw

/-! ### x.upper(), x.strip() of texts, by data -/
namespace Dw
open PySem PySem.Spec PyProof.Rows L2 Fw
section
variable {X : Cx} {Z : ZX} {a : Expr} {ta : TD} {apos pos : Pos}
end
end Dw

/-! ### defs that hand back a dict made new -/
namespace Dw
open PySem PySem.Spec PyProof.Rows L2 Fw
section
variable {X : Cx} {Z : ZX} {e : Expr} {es : List Expr} {tl : TL} {pos p : Pos}
end
abbrev SpK := List D → Nat → QK → XD → Prop
section
variable {g : Bool} {P : Program} {w : World} {K : PySem.W.Frag} {mg : Str → Option Value} {base : Heap} {CX : CXT} {k : Nat} {f : Addr} {fd : FuncData} {ps N : List Str} {spo : SpK}
  {x qual : Str} {params : Arguments} {body : List Stmt} {scope : Scope} {dvs : List V} {kws : List (Str × V)}
end
structure CalK (X : Cx) (Z : ZX) (x : Str) (n : Nat) (ks : List Str) (sd : List D → List D → Nat → Ro → QK → Prop) : Prop where
  ex : ∃ a : Addr, X.mg x = some (.ref a) ∧ PySem.W.keepIn X.K (.ref a) = true ∧ ∀ (pins : List (Addr × Obj)) (s : Shared) (σ : L2.St) (H : Hp) (us ws : List Value) (vs zs : List V) (Q : VK) B G ρ m ds es Qd, Inv X pins σ H s → Vals vs us → Vals zs ws → vs.length = n → zs.length = ks.length →
    EnvD X.K Z B G H σ ρ m → RepL X.K B.F G vs ds → RepL X.K B.F G zs es → sd ds es m ρ Qd → KOK X.K B.F G H Qd Q → wpAny (model X.prog X.w) X.A (call (.ref a) us (ks.zip ws)) (EP X pins σ Q) X.xe s
theorem KOK.trans {K : PySem.W.Frag} {F : Option Addr} {G H G1 H1 : Hp} {Qd : QK} {Q : VK} (k : KOK K F G H Qd Q) (x : Ext F G H G1 H1) : KOK K F G1 H1 Qd Q := fun es n' q kvs H' G' h x' w h0 h1 h2 r => k es n' q kvs H' G' h (x.trans x') w (free0 x h0) h1 h2 r
section
variable {g : Bool} {X : Cx} {Z : ZX} {x : Str} {n k : Nat} {ks : List Str} {gD : List D → List D → List D} {spk : SpK} {so : List D → List D → Nat → Ro → QK → Prop} {e : Expr} {es : List Expr} {tl : TL} {p pos : Pos}
end
end Dw

/-! ### first, *others = a list; own list += list -/
namespace Dw
open PySem PySem.Spec PyProof.Rows L2 Fw
section
variable {prog : Program} {w : World} {A : Around} {E : Value → Shared → Prop} {s : Shared}
end
section
variable {X : Cx} {pos : Pos}
end
section
variable {X : Cx} {Z : ZX} {e : Expr} {td : TD} {pos : Pos}
/-! range(a, b, c) -/
end
end Dw

/-! ### f"{x}" and repr(x) by a class's own ways; x in [..] where own objects and dicts stand too -/
namespace Dw
open PySem PySem.Spec PyProof.Rows L2 Fw
section
variable {prog : Program} {w : World} {A : Around} {E : Value → Shared → Prop} {s : Shared} {K : PySem.W.Frag} {x C f : Addr} {ox : Obj} {od : Option Obj}
/-- repr(x) by an own __repr__ -/
theorem kro_call {Q : Value → Shared → Prop} (hu : A.units + 1 < cLine) (X : K.In s.heap) (I : PySem.W.InstAt s.heap x ox C od) (hs : PySem.W.findIn K (.ref C) "__repr__" = some (some (.ref f))) (hf : PySem.W.isFn K (.ref f) = true)
    (h : wpAny (model prog w) A.in1 (call (.ref f) [.ref x]) (PySem.W.StrBack Q) E s) : wpAny (model prog w) A (call (.builtin "repr") [.ref x]) Q E s := by
  refine Calls.call_function_entry F.kind_repr F.plain_repr F.entry_repr (F.args_repr1 _) ?_
  unfold Builtin.«repr»
  refine wpAny_bind (m := oneArg "repr" _) (wpAny_pure ?_)
  refine wpAny_bind (m := cRoomFor _ _) (wpAny_cRoomFor (by show A.units + 1 < cLine; exact hu) ?_)
  refine wpAny_bind (m := specialOf _ _) (wpAny_bind (I.type.here ((PySem.W.looks_findIn X hs).here ?_)))
  refine wpAny_bind (m := callSpecialIfBound? (.ref x) (Str.ofString "__repr__") _) (PySem.W.ifBound_K X I hs hf (wpAny_mono h (fun r s₁ h₁ => ?_) fun _ _ e => e))
  cases r <;> first | exact h₁.elim | skip
  refine wpAny_bind (wpAny_isInstance (T := "str") (b := true) (typeIs_str _ _ _) isSubtype_str_str ?_)
  exact wpAny_pure ⟨_, rfl, h₁⟩
end
section
variable {X : Cx} {CX : CXT} {C g : Addr} {n : Nat} {fd : FuncData} {ps : List Str} {sp : Sp} {E : XK}
theorem call_reprOwn (hs : PySem.W.findIn X.K (.ref C) "__repr__" = some (some (.ref g))) (hf : PySem.W.isFn X.K (.ref g) = true) (F : FnOk X.prog X.w X.K X.mg X.base CX n g fd ps sp) (hb : Binds X.K fd ps []) (hr : Room (n + 2) X.A) (hx : Passes CX X E) : CallR X (.builtin "repr") (rStrOwn C sp E) := by
  intro pins s σ H xs us Q I r h
  obtain ⟨a, dx, fs, rfl, ha, q⟩ := h
  obtain ⟨u, rfl, ru⟩ := vals1 r
  cases (show u = Value.ref a from ru)
  obtain ⟨mA, O, _⟩ := ins_get I.hok ha
  obtain ⟨od, J, _⟩ := O.look
  have hr1 : Room n X.A.in1 := (show Room (n + 1) X.A.in1 from Room.in1 hr).mono (Nat.le_succ _)
  refine kro_call (by have := (show Room (n + 1) X.A.in1 from Room.in1 hr).units0; exact this) I.kIn J hs hf ?_
  have r2 : Vals [V.ref a] [Value.ref a] := .cons rfl .nil
  have hl : [Value.ref a].length = ps.length := r2.length.symm.trans (F.len _ _ _ _ q)
  refine wpAny_call (codeAny_mono (F.run X.A.in1 X.stack s H ⟨[.ref a], []⟩ [.ref a] [.ref a] _ E hr1 I.env0.in1 (hb s [.ref a] I.kIn (by rw [List.append_nil]; exact hl)) r2 q) fun r s' hq => ?_)
  rcases r with er | (_ | _ | _ | w)
  · exact hx pins σ H s er s' I hq
  all_goals first | exact False.elim hq | skip
  obtain ⟨z', H', I', rz, x, rfl, qz⟩ := I.after hq
  obtain ⟨t, rfl⟩ := (show ∃ t, w = Value.str x t from rz)
  exact ⟨.str x, H', I', ⟨t, rfl⟩, qz⟩
end
/-- a class's own __str__ and __repr__ -/
structure OwnFmt (P : Program) (w : World) (K : PySem.W.Frag) (mg : Str → Option Value) (base : Heap) (k : Nat) (C : Addr) (spd : SpD) : Prop where
  ex : ∃ (g : Addr) (fd : FuncData) (ps : List Str), PySem.W.findIn K (.ref C) "__format__" = some (some (.builtin "object.__format__")) ∧ PySem.W.mroIn K C (.type "object") = some true ∧ PySem.W.findIn K (.ref C) "__str__" = some (some (.ref g)) ∧ PySem.W.isFn K (.ref g) = true ∧ FnOk P w K mg base CX0 k g fd ps (liftSp K spd) ∧ Binds K fd ps []
structure OwnRpr (P : Program) (w : World) (K : PySem.W.Frag) (mg : Str → Option Value) (base : Heap) (k : Nat) (C : Addr) (spd : SpD) : Prop where
  ex : ∃ (g : Addr) (fd : FuncData) (ps : List Str), PySem.W.findIn K (.ref C) "__repr__" = some (some (.ref g)) ∧ PySem.W.isFn K (.ref g) = true ∧ FnOk P w K mg base CX0 k g fd ps (liftSp K spd) ∧ Binds K fd ps []
section
variable {X : Cx} {Z : ZX} {e : Expr} {ta : TD} {k : Nat} {C : Addr} {spd : SpD} {pos : Pos} {K : PySem.W.Frag}
theorem OwnRpr.call (D : OwnRpr X.prog X.w X.K X.mg X.base k C spd) (hr : Room (k + 2) X.A) : CallR X (.builtin "repr") (rStrOwn C (liftSp X.K spd) E0) := by
  obtain ⟨g, fd, ps, h1, h2, F, hb⟩ := D.ex
  exact call_reprOwn h1 h2 F hb hr pass0
end
end Dw
/-! ### x in [..] -/
namespace Dw
open PySem PySem.Spec PyProof.Rows L2 Fw
section
open PySem.SeqAt AutoSeq1 MeetsSeq MeetsSeq2 MeetsSeq3 SeqRoads2
/-- a builtin value whose __eq__ declines what is an instance of C, dicts too -/
inductive DecX (K : PySem.W.Frag) (C : Addr) (H : Hp) : V → Prop where
  | dec {v : V} : Dec K C H v → DecX K C H v
  | dct {p : Addr} {kvs : List (Key × V)} : Rd H p (.dK kvs) → PySem.W.subIn K (.ref C) (.type "dict") = some false → DecX K C H (.ref p)
end
/-! by data -/
section
variable {X : Cx} {Z : ZX} {a b : Expr} {ta tb : TD} {k : Nat} {C : Addr} {spd : SpD} {pos : Pos} {K : PySem.W.Frag}
end
end Dw

/-! ### classes that stand over others: B.__init__(self, ..) within an __init__; methods that may raise -/
namespace Dw
open PySem PySem.Spec PyProof.Rows L2 Fw
/-- the def m of the class at B, read off the class -/
structure CFn (K : PySem.W.Frag) (B : Addr) (m : Str) (g : Addr) : Prop where
  ex : ∃ mc : Value, PySem.W.readsIn K B mc = true ∧ PySem.W.findCls K (.ref B) mc m = some (.val (.ref g))
  ga : PySem.W.specialIn K (.ref B) "__getattribute__" = some (some (.builtin "type.__getattribute__"))
  kp : PySem.W.keepIn K (.ref g) = true
section
variable {X : Cx} {CX : CXT} {k : Nat} {B g : Addr} {fd : FuncData} {ps : List Str} {sp : Sp} {E : XK} {o e : Expr} {es : List Expr} {m : Str} {pos apos : Pos} {ta : TE} {t : TA} {pl : Sem Bool}
end
section
variable {X : Cx} {C B g : Addr} {k : Nat} {fd : FuncData} {ps : List Str} {ini : SpI} {rest : List Stmt} {tn : TN} {o e : Expr} {es : List Expr} {tl : TL} {pos pos2 apos : Pos} {pl : Sem Bool}
end
/-- the __init__ of the class at B, for what is made of the class at C -/
structure Sup (P : Program) (w : World) (K : PySem.W.Frag) (mg : Str → Option Value) (base : Heap) (k : Nat) (B C : Addr) (ini : SpI) : Prop where
  ex : ∃ (g : Addr) (fd : FuncData) (ps : List Str), CFn K B "__init__" g ∧ FnOk P w K mg base CX0 k g fd ps (spMk K C ini) ∧ Binds K fd ps []
/-! ### a method that may raise -/
structure MtX (P : Program) (w : World) (K : PySem.W.Frag) (mg : Str → Option Value) (base : Heap) (k : Nat) (m : Str) (C : Addr) (spd : SpD) : Prop where
  ex : ∃ (f : Addr) (fd : FuncData) (ps : List Str), FnX false P w K mg base (L2.CX P w) k f fd ps (liftSp K spd) ∧ Cls K C ∧ Meth K C m f ∧ Binds K fd ps []
section
variable {X : Cx} {Z : ZX} {o e : Expr} {es : List Expr} {td : TD} {tl : TL} {k : Nat} {m : Str} {C : Addr} {spd : SpD} {apos pos : Pos}
end
end Dw

/-! ### a tuple of anything != () -/
namespace Dw
open PySem PySem.Spec PyProof.Rows L2 Fw
section
open PySem.SeqAt AutoSeq1 MeetsSeq MeetsSeq2 MeetsSeq3 SeqRoads2
end
section
variable {X : Cx} {Z : ZX} {a b : Expr} {ta tb : TD} {pos : Pos} {K : PySem.W.Frag}
end
end Dw

/-! ### a list of anything != [], == [] -/
namespace Dw
open PySem PySem.Spec PyProof.Rows L2 Fw
section
open PySem.SeqAt AutoSeq1 MeetsSeq MeetsSeq2 MeetsSeq3 SeqRoads2
end
section
variable {X : Cx} {Z : ZX} {a b : Expr} {ta tb : TD} {pos : Pos} {K : PySem.W.Frag}
end
end Dw

/-! ### a text's zfill -/
namespace Dw
open PySem PySem.Spec PyProof.Rows L2 Fw
section
variable {X : Cx} {Z : ZX} {a b : Expr} {ta tb : TD} {pos apos : Pos}
end
end Dw

/-! ### list(zip(a, b)) of two tuples -/
namespace Dw
open PySem
open PySem.Sem (wp)
section
variable {prog : Program} {w : World} {A : Around} {E : Value → Shared → Prop} {s : Shared} {z TI TO i1 i2 T : Addr} {fp1 fp2 : List Addr} {n1 n2 i : Nat} {P1 P2 : Nat → Value → Prop} {St1 St2 : Nat → Heap → Prop} {f : Bool} {oT : Obj}
/-- a zip between two turns of a loop that keeps what was told; S the list that it is put into -/
def ZSt (z TI TO i1 i2 S : Addr) (St1 St2 : Nat → Heap → Prop) (i : Nat) (h : Heap) : Prop :=
  IsTupOf2 h TI (.ref i1) (.ref i2) ∧ St1 i h ∧ St2 i h ∧ ((IsZip h z TI TO .none ∧ ∃ a b, IsTupOf2 h TO a b) ∨ ∃ T f oT, IsZipHeld h z TI TO T f ∧ h.get? T = some oT ∧ T ≠ z ∧ T ≠ i1 ∧ T ≠ i2 ∧ T ≠ S)
theorem ZSt.write {S : Addr} (Z : ZipSep2 z TI TO i1 i2 fp1 fp2) (D1 : Draws prog w A i1 fp1 n1 P1 St1) (D2 : Draws prog w A i2 fp2 n2 P2 St2) {h h' : Heap} (st : ZSt z TI TO i1 i2 S St1 St2 i h) (hk : ∀ b o, b ≠ S → h.get? b = some o → h'.get? b = some o) (s1 : z ≠ S) (s2 : TI ≠ S) (s3 : TO ≠ S) (s4 : S ∉ fp1) (s5 : S ∉ fp2) :
    ZSt z TI TO i1 i2 S St1 St2 i h' := by
  obtain ⟨hTI, st1, st2, hz⟩ := st
  refine ⟨hk _ _ s2 hTI, D1.frame _ _ _ st1 fun b hb o e => hk b o (fun q => s4 (q ▸ hb)) e, D2.frame _ _ _ st2 fun b hb o e => hk b o (fun q => s5 (q ▸ hb)) e, ?_⟩
  rcases hz with ⟨hz, a, b, hTO⟩ | ⟨T, f, oT, hz, hT, r1, r2, r3, r4⟩
  · exact .inl ⟨hk _ _ s1 hz, a, b, hk _ _ s3 hTO⟩
  · exact .inr ⟨T, f, oT, hk _ _ s1 hz, hk _ _ r4 hT, r1, r2, r3, r4⟩
end
/-- the pairs that were made -/
structure Prs (P1 P2 : Nat → Value → Prop) (lo : Addr) (h : Heap) (as : List Addr) : Prop where
  rise : as.Pairwise (· < ·)
  above : ∀ a ∈ as, lo ≤ a
  pairs : ∀ (j : Nat) (a : Addr), as[j]? = some a → ∃ x y, P1 j x ∧ P2 j y ∧ IsTupOf2 h a x y
theorem Prs.there {P1 P2 : Nat → Value → Prop} {lo : Addr} {h : Heap} {as : List Addr} (g : Prs P1 P2 lo h as) {a : Addr} (ha : a ∈ as) : a < h.objs.size := by
  obtain ⟨j, hj⟩ := List.mem_iff_getElem?.mp ha
  obtain ⟨_, _, _, _, e⟩ := g.pairs j a hj
  exact Heap.lt_size e
section
variable {prog : Program} {w : World} {A : Around} {s : Shared} {R : Result → Shared → Prop} {z TI TO i1 i2 : Addr} {fp1 fp2 : List Addr} {n1 n2 : Nat} {P1 P2 : Nat → Value → Prop} {St1 St2 : Nat → Heap → Prop}
end
section
variable {prog : Program} {w : World} {A : Around} {E : Value → Shared → Prop} {s : Shared} {z TI TO i1 i2 : Addr} {fp1 fp2 : List Addr} {n1 n2 : Nat} {P1 P2 : Nat → Value → Prop} {St1 St2 : Nat → Heap → Prop}
end
end Dw
namespace Dw
open PySem PySem.Spec PyProof.Rows L2 Fw
section
variable {X : Cx} {Z : ZX} {a b : Expr} {p p2 pos pos2 : Pos}
/-! by data -/
variable {tl : TL}
end
end Dw

/-! ### methods that may raise, within a try -/
namespace Dw
open PySem PySem.Spec PyProof.Rows L2 Fw
section
variable {X : Cx} {W : WX} {Ed : Value → List (Str × D) → Ro → Nat → Prop} {o e : Expr} {es : List Expr} {td : TD} {tl : TL} {k : Nat} {m : Str} {C : Addr} {spd : SpD} {apos pos : Pos}
end
end Dw
namespace Dw
open PySem PySem.Spec PyProof.Rows L2 Fw
end Dw
/-! ### the hook, with the statics in sight (a class's own text is read by its name only where they are) -/
namespace Fw
open PySem PySem.Spec PyProof.Rows L2
end Fw

/-! Dw62: tables of any size: the way of a search meets each slot. Own work. -/
namespace Dw
open PySem PySem.Spec PyProof.Rows L2 Fw
/-- 0, 1, 6, 31, ..: five times and one more -/
def fv : Nat → Nat
  | 0 => 0
  | n + 1 => 5 * fv n + 1
theorem fv_pow (n : Nat) : 4 * fv n + 1 = 5 ^ n := by
  induction n with
  | zero => rfl
  | succ n ih => rw [Nat.pow_succ, ← ih]; show 4 * (5 * fv n + 1) + 1 = _; omega
theorem fv_add (a b : Nat) : fv (a + b) = 5 ^ b * fv a + fv b := by
  induction b with
  | zero => simp [fv]
  | succ b ih => show 5 * fv (a + b) + 1 = _; rw [ih]; show _ = 5 ^ (b + 1) * fv a + (5 * fv b + 1); rw [Nat.pow_succ]; grind
theorem fv_two (n : Nat) : fv (2 * n) = 2 * (fv n * (2 * fv n + 1)) := by
  have h := fv_add n n
  rw [← fv_pow n] at h
  rw [Nat.two_mul, h]; grind
theorem fv_pow2 (k : Nat) : ∃ c, fv (2 ^ k) = 2 ^ k * (2 * c + 1) := by
  induction k with
  | zero => exact ⟨0, rfl⟩
  | succ k ih =>
    obtain ⟨c, e⟩ := ih
    refine ⟨c * (2 * fv (2 ^ k) + 1) + fv (2 ^ k), ?_⟩
    have h : 2 ^ (k + 1) = 2 * 2 ^ k := by rw [Nat.pow_succ, Nat.mul_comm]
    rw [h, fv_two]
    generalize fv (2 ^ k) = y at e ⊢
    generalize 2 ^ k = z at e ⊢
    subst e; grind
theorem five_odd (n : Nat) : ∃ d, 5 ^ n = 2 * d + 1 := ⟨2 * fv n, by rw [← fv_pow]; omega⟩
/-- each rest is met -/
theorem fv_onto (k : Nat) : ∀ j, j < 2 ^ k → ∃ n, n < 2 ^ k ∧ fv n % 2 ^ k = j := by
  induction k with
  | zero => intro j h; exact ⟨0, Nat.pow_pos (by decide), by
      have : j = 0 := by simpa using h
      rw [this]; rfl⟩
  | succ k ih =>
    intro j h
    have e2 : 2 ^ (k + 1) = 2 * 2 ^ k := by rw [Nat.pow_succ, Nat.mul_comm]
    have pz : 0 < 2 ^ k := Nat.pow_pos (by decide)
    obtain ⟨n, hn, en⟩ := ih (j % 2 ^ k) (Nat.mod_lt _ pz)
    obtain ⟨c, ec⟩ := fv_pow2 k
    obtain ⟨d, ed⟩ := five_odd n
    have up : fv (2 ^ k + n) = fv n + 2 ^ k * (2 * (2 * c * d + c + d) + 1) := by
      rw [fv_add, ed, ec]; generalize 2 ^ k = z; grind
    rw [e2] at h ⊢
    generalize 2 ^ k = z at *
    have q1 := Nat.div_add_mod (fv n) z
    have q2 := Nat.div_add_mod j z
    have jz : j / z < 2 := Nat.div_lt_of_lt_mul (by omega)
    generalize j / z = jq at q2 jz
    generalize fv n / z = fq at q1
    have par : ∃ t, fq = 2 * t + fq % 2 := ⟨fq / 2, by omega⟩
    obtain ⟨t, et⟩ := par
    have md : ∀ (a r : Nat), r < 2 * z → (2 * z * a + r) % (2 * z) = r := fun a r hr => by
      rw [Nat.mul_add_mod]; exact Nat.mod_eq_of_lt hr
    rcases (by omega : fq % 2 = jq ∨ fq % 2 + jq = 1) with hh | hh
    · refine ⟨n, by omega, ?_⟩
      have : fv n = 2 * z * t + j := by
        rw [← q1, et, hh, en]; conv => rhs; rw [← q2]
        grind
      rw [this]; exact md _ _ h
    · refine ⟨z + n, by omega, ?_⟩
      have : fv (z + n) = 2 * z * (t + (2 * c * d + c + d) + fq % 2) + j := by
        rw [up]; conv => lhs; rw [← q1, et, en]
        conv => rhs; rw [← q2]
        rcases (by omega : fq % 2 = 0 ∧ jq = 1 ∨ fq % 2 = 1 ∧ jq = 0) with ⟨y, w⟩ | ⟨y, w⟩ <;> rw [w, y] <;> grind
      rw [this]; exact md _ _ h
/-- the masks that come: one less than a power of two -/
def Pow2 (m : Nat) : Prop := ∃ k, m + 1 = 2 ^ k
theorem lcgI_fv (m i : Nat) (hi : i ≤ m) : ∀ n, lcgI m i n = (5 ^ n * i + fv n) % (m + 1)
  | 0 => by simp [lcgI, fv, Nat.mod_eq_of_lt (Nat.lt_succ_of_le hi)]
  | n + 1 => by
    rw [lcgI, lcgI_fv m i hi n, Nat.add_mod, Nat.mul_mod, Nat.mod_mod, ← Nat.mul_mod, ← Nat.add_mod, Nat.pow_succ]
    congr 1; show _ = _ + (5 * fv n + 1); grind
theorem lcg_meets {m : Nat} (hm : Pow2 m) {i j : Nat} (hi : i ≤ m) (hj : j ≤ m) : ∃ n, n ≤ m ∧ lcgI m i n = j := by
  obtain ⟨k, ek⟩ := hm
  have pz : 0 < 2 ^ k := Nat.pow_pos (by decide)
  obtain ⟨a, ha, ea⟩ := fv_onto k i (by omega)
  obtain ⟨b, hb, eb⟩ := fv_onto k j (by omega)
  obtain ⟨c, ec⟩ := fv_pow2 k
  have go : ∀ n, (5 ^ n * i + fv n) % 2 ^ k = fv (a + n) % 2 ^ k := fun n => by
    rw [fv_add, ← ea, Nat.add_mod, Nat.mul_mod, Nat.mod_mod, ← Nat.mul_mod, ← Nat.add_mod]
  rcases Nat.lt_or_ge b a with z | z
  · refine ⟨b + 2 ^ k - a, by omega, ?_⟩
    rw [lcgI_fv m i hi, ek, go, show a + (b + 2 ^ k - a) = 2 ^ k + b by omega, fv_add, ec, ← eb]
    rw [show 5 ^ b * (2 ^ k * (2 * c + 1)) = 2 ^ k * (5 ^ b * (2 * c + 1)) by grind, Nat.mul_add_mod]
  · refine ⟨b - a, by omega, ?_⟩
    rw [lcgI_fv m i hi, ek, go, show a + (b - a) = b by omega, eb]
theorem runs_meet {m : Nat} (hm : Pow2 m) (h : Int) {j : Nat} (hj : j ≤ m) : ∃ n, n ≤ m + 12 ∧ runI m (SetTable.bits h) n = j := by
  obtain ⟨n, hn, e⟩ := lcg_meets hm (runI_le m (SetTable.bits h) 12) hj
  exact ⟨12 + n, by omega, (runI_tail (bits_lt h) n).trans e⟩
theorem way_meets {m : Nat} (hm : Pow2 m) (h : Int) {j : Nat} (hj : j ≤ m) : ∃ k, k < 10 * SetTable.turns m ∧ way m h k = j := by
  obtain ⟨n, hn, e⟩ := runs_meet hm h hj
  obtain ⟨k, hk, w⟩ := run_nth m (SetTable.bits h) n
  exact ⟨k, by simp only [SetTable.turns]; omega, by show (nth m _ k).j = j; rw [w]; exact e⟩
end Dw

/-! Dw63: a set's table of any size: put, laid anew. Own work. -/
namespace Dw
open PySem PySem.Spec PyProof.Rows L2 Fw
theorem way_in (m : Nat) (h : Int) (k : Nat) : way m h k ≤ m := by
  have b : SetTable.bits h % (m + 1) ≤ m := Nat.le_of_lt_succ (Nat.mod_lt _ (Nat.succ_pos m))
  obtain ⟨r1, r2, _⟩ := runEnd_bd b
  have q := nth_in (m := m) k (runAt m (SetTable.bits h % (m + 1)) (SetTable.bits h)) (by simp only [runAt]; omega)
  exact Nat.le_trans (Nat.le_add_right _ _) q
/-- the way of h is full up to K, and K is free -/
def Gap (t : SetTable) (h : Int) (K : Nat) : Prop := way t.mask h K ∉ t.place.toList ∧ ∀ k < K, way t.mask h k ∈ t.place.toList
structure TabG (t : SetTable) (hs : List Int) : Prop where
  up : Ris t.place.toList
  nd : t.dummies = #[]
  sz : t.place.size = hs.length
  po : Pow2 t.mask
  le : ∀ x ∈ t.place.toList, x ≤ t.mask
  on : ∀ (i : Nat) (h : Int) (j : Nat), hs[i]? = some h → t.place.toList[i]? = some j → ∃ k, way t.mask h k = j ∧ ∀ l < k, way t.mask h l ∈ t.place.toList
theorem TabG.gap {t : SetTable} {hs : List Int} (T : TabG t hs) (few : hs.length ≤ t.mask) (h : Int) : ∃ K, K < 10 * SetTable.turns t.mask ∧ Gap t h K := by
  obtain ⟨j, jm, jn⟩ := st_missing t.place.toList (t.mask + 1) (by have := T.sz; simp only [Array.length_toList]; omega)
  obtain ⟨k, kb, kj⟩ := way_meets T.po h (Nat.lt_succ_iff.mp jm)
  obtain ⟨K, Kk, Kn, Kb⟩ := st_least (p := fun k => way t.mask h k ∉ t.place.toList) k (kj ▸ jn)
  exact ⟨K, by omega, Kn, fun l hl => Classical.not_not.mp (Kb l hl)⟩
theorem TabG.ahead {t : SetTable} {hs : List Int} (T : TabG t hs) {h : Int} {K : Nat} (g : Gap t h K) {i j : Nat} (hi : hs[i]? = some h) (hj : t.place.toList[i]? = some j) : ∃ k < K, way t.mask h k = j := by
  obtain ⟨k, kj, kl⟩ := T.on i h j hi hj
  have jm : j ∈ t.place.toList := List.mem_of_getElem? hj
  refine ⟨k, Nat.lt_of_not_le fun c => ?_, kj⟩
  rcases Nat.lt_or_eq_of_le c with c | c
  · exact g.1 (kl K c)
  · subst c; exact g.1 (kj ▸ jm)
/-- what a put leaves as it was -/
structure Like (t u : SetTable) : Prop where
  mask : u.mask = t.mask
  led : u.led = t.led
  plain : u.plain = t.plain
  dum : u.dummies = #[]
theorem TabG.put {t : SetTable} {hs : List Int} (T : TabG t hs) {h : Int} {K : Nat} (g : Gap t h K) : ∃ u p, t.put (way t.mask h K) = (u, p) ∧ p ≤ hs.length ∧ Like t u ∧ TabG u (hs.take p ++ h :: hs.drop p) ∧ u.place.size = hs.length + 1 := by
  obtain ⟨gn, gb⟩ := g
  have jm := way_in t.mask h K
  generalize ej : way t.mask h K = j at gn jm ⊢
  rcases eup : t.put j with ⟨u, p⟩
  have ep : p = SetTable.below t.place j := by rw [← show (t.put j).2 = p by rw [eup]]; rfl
  have eu : (t.put j).1 = u := by rw [eup]
  have pl := (below_cut T.up j).1
  have ps := put_place t j
  rw [eu, ← ep] at ps
  rw [← ep] at pl
  have ph : p ≤ hs.length := T.sz ▸ pl
  have pL : p ≤ t.place.toList.length := by simpa using pl
  have du : u.dummies = #[] := eu ▸ put_dm T.nd j
  have ris : Ris u.place.toList := by
    rw [← eu]
    exact ris_insert T.up fun e => gn (List.mem_of_getElem? (by rw [Array.getElem?_toList]; exact e))
  have msk : u.mask = t.mask := by rw [← eu]; rfl
  have usz : u.place.size = hs.length + 1 := by
    rw [← Array.length_toList, ps, len_ins _ pL, Array.length_toList, T.sz]
  have grow : ∀ x, x ∈ t.place.toList → x ∈ u.place.toList := fun x hx => by rw [ps]; exact mem_ins.mpr (.inr hx)
  refine ⟨u, p, rfl, ph, ⟨msk, eu ▸ rfl, eu ▸ rfl, du⟩, ⟨ris, du, by rw [usz, len_ins _ ph], msk ▸ T.po, fun x hx => ?_, fun i h' j' e1 e2 => ?_⟩, usz⟩
  · rw [ps, mem_ins] at hx
    rw [msk]
    exact hx.elim (fun e => e ▸ jm) (T.le x)
  · rw [msk]
    have keep : ∀ i, hs[i]? = some h' → t.place.toList[i]? = some j' → ∃ k, way t.mask h' k = j' ∧ ∀ l < k, way t.mask h' l ∈ u.place.toList := fun i a b =>
      let ⟨k, x, y⟩ := T.on i h' j' a b
      ⟨k, x, fun l hl => grow _ (y l hl)⟩
    rw [tins_get hs ph] at e1
    rw [ps, tins_get _ pL] at e2
    by_cases c : i < p
    · simp only [c, if_true] at e1 e2
      exact keep i e1 e2
    · by_cases d : i = p
      · simp only [c, d, if_false, if_true, Nat.lt_irrefl, Option.some.injEq] at e1 e2
        subst e1 e2
        exact ⟨K, ej, fun l hl => grow _ (gb l hl)⟩
      · simp only [c, d, if_false] at e1 e2
        exact keep (i - 1) e1 e2
/-! laid anew -/
theorem seat {m : Nat} (hm : Pow2 m) (ow : Array (Option Nat)) (h : Int) {j : Nat} (hj : j ≤ m) (fr : oAt ow j = none) :
    ∃ K, SetTable.layClean.free m ow (SetTable.turns m) (SetTable.bits h % (m + 1)) (SetTable.bits h) = some (way m h K) ∧ oAt ow (way m h K) = none ∧ ∀ k < K, oAt ow (way m h k) ≠ none := by
  obtain ⟨n, nb, nj⟩ := runs_meet hm h hj
  generalize eo : off m (SetTable.bits h % (m + 1)) (SetTable.bits h) n = o
  have at_o : way m h o = j := by
    rw [← eo]; show (nth m _ _).j = j
    rw [nth_off, itL_run]; exact nj
  obtain ⟨K, Ko, Kf, Kb⟩ := st_least (p := fun k => oAt ow (way m h k) = none) o (at_o ▸ fr)
  refine ⟨K, free_spec m ow _ n _ _ K (by simp only [SetTable.turns]; omega) (eo ▸ Ko) (fun k hk => ?_) (by have := Kf; simp only [way] at this; rw [this]; rfl), Kf, Kb⟩
  have := Kb k hk
  simp only [way] at this
  cases e : oAt ow (nth m (runAt m (SetTable.bits h % (m + 1)) (SetTable.bits h)) k).j <;> simp_all
theorem sit {m : Nat} (hm : Pow2 m) {done : List Int} {ow : Array (Option Nat)} (W : Own m done ow) (few : done.length ≤ m) (h : Int) :
    ∃ j, SetTable.layClean.free m ow (SetTable.turns m) (SetTable.bits h % (m + 1)) (SetTable.bits h) = some j ∧ Own m (done ++ [h]) (ow.setIfInBounds j (some done.length)) := by
  obtain ⟨taken, tl, tin⟩ := W.ps
  obtain ⟨f, fm, fn⟩ := st_missing taken (m + 1) (by omega)
  have ff : oAt ow f = none := Classical.byContradiction fun c => fn (tin f (Nat.lt_succ_iff.mp fm) c)
  obtain ⟨K, e, fr, full⟩ := seat hm ow h (Nat.lt_succ_iff.mp fm) ff
  have jm := way_in m h K
  generalize ej : way m h K = j at e fr jm
  have here : oAt (ow.setIfInBounds j (some done.length)) j = some done.length := oAt_set_self _ (by rw [W.sz]; omega)
  have else_ : ∀ i, i ≠ j → oAt (ow.setIfInBounds j (some done.length)) i = oAt ow i := fun i c => oAt_set_ne _ c
  have still : ∀ i, oAt ow i ≠ none → oAt (ow.setIfInBounds j (some done.length)) i ≠ none := fun i hi => by
    by_cases c : i = j
    · rw [c, here]; exact Option.some_ne_none _
    · rwa [else_ i c]
  refine ⟨j, e, ⟨by simpa using W.sz, fun i k im ik => ?_, fun k hk => ?_, j :: taken, by simp [tl], fun i im ik => ?_⟩⟩
  · by_cases c : i = j
    · subst c
      rw [here] at ik
      cases ik
      exact ⟨h, K, by simp, ej, fun l hl => still _ (full l hl)⟩
    · rw [else_ i c] at ik
      obtain ⟨h', K', a, b, d⟩ := W.at_ i k im ik
      have kl : k < done.length := (List.getElem?_eq_some_iff.mp a).1
      exact ⟨h', K', by rw [List.getElem?_append_left kl]; exact a, b, fun l hl => still _ (d l hl)⟩
  · rcases Nat.lt_or_ge k done.length with c | c
    · obtain ⟨i, im, ik⟩ := W.all k c
      exact ⟨i, im, by rw [else_ i fun z => by rw [z, fr] at ik; cases ik]; exact ik⟩
    · have : k = done.length := by simp at hk; omega
      subst this
      exact ⟨j, jm, here⟩
  · by_cases c : i = j
    · simp [c]
    · rw [else_ i c] at ik
      exact List.mem_cons_of_mem _ (tin i im ik)
theorem sit_all {m : Nat} (hm : Pow2 m) : ∀ (more done : List Int) (ow : Array (Option Nat)), Own m done ow → done.length + more.length ≤ m →
    ∃ ow', more.foldl (stepF m) (some (ow, done.length)) = some (ow', (done ++ more).length) ∧ Own m (done ++ more) ow' := by
  intro more
  induction more with
  | nil => intro done ow W _; exact ⟨ow, by simp, by simpa using W⟩
  | cons h more ih =>
    intro done ow W few
    simp only [List.length_cons] at few
    obtain ⟨j, e, W2⟩ := sit hm W (by omega) h
    obtain ⟨ow', f, W3⟩ := ih (done ++ [h]) _ W2 (by simp; omega)
    rw [List.append_assoc, List.singleton_append] at f W3
    refine ⟨ow', ?_, W3⟩
    rw [List.foldl_cons, stepF_some e]
    simpa using f
theorem clean {m : Nat} (hm : Pow2 m) {hs : Array Int} (few : hs.size ≤ m) : ∃ ow, SetTable.layClean m hs = some ow ∧ Own m hs.toList ow := by
  obtain ⟨ow, f, W⟩ := sit_all hm hs.toList [] _ (Own.init m) (by simpa using few)
  refine ⟨ow, ?_, by simpa using W⟩
  rw [layClean_eq]
  have f : hs.toList.foldl (stepF m) (some (Array.replicate (m + 1) none, 0)) = some (ow, hs.toList.length) := by simpa using f
  rw [f]; rfl
/-- the live ones: as many as there were hashes -/
theorem live_len {m : Nat} {hs : List Int} {ow : Array (Option Nat)} (W : Own m hs ow) (r : Ris ((liveOf m ow).map (·.1))) : (liveOf m ow).length = hs.length := by
  obtain ⟨taken, tl, tin⟩ := W.ps
  have dif : ((liveOf m ow).map (·.1)).Nodup := r.imp fun z => Nat.ne_of_lt z
  have lo := nat_nodup_len ((liveOf m ow).map (·.1)) taken dif fun x hx => by
    obtain ⟨⟨j, k⟩, q, rfl⟩ := List.mem_map.mp hx
    have := (mem_live W.sz).mp q
    exact tin j this.1 (by simp [this.2])
  have hi := nat_nodup_len (List.range hs.length) ((liveOf m ow).map (·.2)) List.nodup_range fun k hk => by
    obtain ⟨j, a, b⟩ := W.all k (by simpa using hk)
    exact List.mem_map_of_mem (f := Prod.snd) ((mem_live W.sz).mpr ⟨a, b⟩)
  simp only [List.length_map, List.length_range] at lo hi
  omega
theorem anew (t : SetTable) {hs : Array Int} {wanted m : Nat} (hw : SetTable.sizeAbove wanted = m + 1) (hm : Pow2 m) (few : hs.size ≤ m) :
    ∃ u ord, t.relaid hs wanted = some (u, ord) ∧ ord.toList.Perm (List.range hs.size) ∧ TabG u (ord.toList.map fun i => hs.getD i 0) ∧ u.mask = m ∧ u.led = t.led ∧ u.plain = t.plain := by
  obtain ⟨ow, e, W⟩ := clean hm few
  have hw' : SetTable.sizeAbove wanted - 1 = m := by omega
  obtain ⟨r1, r2⟩ := ris_live (fun j => ow.getD j none) (List.range (m + 1)) (by simp only [Ris]; exact List.pairwise_lt_range)
  have r1 : Ris ((liveOf m ow).map (·.1)) := r1
  have len := live_len W r1
  rw [Array.length_toList] at len
  refine ⟨tabOf t m ow, ((liveOf m ow).map (·.2)).toArray, by rw [relaid_eq, hw', e]; rfl, perm_range _ _ (by simpa using len) fun k hk => ?_, ⟨r1, rfl, by simp [tabOf], hm, fun x hx => ?_, fun i h j e1 e2 => ?_⟩, rfl, rfl, rfl⟩
  · obtain ⟨j, a, b⟩ := W.all k (by simpa using hk)
    exact List.mem_map_of_mem (f := Prod.snd) ((mem_live W.sz).mpr ⟨a, b⟩)
  · have := r2 x hx
    simp at this; show x ≤ m; omega
  · have e1 : (((liveOf m ow).map (·.2)).map fun i => hs.getD i 0)[i]? = some h := e1
    have e2 : ((liveOf m ow).map (·.1))[i]? = some j := e2
    obtain ⟨⟨y, k⟩, q, rfl⟩ : ∃ q, (liveOf m ow)[i]? = some q ∧ q.1 = j := by simpa [List.getElem?_map] using e2
    have q2 := (mem_live W.sz).mp (List.mem_of_getElem? q)
    obtain ⟨h0, K, a, b, c⟩ := W.at_ y k q2.1 q2.2
    have : h0 = h := by
      simp only [List.getElem?_map, q, Option.map_some, Option.some.injEq] at e1
      rw [← e1, Array.getD_eq_getD_getElem?, ← Array.getElem?_toList, a]; rfl
    subst this
    refine ⟨K, b, fun l hl => ?_⟩
    show way m h0 l ∈ (liveOf m ow).map (·.1)
    obtain ⟨z, ez⟩ := Option.ne_none_iff_exists'.mp (c l hl)
    exact List.mem_map_of_mem (f := Prod.fst) ((mem_live W.sz).mpr ⟨way_in m h0 l, ez⟩)
end Dw

/-! Dw64: a set of tuples of ints of any size up to some thousand: searched, laid anew, grown. Own work. -/
namespace Dw
open PySem PySem.Spec PyProof.Rows L2 Fw
section
variable {P : Program} {w : World} {A : Around} {E : Value → Shared → Prop} {s : Shared}
/-- how far a search has gone -/
abbrev spot (m : Nat) (h : Int) (c : Nat) : SetTable.Probe := nth m (runAt m (SetTable.bits h % (m + 1)) (SetTable.bits h)) c
theorem spot_dum (m : Nat) (h : Int) : ∀ c, (spot m h c).dummy = none
  | 0 => rfl
  | c + 1 => by
    have ih := spot_dum m h c
    simp only [spot, nth_succ] at ih ⊢
    unfold adv
    split <;> exact ih
/-- the set at a has the tuples L (each with its address) -/
def Msk (m : Nat) : Prop := m = 7 ∨ m = 31 ∨ m = 127 ∨ m = 511 ∨ m = 2047 ∨ m = 8191
theorem Msk.pow {m : Nat} (h : Msk m) : Pow2 m := by
  rcases h with rfl | rfl | rfl | rfl | rfl | rfl
  · exact ⟨3, rfl⟩
  · exact ⟨5, rfl⟩
  · exact ⟨7, rfl⟩
  · exact ⟨9, rfl⟩
  · exact ⟨11, rfl⟩
  · exact ⟨13, rfl⟩
theorem Msk.lt {m : Nat} (h : Msk m) : m < 8192 := by
  rcases h with rfl | rfl | rfl | rfl | rfl | rfl <;> decide
theorem Msk.grow {l m : Nat} (h : Msk m) (c : (l + 1) * 5 ≥ m * 3) (r : l * 5 < m * 3) (few : l < 2400) : ∃ m', SetTable.sizeAbove ((l + 1) * 4) = m' + 1 ∧ Msk m' ∧ (l + 1) * 4 ≤ m' := by
  rcases h with rfl | rfl | rfl | rfl | rfl | rfl
  · obtain rfl : l = 4 := by omega
    exact ⟨31, by decide, by unfold Msk; omega, by decide⟩
  · obtain rfl : l = 18 := by omega
    exact ⟨127, by decide, by unfold Msk; omega, by decide⟩
  · obtain rfl : l = 76 := by omega
    exact ⟨511, by decide, by unfold Msk; omega, by decide⟩
  · obtain rfl : l = 306 := by omega
    exact ⟨2047, by decide, by unfold Msk; omega, by decide⟩
  · obtain rfl : l = 1228 := by omega
    exact ⟨8191, by decide, by unfold Msk; omega, by decide⟩
  · omega
structure Tset (P : Program) (w : World) (h : Heap) (a : Addr) (L : List (Addr × List Int)) (es : Array (Int × Value)) (ep : Nat) (t : SetTable) : Prop where
  at_ : ∃ o, h.get? a = some o ∧ o.ExactSet ∧ o.data = .set es ep t
  row : es.toList = rowsOf P w L
  tab : TabG t (L.map fun p => thash P w p.2)
  one : (L.map (·.2)).Nodup
  tup : ∀ p ∈ L, IsT P w h p.2 p.1
  pln : t.plain = true
  led : w.params.followText "set-order" = true ∨ t.led = true
  rm : L.length * 5 < t.mask * 3
  few : L.length ≤ 2400
  msk : Msk t.mask
variable {a : Addr} {L : List (Addr × List Int)} {es : Array (Int × Value)} {ep : Nat} {t : SetTable}
theorem row_len {L : List (Addr × List Int)} {es : Array (Int × Value)} (h : es.toList = rowsOf P w L) : es.size = L.length := by
  rw [← Array.length_toList, h]; simp [rowsOf]
theorem fits_of {n : Nat} (d : t.dummies = #[]) (z : t.place.size = n) (l : n ≤ t.mask) : t.fits n = true := by
  simp [SetTable.fits, SetTable.fill, d, z, l]
theorem Tset.fit (R : Tset P w s.heap a L es ep t) : t.fits es.size = true := by
  have z := R.tab.sz
  have := R.rm
  rw [List.length_map] at z
  exact fits_of R.tab.nd (by rw [z, row_len R.row]) (by rw [row_len R.row]; omega)
theorem Tset.ent (R : Tset P w s.heap a L es ep t) {i : Nat} {p : Addr × List Int} (h : L[i]? = some p) : es[i]? = some (thash P w p.2, Value.ref p.1) := by
  rw [← Array.getElem?_toList, R.row]; simp [rowsOf, h]
theorem Tset.sound (R : Tset P w s.heap a L es ep t) : ¬ t.gaveWay = true := by
  obtain ⟨k, ek⟩ := R.tab.po
  have : 2 ≤ t.mask + 1 := by have := R.rm; omega
  have : ∃ k', k = k' + 1 := ⟨k - 1, by rcases k with _ | k <;> simp_all⟩
  obtain ⟨k', rfl⟩ := this
  rw [Nat.pow_succ] at ek
  simp only [SetTable.gaveWay, beq_iff_eq]
  omega
/-- seeking k from the c-th spot on -/
theorem seek (R : Tset P w s.heap a L es ep t) {x : Addr} {k : List Int} (hx : IsT P w s.heap k x) (hu : A.units < cLine) {K : Nat} (Kb : K < 10 * SetTable.turns t.mask) (g : Gap t (thash P w k) K) {Q : SetFound → Shared → Prop}
    (yes : k ∈ L.map (·.2) → Q (.there none) s) (no : k ∉ L.map (·.2) → Q (.free (way t.mask (thash P w k) K) false) s) (f : Nat) :
    ∀ (c : Nat) (st : Option SetTable.Probe), st.getD (t.probeStart (thash P w k)) = spot t.mask (thash P w k) c → c ≤ K → K - c < f →
      (∀ (i : Nat) p, L[i]? = some p → p.2 = k → ∃ d, c ≤ d ∧ d < K ∧ t.place.toList[i]? = some (way t.mask (thash P w k) d)) →
      wpAny (model P w) A (setSearchFrom a (.ref x) (thash P w k) true f st) Q E s := by
  induction f with
  | zero => intro c st _ _ h; omega
  | succ f ih =>
    intro c st es0 cK fu ahead
    obtain ⟨o, ho, hex, hd⟩ := R.at_
    rw [setSearchFrom_succ]
    refine wpAny_bind (wpAny_setState_of ho hd R.fit ?_)
    dsimp only
    refine wp_if_neg R.sound ?_
    try refine wpAny_bind (wpAny_pure ?_)
    have on : ∀ q, (nth t.mask (spot t.mask (thash P w k) c) q) = spot t.mask (thash P w k) (c + q) := fun q => (nth_add t.mask c _ q).symm
    have wy : ∀ q, (nth t.mask (spot t.mask (thash P w k) c) q).j = way t.mask (thash P w k) (c + q) := fun q => congrArg (·.j) (on q)
    have hashes : ∀ (i : Nat) p, L[i]? = some p → (es[i]?.map (·.1)).getD 0 = thash P w p.2 := fun i p e => by simp [R.ent e]
    have sp := go_spec t R.tab.up R.tab.nd (fun i => (es[i]?.map (·.1)).getD 0) (thash P w k) (10 * SetTable.turns t.mask) (K - c) (spot t.mask (thash P w k) c) (spot_dum _ _ c) (by omega)
      (fun q hq => by rw [wy]; exact g.2 _ (by omega)) (by rw [wy, Nat.add_sub_cancel' cK]; exact g.1)
    have pr : t.probe (fun i => (es[i]?.map (·.1)).getD 0) (thash P w k) (st.getD (t.probeStart (thash P w k))) = SetTable.probe.go t (fun i => (es[i]?.map (·.1)).getD 0) (thash P w k) (10 * SetTable.turns t.mask) (spot t.mask (thash P w k) c) := by rw [es0]; rfl
    rw [pr]
    rcases sp with ⟨q, i, qK, hi, hh, before, go⟩ | ⟨before, go⟩
    · rw [go]
      dsimp only
      rw [wy] at hi
      have il : i < L.length := by
        have := (List.getElem?_eq_some_iff.mp hi).1
        have z := R.tab.sz
        simp only [Array.length_toList, List.length_map] at this z
        omega
      obtain ⟨p, hp⟩ : ∃ p, L[i]? = some p := ⟨_, List.getElem?_eq_getElem il⟩
      have pm := List.mem_of_getElem? hp
      have sl : t.slot (way t.mask (thash P w k) (c + q)) = .live i := slot_live R.tab.up hi
      have body : wpAny (model P w) A (searchRest a (.ref x) (thash P w k) true f es t (way t.mask (thash P w k) (c + q)) i (spot t.mask (thash P w k) (c + (q + 1)))) Q E s := by
        simp only [searchRest, R.ent hp]
        refine wpAny_bind (wpAny_holding (wpAny_eqBool_tuple hu (R.tup p pm) hx (wpAny_bind (wpAny_setState_of ho hd R.fit ?_))))
        dsimp only
        by_cases same : p.2 = k
        · refine wp_if_pos (by simp [same]) (wpAny_pure (yes ?_))
          rw [← same]; exact List.mem_map_of_mem pm
        · refine wp_if_neg (by simp [same]) ?_
          try refine wpAny_bind (wpAny_pure ?_)
          simp only [sameMem, if_true, sl, R.ent hp]
          refine wpAny_bind (wpAny_isSame_ref_self (wpAny_bind (wpAny_pure ?_)))
          simp only [if_true]
          refine wp_if_neg (by simp [same]) (ih (c + (q + 1)) _ rfl (by omega) (by omega) fun i2 p2 h2 k2 => ?_)
          obtain ⟨d, d1, d2, d3⟩ := ahead i2 p2 h2 k2
          refine ⟨d, Classical.byContradiction fun late => ?_, d2, d3⟩
          rcases Nat.lt_or_eq_of_le (show d ≤ c + q by omega) with z | z
          · refine before (d - c) i2 (by omega) ?_ ((hashes i2 p2 h2).trans (by rw [k2]))
            rw [wy, Nat.add_sub_cancel' d1]; exact d3
          · subst z
            have s2 := slot_live R.tab.up d3
            rw [sl] at s2
            cases s2
            rw [hp] at h2
            cases h2
            exact same k2
      have nx : (nth t.mask (spot t.mask (thash P w k) c) (q + 1)) = spot t.mask (thash P w k) (c + (q + 1)) := on _
      rw [wy, nx]
      by_cases l : t.led = true
      · refine wp_if_neg (by simp [l]) ?_
        try refine wpAny_bind (wpAny_pure ?_)
        exact body
      · refine wp_if_pos (by simp [l]) (wpAny_bind (seen_tup hx (fun y hy => ?_) (wp_if_neg (by decide) ?_)))
        · obtain ⟨e, he, rfl⟩ := List.mem_map.mp hy
          have he : e ∈ es.toList := by
            have : e ∈ es ∧ e.1 = thash P w k := by simpa using he
            simpa using this.1
          rw [R.row] at he
          obtain ⟨p2, m2, rfl⟩ := List.mem_map.mp he
          exact ⟨p2.2, p2.1, rfl, R.tup p2 m2⟩
        · try refine wpAny_bind (wpAny_pure ?_)
          exact body
    · rw [go, wy, Nat.add_sub_cancel' cK]
      dsimp only
      refine wpAny_pure (no fun km => ?_)
      obtain ⟨p2, m2, k2⟩ := List.mem_map.mp km
      obtain ⟨i2, hi2, e2⟩ := List.getElem_of_mem m2
      have h2 : L[i2]? = some p2 := by rw [List.getElem?_eq_getElem hi2, e2]
      obtain ⟨d, d1, d2, d3⟩ := ahead i2 p2 h2 k2
      exact before (d - c) i2 (by omega) (by rw [wy, Nat.add_sub_cancel' d1]; exact d3) ((hashes i2 p2 h2).trans (by rw [k2]))
theorem sought (R : Tset P w s.heap a L es ep t) {x : Addr} {k : List Int} (hx : IsT P w s.heap k x) (hu : A.units < cLine) {Q : SetFound → Shared → Prop}
    (yes : k ∈ L.map (·.2) → Q (.there none) s) (no : ∀ K, Gap t (thash P w k) K → k ∉ L.map (·.2) → Q (.free (way t.mask (thash P w k) K) false) s) : wpAny (model P w) A (setSearch a (.ref x) (thash P w k) true) Q E s := by
  have r := R.rm
  have mb := R.msk.lt
  obtain ⟨K, Kb, g⟩ := R.tab.gap (by rw [List.length_map]; omega) (thash P w k)
  refine seek R hx hu Kb g yes (no K g) 100000 0 none rfl (Nat.zero_le _) (by simp only [SetTable.turns] at Kb; omega) fun i p hp hk => ?_
  have hi : (L.map fun p => thash P w p.2)[i]? = some (thash P w k) := by simp [hp, hk]
  have il : i < t.place.toList.length := by
    have := (List.getElem?_eq_some_iff.mp hi).1
    rw [Array.length_toList, R.tab.sz]; exact this
  obtain ⟨d, dK, e⟩ := R.tab.ahead g hi (List.getElem?_eq_getElem il)
  exact ⟨d, Nat.zero_le _, dK, by rw [List.getElem?_eq_getElem il, e]⟩
/-- laid anew -/
theorem relaid_at {o : Obj} (ho : s.heap.get? a = some o) (hex : o.ExactSet) (hd : o.data = .set es ep t) (row : es.toList = rowsOf P w L) (sz : t.place.size = es.size) (dm : t.dummies = #[]) (fl : es.size ≤ t.mask)
    (one : (L.map (·.2)).Nodup) (tup : ∀ p ∈ L, IsT P w s.heap p.2 p.1) (pl : t.plain = true) (ld : w.params.followText "set-order" = true ∨ t.led = true) (few : L.length ≤ 2400) {n : Nat} (nb : n = L.length * 4) (n0 : 0 < L.length) (gr : ∃ m, SetTable.sizeAbove (L.length * 4) = m + 1 ∧ Msk m ∧ L.length * 4 ≤ m) {Q : Unit → Shared → Prop}
    (fin : ∀ h' L' es' ep' t', Heap.SameBut a s.heap h' → Tset P w h' a L' es' ep' t' → L'.Perm L → Q () { s with heap := h' }) : wpAny (model P w) A (setRelay a n) Q E s := by
  have len := row_len row
  rw [← nb] at gr
  obtain ⟨m, em, mk, nm⟩ := gr
  have po := mk.pow
  have mlt := mk.lt
  obtain ⟨u, ord, e, pm, T, um, ul, up⟩ := anew t (hs := es.map (·.1)) em po (by rw [Array.size_map]; omega)
  rw [Array.size_map, len] at pm
  obtain ⟨L2, r1, r2, r3⟩ := order_rows L es ord row pm
  rw [← r3] at T
  have sz2 : (ord.filterMap (es[·]?)).size = es.size := by rw [row_len r1, r2.length_eq, len]
  rw [setRelay_eq]
  refine wpAny_bind (wpAny_setState_of ho hd (fits_of dm sz fl) ?_)
  dsimp only
  refine wp_if_neg (by rw [sizeLine_eq, em]; omega) ?_
  try refine wpAny_bind (wpAny_pure ?_)
  rw [e]
  dsimp only
  refine wpAny_bind (wp_if_neg (by simp [sz2]) ?_)
  try refine wpAny_bind (wpAny_pure ?_)
  refine wpAny_pure ?_
  dsimp only
  refine wpAny_storeSet_of ho hd ?_ (by rw [sz2, sizeLine_eq]; omega)
  have sb : Heap.SameBut a s.heap (s.heap.update a (Obj.putSet (ord.filterMap (es[·]?)) u)) := Heap.SameBut.update ..
  have l2 := r2.length_eq
  exact fin _ L2 _ (ep + 1) u sb ⟨⟨_, store_at ho hd, ⟨hex.1, hex.2.1, hex.2.2⟩, rfl⟩, r1, T, (r2.map (·.2)).nodup_iff.mpr one, fun p hp => isT_same (tup p (r2.mem_iff.mp hp)) ho hd sb, up ▸ pl, ul ▸ ld, by rw [l2, um]; omega, by omega, um ▸ mk⟩ r2
/-- one more -/
theorem Tset.add (R : Tset P w s.heap a L es ep t) {x : Addr} {k : List Int} (hx : IsT P w s.heap k x) (hu : A.units < cLine) (few : L.length < 2400) {Q : Bool → Shared → Prop}
    (fin : ∀ b h' L' es' ep' t', Heap.SameBut a s.heap h' → Tset P w h' a L' es' ep' t' → (k ∈ L.map (·.2) → L' = L) → (k ∉ L.map (·.2) → L'.Perm ((x, k) :: L)) → Q b { s with heap := h' }) :
    wpAny (model P w) A (setAddHashed a (.ref x) (thash P w k)) Q E s := by
  obtain ⟨o, ho, hex, hd⟩ := R.at_
  have len := row_len R.row
  have rm := R.rm
  refine wpAny_holding ?_
  rw [show (100000 : Nat) = 99999 + 1 from rfl, setAddHashedIn_succ]
  refine wpAny_bind (wpAny_setState_of ho hd R.fit ?_)
  dsimp only
  refine wp_if_neg (by simp [byScan, Value.scannable]) ?_
  try refine wpAny_bind (wpAny_pure ?_)
  refine wpAny_bind (sought R hx hu (fun km => wpAny_pure (fin false s.heap L es ep t (.refl a s.heap) R (fun _ => rfl) fun z => absurd km z)) fun K g kn => ?_)
  dsimp only
  refine wpAny_bind (wpAny_setState_of ho hd R.fit ?_)
  dsimp only
  obtain ⟨u, p, eu, pl, lk, T, usz⟩ := R.tab.put g
  rw [List.length_map] at pl usz
  rw [eu]
  dsimp only
  first
    | (refine wpAny_bind ?_; refine wp_if_pos (lk.plain.trans R.pln) ?_; refine hashBy_tup hx ?_)
    | refine wp_if_pos (lk.plain.trans R.pln) (wpAny_bind (hashBy_tup hx ?_))
  simp only [if_true]
  have pm := put_perm L p (x, k)
  have hrow : (SetTable.insertAt es p (thash P w k, Value.ref x)).toList = rowsOf P w (L.take p ++ (x, k) :: L.drop p) := by
    rw [SetTable.toList_insertAt, R.row, rows_put]
  have T2 : TabG u ((L.take p ++ (x, k) :: L.drop p).map fun p => thash P w p.2) := by
    simpa only [List.map_append, List.map_cons, List.map_take, List.map_drop] using T
  generalize SetTable.insertAt es p (thash P w k, Value.ref x) = es1 at hrow ⊢
  generalize L.take p ++ (x, k) :: L.drop p = L1 at pm hrow T2
  have l1 : L1.length = L.length + 1 := pm.length_eq
  have one1 : (L1.map (·.2)).Nodup := (pm.map (·.2)).nodup_iff.mpr (List.nodup_cons.mpr ⟨kn, R.one⟩)
  have len1 := row_len hrow
  refine wpAny_bind (wpAny_storeSet_of ho hd ?_ (by rw [len1, sizeLine_eq]; omega))
  have sb : Heap.SameBut a s.heap (s.heap.update a (Obj.putSet es1 u)) := Heap.SameBut.update ..
  have ho1 := store_at (es' := es1) (t' := u) ho hd
  generalize s.heap.update a (Obj.putSet es1 u) = h1 at sb ho1 ⊢
  have tup1 : ∀ p ∈ L1, IsT P w h1 p.2 p.1 := fun p hp => by
    rcases List.mem_cons.mp (pm.mem_iff.mp hp) with rfl | hp
    · exact isT_same hx ho hd sb
    · exact isT_same (R.tup p hp) ho hd sb
  have ld1 : w.params.followText "set-order" = true ∨ u.led = true := by rw [lk.led]; exact R.led
  have full : u.tooFull = decide ((L.length + 1) * 5 ≥ t.mask * 3) := by
    simp [SetTable.tooFull, SetTable.fill, lk.dum, usz, lk.mask]
  by_cases c : u.tooFull = true
  · first
      | (refine wpAny_bind ?_; refine wp_if_pos (by simp [c]) ?_)
      | (refine wp_if_pos (by simp [c]) ?_; refine wpAny_bind ?_)
    refine relaid_at (s := { s with heap := h1 }) ho1 ⟨hex.1, hex.2.1, hex.2.2⟩ rfl hrow (by rw [len1, l1, usz]) lk.dum (by rw [len1, l1, lk.mask]; omega) one1 tup1 (lk.plain.trans R.pln) ld1 (by omega) (by rw [len, l1]; simp only [SetTable.grown]; rw [if_neg (by omega)]) (by omega) (by rw [full, decide_eq_true_eq] at c; rw [l1]; exact R.msk.grow c rm few) fun h2 L2 es2 ep2 t2 sb2 R2 pm2 => ?_
    exact wpAny_pure (fin true h2 L2 es2 ep2 t2 (sb.trans sb2) R2 (fun z => absurd z kn) fun _ => pm2.trans pm)
  · first
      | refine wp_if_neg (by simp [c]) ?_
      | (refine wpAny_bind ?_; refine wp_if_neg (by simp [c]) ?_; refine wpAny_pure ?_)
    rw [full, decide_eq_true_eq] at c
    have mk := R.msk
    exact wpAny_pure (fin true h1 L1 es1 (ep + 1) u sb ⟨⟨_, ho1, ⟨hex.1, hex.2.1, hex.2.2⟩, rfl⟩, hrow, T2, one1, tup1, lk.plain.trans R.pln, ld1, by rw [l1, lk.mask]; omega, by omega, lk.mask ▸ mk⟩ (fun z => absurd z kn) fun _ => pm)
theorem Tset.moved {h h' : Heap} (R : Tset P w h a L es ep t) (ha : ∀ o, h.get? a = some o → h'.get? a = some o) (ht : ∀ p ∈ L, IsT P w h' p.2 p.1) : Tset P w h' a L es ep t :=
  let ⟨o, ho, r⟩ := R.at_
  ⟨⟨o, ha o ho, r⟩, R.row, R.tab, R.one, ht, R.pln, R.led, R.rm, R.few, R.msk⟩
theorem Tset.new {h : Heap} (ho : h.get? a = some { cls := .type "set", dict := none, data := .set #[] 0 (.fresh 0 0 (!w.params.followText "set-order")) }) : Tset P w h a [] #[] 0 (.fresh 0 0 (!w.params.followText "set-order")) :=
  ⟨⟨_, ho, ⟨rfl, rfl, rfl⟩, rfl⟩, rfl, ⟨List.Pairwise.nil, rfl, rfl, ⟨3, rfl⟩, nofun, nofun⟩, List.nodup_nil, nofun, rfl, by cases w.params.followText "set-order" <;> simp [SetTable.fresh], by simp [SetTable.fresh], by simp, .inl rfl⟩
end
end Dw

/-! Dw65: len of {a tuple of ints for .. in ..}, up to a thousand. Own work. -/
namespace Dw
open PySem PySem.Spec PyProof.Rows L2 Fw
/-- the set at a, whatever its tuples' addresses hold -/
def Tset0 (P : Program) (w : World) (h : Heap) (a : Addr) (L : List (Addr × List Int)) : Prop := ∃ es ep t g, Tset P w g a L es ep t ∧ g.get? a = h.get? a
theorem Tset.bare {P : Program} {w : World} {h : Heap} {a : Addr} {L : List (Addr × List Int)} {es : Array (Int × Value)} {ep : Nat} {t : SetTable} (R : Tset P w h a L es ep t) : Tset0 P w h a L := ⟨es, ep, t, h, R, rfl⟩
theorem Tset0.full {P : Program} {w : World} {h : Heap} {a : Addr} {L : List (Addr × List Int)} (R : Tset0 P w h a L) (ht : ∀ p ∈ L, IsT P w h p.2 p.1) : ∃ es ep t, Tset P w h a L es ep t := by
  obtain ⟨es, ep, t, g, R, e⟩ := R
  exact ⟨es, ep, t, R.moved (fun o z => e ▸ z) ht⟩
/-! by data -/
section
variable {X : Cx} {Z : ZX} {K : PySem.W.Frag}
variable {elt iter tg : Expr} {ifs : List Expr} {scope : Scope} {own : List (Str × Nat)} {ti : TL} {g : TGd} {tt : TB} {te : TD} {us : List Nat} {pos p pos2 : Pos}
end
end Dw

/-! Dw66: dicts with nested tuple keys: items, setdefault, get of what is popped. Own work. -/
namespace Dw
open PySem PySem.Spec PyProof.Rows L2 Fw
/-! the pairs, each a new tuple -/
section
variable {P : Program} {w w' : World} {K : PySem.W.Frag} {d : Addr} {o : Obj} {es : Array DictEntry} {ep : Nat}
end
section
variable {X : Cx} {Z : ZX} {e : Expr} {td : TD} {apos pos tpos : Pos} {elts : List Expr} {kk : Nat}
end
/-! d.setdefault(k, e) -/
def valX (xs : List (NK × Addr × V)) (k : NK) : Option V := (xs.find? fun x => decide (x.1 = k)).map (·.2.2)
section
variable {X : Cx} {o e f : Expr} {td ty tx : TE} {apos cpos : Pos}
end
section
variable {K : PySem.W.Frag} {F : Option Addr} {G H H' : Hp}
theorem OwTL.find {k : NK} : ∀ {us : List (NK × Addr × V)} {es : List (NK × Addr × List D)}, OwTL K F G H us es → (valX us k = none ∧ (us.any fun x => decide (x.1 = k)) = false ∧ (es.any fun e => decide (e.1 = k)) = false) ∨
    ∃ r vs xs, valX us k = some (.ref r) ∧ (es.any fun e => decide (e.1 = k)) = true ∧ r ∈ es.map (·.2.1) ∧ H r = some (.lst vs) ∧ RepL K F G vs xs ∧ atP (ab es) k = xs ∧ (es.find? fun e => decide (e.1 = k)).map (·.2.1) = some r
  | _, _, .nil => .inl ⟨rfl, rfl, rfl⟩
  | _, _, .cons (f := f) (a := a) (r := r) (vs := vs) (xs := xs) (us := us) (es := es) h0 hd h rp s => by
    by_cases c : f = k
    · exact .inr ⟨r, vs, xs, by simp [valX, c], by simp [c], by simp, h, rp, by simp [atP, ab, c], by simp [c]⟩
    · rcases OwTL.find (k := k) s with ⟨h1, h2, h3⟩ | ⟨r', vs', xs', h1, h2, h3, h4, h5, h6, h7⟩
      · exact .inl ⟨by simpa [valX, c] using h1, by simpa [c] using h2, by simpa [c] using h3⟩
      · exact .inr ⟨r', vs', xs', by simpa [valX, c] using h1, by simpa [c] using h2, List.mem_cons_of_mem _ h3, h4, h5, by simpa [atP, ab, c] using h6, by simpa [c] using h7⟩
theorem OwTL.add {k : NK} {r : Addr} {v : V} {z : D} {vs : List V} (hv : Rep K F G v z) (hr : H r = some (.lst vs)) : ∀ {us : List (NK × Addr × V)} {es : List (NK × Addr × List D)}, OwTL K F G H us es → (es.map (·.2.1)).Nodup → valX us k = some (.ref r) → OwTL K F G (upd H r (.lst (vs ++ [v]))) us (addA k z es)
  | _, _, .nil, _, h => by cases h
  | _, _, .cons (f := f) (a := a) (r := r') (vs := vs') (xs := xs') (us := us) (es := es) h0 hd h rp s, nd, hk => by
    rw [List.map_cons, List.nodup_cons] at nd
    show OwTL K F G _ _ (if f = k then _ else _)
    by_cases c : f = k
    · have hk : r' = r := by simpa [valX, c] using hk
      subst hk
      rw [hr] at h
      cases h
      rw [if_pos c]
      refine .cons h0 hd upd_same (rp.append (.cons hv .nil)) (s.ext (Same.refl _) fun b hb => upd_ne fun e => nd.1 (e ▸ hb))
    · have hk : valX us k = some (.ref r) := by simpa [valX, c] using hk
      rw [if_neg c]
      rcases OwTL.find (k := k) s with ⟨h1, _⟩ | ⟨r2, _, _, h1, _, h3, _⟩
      · rw [h1] at hk; cases hk
      · have hk2 := hk
        rw [h1] at hk2
        cases hk2
        have ne : r' ≠ r := fun e => nd.1 (by rw [show (f, r', xs').2.1 = r from e]; exact h3)
        exact .cons h0 hd (by rw [upd_ne ne]; exact h) rp (OwTL.add hv hr s nd.2 hk)
theorem OwTL.length : ∀ {us : List (NK × Addr × V)} {es : List (NK × Addr × List D)}, OwTL K F G H us es → us.length = es.length
  | _, _, .nil => rfl
  | _, _, .cons _ _ _ _ s => by rw [List.length_cons, List.length_cons, OwTL.length s]
/-- seen in the whole heap it is a dict of lists -/
theorem OwTL.all (sub : ∀ b u, G b = some u → H b = some u) : ∀ {us : List (NK × Addr × V)} {es : List (NK × Addr × List D)}, OwTL K F G H us es → RepT K F H us (lsK (ab es))
  | _, _, .nil => .nil
  | _, _, .cons h0 hd h r s => .cons (h0.mono sub) hd (.lst h (r.mono sub)) (OwTL.all sub s)
end
section
variable {X : Cx} {Z : ZX} {x : Str} {kx vx : Expr} {tk tv : TD}
end
/-! d.get(e, f), e changes what one owns -/
section
variable {X : Cx} {Z : ZX} {b c : Expr} {x : Str} {p1 apos pos : Pos}
end
end Dw

/-! Dw67: a hook that looks at a written list of places only. Own work. -/
namespace Fw
open PySem PySem.Spec PyProof.Rows L2
end Fw

/-! Dw68: sorted(a text). Own work, after the library's sorted(a list). -/
namespace Fw
open PySem PySem.Spec PySem.F Builtin PyProof.Rows PySem.W PySem.Calls
section
variable {prog : Program} {w : World} {A : Around} {E : Value → Shared → Prop} {s : Shared}
end
end Fw
namespace Dw
open PySem PySem.Spec PyProof.Rows L2 Fw
section
variable {X : Cx} {Z : ZX} {K : PySem.W.Frag}
end
end Dw

/-! Dw69: == of two lists of own objects, each two equal by their own __eq__. Own work, after the library's OwnEq. -/
namespace Dw
open PySem PySem.Spec PyProof.Rows L2 Fw
section
variable {X : Cx} {Z : ZX} {K : PySem.W.Frag} {C : Addr} {spd : SpD} {k : Nat} {a b : Expr} {ta tb : TD} {pos : Pos}
end
end Dw

/-! Dw70: a, b = [], [] and a, b, c = [], [], []: lists of one's own. Own work. -/
namespace Dw
open PySem PySem.Spec PyProof.Rows L2 Fw
section
variable {X : Cx} {Z : ZX} {pos p1 p2 p3 : Pos}
end
end Dw

/-! ### a lambda of one parameter that a comprehension within it captures; sorted by it -/
namespace Lm
open PySem PySem.Spec PyProof.Rows L2 Fw
/-- the lambda's names: its parameter a (a cell), captured ones, globals -/
structure LamC (sc scope : Scope) (a : Str) : Prop where
  kind : scope.kind = .function
  co : scope.isCoroutine = false
  gen : scope.isGenerator = false
  cells : ∀ n cl, cellsFrom n scope.names cl = (a, n) :: cl
  push : ∀ h, pushCells h scope.names = h.push { cls := .type "cell", data := .cell none }
  look : scope.names.lookup a = some .cell
  own : ∀ y ∈ scope.names, y.2 ≠ .local ∧ (y.2 = .cell → y.1 = a)
  free : ∀ y ∈ scope.names, y.2 = .free → y.1 ≠ a ∧ (sc.names.lookup y.1 = some .cell ∨ sc.names.lookup y.1 = some .free)
def lamCB (sc scope : Scope) (a : Str) : Bool :=
  decide (scope.kind = .function) && !scope.isCoroutine && !scope.isGenerator && decide (scope.names.lookup a = some .cell) && scope.names.all fun y => !decide (y.2 = .local) && (!decide (y.2 = .cell) || decide (y.1 = a)) && (!decide (y.2 = .free) || (!decide (y.1 = a) && (decide (sc.names.lookup y.1 = some .cell) || decide (sc.names.lookup y.1 = some .free))))
theorem lamC_by {sc scope : Scope} {a : Str} (h : lamCB sc scope a = true) (hc : ∀ n cl, cellsFrom n scope.names cl = (a, n) :: cl) (hp : ∀ h, pushCells h scope.names = h.push { cls := .type "cell", data := .cell none }) : LamC sc scope a := by
  unfold lamCB at h
  simp only [Bool.and_eq_true, Bool.or_eq_true, Bool.not_eq_true', decide_eq_true_eq, decide_eq_false_iff_not, List.all_eq_true] at h
  obtain ⟨⟨⟨⟨h1, h2⟩, h3⟩, h5⟩, h4⟩ := h
  refine ⟨h1, h2, h3, hc, hp, h5, fun y hy => ⟨(h4 y hy).1.1, fun e => (h4 y hy).1.2.elim (fun z => absurd e z) id⟩, fun y hy e => ?_⟩
  rcases (h4 y hy).2 with z | ⟨z1, z2⟩
  · exact absurd e z
  · exact ⟨z1, z2⟩
abbrev lcEnv (X : Cx) (scope : Scope) (L f c' : Addr) (a : Str) : Env := PySem.W.envX (X.env.qual ++ "<lambda>") scope L f (.ref c') ((a, L + 1) :: cloFrom X.env.cells scope.names [])
/-- the context of the lambda's body, entered at s, while X waits -/
def lcCx (X : Cx) (A : Around) (s : Shared) (H : Hp) (scope : Scope) (f c' : Addr) (a : Str) : Cx where
  prog := X.prog
  w := X.w
  K := X.K
  mg := X.mg
  base := X.base
  A := A.deeper (lcEnv X scope s.heap.objs.size f c' a)
  N := X.N
  s_0 := s
  H_0 := H
  env := lcEnv X scope s.heap.objs.size f c' a
  outer := X.stack
  stack := lcEnv X scope s.heap.objs.size f c' a :: X.stack
  ex := []
  fn := fun _ => false
  calm := true
  pn := []
  xe := fun _ _ => False
section
variable {X : Cx} {pins : List (Addr × Obj)} {σ : L2.St} {H : Hp} {s : Shared}
theorem LamC.has {scope : Scope} {a : Str} (L : LamC X.env.scope scope a) (ok : X.Ok) : ∀ y ∈ scope.names, y.2 = .free → ∃ c, X.env.cells.lookup y.1 = some c := fun y hy e => by
  rcases (L.free y hy e).2 with k | k
  · exact ok.has _ (.inl k)
  · exact ok.has _ (.inr k)
theorem lc_start {A : Around} {scope : Scope} {f c' : Addr} {a : Str} {i0 : Nat} {v : V} {u : Value} {h₁ : Heap} {tk : Nat} (I : Inv X pins σ H s) (L : LamC X.env.scope scope a) (hN : X.N.Nodup) (hi : X.N[i0]? = some a) (hd : A.handled = none) (hA : A.frames = some X.stack)
    (r : RelV v u) (hns : h₁.Ns s.heap.objs.size fun _ => none) (hcell : h₁.IsCell (s.heap.objs.size + 1) (some u)) (kp : ∀ b o, s.heap.get? b = some o → h₁.get? b = some o) :
    Inv (lcCx X A s H scope f c' a) [] (σ.set i0 (some v)) H { s with heap := h₁, toks := tk } := by
  have e0 := I.env0
  have hfree := L.has I.ok
  have cm : ∀ {y c}, (cloFrom X.env.cells scope.names []).lookup y = some c → X.env.cells.lookup y = some c := fun {y c} e => by
    rcases cloFrom_mem (PySem.mem_of_lookup e) with hm | ⟨h1, h2⟩
    · cases hm
    · obtain ⟨c1, hc⟩ := hfree _ h1 rfl
      have hc : X.env.cells.lookup y = some c1 := hc
      have e2 : c = c1 := by
        rw [h2, hc] <;> rfl
      rw [e2]
      exact hc
  have old : ∀ {y c}, X.env.cells.lookup y = some c → c < s.heap.objs.size := fun {y c} e => by
    obtain ⟨v, o, ho, _⟩ := I.cell y c e
    exact Heap.lt_size ho
  -- a name's cell: the parameter's, or a captured one's
  have two : ∀ {y c}, ((a, s.heap.objs.size + 1) :: cloFrom X.env.cells scope.names []).lookup y = some c → (y = a ∧ c = s.heap.objs.size + 1) ∨ (y ≠ a ∧ X.env.cells.lookup y = some c) := fun {y c} e => by
    rw [List.lookup_cons] at e
    cases q : (y == a) with
    | true =>
      rw [q] at e
      cases e
      exact .inl ⟨eq_of_beq q, rfl⟩
    | false =>
      rw [q] at e
      exact .inr ⟨fun z => (by rw [z, beq_self_eq_true] at q; cases q), cm e⟩
  have look : ∀ {y}, y ≠ a → scope.names.lookup y = some .free → ∃ c, ((a, s.heap.objs.size + 1) :: cloFrom X.env.cells scope.names []).lookup y = some c := fun {y} hn hl => by
    have hy : (y, NameKind.free) ∈ scope.names := PySem.mem_of_lookup hl
    rw [List.lookup_cons]
    have q : (y == a) = false := by
      cases q : (y == a) with
      | true => exact absurd (eq_of_beq q) hn
      | false => rfl
    rw [q]
    exact mem_lookup (cloFrom_has (cells := X.env.cells) (acc := []) hy)
  have hia : ((a, s.heap.objs.size + 1) :: cloFrom X.env.cells scope.names []).lookup a = some (s.heap.objs.size + 1) := by rw [List.lookup_cons, beq_self_eq_true]
  have cellK : ∀ {c : Addr} {v : Option Value}, s.heap.IsCell c v → h₁.IsCell c v := fun {c v} ⟨o, ho, hd⟩ => ⟨o, kp _ _ ho, hd⟩
  have noA : ∀ b : Addr, b ∉ (lcCx X A s H scope f c' a).ex := fun b z => absurd (show b ∈ ([] : List Addr) from z) (by simp)
  have hlen : i0 < σ.length := by
    rw [I.len]
    exact (List.getElem?_eq_some_iff.mp hi).1
  refine ⟨⟨e0.mod, L.kind, rfl, rfl, Nat.le_refl _, fun y z c e1 e2 => ?_, fun y hy => ?_, fun y c z _ => ?_, fun _ => hd, Around.frames_deeper hA, .inr ⟨rfl, rfl⟩, fun b z => absurd z (noA b), e0.bs, e0.bsz, fun b _ _ => noA b,
      fun b z => absurd z (noA b), e0.funs, e0.frf⟩,
    rfl, e0.bare, Un.kept kp, ⟨_, hns, fun i y w e1 e2 e3 => ?_⟩, fun y c e => ?_, e0.hok.fresh (Nat.le_refl _), fun y c e => ?_, fun q hq => absurd (show q ∈ ([] : List (Addr × Obj)) ++ [] from hq) (by simp), e0.hok.kept kp, by rw [List.length_set]; exact I.len⟩
  · rcases two e1 with ⟨h1, h2⟩ | ⟨h1, h2⟩ <;> rcases two e2 with ⟨k1, k2⟩ | ⟨k1, k2⟩
    · rw [h1, k1]
    · exact absurd (old k2) (by rw [h2]; exact Nat.not_lt_of_le (Nat.le_succ _))
    · exact absurd (old h2) (by rw [k2]; exact Nat.not_lt_of_le (Nat.le_succ _))
    · exact I.ok.inj y z c h2 k2
  · have hy : scope.names.lookup y = some .cell ∨ scope.names.lookup y = some .free := hy
    rcases hy with hy | hy
    · have e := (L.own _ (PySem.mem_of_lookup hy)).2 rfl
      have e : y = a := e
      rw [e]
      exact ⟨_, hia⟩
    · exact look (L.free _ (PySem.mem_of_lookup hy) rfl).1 hy
  · have z : false = true := z
    cases z
  · have e3 : Vis scope y := e3
    have e1 : X.N[i]? = some y := e1
    rcases e3 with k | k | k
    · exact absurd rfl (L.own _ (PySem.mem_of_lookup k)).1
    · have ey : y = a := (L.own _ (PySem.mem_of_lookup k)).2 rfl
      subst ey
      have ei : i = i0 := by
        exact (List.getElem?_inj (List.getElem?_eq_some_iff.mp e1).1 hN).mp (e1.trans hi.symm)
      subst ei
      rw [List.getElem?_set_self hlen] at e2
      cases e2
      exact ⟨u, r, .inr ⟨.inl k, _, hia, hcell⟩⟩
    · have hn : y ≠ a := (L.free _ (PySem.mem_of_lookup k) rfl).1
      have ne : i0 ≠ i := fun z => by
        rw [z, e1] at hi
        exact hn (Option.some.inj hi)
      rw [List.getElem?_set_ne ne] at e2
      obtain ⟨m, hn', hl⟩ := I.loc
      have hvis : Vis X.env.scope y := (L.free _ (PySem.mem_of_lookup k) rfl).2.elim (fun k => .inr (.inl k)) (fun k => .inr (.inr k))
      obtain ⟨w', rw', q⟩ := hl i y w e1 e2 hvis
      obtain ⟨c2, h2⟩ := look hn k
      refine ⟨w', rw', .inr ⟨.inr k, c2, h2, ?_⟩⟩
      rcases two h2 with ⟨z, _⟩ | ⟨_, c1⟩
      · exact absurd z hn
      rcases q with ⟨k', _⟩ | ⟨_, c3, e', z⟩
      · have k' : X.env.scope.names.lookup y = some .local := k'
        rcases (L.free _ (PySem.mem_of_lookup k) rfl).2 with k2 | k2 <;> rw [show X.env.scope.names.lookup y = _ from k2] at k' <;> cases k'
      · rw [c1] at e'
        cases e'
        exact cellK z
  · rcases two e with ⟨_, h2⟩ | ⟨_, h2⟩
    · rw [h2]; exact ⟨_, hcell⟩
    · obtain ⟨w', z⟩ := I.cell y c h2
      exact ⟨w', cellK z⟩
  · rcases two e with ⟨_, h2⟩ | ⟨_, h2⟩
    · rw [h2]; exact e0.hok.fresh (Nat.le_succ _)
    · exact I.freeC y c h2

/-- the lambda is called with u -/
theorem lc_call {A : Around} {params : Arguments} {body : Expr} {scope : Scope} {f c' : Addr} {a : Str} {pm ctv : Value} {i0 k : Nat} {v : V} {u : Value} {tb : TE} {Q : VK} (I : Inv X pins σ H s) (L : LamC X.env.scope scope a) (hN : X.N.Nodup) (hi : X.N[i0]? = some a) (hr : Room (k + 1) A) (hA : A.frames = some X.stack) (r : RelV v u)
    (hf : s.heap.get? f = some (PySem.W.kla_obj "<lambda>" (X.env.qual ++ "<lambda>") params body scope (cloFrom X.env.cells scope.names []) pm c' ctv)) (hc : H c' = some (LamX.CodeO c' (X.env.qual ++ "<lambda>")))
    (hbind : bindArgs (PySem.W.kla_fn "<lambda>" (X.env.qual ++ "<lambda>") params body scope (cloFrom X.env.cells scope.names []) pm (.ref c') ctv) ⟨[u], []⟩ = pure [(a, u)])
    (hbody : Room k (A.deeper (lcEnv X scope s.heap.objs.size f c' a)) → PE (lcCx X A s H scope f c' a) body tb) (q : tb (σ.set i0 (some v)) H Q) :
    wpAny (model X.prog X.w) A (call (.ref f) [u]) (fun u' s' => CE X.stack X.prog X.w H s Q u' s') (fun _ _ => False) s := by
  refine wpAny_call ?_
  obtain ⟨⟨oc, vs, t, hoc, hdc, hvc⟩, _, _⟩ := I.hok c' _ hc
  refine PySem.W.kla_callFunE hr.depth hf rfl L.co L.gen rfl ⟨c', oc, vs, t, rfl, hoc, hdc, hvc⟩ ?_
  rw [hbind]
  refine wpAny_pure ?_
  have lim : s.heap.NoLimit := I.nolimit
  have hL : ({ s with heap := s.heap.push { cls := .type "frame", data := .dict #[] } } : Shared).heap.objs.size = s.heap.objs.size + 1 := Heap.size_push ..
  simp only [newFunctionEnv, Option.isSome_none, Bool.false_eq_true, if_false]
  refine wpAny_bind (wpAny_alloc ?_)
  refine wpAny_bind (wpAny_layCells _ (fun name kind cells => by cases hkc : kind == NameKind.cell <;> simp [hkc]) _ _ _ _ ?_)
  rw [hL, L.cells, L.push]
  rw [List.forIn_cons]
  have hcl : ((a, s.heap.objs.size + 1) :: cloFrom X.env.cells scope.names []).lookup a = some (s.heap.objs.size + 1) := by rw [List.lookup_cons, beq_self_eq_true]
  have hp : ((s.heap.push { cls := .type "frame", data := .dict #[] }).push { cls := .type "cell", data := .cell none }).get? (s.heap.objs.size + 1) = some { cls := .type "cell", data := .cell none } := by
    have z := Heap.get?_push_size (s.heap.push { cls := .type "frame", data := .dict #[] }) (o := { cls := .type "cell", data := .cell none }) rfl
    rw [Heap.size_push] at z
    exact z
  refine wpAny_bind (wpAny_bind (wpAny_bind (wpAny_storeName_cell (v₀ := none) (env := lcEnv X scope s.heap.objs.size f c' a) L.kind L.look hcl ⟨_, hp, rfl⟩ fun h' hc' hs' => wpAny_pure ?_)))
  simp only [List.forIn_nil]
  refine wpAny_pure (wpAny_pure ?_)
  have kp : ∀ b o, s.heap.get? b = some o → h'.get? b = some o := fun b o e => (hs'.2 b (Nat.ne_of_lt (Nat.lt_succ_of_lt (Heap.lt_size e)))).trans (Heap.get?_push_of_some _ (Heap.get?_push_of_some _ e))
  have hns : h'.Ns s.heap.objs.size fun _ => none := ((Heap.Ns.new s.heap (.type "frame")).keeps fun b o e => Heap.get?_push_of_some _ e).sameBut hs' (Nat.ne_of_lt (Nat.lt_succ_self _))
  refine ⟨lim.keeps kp, ?_⟩
  have J : Inv (lcCx X A s H scope f c' a) [] (σ.set i0 (some v)) H { s with heap := h', toks := s.toks } := lc_start I L hN hi hr.hd hA r hns hc' kp
  refine PySem.W.kla_codeExpr (wpAny_mono ((hbody (hr.deeper _)).run [] _ _ H Q J q) (fun u' s' hq => ?_) fun e s' hq => hq.elim)
  obtain ⟨w', H', J', rv, q'⟩ := hq
  exact ⟨w', H', J'.os, J'.bare, J'.base, J'.hok, rv, q'⟩
end
end Lm

/-! ### sorted(x, key=f), f a lambda: over the walk's invariant -/
namespace Lm
open PySem PySem.Spec PyProof.Rows L2 Fw
section
variable {X : Cx} {pins : List (Addr × Obj)} {σ : L2.St} {H H2 : Hp} {s : Shared}
/-- the state but for what was made since and is nobody's -/
theorem inv_but {N : List Addr} {h' : Heap} {t' : Nat} (I : Inv X pins σ H s) (hN : ∀ b ∈ N, X.s_0.heap.objs.size ≤ b ∧ b ≠ X.env.locals ∧ (∀ (x : Str) (c : Addr), X.env.cells.lookup x = some c → c ≠ b) ∧ ∀ p ∈ X.pn ++ pins, p.1 ≠ b) (h0 : ∀ b ∈ N, H b = none)
    (k : ∀ b o, b ∉ N → s.heap.get? b = some o → h'.get? b = some o) (hH : ∀ b, b ∉ N → H2 b = H b) (hk : ∀ b ∈ N, ∀ u, H2 b = some u → ObjOk X.prog X.w H2 h' b u) : Inv X pins σ H2 { s with heap := h', toks := t' } := by
  have out : ∀ b u, H b = some u → b ∉ N := fun b u e z => by rw [h0 b z] at e; cases e
  have keepH : ∀ b u, H b = some u → H2 b = some u := fun b u e => by rw [hH b (out b u e)]; exact e
  refine I.step (g' := s.gens) (d' := s.drawn) (ch := N) (fun b hb => ⟨.inr (hN b hb).1, (hN b hb).2⟩) (fun b o _ _ nb e _ => k b o nb e) (fun b o _ _ nb e _ => ⟨o.slots, k b o nb e⟩) (fun b o nb e n => by rw [hH b nb]; exact n) (fun b o nb e => ⟨o, k b o nb e⟩) (fun b xs e => keepH _ _ e) (fun b o u e => keepH _ _ e)
    (fun b ps e => ⟨#[], by rw [Array.append_empty]; exact keepH _ _ e⟩) (fun m hn => ?_) (fun b u e => ?_) I.bare
  · obtain ⟨ob, es, ep, ho, r⟩ := hn
    exact ⟨ob, es, ep, k _ ob (fun z => (hN _ z).2.1 rfl) ho, r⟩
  · by_cases hb : b ∈ N
    · exact hk b hb u e
    · rw [hH b hb] at e
      refine (I.hok b u e).stay (fun d v hd q => k d v ?_ q) (fun d q => keepH _ _ q) fun d xs q => keepH _ _ q
      rcases hd with z | z
      · rw [z]; exact hb
      · exact out _ _ z
/-- the sorted order of the places -/
def ixR (its : List Value) : Value → Nat × Int → Prop := fun v x => its[x.1]? = some v
def ixL (ks : List Int) : List (Nat × Int) := (List.range ks.length).map fun i => (i, ks.getD i 0)
theorem ixL_each {its : List Value} {ks : List Int} (hl : ks.length = its.length) : PySem.W.EachIs (ixR its) its (ixL ks) := by
  refine PySem.W.EachIs.of_zip (by unfold ixL; rw [List.length_map, List.length_range, hl]) fun p hp => ?_
  obtain ⟨i, hi⟩ := List.mem_iff_getElem?.mp hp
  rw [List.getElem?_zip_eq_some] at hi
  obtain ⟨h1, h2⟩ := hi
  unfold ixL at h2
  rw [List.getElem?_map] at h2
  cases q : (List.range ks.length)[i]? with
  | none => rw [q] at h2; cases h2
  | some j =>
    rw [q] at h2
    have e : j = i := by
      have := List.getElem?_range (n := ks.length) (i := i) (by
        have := (List.getElem?_eq_some_iff.mp q).1
        rwa [List.length_range] at this)
      rw [this] at q
      exact (Option.some.inj q).symm
    subst e
    have h3 : p.2 = (j, ks.getD j 0) := (Option.some.inj h2).symm
    unfold ixR
    rw [h3]
    exact h1
theorem vals_ix {its : List Value} {xs : List V} (rv : Vals xs its) : ∀ {out : List Value} {bs : List (Nat × Int)}, PySem.W.EachIs (ixR its) out bs → Vals (bs.map fun x => xs.getD x.1 .non) out
  | _, _, .nil => .nil
  | _, _, .cons (a := v) (b := x) h t => by
    have h' : its[x.1]? = some v := h
    have hx : x.1 < xs.length := by
      rw [rv.length]
      exact (List.getElem?_eq_some_iff.mp h').1
    obtain ⟨u, hu, r⟩ := rv.get (List.getElem?_eq_getElem hx)
    rw [h'] at hu
    cases hu
    refine .cons ?_ (vals_ix rv t)
    show RelV (xs.getD x.1 .non) v
    rw [List.getD_eq_getElem?_getD, List.getElem?_eq_getElem hx]
    exact r
def ixOf (ks : List Int) : List Nat := ((ixL ks).mergeSort (fun a b => decide (a.2 ≤ b.2))).map (·.1)
theorem ixOf_perm (ks : List Int) : (ixOf ks).Perm (List.range ks.length) := by
  unfold ixOf
  refine ((List.mergeSort_perm _ _).map _).trans ?_
  unfold ixL
  rw [List.map_map]
  have : ((fun x : Nat × Int => x.1) ∘ fun i => (i, ks.getD i 0)) = id := rfl
  rw [this, List.map_id]
theorem ixOf_sorted (ks : List Int) : (ixOf ks).Pairwise fun i j => ks.getD i 0 ≤ ks.getD j 0 := by
  unfold ixOf
  rw [List.pairwise_map]
  have h := List.pairwise_mergeSort (le := fun a b : Nat × Int => decide (a.2 ≤ b.2)) (fun a b c => by simp; omega) (fun a b => by simp; omega) (ixL ks)
  have mem : ∀ x ∈ (ixL ks).mergeSort (fun a b => decide (a.2 ≤ b.2)), x.2 = ks.getD x.1 0 := fun x hx => by
    have := (List.mergeSort_perm (ixL ks) _).mem_iff.mp hx
    unfold ixL at this
    obtain ⟨i, _, rfl⟩ := List.mem_map.mp this
    rfl
  refine h.imp_of_mem fun {a b} ha hb hab => ?_
  rw [← mem a ha, ← mem b hb]
  simpa using hab

theorem nofr (I : Inv X pins σ H s) {b : Addr} (h : s.heap.objs.size ≤ b) : b ∉ frs X.stack := fun z => by
  rcases List.mem_cons.mp (I.stkSub _ z) with e | e
  · have h1 := I.lt
    rw [← e] at h1
    exact Nat.lt_irrefl _ (Nat.lt_of_lt_of_le h1 h)
  · exact I.nofs h e
theorem newN (I : Inv X pins σ H s) {b : Addr} (h : s.heap.objs.size ≤ b) : X.s_0.heap.objs.size ≤ b ∧ b ≠ X.env.locals ∧ (∀ (x : Str) (c : Addr), X.env.cells.lookup x = some c → c ≠ b) ∧ ∀ p ∈ X.pn ++ pins, p.1 ≠ b := by
  refine ⟨Nat.le_trans I.sz h, fun z => ?_, fun x c e z => ?_, fun p hp z => ?_⟩
  · have h1 := I.lt
    rw [← z] at h1
    exact Nat.lt_irrefl _ (Nat.lt_of_lt_of_le h1 h)
  · obtain ⟨v, o, ho, _⟩ := I.cell x c e
    have h1 := Heap.lt_size ho
    rw [z] at h1
    exact Nat.lt_irrefl _ (Nat.lt_of_lt_of_le h1 h)
  · have h1 := Heap.lt_size (I.pin p hp).1
    rw [z] at h1
    exact Nat.lt_irrefl _ (Nat.lt_of_lt_of_le h1 h)
/-- the walk through the keys -/
structure KSt (X : Cx) (pins : List (Addr × Obj)) (σ : L2.St) (J : Nat → Hp → Prop) (f : Addr) (fobj : Obj) (a kS : Addr) (e1 : Nat) (ks : List Int) (i : Nat) (s : Shared) : Prop where
  ex : ∃ H : Hp, Inv X pins σ H s ∧ J i H ∧ H a = none ∧ H kS = none ∧ H f = none
  f : s.heap.get? f = some fobj
  a : s.heap.get? a = some (seqObj "list" #[] e1)
  k : ∃ kA e, s.heap.get? kS = some (seqObj "list" kA e) ∧ PySem.W.EachIs (fun (v : Value) (k : Int) => ∃ t, v = .int k t) kA.toList (ks.take i)
theorem each_snoc' {α β : Type} {R : α → β → Prop} {x : α} {y : β} : ∀ {l : List α} {m : List β}, PySem.W.EachIs R l m → R x y → PySem.W.EachIs R (l ++ [x]) (m ++ [y])
  | _, _, .nil, h => .cons h .nil
  | _, _, .cons g t, h => .cons g (each_snoc' t h)
theorem key_loop {l f a kS : Addr} {xs : List V} {its : List Value} {ks : List Int} {fobj : Obj} {e1 : Nat} {J : Nat → Hp → Prop} {P : PySem.Fin → Shared → Prop} {E : Value → Shared → Prop} (rv : Vals xs its) (hlen : ks.length = xs.length) (hz : xs.length ≤ sizeLine) (hka : kS ≠ a) (hfa : f ≠ a) (hfk : f ≠ kS)
    (hN : ∀ b ∈ [a, kS], X.s_0.heap.objs.size ≤ b ∧ b ≠ X.env.locals ∧ (∀ (x : Str) (c : Addr), X.env.cells.lookup x = some c → c ≠ b) ∧ ∀ p ∈ X.pn ++ pins, p.1 ≠ b) (hfr : ∀ b ∈ [f, a, kS], b ∉ frs X.stack)
    (turn : ∀ (i : Nat) (v : V) (u : Value) (k : Int) (H3 : Hp) (s3 : Shared), xs[i]? = some v → ks[i]? = some k → RelV v u → J i H3 → Inv X pins σ H3 s3 → s3.heap.get? f = some fobj →
      wpAny (model X.prog X.w) X.A.in1.in1 (call (.ref f) [u]) (fun u' s' => CE X.stack X.prog X.w H3 s3 (fun x H4 => x = .int k ∧ J (i + 1) H4) u' s') (fun _ _ => False) s3)
    (hS : KSt X pins σ J f fobj a kS e1 ks 0 s)
    (fin : ∀ s' kA e, KSt X pins σ J f fobj a kS e1 ks ks.length s' → s'.heap.get? kS = some (seqObj "list" kA e) → PySem.W.EachIs (fun (v : Value) (k : Int) => ∃ t, v = .int k t) kA.toList ks → wpAny (model X.prog X.w) X.A.in1.in1 (ksk_end a false its.toArray e1 (.ref kS) kA) P E s') :
    wpAny (model X.prog X.w) X.A.in1.in1 (ksk_rest a (.ref f) false its.toArray e1 (.ref kS)) P E s := by
  have hl2 : its.length = xs.length := rv.length.symm
  unfold ksk_rest
  refine wpAny_bind (wpAny_rule ?_)
  first
    | rw [List.forIn_toArray]
    | (rw [← Array.forIn_toList]; simp only [List.toList_toArray])
    | rw [← Array.forIn_toList]
  refine wpAny_bind (ksk_fold (fun i s' => KSt X pins σ J f fobj a kS e1 ks i s') its 0 s hS ?step ?done)
  case step =>
    intro j u s3 hx K
    simp only [Nat.zero_add] at K ⊢
    have hj : j < its.length := (List.getElem?_eq_some_iff.mp hx).1
    obtain ⟨k, hk⟩ : ∃ k, ks[j]? = some k := ⟨_, List.getElem?_eq_getElem (by omega)⟩
    obtain ⟨v, hv⟩ : ∃ v, xs[j]? = some v := ⟨_, List.getElem?_eq_getElem (by omega)⟩
    obtain ⟨u0, hu0, ru⟩ := rv.get hv
    rw [hx] at hu0
    cases hu0
    obtain ⟨H3, I3, J3, na, nk, nf⟩ := K.ex
    obtain ⟨kA, e, ek, each⟩ := K.k
    refine wpAny_bind (wpAny_attempt (wpAny_mono (turn j v u k H3 s3 hv hk ru J3 I3 K.f) (fun u' s4 hq => ?_) fun _ _ hF => hF.elim))
    obtain ⟨v', H4, os, bare, un, hok, rv', e', J4⟩ := hq
    subst e'
    obtain ⟨_, H4', I4, _, z1, z2⟩ := I3.after (Q := fun x H => x = V.int k ∧ H = H4) ⟨_, H4, os, bare, un, hok, rv', rfl, rfl⟩
    rw [z2] at I4
    obtain ⟨t, rfl⟩ : ∃ t, u' = Value.int k t := rv'
    have kf := un.keep f _ K.f nf (hfr f (by simp)) (by simp)
    have ka := un.keep a _ K.a na (hfr a (by simp)) (by simp)
    have kk := un.keep kS _ ek nk (hfr kS (by simp)) (by simp)
    have na4 := un.free a _ K.a na (by simp)
    have nk4 := un.free kS _ ek nk (by simp)
    have nf4 := un.free f _ K.f nf (by simp)
    have hz2 : kA.size ≤ its.length := by
      have h1 := each.length
      rw [Array.length_toList, List.length_take] at h1
      omega
    have s1 := Heap.SameBut.update s4.heap kS (Obj.mapSeq (·.push (Value.int k t)))
    obtain ⟨c2, hc2⟩ : ∃ c2, (s4.heap.update kS (Obj.mapSeq (·.push (Value.int k t)))).get? kS = some (seqObj "list" (kA.push (Value.int k t)) c2) := ⟨_, get?_update_seq kk (·.push (Value.int k t))⟩
    refine wpAny_bind (listUpdate_at kk rfl ?_ (Nat.le_trans hz2 (by omega)) (Nat.le_trans (Nat.le_of_eq (Array.size_push ..)) (Nat.succ_le_succ (Nat.le_trans hz2 (by omega)))))
    refine wpAny_pure ⟨rfl, ⟨H4, ?_, J4, na4, nk4, nf4⟩, (s1.2 f hfk).trans kf, (s1.2 a hka.symm).trans ka, _, c2, hc2, ?_⟩
    · exact inv_but (N := [kS]) I4 (fun b hb => hN b (by simp at hb; simp [hb])) (fun b hb => by simp at hb; rw [hb]; exact nk4) (fun b o hb e => (s1.2 b (by simpa using hb)).trans e) (fun _ _ => rfl) fun b hb u e => by
        simp at hb; rw [hb, nk4] at e; cases e
    · have ek : ks.take (j + 1) = ks.take j ++ [k] := by rw [List.take_add_one, hk]; simp
      have ea : (kA.push (Value.int k t)).toList = kA.toList ++ [Value.int k t] := by simp
      rw [ea, ek]
      exact each_snoc' each ⟨t, rfl⟩
  case done =>
    intro s3 K
    have e3 : 0 + its.length = ks.length := by omega
    rw [e3] at K
    obtain ⟨kA, e, ek, each⟩ := K.k
    rw [List.take_length] at each
    refine wpAny_bind (listItems_at ek rfl ?_)
    exact fin s3 kA e K ek each

theorem sorted_lc {l f : Addr} {xs : List V} {ks : List Int} {fobj : Obj} {J : Nat → Hp → Prop} {Q : VK} {E : Value → Shared → Prop} (I : Inv X pins σ H s) (hl : SqL X.K H l xs) (hlen : ks.length = xs.length) (hu : X.A.units + 8 < cLine)
    (hf : s.heap.get? f = some fobj) (hfn : H f = none) (hff : f ∉ frs X.stack) (hJ : J 0 H)
    (turn : ∀ (i : Nat) (v : V) (u : Value) (k : Int) (H3 : Hp) (s3 : Shared), xs[i]? = some v → ks[i]? = some k → RelV v u → J i H3 → Inv X pins σ H3 s3 → s3.heap.get? f = some fobj →
      wpAny (model X.prog X.w) X.A.in1.in1 (call (.ref f) [u]) (fun u' s' => CE X.stack X.prog X.w H3 s3 (fun x H4 => x = .int k ∧ J (i + 1) H4) u' s') (fun _ _ => False) s3)
    (fin : ∀ (H5 : Hp) (p : Addr), J xs.length H5 → H p = none → H5 p = none → Q (.ref p) (upd H5 p (.lst ((ixOf ks).map fun j => xs.getD j .non)))) :
    wpAny (model X.prog X.w) X.A (call (.builtin "sorted") [.ref l] [(Str.ofString "key", .ref f)]) (EP X pins σ Q) E s := by
  obtain ⟨its, rv, hpl, hz⟩ := I.list hl
  have hl2 : its.length = xs.length := rv.length.symm
  have hfs : f < s.heap.objs.size := Heap.lt_size hf
  refine PySem.W.sorted_of_sort hpl.isList (by rw [hl2]; exact hz) (ksk_s1 _ _) (fun _ => ksk_l1 _ _) fun E' => ?_
  rw [ksk_t1]
  -- the copy
  have hcopy := PySem.W.copyHeap_at s.heap its
  have hold : ∀ b o, s.heap.get? b = some o → (PySem.W.copyHeap s.heap its).get? b = some o := fun b o e => PySem.W.copyHeap_old e
  have I1 : Inv X pins σ H { s with heap := PySem.W.copyHeap s.heap its, toks := s.toks } := I.kept hold
  have ha : s.heap.objs.size + 1 < (PySem.W.copyHeap s.heap its).objs.size := Heap.lt_size hcopy
  have na : H (s.heap.objs.size + 1) = none := I.hok.fresh (Nat.le_succ _)
  unfold ksk_tree
  refine wpAny_bind (listItems_at hcopy rfl ?_)
  refine wpAny_bind (listUpdate_at hcopy rfl ?_ (by rw [List.size_toArray]; omega) (Nat.zero_le _))
  obtain ⟨e1, ho1⟩ : ∃ e1, ((PySem.W.copyHeap s.heap its).update (s.heap.objs.size + 1) (Obj.mapSeq fun _ => (#[] : Array Value))).get? (s.heap.objs.size + 1) = some (seqObj "list" #[] e1) := ⟨_, get?_update_seq hcopy fun _ => #[]⟩
  refine wpAny_bind (seqEpoch_at ho1 rfl ?_)
  refine wpAny_bind (wpAny_newTuple ?_ (by show its.length ≤ _; omega))
  refine wpAny_bind (wpAny_newList ?_ (Nat.zero_le _))
  refine wpAny_holding ?_
  have hsz : ((PySem.W.copyHeap s.heap its).update (s.heap.objs.size + 1) (Obj.mapSeq fun _ => (#[] : Array Value))).objs.size = (PySem.W.copyHeap s.heap its).objs.size := Heap.size_update ..
  have hkS : ((((PySem.W.copyHeap s.heap its).update (s.heap.objs.size + 1) (Obj.mapSeq fun _ => (#[] : Array Value))).push (seqObj "tuple" its.toArray 0)).objs.size) = (PySem.W.copyHeap s.heap its).objs.size + 1 := by rw [Heap.size_push, hsz]
  have hkS2 : s.heap.objs.size + 1 < (PySem.W.copyHeap s.heap its).objs.size + 1 := Nat.lt_succ_of_lt ha
  have nk : H ((PySem.W.copyHeap s.heap its).objs.size + 1) = none := I1.hok.fresh (Nat.le_succ _)
  have s1 := Heap.SameBut.update (PySem.W.copyHeap s.heap its) (s.heap.objs.size + 1) (Obj.mapSeq fun _ => (#[] : Array Value))
  have keep1 : ∀ b o, b ≠ s.heap.objs.size + 1 → (PySem.W.copyHeap s.heap its).get? b = some o → ((((PySem.W.copyHeap s.heap its).update (s.heap.objs.size + 1) (Obj.mapSeq fun _ => (#[] : Array Value))).push (seqObj "tuple" its.toArray 0)).push (seqObj "list" #[] 0)).get? b = some o := fun b o hb e =>
    Heap.get?_push_of_some _ (Heap.get?_push_of_some _ ((s1.2 b hb).trans e))
  have hNa := newN I (Nat.le_succ s.heap.objs.size)
  have hNk := newN I1 (Nat.le_succ (PySem.W.copyHeap s.heap its).objs.size)
  have hfa : f ≠ s.heap.objs.size + 1 := Nat.ne_of_lt (Nat.lt_succ_of_lt hfs)
  have hfk : f ≠ (PySem.W.copyHeap s.heap its).objs.size + 1 := Nat.ne_of_lt (Nat.lt_succ_of_lt (Heap.lt_size (hold _ _ hf)))
  have I2 : Inv X pins σ H { s with heap := (((PySem.W.copyHeap s.heap its).update (s.heap.objs.size + 1) (Obj.mapSeq fun _ => (#[] : Array Value))).push (seqObj "tuple" its.toArray 0)).push (seqObj "list" #[] 0), toks := s.toks } :=
    inv_but (s := { s with heap := PySem.W.copyHeap s.heap its, toks := s.toks }) (N := [s.heap.objs.size + 1]) I1 (fun b hb => by simp at hb; rw [hb]; exact hNa) (fun b hb => by simp at hb; rw [hb]; exact na) (fun b o hb e => keep1 b o (by simpa using hb) e) (fun _ _ => rfl) fun b hb u e => by
      simp at hb; rw [hb, na] at e; cases e
  have hz' : xs.length ≤ sizeLine := hz
  show wpAny _ _ (ksk_rest _ _ _ _ _ (.ref ((((PySem.W.copyHeap s.heap its).update (s.heap.objs.size + 1) (Obj.mapSeq fun _ => (#[] : Array Value))).push (seqObj "tuple" its.toArray 0)).objs.size))) _ _ _
  rw [hkS]
  refine key_loop (J := J) (fobj := fobj) (l := l) rv hlen hz' (Nat.ne_of_gt hkS2) hfa hfk (fun b hb => ?_) (fun b hb => ?_) turn ⟨⟨H, I2, hJ, na, nk, hfn⟩, keep1 f _ hfa (hold _ _ hf), Heap.get?_push_of_some _ (Heap.get?_push_of_some _ ho1), #[], 0, ?_, by rw [List.take_zero]; exact .nil⟩ fun s3 kA e K ek each => ?_
  · simp only [List.mem_cons, List.not_mem_nil, or_false] at hb
    rcases hb with rfl | rfl
    · exact hNa
    · exact hNk
  · simp only [List.mem_cons, List.not_mem_nil, or_false] at hb
    rcases hb with rfl | rfl | rfl
    · exact hff
    · exact nofr I (Nat.le_succ _)
    · exact nofr I1 (Nat.le_succ _)
  · have z := Heap.get?_push_size (((PySem.W.copyHeap s.heap its).update (s.heap.objs.size + 1) (Obj.mapSeq fun _ => (#[] : Array Value))).push (seqObj "tuple" its.toArray 0)) (o := seqObj "list" #[] 0) rfl
    rw [hkS] at z
    exact z
  obtain ⟨H3, I3, J3, na3, nk3, nf3⟩ := K.ex
  have hN2 : ∀ b ∈ [s.heap.objs.size + 1, (PySem.W.copyHeap s.heap its).objs.size + 1], X.s_0.heap.objs.size ≤ b ∧ b ≠ X.env.locals ∧ (∀ (x : Str) (c : Addr), X.env.cells.lookup x = some c → c ≠ b) ∧ ∀ p ∈ X.pn ++ pins, p.1 ≠ b := fun b hb => by
    simp only [List.mem_cons, List.not_mem_nil, or_false] at hb
    rcases hb with rfl | rfl
    · exact hNa
    · exact hNk
  -- the sort itself: no key's call any more
  let hd : Heap := hidT s3.heap (upd (fun _ => none) ((PySem.W.copyHeap s.heap its).objs.size + 1) (.lst []))
  have hd1 : hd.get? ((PySem.W.copyHeap s.heap its).objs.size + 1) = none := by
    cases q : hd.get? ((PySem.W.copyHeap s.heap its).objs.size + 1) with
    | none => rfl
    | some o =>
      have := (of_hidT q).2
      rw [upd_same] at this
      cases this
  have hd2 : PySem.W.KeepsBut (s.heap.objs.size + 1) hd s3.heap := fun b o _ q => (of_hidT q).1
  have kz : PySem.W.EachIs (fun (v : Value) (d : PyData) => ∃ as, Reads s3.heap v d as) kA.toList ((ixL ks).map fun x => PyData.int x.2) := by
    have e2 : (ixL ks).map (fun x => PyData.int x.2) = ks.map PyData.int := by
      unfold ixL
      rw [List.map_map]
      apply List.ext_getElem?
      intro i
      rw [List.getElem?_map, List.getElem?_map]
      by_cases c : i < ks.length
      · rw [List.getElem?_range c, List.getElem?_eq_getElem c]
        simp [List.getElem?_eq_getElem c]
      · rw [List.getElem?_eq_none (by rw [List.length_range]; omega), List.getElem?_eq_none (by omega)]; rfl
    rw [e2]
    have gen : ∀ {l : List Value} {m : List Int}, PySem.W.EachIs (fun (v : Value) (k : Int) => ∃ t, v = .int k t) l m → PySem.W.EachIs (fun (v : Value) (d : PyData) => ∃ as, Reads s3.heap v d as) l (m.map PyData.int) := by
      intro l m h
      induction h with
      | nil => exact .nil
      | cons h t ih =>
        obtain ⟨t, rfl⟩ := h
        exact .cons ⟨[], .int _ _⟩ ih
    exact gen each
  have hal : PySem.W.AllAlike ((ixL ks).map fun x => PyData.int x.2) := PySem.W.AllAlike.of fun _ _ => by simp [PySem.W.alike]
  have hsk : PySem.W.Sortable ((ixL ks).map fun x => PyData.int x.2) := PySem.W.Sortable.others fun _ => ⟨(fun z => nomatch z), fun _ z => nomatch z⟩
  have hu2 : ∀ d, d ∈ (ixL ks).map (fun x => PyData.int x.2) → X.A.in1.in1.units + d.depth < cLine := fun d hd => by
    obtain ⟨x, _, rfl⟩ := List.mem_map.mp hd
    have z : (PyData.int x.2).depth = 0 := by simp [PyData.depth]
    rw [z]
    have z2 : X.A.in1.in1.units ≤ X.A.units + 4 := by
      show X.A.units + _ + _ ≤ _
      simp
    omega
  have hks : kA.size = its.length := by
    have := each.length
    rw [Array.length_toList] at this
    omega
  refine PySem.W.keyH_end (κ := PySem.W.dataKind s3.heap ((ixL ks).map fun x => PyData.int x.2)) (h₁ := hd) hd2 hd1 ek K.a (Nat.ne_of_gt hkS2) (PySem.W.SortsAt.data (s := s3) kz hal hsk hu2) hks (by omega) fun h3 tk3 c k3 n3 => ?_
  have ko : PySem.W.KeyedOut false ((ixL ks).map fun x => PyData.int x.2) its (PySem.W.sortVals (PySem.W.dataKind s3.heap ((ixL ks).map fun x => PyData.int x.2)) false kA.toList its) := ⟨s3.heap, kA.toList, hal, rfl, kz⟩
  have out := PySem.W.keyedOut_each (fun x : Nat × Int => PyData.int x.2) ko (ixL_each (its := its) (by omega))
  rw [PySem.W.dataLe_int] at out
  have vals := vals_ix rv out
  have he : ((ixL ks).mergeSort fun a b => decide (a.2 ≤ b.2)).map (fun x => xs.getD x.1 .non) = (ixOf ks).map fun j => xs.getD j .non := by unfold ixOf; rw [List.map_map]; rfl
  rw [he] at vals
  have lenR : ((ixOf ks).map fun j => xs.getD j .non).length ≤ sizeLine := by
    rw [List.length_map, (ixOf_perm ks).length_eq, List.length_range]; omega
  refine ⟨rfl, .ref _, upd H3 (s.heap.objs.size + 1) (.lst ((ixOf ks).map fun j => xs.getD j .non)), ?_, rfl, fin H3 _ (by rw [← hlen]; exact J3) na na3⟩
  refine inv_but (N := [s.heap.objs.size + 1, (PySem.W.copyHeap s.heap its).objs.size + 1]) I3 hN2 (fun b hb => ?_) (fun b o hb e => ?_) (fun b hb => upd_ne (by simp at hb; exact hb.1)) fun b hb u e => ?_
  · simp only [List.mem_cons, List.not_mem_nil, or_false] at hb
    rcases hb with rfl | rfl
    · exact na3
    · exact nk3
  · simp at hb
    exact k3 b o hb.1 (hidT_get e (upd_ne hb.2))
  · simp only [List.mem_cons, List.not_mem_nil, or_false] at hb
    rcases hb with rfl | rfl
    · rw [upd_same] at e
      cases e
      exact ⟨lenR, _, c, vals, n3⟩
    · rw [upd_ne (Nat.ne_of_gt hkS2), nk3] at e
      cases e
end
end Lm

/-! ### the lambda is made; sorted(x, key=lambda a: ..) by data -/
namespace Lm
open PySem PySem.Spec PyProof.Rows L2 Fw Dw
/-- what the maker knows: its code object at c, its table at P, told in Tb by one name -/
structure Mk (mg : Str → Option Value) (base : Heap) (code : Value) (c P : Addr) (q : Str) : Prop where
  tb : LamX.TabB base mg c P
  code : code = .ref c
  mem : (P, q) ∈ Tb
  one : ∀ p ∈ Tb, p.1 = P → p.2 = q
/-- the heap behind it -/
def Made (H H1 : Hp) (P c' : Addr) (q : Str) : Prop := H1 = H ∨ ∃ ps more, H P = some (.tbl ps) ∧ H c' = none ∧ H1 = upd (upd H P (.tbl more)) c' (LamX.CodeO c' q)
section
variable {X : Cx} {pins : List (Addr × Obj)} {σ : L2.St} {H : Hp} {s : Shared}
theorem lam_make3 {c P : Addr} {params : Arguments} {body : Expr} {scope : Scope} {pos : Pos} {E : Value → Shared → Prop} {Q : Value → Shared → Prop} (I : Inv X pins σ H s) (M : Mk X.mg X.base X.env.code c P (X.env.qual ++ "<lambda>")) (hT : LamX.Tabs Tb H) (hdef : defaultsOf params X.env = ([], [])) (hfree : ∀ y ∈ scope.names, y.2 = .free → ∃ c, X.env.cells.lookup y.1 = some c)
    (h : ∀ (f c' : Addr) (pm ctv : Value) (H1 : Hp) (s' : Shared), Inv X pins σ H1 s' → Made H H1 P c' (X.env.qual ++ "<lambda>") → LamX.Tabs Tb H1 →
      s'.heap.get? f = some (PySem.W.kla_obj "<lambda>" (X.env.qual ++ "<lambda>") params body scope (cloFrom X.env.cells scope.names []) pm c' ctv) → H1 f = none → f ∉ frs X.stack → H1 c' = some (LamX.CodeO c' (X.env.qual ++ "<lambda>")) → Q (.ref f) s') :
    wpAny (model X.prog X.w) X.A (eval (.Lambda params body scope pos) X.env) Q E s := by
  obtain ⟨ps, hP, ht, ha⟩ := hT _ M.mem
  have bP : s.heap.BuiltinsAt X.mg P := M.tb.bm.keeps I.bk
  have rawP : s.heap.get? P = some { cls := .none, data := .fields ps } := I.hok P _ hP
  refine PySem.W.kla_eval hdef ?_
  cases hc : codeAmong pos ps.toList with
  | some cv =>
    obtain ⟨c', rfl, hco⟩ := ha pos cv hc
    refine PySem.W.kla_makeFunctionHit (mg := X.mg) (c := c) (P := P) (ps := ps) (closure_ok hfree) I.ok.glob (I.mod.glob.keeps I.bk) M.code (M.tb.code.keeps I.bk) rawP ht hc bP fun ctv h' tk hx hsz => ?_
    exact h h'.objs.size c' _ ctv H _ (I.kept fun b o e => Heap.get?_push_of_some _ (hx b o e)) (.inl rfl) hT (Heap.get?_push_size _ rfl) (I.hok.fresh hsz) (nofr I hsz) hco
  | none =>
    refine PySem.W.kla_makeFunction (mg := X.mg) (c := c) (P := P) (ps := ps) (closure_ok hfree) I.ok.glob (I.mod.glob.keeps I.bk) M.code (M.tb.code.keeps I.bk) rawP ht hc M.tb.gP bP fun c' ctv h' tk hx hge hlt hrec htb => ?_
    obtain ⟨c2, oc, vs, t, e2, hoc, hd, hv⟩ := hrec
    cases e2
    have nC : H c' = none := I.hok.fresh hge
    have nPc : P ≠ c' := ne_of_none hP nC
    have hsz : s.heap.objs.size ≤ h'.objs.size := Nat.le_trans hge (Nat.le_of_lt hlt)
    have J := LamX.inv_table (t' := tk) (more := #[rawInt pos.line, rawInt pos.col, .ref c']) (h' := h'.push (PySem.W.kla_obj "<lambda>" (X.env.qual ++ "<lambda>") params body scope (cloFrom X.env.cells scope.names []) ((X.mg "__name__").getD .none) c' ctv)) I hP
      (fun b o hb e => Heap.get?_push_of_some _ (hx b o hb e)) (Heap.get?_push_of_some _ htb) hge ⟨oc, vs, t, Heap.get?_push_of_some _ hoc, hd, hv⟩
    have stay : ∀ b q, H b = some (LamX.CodeO b q) → upd (upd H P (.tbl (ps ++ #[rawInt pos.line, rawInt pos.col, .ref c']))) c' (LamX.CodeO c' (X.env.qual ++ "<lambda>")) b = some (LamX.CodeO b q) := fun b q e => by
      rw [upd_ne (ne_of_none e nC), upd_ne (fun z => by rw [z, hP] at e; exact LamX.codeO_ne _ (Option.some.inj e).symm)]
      exact e
    refine h h'.objs.size c' _ ctv _ _ J (.inr ⟨ps, _, hP, nC, rfl⟩) (fun p hp => ?_) (Heap.get?_push_size _ rfl) ?_ (nofr I hsz) upd_same
    · by_cases hb : p.1 = P
      · rw [M.one p hp hb, hb]
        have eL : (ps ++ #[rawInt pos.line, rawInt pos.col, .ref c']).toList = ps.toList ++ [rawInt pos.line, rawInt pos.col, .ref c'] := by simp
        refine ⟨_, by rw [upd_ne nPc, upd_same], by rw [eL]; exact PySem.TriplesOk_snoc _ _ _ _ ht, fun p' cv hcv => ?_⟩
        rw [eL] at hcv
        rcases LamX.among_app _ ht hcv with z | z
        · obtain ⟨c0, e1, e2⟩ := ha p' cv z
          exact ⟨c0, e1, stay _ _ e2⟩
        · exact ⟨c', z, upd_same⟩
      · obtain ⟨ps', a1, a2, a3⟩ := hT p hp
        refine ⟨ps', by rw [upd_ne (ne_of_none a1 nC), upd_ne hb]; exact a1, a2, fun p' cv hcv => ?_⟩
        obtain ⟨c0, e1, e2⟩ := a3 p' cv hcv
        exact ⟨c0, e1, stay _ _ e2⟩
    · rw [upd_ne (Nat.ne_of_gt hlt), upd_ne (Nat.ne_of_gt (Nat.lt_of_lt_of_le (Heap.lt_size rawP) hsz))]
      exact I.hok.fresh hsz
/-- a lambda made, by data: nothing that one has is touched -/
theorem made_ext {F : Option Addr} {G H1 : Hp} {n : Nat} {P c' : Addr} {q : Str} (w : Wd F G H n) (hP : P ∈ Tb.map (·.1)) (m : Made H H1 P c' q) (t : LamX.Tabs Tb H1) : Ext F G H G H1 ∧ Wd F G H1 n := by
  rcases m with rfl | ⟨ps, more, h1, h2, rfl⟩
  · exact ⟨Ext.refl, w⟩
  obtain ⟨p, hp, e⟩ := List.mem_map.mp hP
  have gP : G P = none := by rw [← e]; exact (w.tb p hp).2
  have up : ∀ b o, H b = some o → b ≠ P → upd (upd H P (.tbl more)) c' (LamX.CodeO c' q) b = some o := fun b o hb hn => by rw [upd_ne (ne_of_none hb h2), upd_ne hn]; exact hb
  have ntP : ∀ b o, H b = some o → NT o → b ≠ P := fun b o hb nt z => by rw [z, h1] at hb; cases hb; exact nt _ rfl
  refine ⟨⟨fun b o hb _ nt => up b o hb (ntP b o hb nt), fun p' c a l f hb => ⟨a, l, up _ _ hb (ntP _ _ hb (by (first | assumption | exact fun _ z => nomatch z | (intro ps z; cases z))))⟩, fun b hb z => ?_, Same.refl _, fun _ hb _ => hb⟩, ⟨fun b o hb => up b o (w.sub b o hb) (fun z => by rw [z, gP] at hb; cases hb), fun p' f => ?_, fun p' hp' => ⟨t p' hp', (w.tb p' hp').2⟩⟩⟩
  · by_cases c : b = c'
    · subst c; exact hb h2
    · rw [upd_ne c] at z
      by_cases c3 : b = P
      · subst c3; rw [upd_same] at z; cases z
      · rw [upd_ne c3] at z; exact hb z
  · obtain ⟨⟨c, ns, a, l, g1, g2, g3⟩, g4⟩ := w.fd p' f
    exact ⟨⟨c, ns, a, l, up _ _ g1 (ntP _ _ g1 (by (first | assumption | exact fun _ z => nomatch z | (intro ps z; cases z)))), up _ _ g2 (ntP _ _ g2 (by (first | assumption | exact fun _ z => nomatch z | (intro ps z; cases z)))), g3⟩, g4⟩
end

theorem repL_ix {K : PySem.W.Frag} {F : Option Addr} {G : Hp} {vs : List V} {l : List D} (r : RepL K F G vs l) : ∀ {ix : List Nat}, (∀ j ∈ ix, j < l.length) → RepL K F G (ix.map fun j => vs.getD j .non) (ix.map fun j => l.getD j .non)
  | [], _ => .nil
  | j :: ix, h => by
    have hj := h j (List.mem_cons_self ..)
    obtain ⟨v, hv, rv⟩ := r.get (List.getElem?_eq_getElem hj)
    refine .cons ?_ (repL_ix r fun i hi => h i (List.mem_cons_of_mem _ hi))
    show Rep K F G (vs.getD j .non) (l.getD j .non)
    rw [List.getD_eq_getElem?_getD, List.getD_eq_getElem?_getD, hv, List.getElem?_eq_getElem hj]
    exact rv
/-- sorted(a, key=lambda x: e), the keys ks: whole numbers -/
def dSortL (i0 : Nat) (ta te : TD) : TL := fun ρ n Q => ta ρ n fun d n1 => ∃ (l : List D) (ks : List Int), d = .lst l ∧ ks.length = l.length ∧
  (∀ (j : Nat) (d' : D) (k : Int), l[j]? = some d' → ks[j]? = some k → te (ρ.set i0 (some (.d d'))) n1 fun x m => x = .int k ∧ m = n1) ∧ Q ((ixOf ks).map fun j => l.getD j .non) n1
theorem do_sortL {X : Cx} {Z : ZX} {c P : Addr} {x a : Str} {i0 k : Nat} {e body : Expr} {params : Arguments} {scope : Scope} {p lpos kpos pos : Pos} {ta te : TD} {q : Str} (M : Mk X.mg X.base X.env.code c P q) (L : LamC X.env.scope scope a) (hN : X.N.Nodup) (hi : X.N[i0]? = some a) (hr : Room (k + 3) X.A)
    (hg : Gl X x) (hm : X.mg x = none) (hv : bootBuiltins x = some (.builtin "sorted")) (ha : DE X Z e ta) (hb : ∀ (A : Around) (s : Shared) (H : Hp) (f c' : Addr), Room k (lcCx X A s H scope f c' a).A → DE (lcCx X A s H scope f c' a) zNo body te)
    (hq0 : X.env.qual ++ "<lambda>" = q := by first | rfl | kernel_rfl) (hbind : ∀ (c' : Addr) (cl : List (Str × Addr)) (pm ctv u : Value), bindArgs (PySem.W.kla_fn "<lambda>" (X.env.qual ++ "<lambda>") params body scope cl pm (.ref c') ctv) ⟨[u], []⟩ = pure [(a, u)] := by intro _ _ _ _ _; rfl) (hdef : defaultsOf params X.env = ([], []) := by rfl) (hn : x ≠ "__name__" := by decide) (hdb : (x == ("__debug__" : Str)) = false := by decide)
    (he : backTo pos (starEach [e] X.env) = (false, eval e X.env) :: backTo pos (starEach [] X.env) := by rfl) (hpl : (backTo pos (starEach [e] X.env)).any (·.1) = false := by rfl) (hst : starEach [e] X.env = (false, eval e X.env) :: starEach [] X.env := by rfl) :
    DO X Z (.Call (.Name x p) [e] [⟨some "key", .Lambda params body scope lpos, kpos⟩] pos) (dSortL i0 ta te) := by
  subst hq0
  refine ⟨⟨fun pins s σ H Q I ⟨B, G, ρ, n, Qd, env, q, k0⟩ => ?_⟩⟩
  refine wpAny_Call_Name_kw (ld_blt I hg hm hv ?_ hn hdb)
  refine PyProof.Rows.callWith_kw (thn ((pa_cons ha.pe pa_nil hst).run pos pins s σ H (fun vs H1 => ∃ v d n1 G1, vs = [v] ∧ (∃ (l : List D) (ks : List Int), d = .lst l ∧ ks.length = l.length ∧
      (∀ (j : Nat) (d' : D) (k : Int), l[j]? = some d' → ks[j]? = some k → te (ρ.set i0 (some (.d d'))) n1 fun x m => x = .int k ∧ m = n1) ∧ Qd ((ixOf ks).map fun j => l.getD j .non) n1) ∧ Ext B.F G H G1 H1 ∧ Wd B.F G1 H1 n1 ∧ Rep X.K B.F G1 v d) I
      ⟨B, G, ρ, n, _, env, q, fun d n1 v H1 G1 q1 x1 w1 r1 => ⟨v, d, n1, G1, rfl, q1, x1, w1, r1⟩⟩) fun us s1 ⟨vs, H1, I1, rvs, v, d, n1, G1, ev, ⟨l, ks, ed, hl, hk, hq⟩, x1, w1, r1⟩ => ?_) he hpl rfl rfl
  subst ev
  subst ed
  show wpAny _ _ (evalAll [do let v ← eval (.Lambda params body scope lpos) X.env; standAt pos; pure v]) _ _ s1
  refine wpAny_evalAll_cons (wpAny_bind (lam_make3 I1 M (fun p hp => (w1.tb p hp).1) hdef (L.has I1.ok) fun f c' pm ctv H2 s2 I2 made T2 hf fn ffr hc => wpAny_bind (wpAny_standAt (wpAny_pure (wpAny_evalAll_nil ?_)))))
  cases r1 with | @lst q1 xs _ g1 rl =>
  obtain rfl := Vals.ref1 rvs
  obtain ⟨xm, w2⟩ := made_ext w1 (List.mem_map.mpr ⟨_, M.mem, rfl⟩) made T2
  show wpAny _ _ (call (.builtin "sorted") [.ref q1] [(Str.ofString "key", .ref f)]) _ _ _
  have nfc : B.F ≠ some c' := fun z => by
    obtain ⟨⟨c0, ns, a0, l0, h1, _⟩, _⟩ := w2.fd c' z
    rw [hc] at h1
    unfold LamX.CodeO at h1
    cases h1
  have ntc : NT (LamX.CodeO c' (X.env.qual ++ "<lambda>")) := fun ps => LamX.codeO_ne ps
  have env2 := (env.toEnvC.ext x1 w1).ext xm w2
  refine sorted_lc (J := fun _ H3 => ∃ G3, Ext B.F G1 H2 G3 H3 ∧ Wd B.F G3 H3 n1) I2 (.inl (.inl (w2.sub _ _ g1))) (by rw [hl, rl.length]) (by have := hr.un; omega) hf fn ffr ⟨G1, Ext.refl, w2⟩ (fun i v u k H3 s3 hxi hki ru ⟨G3, x3, w3⟩ I3 hf3 => ?_) (fun H5 p ⟨G5, x5, w5⟩ hp2 hp5 => ?_)
  · obtain ⟨di, hdi, rdi⟩ := rl.getV hxi
    have hc3 : H3 c' = some (LamX.CodeO c' (X.env.qual ++ "<lambda>")) := x3.to _ _ hc nfc ntc
    exact lc_call I3 L hN hi hr.in1.in1 (I3.ok.frames) ru hf3 hc3 (hbind c' _ pm ctv u) (fun hr' => (hb _ s3 H3 f c' hr').pe)
      ⟨B, G3, ρ.set i0 (some (.d di)), n1, _, ⟨(env2.ext x3 w3).setD (rdi.mono x3.g), zNo_ok⟩, hk i di k hdi hki, fun d' n' v' H4 G4 ⟨hd', hn'⟩ x4 w4 r4 => by
        subst hd'
        subst hn'
        cases r4
        exact ⟨rfl, G4, x3.trans x4, w4⟩⟩
  · have xx := (x1.trans xm).trans x5
    refine k0 _ n1 p _ _ G5 hq (xx.trans (Ext.new hp5)) (w5.new hp5) (free0 (x1.trans xm) hp2) upd_same (w5.free hp5) (repL_ix (rl.mono x5.g) fun j hj => ?_)
    have := (ixOf_perm ks).mem_iff.mp hj
    rw [List.mem_range, hl] at this
    exact this
end Lm

/-! ### defs that make lambdas: their code object, the hook, the law's begin -/
namespace Lm
open PySem PySem.Spec PyProof.Rows L2 Fw Dw
/-- the def fd makes lambdas of the name q: its code object and its table -/
structure Maker (mg : Str → Option Value) (base : Heap) (fd : FuncData) (q : Str) : Prop where
  ex : ∃ c P, fd.code = .ref c ∧ LamX.TabB base mg c P ∧ (P, q) ∈ Tb ∧ ∀ p ∈ Tb, p.1 = P → p.2 = q
theorem Maker.mk' {mg : Str → Option Value} {base : Heap} {fd : FuncData} {q : Str} (M : Maker mg base fd q) : ∃ c P, Mk mg base fd.code c P q := by
  obtain ⟨c, P, h1, h2, h3, h4⟩ := M.ex
  exact ⟨c, P, h2, h1, h3, h4⟩
section
variable {g : Bool} {P : Program} {w : World} {K : PySem.W.Frag} {mg : Str → Option Value} {base : Heap} {CX : CXT} {k : Nat} {f : Addr} {fd : FuncData} {ps : List Str} {sp : Sp}
/-- a def by its body; the body's code object is the def's -/
theorem fnXc {x qual : Str} {params : Arguments} {body : List Stmt} {scope : Scope} {dvs : List V} {kws : List (Str × V)} {N : List Str} (F : FunD K x qual params body scope dvs kws f fd) (S : FnScope N ps scope)
    (len : ∀ vs H Q E, sp vs H Q E → vs.length = ps.length)
    (hb : ∀ (A : Around) (outer : List PySem.Env) (s : Shared) (H : Hp) (vs : List V) (Q : VK) (E : XK), Gd g A → Room k (A.deeper (envOfC qual scope s.heap.objs.size f fd.code)) → sp vs H Q E →
      ∃ t, PSs (cxOf CX P w K mg base N qual scope f fd.code A outer s H E) body t ∧ t { nx := fun _ H' => Q .non H', rt := Q } (start N vs) H) : FnX g P w K mg base CX (k + 1) f fd ps sp := by
  obtain ⟨oc, od, dV, kV, doc, pm, an, cdv, ct, osl, e, lk, hcd, d1, d2⟩ := F.ex
  have ec : fd.code = cdv := by rw [e]
  have lk' : K.lookup f = some ⟨oc, od, .func (PySem.W.fnOf x qual params body scope dV kV doc pm an cdv ct), osl⟩ := by rw [← e]; exact lk
  refine ⟨len, ?_⟩
  intro A outer s H args us vs Q E hg hr e0 bt rv hsp
  have stay : ∀ b o, base.get? b = some o → s.heap.get? b = some o := fun b o e => (e0.bs b o e).1
  have KX : K.In s.heap := e0.mod.kin.keeps stay
  have lim : s.heap.NoLimit := e0.mod.nolimit.keeps stay
  rw [ec] at hb
  rw [e] at bt
  refine codeAny_call_function hr.depth (KX _ _ lk') rfl S.co S.gen rfl (PySem.W.codeRec_of KX hcd) (bt _ _ _ _ ?_)
  refine wpAny_newFunctionEnv_cells S.kind (fun y hy => ?_) fun env he s1 ic => ?_
  · rcases S.par y.1 (List.of_mem_zip hy).1 with q | q
    · exact Or.inl q
    · exact Or.inr ⟨q, PySem.W.cellsFrom_some _ _ _ (Or.inl q)⟩
  subst he
  refine ⟨lim.keeps ic.toInCall.keep, codeAny_func ?_⟩
  obtain ⟨t, ht, hq⟩ := hb A outer s H vs Q E hg (hr.deeper _) hsp
  have J := inv_start (CX := CX) (N := N) (qual := qual) (f := f) (cd := cdv) (E := E) S hr.hd e0 (len _ _ _ _ hsp) rv ic
  refine wpAny_mono (ht.run [] s1 (start N vs) H _ J hq) (fun fl s' z => ?_) fun _ _ z => z
  cases fl with
  | ret u =>
    obtain ⟨v, _, H', J', r', q'⟩ := z
    exact ⟨v, H', J'.os, J'.bare, J'.base, J'.hok, r', q'⟩
  | next =>
    obtain ⟨_, H', J', q'⟩ := z
    exact ⟨.non, H', J'.os, J'.bare, J'.base, J'.hok, rfl, q'⟩
  | brk =>
    obtain ⟨_, _, _, q'⟩ := z
    exact q'.elim
  | cont =>
    obtain ⟨_, _, _, q'⟩ := z
    exact q'.elim
end
section
variable {g : Bool} {P : Program} {w : World} {K : PySem.W.Frag} {mg : Str → Option Value} {base : Heap} {CX : CXT} {k : Nat} {f : Addr} {fd : FuncData} {ps N : List Str} {spd : SpD} {spo : SpO}
  {x qual : Str} {params : Arguments} {body : List Stmt} {scope : Scope} {dvs : List V} {kws : List (Str × V)}
/-- a maker's body by data -/
theorem fnDc {q : Str} (M : Maker mg base fd q) (F : FunD K x qual params body scope dvs kws f fd) (S : FnScope N ps scope) (len : ∀ ds n Qd Ed, spd ds n Qd Ed → ds.length = ps.length)
    (hb : ∀ (c P' : Addr) (A : Around) (outer : List PySem.Env) (s : Shared) (H : Hp) (E : XK) (Ed : XD), Mk mg base fd.code c P' q → Gd g A → Room k (A.deeper (envOfC qual scope s.heap.objs.size f fd.code)) →
      ∃ tz, DSs (cxOf CX P w K mg base N qual scope f fd.code A outer s H E) (zOf E Ed) body tz ∧ ∀ ds n Qd, spd ds n Qd Ed → tz { nx := fun _ n' => Qd .non n', rt := Qd } (startD N ds) n) :
    FnX g P w K mg base CX (k + 1) f fd ps (liftSp K spd) := by
  refine fnXc F S (fun vs H Q E h => ?_) fun A outer s H vs Q E hg hr h => ?_
  · obtain ⟨F, G, n, ds, Qd, Ed, w, r, q, _⟩ := h
    rw [r.length]; exact len ds n Qd Ed q
  · obtain ⟨F', G, n, ds, Qd, Ed, w, r, q, kd, kx⟩ := h
    obtain ⟨c, P', MK⟩ := M.mk'
    obtain ⟨tz, h1, h2⟩ := hb c P' A outer s H E Ed MK hg hr
    refine ⟨_, h1.pss, ⟨F', G, H⟩, G, _, n, _, start_env N w r kx, h2 ds n Qd q, ⟨fun G' H' σ ρ n' env h => kd .non n' .non H' G' h env.x env.w .non, fun _ _ _ _ _ _ h => h.elim, fun _ _ _ _ _ _ h => h.elim, fun G' H' n' v d h x w r => kd d n' v H' G' h x w r, fun _ _ _ _ _ _ h => h.elim, fun _ _ _ _ _ _ h => h.elim⟩⟩
theorem fnOc {q : Str} (M : Maker mg base fd q) (F : FunD K x qual params body scope dvs kws f fd) (S : FnScope N ps scope) (len : ∀ ds n Qd Ed, spo ds n Qd Ed → ds.length = ps.length)
    (hb : ∀ (c P' : Addr) (A : Around) (outer : List PySem.Env) (s : Shared) (H : Hp) (E : XK) (Ed : XD), Mk mg base fd.code c P' q → Gd g A → Room k (A.deeper (envOfC qual scope s.heap.objs.size f fd.code)) →
      ∃ tz, DSs (cxOf CX P w K mg base N qual scope f fd.code A outer s H E) (zOf E Ed) body tz ∧ ∀ ds n Qd, spo ds n Qd Ed → tz { nx := fun _ _ => False, rt := fun _ _ => False, ro := Qd } (startD N ds) n) :
    FnX g P w K mg base CX (k + 1) f fd ps (liftSpO K spo) := by
  refine fnXc F S (fun vs H Q E h => ?_) fun A outer s H vs Q E hg hr h => ?_
  · obtain ⟨F, G, n, ds, Qd, Ed, w, r, q, _⟩ := h
    rw [r.length]; exact len ds n Qd Ed q
  · obtain ⟨F', G, n, ds, Qd, Ed, w, r, q, kd, kx⟩ := h
    obtain ⟨c, P', MK⟩ := M.mk'
    obtain ⟨tz, h1, h2⟩ := hb c P' A outer s H E Ed MK hg hr
    refine ⟨_, h1.pss, ⟨F', G, H⟩, G, _, n, _, start_env N w r kx, h2 ds n Qd q, ⟨fun _ _ _ _ _ _ h => h.elim, fun _ _ _ _ _ _ h => h.elim, fun _ _ _ _ _ _ h => h.elim, fun _ _ _ _ _ h => h.elim, fun G' H' n' q vs ds h x w h0 h1 h2 r => kd ds n' q vs H' G' h x w h0 h1 h2 r, fun _ _ _ _ _ _ h => h.elim⟩⟩
end
/-! ### the hook that tells the tables too -/
def hookT (n : Nat) (fa : List He.Fa) (fn : List He.DefD) (ts : List He.Tab) (tf : List He.Defn) (ex : PySem.W.Frag → Bool) : PySem.W.Hook where
  α := He.AlX × Bool
  obs := fun s => (He.obsX n fa fn ts tf ex s.heap.get?, isDictO (s.heap.get? sysModules))
  val := fun w => ((He.hookX n fa fn ts tf ex).val w, true)
  says := fun w h => (∃ K : PySem.W.Frag, K.In h ∧ He.SaysX fa fn ts tf ex w h K) ∧ isDictO (h.get? sysModules) = true
  of := fun w s e => ⟨(He.hookX n fa fn ts tf ex).of w s (congrArg Prod.fst e), congrArg Prod.snd e⟩
  keeps := fun w h h' ⟨x, y⟩ k => ⟨(He.hookX n fa fn ts tf ex).keeps w h h' x k, by
    obtain ⟨o, es, ep, q, d⟩ := sysIn_of y
    rw [k _ _ q]
    simp [isDictO, d]⟩
theorem obsT_eq {n : Nat} {fa : List He.Fa} {fn : List He.DefD} {ts : List He.Tab} {tf : List He.Defn} {ex : PySem.W.Frag → Bool} {g : Addr → Option Obj} {s : Shared} (h : ∀ a, g a = s.heap.get? a) : (He.obsX n fa fn ts tf ex g, isDictO (g sysModules)) = (hookT n fa fn ts tf ex).obs s := by
  have e : g = s.heap.get? := funext h
  rw [e] <;> rfl
/-- what the hook tells of the tables, as the law's end asks -/
theorem tabs_of {fa : List He.Fa} {fn : List He.DefD} {ts : List He.Tab} {tf : List He.Defn} {ex : PySem.W.Frag → Bool} {w : World} {h : Heap} {K : PySem.W.Frag} (KX : K.In h) (c : He.SaysX fa fn ts tf ex w h K) :
    (∀ p ∈ tf.map (He.cT K), h.get? p.2 = some { cls := .none, data := .fields #[] }) ∧ (∀ p ∈ tf.map (He.cT K), K.lookup p.2 = none) ∧ ∀ p ∈ tf.map (He.cT K), PySem.W.CodeHd h p.1 p.2 := by
  refine ⟨fun p hp => ?_, fun p hp => ?_, fun p hp => ?_⟩ <;> obtain ⟨d, hd, rfl⟩ := List.mem_map.mp hp
  · exact c.empty d hd
  · exact c.out d hd
  · exact PySem.W.codeHd_of_K KX (c.hd d hd)
/-- the maker's facts by the hook: Tb is written down -/
theorem maker_of {K : PySem.W.Frag} {mg : Str → Option Value} {base : Heap} {d : He.Defn} {tf : List He.Defn} {name qual q : Str} {params : Arguments} {body : List Stmt} {scope : Scope} {dvs : List V} {kws : List (Str × V)} {fd : FuncData} (F : FunD K name qual params body scope dvs kws (He.fAd K d) fd) (hd : d ∈ tf) (T : ∀ p ∈ tf.map (He.cT K), LamX.TabB base mg p.1 p.2)
    (hm : ((He.cT K d).2, q) ∈ Tb) (hu : ∀ p ∈ Tb, p.1 = (He.cT K d).2 → p.2 = q) : Maker mg base fd q := by
  obtain ⟨oc, od, dV, kV, doc, pm, an, cdv, ct, osl, e, lk, hcd, d1, d2⟩ := F.ex
  obtain ⟨c, hc⟩ := He.codeIn_ref hcd
  have ec : fd.code = .ref c := by rw [e]; exact hc
  have ecc := He.codeOf_eq lk ec
  have := T _ (List.mem_map.mpr ⟨d, hd, rfl⟩)
  refine ⟨c, _, ec, ?_, hm, hu⟩
  have e1 : (He.cT K d).1 = c := ecc
  rw [e1] at this
  exact this
end Lm

/-! Dw75: x.insert(i, e); a statement that is an expression which changes what one owns; x.pop(e); y.append(x.pop(e)); a, b = a list made new, []; != of lists of own objects. Own work. -/
namespace Dw
open PySem PySem.Spec PyProof.Rows L2 Fw
section
variable {X : Cx} {Z : ZX} {pos : Pos}
end
end Dw

/-! Dw76: != of two lists of own objects, each two equal by their own __eq__: False. Own work, after the library's OwnEq. -/
namespace Dw
open PySem PySem.Spec PyProof.Rows L2 Fw
section
open PySem.MeetsSeq PySem.MeetsSeq3 PySem.SeqAt
open PySem.AutoSeq1 (wpAny_loadPart')
variable {prog : Program} {w : World} {A : Around} {R : Result → Shared → Prop}
end
section
variable {prog : Program} {w : World} {A : Around} {E : Value → Shared → Prop} {s : Shared}
end
section
variable {X : Cx} {Z : ZX} {K : PySem.W.Frag} {C : Addr} {spd : SpD} {k : Nat} {a b : Expr} {ta tb : TD} {pos : Pos}
end
end Dw

/-! ### a module's dict of defs: d[k] gives one out, a local name that holds it is called -/
namespace Dw
open PySem PySem.Spec PyProof.Rows L2 Fw
section
variable {X : Cx} {Z : ZX} {e b : Expr} {es : List Expr} {pos p p1 : Pos} {tk : TD} {tl : TL} {x : Str} {a : Addr}
end
end Dw

/-! ### try: .. except x: .. (without a name) -/
namespace Dw
open PySem PySem.Spec PyProof.Rows L2 Fw
section
variable {X : Cx} {Z : ZX} {pos : Pos}
end
end Dw

/-! ### an inner def, handed to a def that calls it: by data. Own work. -/
namespace Cl
open PySem PySem.Spec PyProof.Rows L2 Fw Dw Lm
/-- what is known of the heap all along: Z bears it -/
def zK (Kn : Hp → Prop) : ZX := ⟨fun _ _ _ H => Kn H, fun _ _ _ _ => True⟩
section
variable {K : PySem.W.Frag} {B : Bx} {G H G1 H1 : Hp} {σ : L2.St} {ρ : Ro} {n m : Nat} {Kn : Hp → Prop}
theorem zK_at (z : Zk K B (zK Kn)) (e : EnvC K B G H σ ρ n) : Kn H := z .none [] none G H σ ρ n e trivial (.inl ⟨rfl, rfl⟩)
/-- at f stands the inner def, its code object is known -/
def KnF (f : Addr) (I : NdefX.NF) (H : Hp) : Prop := H f = some (NdefX.FnO f I) ∧ H I.c = some (LamX.CodeO I.c I.qual)
theorem nofd_ext {F : Option Addr} {b : Addr} {φ : Heap → Prop} (w : Wd F G H n) (h : H b = some (.ext φ)) : F ≠ some b := fun z => by
  obtain ⟨⟨c, ns, a, l, e, _⟩, _⟩ := w.fd b z
  rw [h] at e; cases e
theorem KnF.ext {F : Option Addr} {f : Addr} {I : NdefX.NF} (k : KnF f I H) (w : Wd F G H n) (x : Ext F G H G1 H1) : KnF f I H1 :=
  ⟨x.to _ _ k.1 (nofd_ext w k.1) (NdefX.fnO_ne), x.to _ _ k.2 (nofd_ext w k.2) (LamX.codeO_ne)⟩
theorem zK_of {f : Addr} {I : NdefX.NF} (k : KnF f I B.H) (w : Wd B.F B.G B.H n) : Zk K B (zK (KnF f I)) := fun _ _ _ _ _ _ _ _ e _ _ => k.ext w e.x
end
/-- a statement of a body -/
def nthS : List Stmt → Nat → Stmt
  | [], _ => .Pass default
  | s :: _, 0 => s
  | _ :: r, k + 1 => nthS r k
/-! the inner def's promise -/
/-- by data: wds what its captured names hold -/
def liftN (K : PySem.W.Frag) (onw : List D → SpD) : List (Option V) → Sp := fun ws vs H Q E => ∃ F G n wv wds ds Qd Ed, ws = wv.map some ∧ Wd F G H n ∧ RepL K F G wv wds ∧ RepL K F G vs ds ∧ onw wds ds n Qd Ed ∧ KD K F G H Qd Q ∧ KX K F G H Ed E
theorem startF_eq (N : List Str) (vs wv : List V) : NdefX.startF N vs (wv.map some) = L2.start N (vs ++ wv) := by
  unfold NdefX.startF L2.start
  rw [List.map_append, List.append_assoc, List.length_map, List.length_append, Nat.sub_sub]
section
variable {P : Program} {w : World} {K : PySem.W.Frag} {mg : Str → Option Value} {base : Heap} {k : Nat} {f : Addr} {I : NdefX.NF} {N ps fr : List Str} {onw : List D → SpD}
theorem fnN (S : NdefX.NScope N ps fr I.scope) (hb : ∀ (doc pm ctv : Value) (us : List Value), us.length = ps.length → bindArgs (I.fd doc pm ctv) ⟨us, []⟩ = pure (ps.zip us)) (len : ∀ wds ds n Qd Ed, onw wds ds n Qd Ed → ds.length = ps.length)
    (body : ∀ (A : Around) (outer : List PySem.Env) (s : Shared) (H : Hp) (E : XK) (Ed : XD), Room k (A.deeper (NdefX.envF I f s.heap.objs.size)) →
      ∃ tz, DSs (NdefX.ncx CX0 P w K mg base N I f A outer s H E) (zOf E Ed) I.body tz ∧ ∀ wds ds n Qd, onw wds ds n Qd Ed → tz { nx := fun _ n' => Qd .non n', rt := Qd } (startD N (ds ++ wds)) n) :
    NdefX.NOk P w K mg base CX0 (k + 1) f I ps fr (liftN K onw) := by
  refine NdefX.nok_of S hb (fun ws vs H Q E z => ?_) fun A outer s H vs ws Q E hr _ _ _ z => ?_
  · obtain ⟨_, _, n, _, wds, ds, Qd, Ed, _, _, _, r, q, _⟩ := z
    rw [r.length]; exact len wds ds n Qd Ed q
  · obtain ⟨F', G, n, wv, wds, ds, Qd, Ed, rfl, wd, rw_, r, q, kd, kx⟩ := z
    obtain ⟨tz, h1, h2⟩ := body A outer s H E Ed hr
    rw [startF_eq]
    refine ⟨_, h1.pss, ⟨F', G, H⟩, G, _, n, _, start_env N wd (r.append rw_) kx, h2 wds ds n Qd q, ⟨fun G' H' σ ρ n' env h => kd .non n' .non H' G' h env.x env.w .non, fun _ _ _ _ _ _ h => h.elim, fun _ _ _ _ _ _ h => h.elim, fun G' H' n' v d h x w r => kd d n' v H' G' h x w r, fun _ _ _ _ _ _ h => h.elim, fun _ _ _ _ _ _ h => h.elim⟩⟩
end
/-! called by the def that got it: the slot i holds it, with what it captured -/
def dClo (f : Addr) (vws : List V) (i : Nat) (onw : List D → SpD) (tl : TL) : TD := fun ρ n Q => ∃ wds, ρ[i]? = some (some (Sl.d (.fn f vws wds))) ∧ tl ρ n fun ds n1 => onw wds ds n1 Q fun _ _ _ => False
section
variable {X : Cx} {f : Addr} {I : NdefX.NF} {vws : List V} {ps fr : List Str} {i k : Nat} {x : Str} {onw : List D → SpD} {e : Expr} {es : List Expr} {tl : TL} {p pos : Pos}
theorem de_clo (o : NdefX.NOk X.prog X.w X.K X.mg X.base CX0 k f I ps fr (liftN X.K onw)) (C : NdefX.CellsAt I.cl fr (vws.map some) X.s_0.heap X.H_0) (nf : ∀ y c, I.cl.lookup y = some c → c ∉ X.fs) (nx : ∀ y c, I.cl.lookup y = some c → c ∉ X.ex)
    (hr : Room k X.A) (hN : X.N[i]? = some x) (hv : Vis X.env.scope x) (ha : DA X (zK (KnF f I)) (e :: es) tl) (hd : (x == ("__debug__" : Str)) = false := by decide) (hcd : (x == ("__classdict__" : Str)) = false := by decide)
    (he : starEach (e :: es) X.env = (false, eval e X.env) :: starEach es X.env := by rfl) (hpl : (backTo pos (starEach es X.env)).any (·.1) = false := by rfl) : DE X (zK (KnF f I)) (.Call (.Name x p) (e :: es) [] pos) (dClo f vws i onw tl) := by
  refine ⟨⟨fun pins s σ H Q J ⟨B, G, ρ, n, Qd, env, ⟨wds, hi, q⟩, kd⟩ => ?_⟩⟩
  obtain ⟨v, hs, rv⟩ := env.d i _ hi
  cases rv with | fn rw_ =>
  have kn := zK_at env.z env.toEnvC
  refine wpAny_Call_Name_kw (thn ((pe_var (pos := p) hN hv hd hcd).run pins s σ H (fun v H1 => v = .ref f ∧ H1 = H) J ⟨.ref f, hs, rfl, rfl⟩) fun u s1 ⟨v, H1, J1, r1, ev, eH⟩ => ?_)
  subst ev
  subst eH
  obtain rfl : u = Value.ref f := r1
  refine PySem.W.callWith_F (first := []) (NdefX.fnAt_of J1 kn.1) (thn (ha.pa.run pos pins s1 σ H1 (fun vs H2 => ∃ n1 ds G1, onw wds ds n1 Qd (fun _ _ _ => False) ∧ Ext B.F G H1 G1 H2 ∧ Wd B.F G1 H2 n1 ∧ RepL X.K B.F G1 vs ds) J1 ⟨B, G, ρ, n, _, env, q, fun ds n1 vs H2 G1 q1 x1 w1 r1 => ⟨n1, ds, G1, q1, x1, w1, r1⟩⟩) fun us s2 ⟨vs, H2, J2, r, n1, ds, G1, q1, x1, w1, rd⟩ => ?_) he hpl
  have kn2 := kn.ext env.w x1
  refine ⟨NdefX.fnAt_of J2 kn2.1, ?_⟩
  show wpAny _ _ (call (.ref f) us) _ _ _
  refine wpAny_call (codeAny_mono (o.run X.A X.stack s2 H2 us vs (vws.map some) Q E0 hr J2.env0 kn2.1 kn2.2 (C.later nf nx J2) r ⟨B.F, G1, n1, vws, wds, ds, Qd, _, rfl, w1, rw_.mono x1.g, rd, q1, kd.trans x1, fun _ _ _ _ _ _ h => h.elim⟩) fun r s' hq => ?_)
  cases r with
  | error e => exact pass0 pins σ H2 s2 e s' J2 hq
  | ok fl =>
    cases fl with
    | ret u => exact J2.after hq
    | next => exact False.elim hq
    | brk => exact False.elim hq
    | cont => exact False.elim hq
end
/-! the def that gets it -/
structure FnC (P : Program) (w : World) (K : PySem.W.Frag) (mg : Str → Option Value) (base : Heap) (k : Nat) (g : Addr) (fd : FuncData) (ps : List Str) (f : Addr) (I : NdefX.NF) (fr : List Str) (vws : List V) (spd : SpD) : Prop where
  len : ∀ ds n Qd Ed, spd ds n Qd Ed → ds.length = ps.length
  run : ∀ (A : Around) (outer : List PySem.Env) (s : Shared) (H : Hp) (args : Args) (us : List Value) (vs : List V) (Q : VK) (E : XK), Room k A → Env0 P w K mg base A outer s H → BindsTo s fd args (ps.zip us) → Vals vs us → KnF f I H →
    NdefX.CellsAt I.cl fr (vws.map some) s.heap H → (∀ y c, I.cl.lookup y = some c → c ∉ frs outer) → liftSp K spd vs H Q E → codeAny (model P w) A (.call (.ref g) args) (CR CX0 outer P w H s Q E) s
theorem fnC {P : Program} {w : World} {K : PySem.W.Frag} {mg : Str → Option Value} {base : Heap} {k : Nat} {g f : Addr} {fd : FuncData} {ps N fr : List Str} {I : NdefX.NF} {vws : List V} {spd : SpD} {x qual : Str} {params : Arguments} {body : List Stmt} {scope : Scope} {dvs : List V} {kws : List (Str × V)}
    (F : FunD K x qual params body scope dvs kws g fd) (S : FnScope N ps scope) (len : ∀ ds n Qd Ed, spd ds n Qd Ed → ds.length = ps.length)
    (hb : ∀ (cdv : Value) (A : Around) (outer : List PySem.Env) (s : Shared) (H : Hp) (E : XK), Room k (A.deeper (envOfC qual scope s.heap.objs.size g cdv)) → NdefX.CellsAt I.cl fr (vws.map some) s.heap H → (∀ y c, I.cl.lookup y = some c → c ∉ frs outer) →
      ∃ tz, DSs (cxOf CX0 P w K mg base N qual scope g cdv A outer s H E).nox (zK (KnF f I)) body tz ∧ ∀ ds n Qd Ed, spd ds n Qd Ed → tz { nx := fun _ n' => Qd .non n', rt := Qd } (startD N ds) n) : FnC P w K mg base (k + 1) g fd ps f I fr vws spd := by
  obtain ⟨oc, od, dV, kV, doc, pm, an, cdv, ct, osl, rfl, lk, hcd, _, _⟩ := F.ex
  refine ⟨len, ?_⟩
  intro A outer s H args us vs Q E hr e0 bt rv kn C nf hsp
  have stay : ∀ b o, base.get? b = some o → s.heap.get? b = some o := fun b o e => (e0.bs b o e).1
  have KX : K.In s.heap := e0.mod.kin.keeps stay
  have lim : s.heap.NoLimit := e0.mod.nolimit.keeps stay
  have hl : vs.length = ps.length := by
    obtain ⟨_, _, n, ds, Qd, Ed, _, r, q, _⟩ := hsp
    rw [r.length]; exact len ds n Qd Ed q
  refine codeAny_call_function hr.depth (KX _ _ lk) rfl S.co S.gen rfl (PySem.W.codeRec_of KX hcd) (bt _ _ _ _ ?_)
  refine wpAny_newFunctionEnv_cells S.kind (fun y hy => ?_) fun env he s1 ic => ?_
  · rcases S.par y.1 (List.of_mem_zip hy).1 with q | q
    · exact Or.inl q
    · exact Or.inr ⟨q, PySem.W.cellsFrom_some _ _ _ (Or.inl q)⟩
  subst he
  refine ⟨lim.keeps ic.toInCall.keep, codeAny_func ?_⟩
  obtain ⟨tz, h1, h2⟩ := hb cdv A outer s H E (hr.deeper _) C nf
  obtain ⟨F', G, n, ds, Qd, Ed, wd, r, q, kd, kx⟩ := hsp
  have J := inv_start (CX := CX0) (N := N) (qual := qual) (f := g) (cd := cdv) (E := E) S hr.hd e0 hl rv ic
  have env := start_env N wd r kx
  have lnk : Lnk K (zK (KnF f I)) ⟨F', G, H⟩ { nx := fun _ n' => Qd .non n', rt := Qd } { nx := fun _ H' => Q .non H', rt := Q } := ⟨fun G' H' σ ρ n' env h => kd .non n' .non H' G' h env.x env.w .non, fun _ _ _ _ _ _ h => h.elim, fun _ _ _ _ _ _ h => h.elim, fun G' H' n' v d h x w r => kd d n' v H' G' h x w r, fun _ _ _ _ _ _ h => h.elim, fun _ _ _ _ _ _ h => h.elim⟩
  refine wpAny_mono (h1.nox.pss.run [] s1 (start N vs) H _ J ⟨⟨F', G, H⟩, G, _, n, _, ⟨env.toEnvC, zK_of kn wd⟩, h2 ds n Qd Ed q, lnk⟩) (fun fl s' z => ?_) fun _ _ z => z
  cases fl with
  | ret u =>
    obtain ⟨v, _, H', J', r', q'⟩ := z
    exact ⟨v, H', J'.os, J'.bare, J'.base, J'.hok, r', q'⟩
  | next =>
    obtain ⟨_, H', J', q'⟩ := z
    exact ⟨.non, H', J'.os, J'.bare, J'.base, J'.hok, rfl, q'⟩
  | brk =>
    obtain ⟨_, _, _, q'⟩ := z
    exact q'.elim
  | cont =>
    obtain ⟨_, _, _, q'⟩ := z
    exact q'.elim
/-! .. called: the captured names stand in the slots js -/
def slD : Ro → List Nat → List D → Prop
  | _, [], [] => True
  | ρ, j :: js, d :: ds => ρ[j]? = some (some (Sl.d d)) ∧ slD ρ js ds
  | _, _, _ => False
theorem slD_vals {K : PySem.W.Frag} {B : Bx} {G H : Hp} {σ : L2.St} {ρ : Ro} {n : Nat} (e : EnvC K B G H σ ρ n) : ∀ {js : List Nat} {ds : List D}, slD ρ js ds → ∃ vs, js.map (NdefX.slotAt σ) = vs.map some ∧ RepL K B.F G vs ds
  | [], [], _ => ⟨[], rfl, .nil⟩
  | j :: js, d :: ds, ⟨h1, h2⟩ => by
    obtain ⟨v, hv, rv⟩ := e.d j d h1
    obtain ⟨vs, e1, r⟩ := slD_vals e h2
    exact ⟨v :: vs, by rw [List.map_cons, List.map_cons, e1, NdefX.slotAt_of hv], .cons rv r⟩
  | [], _ :: _, h => h.elim
  | _ :: _, [], h => h.elim
def dCallW (f : Addr) (js : List Nat) (spd : List V → SpD) (tl : TL) : TD := fun ρ n Q => tl ρ n fun ds n1 => ∃ (d : D) (wds : List D), ds = [d, .val (.ref f)] ∧ slD ρ js wds ∧ ∀ vws, spd vws [d, .fn f vws wds] n1 Q fun _ _ _ => False
section
variable {X : Cx} {f g : Addr} {fd : FuncData} {I : NdefX.NF} {ps fr : List Str} {js : List Nat} {k : Nat} {x : Str} {spd : List V → SpD} {e : Expr} {es : List Expr} {tl : TL} {p pos : Pos}
theorem de_callW (W : ∀ vws, FnC X.prog X.w X.K X.mg X.base k g fd ps f I fr vws (spd vws)) (hm : X.mg x = some (.ref g)) (hk : PySem.W.keepIn X.K (.ref g) = true) (hb : Binds X.K fd ps []) (hr : Room k X.A) (cp : X.Ok → NdefX.Caps X I.cl fr js) (hfn : ∀ y, X.fn y = true)
    (hg : Gl X x) (ha : DA X (zK (KnF f I)) (e :: es) tl) (hdb : (x == ("__debug__" : Str)) = false := by decide) (he : starEach (e :: es) X.env = (false, eval e X.env) :: starEach es X.env := by rfl)
    (hpl : (backTo pos (starEach es X.env)).any (·.1) = false := by rfl) : DE X (zK (KnF f I)) (.Call (.Name x p) (e :: es) [] pos) (dCallW f js spd tl) := by
  refine ⟨⟨fun pins s σ H Q J ⟨B, G, ρ, n, Qd, env, q, kd⟩ => wpAny_Call_Name_kw (ld_glob J hg hm ?_ hdb)⟩⟩
  have kn := zK_at env.z env.toEnvC
  refine PySem.W.callWith_K (h₀ := X.base) J.ok.mod.kin hk (thn (ha.pa.run pos pins s σ H (fun vs H1 => ∃ n1 ds G1, (∃ (d : D) (wds : List D), ds = [d, .val (.ref f)] ∧ slD ρ js wds ∧ ∀ vws, spd vws [d, .fn f vws wds] n1 Qd fun _ _ _ => False) ∧ Ext B.F G H G1 H1 ∧ Wd B.F G1 H1 n1 ∧ RepL X.K B.F G1 vs ds) J ⟨B, G, ρ, n, _, env, q, fun ds n1 vs H1 G1 q1 x1 w1 r1 => ⟨n1, ds, G1, q1, x1, w1, r1⟩⟩) fun us s1 z => ?_) he hpl
  obtain ⟨vs, H1, J1, r, n1, ds, G1, ⟨d, wds, rfl, hs, hq⟩, x1, w1, rd⟩ := z
  refine ⟨J1.kIn, ?_⟩
  cases rd with | cons ra rd =>
  cases rd with | cons rb rd =>
  cases rd
  cases rb
  obtain ⟨vws, ev, rw_⟩ := slD_vals env.toEnvC hs
  have kn1 := kn.ext env.w x1
  have C : NdefX.CellsAt I.cl fr (vws.map some) s1.heap H1 := by rw [← ev]; exact NdefX.cells_of J1 (cp J1.ok)
  show wpAny _ _ (call (.ref g) us) _ _ _
  have bt : BindsTo s1 fd ⟨us, []⟩ (ps.zip us) := by
    have z := hb s1 us J1.kIn (by rw [List.append_nil, ← r.length]; exact (W vws).len _ _ _ (fun _ _ _ => False) (hq vws))
    rwa [List.append_nil] at z
  refine wpAny_call (codeAny_mono ((W vws).run X.A X.stack s1 H1 ⟨us, []⟩ us _ Q E0 hr J1.env0 bt r kn1 C (fun y c hc hm => ?_) ⟨B.F, G1, n1, _, Qd, _, w1, .cons ra (.cons (.fn (rw_.mono x1.g)) .nil), hq vws, kd.trans x1, fun _ _ _ _ _ _ h => h.elim⟩) fun r s' hq => ?_)
  · have hc' := (cp J1.ok).sub y c hc
    rcases List.mem_cons.mp (J1.stkSub c hm) with z | z
    · exact J1.cne y c hc' z
    · obtain ⟨_, o, ho, _⟩ := J1.ok.funs.mem z
      exact absurd (Heap.lt_size ho) (Nat.not_lt.mpr (J1.ok.cab y c (hfn y) hc'))
  · cases r with
    | error e => exact pass0 pins σ H1 s1 e s' J1 hq
    | ok fl =>
      cases fl with
      | ret u => exact J1.after hq
      | next => exact False.elim hq
      | brk => exact False.elim hq
      | cont => exact False.elim hq
end
/-! «def name(..): ..» within a def -/
section
variable {X : Cx} {pins : List (Addr × Obj)} {σ : L2.St} {H : Hp} {s : Shared}
theorem ndef_make3 {c P : Addr} {name q : Str} {params : Arguments} {body : List Stmt} {scope : Scope} {pos : Pos} {E : Value → Shared → Prop} {Q : Value → Shared → Prop} (J : Inv X pins σ H s) (M : Mk X.mg X.base X.env.code c P q) (hT : LamX.Tabs Tb H) (hfree : ∀ y ∈ scope.names, y.2 = .free → ∃ c, X.env.cells.lookup y.1 = some c)
    (h : ∀ (f c' : Addr) (Hm : Hp) (s' : Shared), Inv X pins σ (upd Hm f (NdefX.FnO f ⟨name, q, params, body, scope, cloFrom X.env.cells scope.names [], c'⟩)) s' → Made H Hm P c' q → LamX.Tabs Tb Hm → Hm f = none → Hm c' = some (LamX.CodeO c' q) → Q (.ref f) s') :
    wpAny (model X.prog X.w) X.A (makeFunction name q params (.stmts body) scope X.env [] [] [] pos pos.line) Q E s := by
  obtain ⟨ps, hP, ht, ha⟩ := hT _ M.mem
  have bP : s.heap.BuiltinsAt X.mg P := M.tb.bm.keeps J.bk
  have rawP : s.heap.get? P = some { cls := .none, data := .fields ps } := J.hok P _ hP
  cases hc : codeAmong pos ps.toList with
  | some cv =>
    obtain ⟨c', rfl, hco⟩ := ha pos cv hc
    refine PySem.W.makeFunction_hit (mg := X.mg) (c := c) (P := P) (ps := ps) (closure_ok hfree) J.ok.glob (J.mod.glob.keeps J.bk) M.code (M.tb.code.keeps J.bk) rawP ht hc bP fun ctv doc h' tk hx hsz => ?_
    have J1 : Inv X pins σ H { s with heap := h', toks := tk } := J.kept hx
    exact h h'.objs.size c' H _ (NdefX.inv_fn (F := ⟨name, q, params, body, scope, cloFrom X.env.cells scope.names [], c'⟩) (t' := tk) (doc := doc) (ctv := ctv) J1 rfl) (.inl rfl) hT (J1.hok.fresh (Nat.le_refl _)) hco
  | none =>
    refine PySem.W.makeFunction_K (mg := X.mg) (c := c) (P := P) (ps := ps) (closure_ok hfree) J.ok.glob (J.mod.glob.keeps J.bk) M.code (M.tb.code.keeps J.bk) rawP ht hc M.tb.gP bP fun c' ctv doc h' tk hx hge hlt hrec htb => ?_
    obtain ⟨c2, oc, vs, t, e2, hoc, hd, hv⟩ := hrec
    cases e2
    have nC : H c' = none := J.hok.fresh hge
    have nPc : P ≠ c' := ne_of_none hP nC
    have J1 := LamX.inv_table (t' := tk) (more := #[rawInt pos.line, rawInt pos.col, .ref c']) (h' := h') J hP (fun b o hb e => hx b o hb e) htb hge ⟨oc, vs, t, hoc, hd, hv⟩
    have stay : ∀ b q', H b = some (LamX.CodeO b q') → upd (upd H P (.tbl (ps ++ #[rawInt pos.line, rawInt pos.col, .ref c']))) c' (LamX.CodeO c' q) b = some (LamX.CodeO b q') := fun b q' e => by
      rw [upd_ne (ne_of_none e nC), upd_ne (fun z => by rw [z, hP] at e; exact LamX.codeO_ne _ (Option.some.inj e).symm)]
      exact e
    refine h h'.objs.size c' _ _ (NdefX.inv_fn (F := ⟨name, q, params, body, scope, cloFrom X.env.cells scope.names [], c'⟩) (t' := tk) (doc := doc) (ctv := ctv) J1 rfl) (.inr ⟨ps, _, hP, nC, rfl⟩) (fun p hp => ?_) (J1.hok.fresh (Nat.le_refl _)) upd_same
    by_cases hb : p.1 = P
    · rw [M.one p hp hb, hb]
      have eL : (ps ++ #[rawInt pos.line, rawInt pos.col, .ref c']).toList = ps.toList ++ [rawInt pos.line, rawInt pos.col, .ref c'] := by simp
      refine ⟨_, by rw [upd_ne nPc, upd_same], by rw [eL]; exact PySem.TriplesOk_snoc _ _ _ _ ht, fun p' cv hcv => ?_⟩
      rw [eL] at hcv
      rcases LamX.among_app _ ht hcv with z | z
      · obtain ⟨c0, e1, e2⟩ := ha p' cv z
        exact ⟨c0, e1, stay _ _ e2⟩
      · exact ⟨c', z, upd_same⟩
    · obtain ⟨ps', a1, a2, a3⟩ := hT p hp
      refine ⟨ps', by rw [upd_ne (ne_of_none a1 nC), upd_ne hb]; exact a1, a2, fun p' cv hcv => ?_⟩
      obtain ⟨c0, e1, e2⟩ := a3 p' cv hcv
      exact ⟨c0, e1, stay _ _ e2⟩
end
theorem env_base {K : PySem.W.Frag} {B : Bx} {G0 H0 G H : Hp} {σ : L2.St} {ρ : Ro} {n : Nat} (x : Ext B.F B.G B.H G0 H0) (e : EnvC K ⟨B.F, G0, H0⟩ G H σ ρ n) : EnvC K B G H σ ρ n :=
  ⟨e.w, x.trans e.x, e.len, e.d, fun i s o h1 h2 => by
    obtain ⟨q, k1, k2, k3⟩ := e.ow i s o h1 h2
    refine ⟨q, k1, k2, fun b hb => ⟨(k3 b hb).g, ?_, (k3 b hb).f, (k3 b hb).c⟩⟩
    cases z : B.H b with
    | none => rfl
    | some u => exact absurd (k3 b hb).b (x.kp b (by rw [z]; exact fun y => nomatch y)), e.ap⟩
def dNdef (i : Nat) (tz : Addr → TZ) : TZ := fun De ρ n => noSl ρ = true ∧ ∀ f, tz f De (ρ.set i (some (Sl.d (.val (.ref f))))) n
theorem dss_ndef {X : Cx} {Z : ZX} {st : Stmt} {rest : List Stmt} {name q : Str} {pos : Pos} {i : Nat} {c P : Addr} {tz : Addr → TZ} (M : Mk X.mg X.base X.env.code c P q) (hst : st = .FunctionDef name (C8.fnArgs st) (C8.fnBody st) [] none [] (C8.fnScope st) none name pos)
    (hfree : ∀ y ∈ (C8.fnScope st).names, y.2 = .free → X.env.scope.names.lookup y.1 = some .cell ∨ X.env.scope.names.lookup y.1 = some .free) (hN : X.N.Nodup) (hi : X.N[i]? = some name) (hx : Loc X.env.scope name) (hf : X.fn name = true)
    (hr : ∀ f c', DSs X (zK (KnF f (NdefX.NF.of st name q (cloFrom X.env.cells (C8.fnScope st).names []) c'))) rest (tz f))
    (hq : X.env.qual ++ name = q := by first | rfl | kernel_rfl) (hd0 : (C8.fnArgs st).defaults = [] := by rfl) (hk0 : (C8.fnArgs st).kw_defaults = [] := by rfl) (ha : annTrees (C8.fnArgs st) none X.env = [] := by rfl) : DSs X Z (st :: rest) (dNdef i tz) := by
  refine ⟨⟨fun pins s σ H D J ⟨B, G, ρ, n, De, env, ⟨no, hz⟩, l⟩ => wpAny_execs_cons ?_⟩⟩
  have hq' : qualnameIn X.env name name = q := by
    have hk : X.env.kindOf name = some .local ∨ X.env.kindOf name = some .cell := hx
    rw [← hq]
    unfold qualnameIn
    rcases hk with k | k
    · rw [k] <;> rfl
    · rw [k]; exact if_neg (by decide)
  have hfr : ∀ y ∈ (C8.fnScope st).names, y.2 = .free → ∃ c, X.env.cells.lookup y.1 = some c := fun y hy e => (hfree y hy e).elim (fun z => J.ok.has _ (.inl z)) fun z => J.ok.has _ (.inr z)
  rw [hst]
  refine PySem.W.nestDef_K hd0 hk0 ha ?_
  rw [hq']
  refine ndef_make3 J M (fun p hp => (env.w.tb p hp).1) hfr fun f c' Hm s1 J1 made T1 hf0 hc1 => ?_
  refine store_ok J1 hN hi hx (v := .ref f) rfl (fun s2 J2 => ?_) (.inl hf)
  obtain ⟨xm, wm⟩ := made_ext env.w (List.mem_map.mpr ⟨_, M.mem, rfl⟩) made T1
  obtain ⟨H1, eH⟩ : ∃ H1, H1 = upd Hm f (NdefX.FnO f (NdefX.NF.of st name q (cloFrom X.env.cells (C8.fnScope st).names []) c')) := ⟨_, rfl⟩
  have x1 : Ext B.F G H G H1 := by rw [eH]; exact xm.trans (Ext.new hf0)
  have w1 : Wd B.F G H1 n := by rw [eH]; exact wm.new hf0
  have kn : KnF f (NdefX.NF.of st name q (cloFrom X.env.cells (C8.fnScope st).names []) c') H1 := by
    rw [eH]
    exact ⟨upd_same, (upd_ne (ne_of_none hc1 hf0)).trans hc1⟩
  have e1 : EnvC X.K ⟨B.F, G, H1⟩ G H1 σ ρ n := ⟨w1, Ext.refl, env.len, env.d, fun j s o h1 h2 => (noSl_at no h1 h2).elim, fun j k s s' o o' q q' _ h1 h2 => (noSl_at no h1 h2).elim⟩
  have x0 : Ext B.F B.G B.H G H1 := env.x.trans x1
  refine (hr f c').pss.run pins s2 _ H1 D (by rw [eH]; exact J2) ⟨⟨B.F, G, H1⟩, G, _, n, De, ⟨e1.setD (.val _), zK_of kn w1⟩, hz f, ?_⟩
  exact ⟨fun G' H' σ ρ n' e h => l.nx _ _ _ _ _ ⟨env_base x0 e.toEnvC, env.z⟩ h, fun G' H' σ ρ n' e h => l.bk _ _ _ _ _ ⟨env_base x0 e.toEnvC, env.z⟩ h, fun G' H' σ ρ n' e h => l.ct _ _ _ _ _ ⟨env_base x0 e.toEnvC, env.z⟩ h, fun G' H' n' v d h x w r => l.rt G' H' n' v d h (x0.trans x) w r,
    fun G' H' n' q vs ds h x w hb h1 h2 r => l.ro G' H' n' q vs ds h (x0.trans x) w (by
      cases z : B.H q with
      | none => rfl
      | some u => exact absurd hb (x0.kp q (by rw [z]; exact fun y => nomatch y))) h1 h2 r,
    fun G' H' n' q vs ds h x w hb h1 h2 r => l.rk G' H' n' q vs ds h (x0.trans x) w (by
      cases z : B.H q with
      | none => rfl
      | some u => exact absurd hb (x0.kp q (by rw [z]; exact fun y => nomatch y))) h1 h2 r⟩
end Cl

/-! Dw80: {k: v for a in x if p for b in y if q} with keys that are tuples; list(d) of a dict of one's own. Own work. -/
namespace Dw
open PySem PySem.Spec PyProof.Rows L2 Fw
/-! the two loops of {k: v for a in x if p for b in y if q} -/
section
variable {pg : Program} {wo : World} {Ar : Around} {Rz : Result → Shared → Prop} {s0 : Shared} {kx vx ta ia tb ib : Expr} {fa fb : List Expr} {sco : Scope} {po : Pos} {itv : Value} {dA : Addr} {en : PySem.Env}
end
section
variable {X : Cx} {sg : DictG}
end
section
variable {X : Cx} {Z : ZX} {K : PySem.W.Frag} {tg tg1 iter1 : Expr} {pos : Pos}
structure CompT2 (g : TGd) (tt : TB) (ti1 : TL) (g1 : TGd) (tt1 : TB) (tk te : TD) (vs1 : List Nat) (ds : List D) (ρ : Ro) (n : Nat) (Q : QT) : Prop where
  ex : ∃ J : Nat → List (NK × D) → Nat → Prop, J 0 [] n ∧
    (∀ (i : Nat) (d : D) (acc : List (NK × D)) (n : Nat), ds[i]? = some d → J i acc n → g d ρ n fun ρ' n' => tt ρ' n' fun b n2 => br b (noSl ρ' = true ∧ ti1 ρ' n2 fun es n3 => ∃ Ji : Nat → List (NK × D) → Nat → Prop, Ji 0 acc n3 ∧
      (∀ (j : Nat) (e : D) (acc : List (NK × D)) (n : Nat), es[j]? = some e → Ji j acc n → g1 e (wipeD ρ' vs1) n fun ρ2 n' => tt1 ρ2 n' fun b n2 => br b (tk ρ2 n2 fun y n3 => te ρ2 n3 fun z n4 => acc.length < sizeLine ∧ match keyT y with | some k => Ji (j + 1) (putT acc k z) n4 | none => False) (Ji (j + 1) acc n2)) ∧
      ∀ acc n, Ji es.length acc n → J (i + 1) acc n) (J (i + 1) acc n2)) ∧ ∀ acc n, J ds.length acc n → Q acc n
variable {kx vx iter : Expr} {ifs ifs1 : List Expr} {scope : Scope} {own : List (Str × Nat)} {ti ti1 : TL} {g g1 : TGd} {tt tt1 : TB} {tky te : TD} {us us1 vs1 : List Nat}
end
/-! list(d), d a dict of one's own whose keys are tuples -/
section
variable {X : Cx} {Z : ZX} {p pos : Pos}
end
end Dw

/-! Dw81: x is True, x is not True: of bools. Own work. -/
namespace Dw
open PySem PySem.Spec PyProof.Rows L2 Fw
section
variable {K : PySem.W.Frag} {X : Cx} {Z : ZX} {a b : Expr} {ta tb : TD} {pos : Pos}
end
end Dw

/-! Dw82: sorted({e for a in x for b in y for c in z}) of texts. Own work. -/
namespace Dw
open PySem PySem.Spec PyProof.Rows L2 Fw
section
variable {pg : Program} {wo : World} {Ar : Around} {Rz : Result → Shared → Prop} {s0 : Shared} {el ta ia tb ib tc ic : Expr} {sco : Scope} {po : Pos} {itv acv : Value} {en : PySem.Env}
end
section
variable {X : Cx} {sg : SetG}
end
/-! sets of texts -/
section
variable {P : Program} {w : World} {a : Addr} {L : List Str} {A : Around} {E : Value → Shared → Prop} {s : Shared}
end
def setX (w : World) : SetG := ⟨fun a => SetSO w a [], fun S y H Nx => ∃ (k : Str) (L : List Str), y = .str k ∧ H S = some (SetSO w S L) ∧ L.length + 1 < scanBound ∧ ∀ L', L'.Nodup → (∀ x, x ∈ L' ↔ x ∈ L ∨ x = k) → L'.length ≤ L.length + 1 → Nx (upd H S (SetSO w S L'))⟩
section
variable {X : Cx} {Z : ZX} {K : PySem.W.Frag}
/-- texts of a set, by what was put in -/
structure SetX (w : World) (H : Hp) (S : Addr) (acc : List D) : Prop where
  ex : ∃ L : List Str, H S = some (SetSO w S L) ∧ L.Nodup ∧ (∀ k, k ∈ L ↔ D.str k ∈ acc) ∧ L.length ≤ acc.length
def isStrD : D → Bool
  | .str _ => true
  | _ => false
theorem SetX.zero {w : World} {H : Hp} {S : Addr} : SetX w (upd H S (SetSO w S [])) S [] := ⟨[], upd_same, .nil, by simp, Nat.le_refl _⟩
theorem SetX.add {w : World} {H H' : Hp} {S : Addr} {acc : List D} {k : Str} {Nx : Hp → Prop} (h : SetX w H S acc) (e : H' S = H S) (few : acc.length < 4000) (nx : ∀ u, SetX w (upd H' S u) S (acc ++ [.str k]) → Nx (upd H' S u)) : (setX w).ad S (.str k) H' Nx := by
  obtain ⟨L, h1, nd, hL, hl⟩ := h.ex
  refine ⟨k, L, rfl, by rw [e]; exact h1, by unfold scanBound; omega, fun L' nd' m l => nx _ ⟨L', upd_same, nd', fun j => ?_, by simp; omega⟩⟩
  rw [m j, List.mem_append, List.mem_singleton, hL j]
  constructor
  · rintro (z | rfl)
    · exact .inl z
    · exact .inr rfl
  · rintro (z | z)
    · exact .inl z
    · cases z; exact .inr rfl
/-- own slots of the second frame are own slots of the first -/
def OwS (ρ ρ' : Ro) : Prop := ∀ (i : Nat) (s : Sl) (o : OwO), ρ'[i]? = some (some s) → slO s = some o → ρ[i]? = some (some s)
theorem OwS.refl {ρ : Ro} : OwS ρ ρ := fun _ _ _ h _ => h
theorem OwS.set {ρ : Ro} {i : Nat} {d : D} : OwS ρ (ρ.set i (some (.d d))) := fun j s o h ho => by
  by_cases e : i = j
  · subst e
    rw [List.getElem?_set_self'] at h
    cases q : ρ[i]? with
    | none => rw [q] at h; cases h
    | some x => rw [q] at h; cases h; cases ho
  · rwa [List.getElem?_set_ne e] at h
theorem OwS.trans {ρ ρ1 ρ2 : Ro} (a : OwS ρ ρ1) (b : OwS ρ1 ρ2) : OwS ρ ρ2 := fun i s o h ho => a i s o (b i s o h ho) ho
theorem wipeD_some {ρ : Ro} : ∀ {vs : List Nat} {i : Nat} {s : Sl}, (wipeD ρ vs)[i]? = some (some s) → ρ[i]? = some (some s) ∧ i ∉ vs
  | [], _, _, h => ⟨h, by simp⟩
  | v :: vs, i, s, h => by
    rw [wipeD] at h
    by_cases e : v = i
    · subst e
      rw [List.getElem?_set_self'] at h
      cases q : (wipeD ρ vs)[v]? with
      | none => rw [q] at h; cases h
      | some x => rw [q] at h; cases h
    · rw [List.getElem?_set_ne e] at h
      obtain ⟨h1, h2⟩ := wipeD_some h
      exact ⟨h1, by simp only [List.mem_cons, not_or]; exact ⟨fun z => e z.symm, h2⟩⟩
theorem OwS.wipe {ρ : Ro} {vs : List Nat} : OwS ρ (wipeD ρ vs) := fun i s o h ho => (wipeD_some h).1
/-- what is put in by three loops -/
structure Comp3T (g : TGd) (ti1 : TL) (g1 : TGd) (ti2 : TL) (g2 : TGd) (te : TD) (vs1 vs2 : List Nat) (ds : List D) (ρ : Ro) (n : Nat) (Q : QL) : Prop where
  ex : ∃ J : Nat → List D → Nat → Prop, J 0 [] n ∧
    (∀ (i : Nat) (d : D) (acc : List D) (n : Nat), ds[i]? = some d → J i acc n → g d ρ n fun ρ' n' => OwS ρ ρ' ∧ ti1 ρ' n' fun es n3 => ∃ Ji : Nat → List D → Nat → Prop, Ji 0 acc n3 ∧
      (∀ (j : Nat) (e : D) (acc : List D) (n : Nat), es[j]? = some e → Ji j acc n → g1 e (wipeD ρ' vs1) n fun ρ2 n2 => OwS (wipeD ρ' vs1) ρ2 ∧ ti2 ρ2 n2 fun fs n4 => ∃ Jk : Nat → List D → Nat → Prop, Jk 0 acc n4 ∧
        (∀ (k : Nat) (f : D) (acc : List D) (n : Nat), fs[k]? = some f → Jk k acc n → g2 f (wipeD ρ2 vs2) n fun ρ3 n5 => te ρ3 n5 fun y n6 => acc.length < 4000 ∧ isStrD y = true ∧ Jk (k + 1) (acc ++ [y]) n6) ∧
        ∀ acc n, Jk fs.length acc n → Ji (j + 1) acc n) ∧
      ∀ acc n, Ji es.length acc n → J (i + 1) acc n) ∧ ∀ acc n, J ds.length acc n → Q acc n
variable {elt tg iter tg1 iter1 tg2 iter2 : Expr} {scope : Scope} {own : List (Str × Nat)} {ti ti1 ti2 : TL} {g g1 g2 : TGd} {te : TD} {us us1 us2 vs1 vs2 : List Nat} {p pos pos2 : Pos}
end
end Dw

/-! Dw83: try: .. except (A, B, ..) as x: y = x. Own work. -/
namespace Dw
open PySem PySem.Spec PyProof.Rows L2 Fw
section
variable {M : Model} {K : PySem.W.Frag} {h : Heap} {cls : Value}
end
/-- names of classes, one beside the other -/
inductive NamesL (X : Cx) : List Expr → List Value → Prop
  | nil : NamesL X [] []
  | cons {x : Str} {c : Value} {np : Pos} {es : List Expr} {cs : List Value} (hc : Names X x c) (r : NamesL X es cs) : NamesL X (.Name x np :: es) (c :: cs)
section
variable {X : Cx}
theorem NamesL.len {es : List Expr} {cs : List Value} (h : NamesL X es cs) : es.length = cs.length := by
  induction h with
  | nil => rfl
  | cons _ _ ih => simp [ih]
theorem NamesL.to {Y : Cx} (hY : ∀ x c, Names X x c → Names Y x c) {es : List Expr} {cs : List Value} (h : NamesL X es cs) : NamesL Y es cs := by
  induction h with
  | nil => exact .nil
  | cons hc _ ih => exact .cons (hY _ _ hc) ih
end
section
variable {X : Cx} {n : Str} {i : Nat} {body suite : List Stmt} {b₀ : Stmt} {pos pos' tpos : Pos} {tk0 : Nat} {es : List Expr} {cs : List Value} {tb : WX → TS} {ts : Addr → Value → Option Addr → TS} {Wout : WX}
end
/-! by data -/
section
variable {X : Cx} {Z : ZX} {pos : Pos}
end
end Dw

/-! Dw84: a or b, of ints and None. Own work. -/
namespace Dw
open PySem PySem.Spec PyProof.Rows L2 Fw
section
variable {X : Cx} {Z : ZX} {a b : Expr} {rest : List Expr} {ta tb : TD} {pos : Pos}
end
end Dw

/-! Dw85: k in e, where e gives a dict. Own work. -/
namespace Dw
open PySem PySem.Spec PyProof.Rows L2 Fw
section
variable {X : Cx} {Z : ZX} {a b : Expr} {pos : Pos} {ta tb : TD} {K : PySem.W.Frag}
/-! len of a dict -/
theorem RepK.len {F : Option Addr} {G : Hp} : ∀ {vs : List (Key × V)} {ds : List (Key × D)}, RepK K F G vs ds → vs.length = ds.length
  | _, _, .nil => rfl
  | _, _, .cons _ r => congrArg Nat.succ (RepK.len r)
end
end Dw

/-! Dw86: the hash of a pair of small numbers is one to one. Own work. -/
namespace Dw
open PySem PySem.Spec PyProof.Rows L2 Fw
/-! ### numbers that stand far apart, by a search tree -/
inductive Tr where
  | l
  | n (a : Tr) (v : Nat) (b : Tr)
def Tr.ins (x : Nat) : Tr → Option Tr
  | .l => some (.n .l x .l)
  | .n a v b => match Nat.ble (v + 4096) x with
    | true => (match Tr.ins x b with
      | some b' => some (.n a v b')
      | none => none)
    | false => match Nat.ble (x + 4096) v with
      | true => (match Tr.ins x a with
        | some a' => some (.n a' v b)
        | none => none)
      | false => none
def Tr.mem (y : Nat) : Tr → Prop
  | .l => False
  | .n a v b => Tr.mem y a ∨ y = v ∨ Tr.mem y b
def Tr.Ok : Tr → Prop
  | .l => True
  | .n a v b => Tr.Ok a ∧ Tr.Ok b ∧ (∀ y, Tr.mem y a → y + 4096 ≤ v) ∧ ∀ y, Tr.mem y b → v + 4096 ≤ y
def Apt (x y : Nat) : Prop := x + 4096 ≤ y ∨ y + 4096 ≤ x
theorem Tr.ins_ok (x : Nat) : ∀ {t t' : Tr}, Tr.ins x t = some t' → Tr.Ok t → Tr.Ok t' ∧ (∀ y, Tr.mem y t' ↔ y = x ∨ Tr.mem y t) ∧ ∀ y, Tr.mem y t → Apt x y
  | .l, t', h, _ => by
    cases h
    exact ⟨⟨trivial, trivial, fun y z => z.elim, fun y z => z.elim⟩, fun y => by simp [Tr.mem], fun y z => z.elim⟩
  | .n a v b, t', h, ⟨oa, ob, ha, hb⟩ => by
    unfold Tr.ins at h
    split at h
    · rename_i c
      have c' : v + 4096 ≤ x := Nat.le_of_ble_eq_true c
      split at h
      · rename_i b' e
        cases h
        obtain ⟨o, m, f⟩ := Tr.ins_ok x e ob
        refine ⟨⟨oa, o, ha, fun y hy => ?_⟩, fun y => ?_, fun y hy => ?_⟩
        · rcases (m y).mp hy with z | z
          · rw [z]; exact c'
          · exact hb y z
        · show (Tr.mem y a ∨ y = v ∨ Tr.mem y b') ↔ y = x ∨ (Tr.mem y a ∨ y = v ∨ Tr.mem y b)
          rw [m y]
          constructor
          · rintro (z | z | z | z)
            · exact .inr (.inl z)
            · exact .inr (.inr (.inl z))
            · exact .inl z
            · exact .inr (.inr (.inr z))
          · rintro (z | z | z | z)
            · exact .inr (.inr (.inl z))
            · exact .inl z
            · exact .inr (.inl z)
            · exact .inr (.inr (.inr z))
        · rcases hy with z | z | z
          · have := ha y z
            exact .inr (by omega)
          · exact .inr (by omega)
          · exact f y z
      · cases h
    · split at h
      · rename_i c
        have c' : x + 4096 ≤ v := Nat.le_of_ble_eq_true c
        split at h
        · rename_i a' e
          cases h
          obtain ⟨o, m, f⟩ := Tr.ins_ok x e oa
          refine ⟨⟨o, ob, fun y hy => ?_, hb⟩, fun y => ?_, fun y hy => ?_⟩
          · rcases (m y).mp hy with z | z
            · rw [z]; exact c'
            · exact ha y z
          · show (Tr.mem y a' ∨ y = v ∨ Tr.mem y b) ↔ y = x ∨ (Tr.mem y a ∨ y = v ∨ Tr.mem y b)
            rw [m y]
            constructor
            · rintro ((z | z) | z | z)
              · exact .inl z
              · exact .inr (.inl z)
              · exact .inr (.inr (.inl z))
              · exact .inr (.inr (.inr z))
            · rintro (z | z | z | z)
              · exact .inl (.inl z)
              · exact .inl (.inr z)
              · exact .inr (.inl z)
              · exact .inr (.inr z)
          · rcases hy with z | z | z
            · exact f y z
            · exact .inl (by omega)
            · have := hb y z
              exact .inl (by omega)
        · cases h
      · cases h
def Tr.build (g : Nat → Nat) : Nat → Tr → Option Tr
  | 0, t => some t
  | k + 1, t => match Tr.ins (g k) t with
    | some t' => Tr.build g k t'
    | none => none
theorem Tr.build_ok (g : Nat → Nat) : ∀ (k : Nat) (t t' : Tr), Tr.build g k t = some t' → Tr.Ok t → (∀ i < k, ∀ y, Tr.mem y t → Apt (g i) y) ∧ ∀ i j, i < k → j < k → i ≠ j → Apt (g i) (g j)
  | 0, _, _, _, _ => ⟨fun i h => absurd h (by omega), fun i j h => absurd h (by omega)⟩
  | k + 1, t, t', h, ok => by
    unfold Tr.build at h
    split at h
    · rename_i t1 e
      obtain ⟨o, m, f⟩ := Tr.ins_ok _ e ok
      obtain ⟨h1, h2⟩ := Tr.build_ok g k t1 t' h o
      refine ⟨fun i hi y hy => ?_, fun i j hi hj ne => ?_⟩
      · by_cases c : i = k
        · rw [c]; exact f y hy
        · exact h1 i (by omega) y ((m y).mpr (.inr hy))
      · by_cases c : i = k
        · have := h1 j (by omega) (g i) ((m _).mpr (.inl (by rw [c])))
          exact this.symm
        · by_cases d : j = k
          · exact h1 i (by omega) (g j) ((m _).mpr (.inl (by rw [d])))
          · exact h2 i j (by omega) (by omega) ne
    · cases h
/-! ### the tuple's hash -/
def hRot (x : Nat) : Nat := x * 2 ^ 31 % 2 ^ 64 + x / 2 ^ 33
theorem hRot_lt {x : Nat} (h : x < 2 ^ 64) : hRot x < 2 ^ 64 := by unfold hRot; omega
theorem hRot_eq (x : Nat) : hRot x = x % 2 ^ 33 * 2 ^ 31 + x / 2 ^ 33 := by
  unfold hRot
  rw [show (2 : Nat) ^ 64 = 2 ^ 33 * 2 ^ 31 by decide, Nat.mul_mod_mul_right]
theorem hRot_inj {x y : Nat} (hx : x < 2 ^ 64) (hy : y < 2 ^ 64) (e : hRot x = hRot y) : x = y := by
  rw [hRot_eq, hRot_eq] at e
  have h1 : x / 2 ^ 33 < 2 ^ 31 := by omega
  have h2 : y / 2 ^ 33 < 2 ^ 31 := by omega
  omega
def hP1 : Nat := 11400714785074694791
def hP2 : Nat := 14029467366897019727
def hP5 : Nat := 2870177450012600261
def hQ1 : Nat := 614540362697595703
def hQ2 : Nat := 839798700976720815
def hStep (acc h : Nat) : Nat := hRot ((acc + h * hP2) % 2 ^ 64) * hP1 % 2 ^ 64
theorem mul_back {p q x : Nat} (h : p * q % 2 ^ 64 = 1) (hx : x < 2 ^ 64) : x * p % 2 ^ 64 * q % 2 ^ 64 = x := by
  rw [Nat.mod_mul_mod, Nat.mul_assoc, ← Nat.mul_mod_mod, h, Nat.mul_one, Nat.mod_eq_of_lt hx]
theorem hMul_inj {x y : Nat} (hx : x < 2 ^ 64) (hy : y < 2 ^ 64) (e : x * hP1 % 2 ^ 64 = y * hP1 % 2 ^ 64) : x = y := by
  have h : hP1 * hQ1 % 2 ^ 64 = 1 := by decide
  have a := mul_back h hx
  rw [e, mul_back h hy] at a
  exact a.symm
theorem hStep_inj {a b c d : Nat} (e : hStep a b = hStep c d) : (a + b * hP2) % 2 ^ 64 = (c + d * hP2) % 2 ^ 64 := by
  have l1 : (a + b * hP2) % 2 ^ 64 < 2 ^ 64 := Nat.mod_lt _ (by decide)
  have l2 : (c + d * hP2) % 2 ^ 64 < 2 ^ 64 := Nat.mod_lt _ (by decide)
  exact hRot_inj l1 l2 (hMul_inj (hRot_lt l1) (hRot_lt l2) e)
/-- where a pair's hash stands -/
def hG (a : Nat) : Nat := hStep hP5 a * hQ2 % 2 ^ 64
theorem hG_add (a b : Nat) : (hStep hP5 a + b * hP2) % 2 ^ 64 * hQ2 % 2 ^ 64 = (hG a + b) % 2 ^ 64 := by
  have h : hP2 * hQ2 % 2 ^ 64 = 1 := by decide
  rw [Nat.mod_mul_mod, Nat.add_mul, Nat.mul_assoc, Nat.add_mod]
  rw [← Nat.mul_mod_mod b, h, Nat.mul_one]
  unfold hG
  rw [Nat.add_mod (hStep hP5 a * hQ2 % 2 ^ 64) b, Nat.mod_mod]
def hS3 : Nat := 15746002411462551884
def hT0 : Tr := .n .l hS3 (.n .l (2 ^ 64) .l)
theorem hT0_ok : Tr.Ok hT0 := ⟨trivial, ⟨trivial, trivial, fun y z => z.elim, fun y z => z.elim⟩, fun y z => z.elim, fun y z => by
  rcases z with z | z | z
  · exact z.elim
  · rw [z]; decide
  · exact z.elim⟩
theorem hBuilt : (Tr.build hG 4096 hT0).isSome = true := by decide +kernel
theorem hG_far : (∀ i < 4096, Apt (hG i) hS3 ∧ hG i + 4096 ≤ 2 ^ 64) ∧ ∀ i j, i < 4096 → j < 4096 → i ≠ j → Apt (hG i) (hG j) := by
  obtain ⟨t', e⟩ := Option.isSome_iff_exists.mp hBuilt
  obtain ⟨h1, h2⟩ := Tr.build_ok hG 4096 hT0 t' e hT0_ok
  refine ⟨fun i hi => ⟨h1 i hi hS3 (.inr (.inl rfl)), ?_⟩, h2⟩
  have l : hG i < 2 ^ 64 := Nat.mod_lt _ (by decide)
  rcases h1 i hi (2 ^ 64) (.inr (.inr (.inr (.inl rfl)))) with z | z
  · exact z
  · omega
/-- the hash before its last step -/
def hAcc (a b : Nat) : Nat := hStep (hStep hP5 a) b
theorem hAcc_lt (a b : Nat) : hAcc a b < 2 ^ 64 := Nat.mod_lt _ (by decide)
theorem hAcc_inj {a b c d : Nat} (ha : a < 4096) (hb : b < 4096) (hc : c < 4096) (hd : d < 4096) (e : hAcc a b = hAcc c d) : a = c ∧ b = d := by
  have h := hStep_inj e
  have h2 : (hG a + b) % 2 ^ 64 = (hG c + d) % 2 ^ 64 := by rw [← hG_add, ← hG_add, h]
  have ga := (hG_far.1 a ha).2
  have gc := (hG_far.1 c hc).2
  rw [Nat.mod_eq_of_lt (by omega), Nat.mod_eq_of_lt (by omega)] at h2
  by_cases ac : a = c
  · subst ac
    exact ⟨rfl, by omega⟩
  · rcases hG_far.2 a c ha hc ac with z | z <;> omega
def hX3 : Nat := 9148689060682678900
def hS0 : Nat := 15576566623696079691
/-- never the one that is written otherwise -/
theorem hAcc_ne {a b : Nat} (ha : a < 4096) (hb : b < 4096) : hAcc a b ≠ hS0 := fun e => by
  have l1 : (hStep hP5 a + b * hP2) % 2 ^ 64 < 2 ^ 64 := Nat.mod_lt _ (by decide)
  have e3 : hRot hX3 * hP1 % 2 ^ 64 = hS0 := by decide
  have h : (hStep hP5 a + b * hP2) % 2 ^ 64 = hX3 := hRot_inj l1 (by decide) (hMul_inj (hRot_lt l1) (hRot_lt (by decide)) (e.trans e3.symm))
  have h2 := hG_add a b
  rw [h] at h2
  have h3 : hX3 * hQ2 % 2 ^ 64 = hS3 := by decide
  rw [h3] at h2
  obtain ⟨f1, f2⟩ := hG_far.1 a ha
  rw [Nat.mod_eq_of_lt (by omega)] at h2
  rcases f1 with z | z <;> omega
theorem hashInt_small {k : Int} (h0 : 0 ≤ k) (h1 : k < 4096) : hashInt k = k := by
  obtain ⟨n, rfl⟩ : ∃ n : Nat, k = n := ⟨k.toNat, by omega⟩
  have r : rawHash (n : Int) = n := by
    unfold rawHash
    have e : (((n : Int).natAbs : Nat) : Int) % ((2 ^ 61 - 1 : Nat) : Int) = n := by
      rw [Int.natAbs_natCast]
      exact Int.emod_eq_of_lt (by omega) (by show (n : Int) < ((2305843009213693951 : Nat) : Int); omega)
    dsimp only
    have c1 : ¬ (n : Int) < 0 := by omega
    have c2 : ¬ ((n : Int) == -1) = true := by
      rw [beq_iff_eq]; omega
    rw [e]
    simp only [if_neg c1]
    rw [if_neg c2]
  have c2 : ¬ ((n : Int) == -1) = true := by
    rw [beq_iff_eq]; omega
  unfold hashInt
  rw [r, if_neg c2]
/-- the model's hash of a tuple, its numbers as letters -/
def tHG (m p1 p2 p5 x r s t : Nat) (z : Int) (hs : List Int) : Int :=
  let acc := hs.foldl (init := p5) fun acc h =>
    let acc := (acc + (h % (m : Int)).toNat * p2) % m
    let acc := (acc * r) % m + acc / s
    (acc * p1) % m
  let acc := (acc + (hs.length ^^^ x)) % m
  if acc == m - 1 then z else if acc < t then acc else (acc : Int) - m
def gStep (m p1 p2 r s acc h : Nat) : Nat := ((acc + h * p2) % m * r % m + (acc + h * p2) % m / s) * p1 % m
theorem tHG_pair (m p1 p2 p5 x r s t : Nat) (z : Int) {u v : Int} {a b : Nat} (ha : (u % (m : Int)).toNat = a) (hb : (v % (m : Int)).toNat = b) : tHG m p1 p2 p5 x r s t z [u, v] =
    if (gStep m p1 p2 r s (gStep m p1 p2 r s p5 a) b + ([u, v].length ^^^ x)) % m == m - 1 then z else if (gStep m p1 p2 r s (gStep m p1 p2 r s p5 a) b + ([u, v].length ^^^ x)) % m < t then (((gStep m p1 p2 r s (gStep m p1 p2 r s p5 a) b + ([u, v].length ^^^ x)) % m : Nat) : Int) else (((gStep m p1 p2 r s (gStep m p1 p2 r s p5 a) b + ([u, v].length ^^^ x)) % m : Nat) : Int) - m := by
  subst ha
  subst hb
  rfl
theorem tH_eq (hs : List Int) : Builtin.Tuple.tupleHashOf hs = tHG (2 ^ 64) 11400714785074694791 14029467366897019727 2870177450012600261 (2870177450012600261 ^^^ 3527539) (2 ^ 31) (2 ^ 33) (2 ^ 63) 1546275796 hs := by
  unfold Builtin.Tuple.tupleHashOf tHG
  exact Eq.refl _
theorem gStep_h (acc h : Nat) : gStep (2 ^ 64) 11400714785074694791 14029467366897019727 (2 ^ 31) (2 ^ 33) acc h = hStep acc h := by
  unfold gStep hStep hRot hP1 hP2
  exact Eq.refl _
/-- the last step -/
def hFin (x : Nat) : Int := if (x + 2870177450013471924) % 2 ^ 64 < 2 ^ 63 then (((x + 2870177450013471924) % 2 ^ 64 : Nat) : Int) else (((x + 2870177450013471924) % 2 ^ 64 : Nat) : Int) - ((2 ^ 64 : Nat) : Int)
theorem hFin_inj {x y : Nat} (hx : x < 2 ^ 64) (hy : y < 2 ^ 64) (e : hFin x = hFin y) : x = y := by
  unfold hFin at e
  split at e <;> split at e <;> omega
theorem thash_pair (P : Program) (w : World) {a b : Nat} (ha : a < 4096) (hb : b < 4096) : thash P w [(a : Int), (b : Int)] = hFin (hAcc a b) := by
  have e1 : ∀ k : Nat, k < 4096 → (((k : Int) % ((2 ^ 64 : Nat) : Int)).toNat) = k := fun k hk => by
    rw [Int.emod_eq_of_lt (by omega) (by show (k : Int) < ((18446744073709551616 : Nat) : Int); omega), Int.toNat_natCast]
  have cx : ([(a : Int), (b : Int)].length ^^^ (2870177450012600261 ^^^ 3527539)) = 2870177450013471924 := by
    show (2 ^^^ (2870177450012600261 ^^^ 3527539)) = 2870177450013471924
    decide
  have t : Builtin.Tuple.tupleHashOf [(a : Int), (b : Int)] = if (hAcc a b + 2870177450013471924) % 2 ^ 64 == 2 ^ 64 - 1 then 1546275796 else hFin (hAcc a b) := by
    rw [tH_eq, tHG_pair _ _ _ _ _ _ _ _ _ (e1 a ha) (e1 b hb), cx, gStep_h, gStep_h]
    unfold hFin hAcc hP5
    exact Eq.refl _
  have ne : ((hAcc a b + 2870177450013471924) % 2 ^ 64 == 2 ^ 64 - 1) = false := by
    have h1 := hAcc_ne ha hb
    have h2 := hAcc_lt a b
    unfold hS0 at h1
    simp only [beq_eq_false_iff_ne, ne_eq]
    intro z
    apply h1
    omega
  rw [ne] at t
  show reduceHash (Builtin.Tuple.tupleHashOf ([(a : Int), (b : Int)].map hashInt)) = _
  have m : [(a : Int), (b : Int)].map hashInt = [(a : Int), (b : Int)] := by
    simp only [List.map_cons, List.map_nil]
    rw [hashInt_small (by omega) (by omega), hashInt_small (by omega) (by omega)]
  rw [m, t]
  simp only [Bool.false_eq_true, if_false]
  have l := hAcc_lt a b
  have h1 := hAcc_ne ha hb
  unfold hS0 at h1
  have r1 : -(2 ^ 63 : Int) ≤ hFin (hAcc a b) ∧ hFin (hAcc a b) < 2 ^ 63 ∧ hFin (hAcc a b) ≠ -1 := by
    unfold hFin
    split <;> omega
  unfold reduceHash
  rw [if_pos (by simp only [Bool.and_eq_true, decide_eq_true_eq]; exact ⟨r1.1, r1.2.1⟩), if_neg (by simpa using r1.2.2)]
/-- pairs of small numbers: one hash each -/
theorem thash_inj {P : Program} {w : World} {x y : List Int} (hx : ∃ a b : Nat, x = [(a : Int), (b : Int)] ∧ a < 4096 ∧ b < 4096) (hy : ∃ a b : Nat, y = [(a : Int), (b : Int)] ∧ a < 4096 ∧ b < 4096) (e : thash P w x = thash P w y) : x = y := by
  obtain ⟨a, b, rfl, ha, hb⟩ := hx
  obtain ⟨c, d, rfl, hc, hd⟩ := hy
  rw [thash_pair P w ha hb, thash_pair P w hc hd] at e
  obtain ⟨h1, h2⟩ := hAcc_inj ha hb hc hd (hFin_inj (hAcc_lt _ _) (hAcc_lt _ _) e)
  rw [h1, h2]
end Dw

/-! Dw87: a set of pairs of small numbers, up to some 49000: searched, laid anew, grown. Own work. -/
namespace Dw
open PySem PySem.Spec PyProof.Rows L2 Fw
section
variable {P : Program} {w : World} {A : Around} {E : Value → Shared → Prop} {s : Shared}
/-- the set at a has the tuples L (each with its address) -/
def SmP (k : List Int) : Prop := ∃ a b : Nat, k = [(a : Int), (b : Int)] ∧ a < 4096 ∧ b < 4096
def MskP (m : Nat) : Prop := m = 7 ∨ m = 31 ∨ m = 127 ∨ m = 511 ∨ m = 2047 ∨ m = 8191 ∨ m = 32767 ∨ m = 131071
theorem MskP.pow {m : Nat} (h : MskP m) : Pow2 m := by
  rcases h with rfl | rfl | rfl | rfl | rfl | rfl | rfl | rfl
  · exact ⟨3, rfl⟩
  · exact ⟨5, rfl⟩
  · exact ⟨7, rfl⟩
  · exact ⟨9, rfl⟩
  · exact ⟨11, rfl⟩
  · exact ⟨13, rfl⟩
  · exact ⟨15, rfl⟩
  · exact ⟨17, rfl⟩
theorem MskP.lt {m : Nat} (h : MskP m) : m < 131072 := by
  rcases h with rfl | rfl | rfl | rfl | rfl | rfl | rfl | rfl <;> decide
theorem MskP.grow {l m : Nat} (h : MskP m) (c : (l + 1) * 5 ≥ m * 3) (r : l * 5 < m * 3) (few : l < 49000) : ∃ m', SetTable.sizeAbove ((l + 1) * 4) = m' + 1 ∧ MskP m' ∧ (l + 1) * 4 ≤ m' := by
  rcases h with rfl | rfl | rfl | rfl | rfl | rfl | rfl | rfl
  · obtain rfl : l = 4 := by omega
    exact ⟨31, by decide, by unfold MskP; omega, by decide⟩
  · obtain rfl : l = 18 := by omega
    exact ⟨127, by decide, by unfold MskP; omega, by decide⟩
  · obtain rfl : l = 76 := by omega
    exact ⟨511, by decide, by unfold MskP; omega, by decide⟩
  · obtain rfl : l = 306 := by omega
    exact ⟨2047, by decide, by unfold MskP; omega, by decide⟩
  · obtain rfl : l = 1228 := by omega
    exact ⟨8191, by decide, by unfold MskP; omega, by decide⟩
  · obtain rfl : l = 4914 := by omega
    exact ⟨32767, by decide, by unfold MskP; omega, by decide⟩
  · obtain rfl : l = 19660 := by omega
    exact ⟨131071, by decide, by unfold MskP; omega, by decide⟩
  · omega
structure TsetP (P : Program) (w : World) (h : Heap) (a : Addr) (L : List (Addr × List Int)) (es : Array (Int × Value)) (ep : Nat) (t : SetTable) : Prop where
  at_ : ∃ o, h.get? a = some o ∧ o.ExactSet ∧ o.data = .set es ep t
  row : es.toList = rowsOf P w L
  tab : TabG t (L.map fun p => thash P w p.2)
  one : (L.map (·.2)).Nodup
  tup : ∀ p ∈ L, IsT P w h p.2 p.1
  pln : t.plain = true
  led : w.params.followText "set-order" = true ∨ t.led = true
  rm : L.length * 5 < t.mask * 3
  few : L.length ≤ 49000
  msk : MskP t.mask
  sm : ∀ p ∈ L, SmP p.2
variable {a : Addr} {L : List (Addr × List Int)} {es : Array (Int × Value)} {ep : Nat} {t : SetTable}
theorem row_lenP {L : List (Addr × List Int)} {es : Array (Int × Value)} (h : es.toList = rowsOf P w L) : es.size = L.length := by
  rw [← Array.length_toList, h]; simp [rowsOf]
theorem fits_ofP {n : Nat} (d : t.dummies = #[]) (z : t.place.size = n) (l : n ≤ t.mask) : t.fits n = true := by
  simp [SetTable.fits, SetTable.fill, d, z, l]
theorem TsetP.fit (R : TsetP P w s.heap a L es ep t) : t.fits es.size = true := by
  have z := R.tab.sz
  have := R.rm
  rw [List.length_map] at z
  exact fits_ofP R.tab.nd (by rw [z, row_lenP R.row]) (by rw [row_lenP R.row]; omega)
theorem TsetP.ent (R : TsetP P w s.heap a L es ep t) {i : Nat} {p : Addr × List Int} (h : L[i]? = some p) : es[i]? = some (thash P w p.2, Value.ref p.1) := by
  rw [← Array.getElem?_toList, R.row]; simp [rowsOf, h]
theorem TsetP.sound (R : TsetP P w s.heap a L es ep t) : ¬ t.gaveWay = true := by
  obtain ⟨k, ek⟩ := R.tab.po
  have : 2 ≤ t.mask + 1 := by have := R.rm; omega
  have : ∃ k', k = k' + 1 := ⟨k - 1, by rcases k with _ | k <;> simp_all⟩
  obtain ⟨k', rfl⟩ := this
  rw [Nat.pow_succ] at ek
  simp only [SetTable.gaveWay, beq_iff_eq]
  omega
/-- seeking k from the c-th spot on -/
theorem seekP (R : TsetP P w s.heap a L es ep t) {x : Addr} {k : List Int} (hsm : SmP k) (hx : IsT P w s.heap k x) (hu : A.units < cLine) {K : Nat} (Kb : K < 10 * SetTable.turns t.mask) (g : Gap t (thash P w k) K) {Q : SetFound → Shared → Prop}
    (yes : k ∈ L.map (·.2) → Q (.there none) s) (no : k ∉ L.map (·.2) → Q (.free (way t.mask (thash P w k) K) false) s) (f : Nat) :
    ∀ (c : Nat) (st : Option SetTable.Probe), st.getD (t.probeStart (thash P w k)) = spot t.mask (thash P w k) c → c ≤ K → 0 < f →
      (∀ (i : Nat) p, L[i]? = some p → p.2 = k → ∃ d, c ≤ d ∧ d < K ∧ t.place.toList[i]? = some (way t.mask (thash P w k) d)) →
      wpAny (model P w) A (setSearchFrom a (.ref x) (thash P w k) true f st) Q E s := by
  induction f with
  | zero => intro c st _ _ h; omega
  | succ f ih =>
    intro c st es0 cK fu ahead
    obtain ⟨o, ho, hex, hd⟩ := R.at_
    rw [setSearchFrom_succ]
    refine wpAny_bind (wpAny_setState_of ho hd R.fit ?_)
    dsimp only
    refine wp_if_neg R.sound ?_
    try refine wpAny_bind (wpAny_pure ?_)
    have on : ∀ q, (nth t.mask (spot t.mask (thash P w k) c) q) = spot t.mask (thash P w k) (c + q) := fun q => (nth_add t.mask c _ q).symm
    have wy : ∀ q, (nth t.mask (spot t.mask (thash P w k) c) q).j = way t.mask (thash P w k) (c + q) := fun q => congrArg (·.j) (on q)
    have hashes : ∀ (i : Nat) p, L[i]? = some p → (es[i]?.map (·.1)).getD 0 = thash P w p.2 := fun i p e => by simp [R.ent e]
    have sp := go_spec t R.tab.up R.tab.nd (fun i => (es[i]?.map (·.1)).getD 0) (thash P w k) (10 * SetTable.turns t.mask) (K - c) (spot t.mask (thash P w k) c) (spot_dum _ _ c) (by omega)
      (fun q hq => by rw [wy]; exact g.2 _ (by omega)) (by rw [wy, Nat.add_sub_cancel' cK]; exact g.1)
    have pr : t.probe (fun i => (es[i]?.map (·.1)).getD 0) (thash P w k) (st.getD (t.probeStart (thash P w k))) = SetTable.probe.go t (fun i => (es[i]?.map (·.1)).getD 0) (thash P w k) (10 * SetTable.turns t.mask) (spot t.mask (thash P w k) c) := by rw [es0]; rfl
    rw [pr]
    rcases sp with ⟨q, i, qK, hi, hh, before, go⟩ | ⟨before, go⟩
    · rw [go]
      dsimp only
      rw [wy] at hi
      have il : i < L.length := by
        have := (List.getElem?_eq_some_iff.mp hi).1
        have z := R.tab.sz
        simp only [Array.length_toList, List.length_map] at this z
        omega
      obtain ⟨p, hp⟩ : ∃ p, L[i]? = some p := ⟨_, List.getElem?_eq_getElem il⟩
      have pm := List.mem_of_getElem? hp
      have sl : t.slot (way t.mask (thash P w k) (c + q)) = .live i := slot_live R.tab.up hi
      have body : wpAny (model P w) A (searchRest a (.ref x) (thash P w k) true f es t (way t.mask (thash P w k) (c + q)) i (spot t.mask (thash P w k) (c + (q + 1)))) Q E s := by
        simp only [searchRest, R.ent hp]
        refine wpAny_bind (wpAny_holding (wpAny_eqBool_tuple hu (R.tup p pm) hx (wpAny_bind (wpAny_setState_of ho hd R.fit ?_))))
        dsimp only
        by_cases same : p.2 = k
        · refine wp_if_pos (by simp [same]) (wpAny_pure (yes ?_))
          rw [← same]; exact List.mem_map_of_mem pm
        · exact absurd (thash_inj (R.sm p pm) hsm ((hashes i p hp).symm.trans hh)) same
      have nx : (nth t.mask (spot t.mask (thash P w k) c) (q + 1)) = spot t.mask (thash P w k) (c + (q + 1)) := on _
      rw [wy, nx]
      by_cases l : t.led = true
      · refine wp_if_neg (by simp [l]) ?_
        try refine wpAny_bind (wpAny_pure ?_)
        exact body
      · refine wp_if_pos (by simp [l]) (wpAny_bind (seen_tup hx (fun y hy => ?_) (wp_if_neg (by decide) ?_)))
        · obtain ⟨e, he, rfl⟩ := List.mem_map.mp hy
          have he : e ∈ es.toList := by
            have : e ∈ es ∧ e.1 = thash P w k := by simpa using he
            simpa using this.1
          rw [R.row] at he
          obtain ⟨p2, m2, rfl⟩ := List.mem_map.mp he
          exact ⟨p2.2, p2.1, rfl, R.tup p2 m2⟩
        · try refine wpAny_bind (wpAny_pure ?_)
          exact body
    · rw [go, wy, Nat.add_sub_cancel' cK]
      dsimp only
      refine wpAny_pure (no fun km => ?_)
      obtain ⟨p2, m2, k2⟩ := List.mem_map.mp km
      obtain ⟨i2, hi2, e2⟩ := List.getElem_of_mem m2
      have h2 : L[i2]? = some p2 := by rw [List.getElem?_eq_getElem hi2, e2]
      obtain ⟨d, d1, d2, d3⟩ := ahead i2 p2 h2 k2
      exact before (d - c) i2 (by omega) (by rw [wy, Nat.add_sub_cancel' d1]; exact d3) ((hashes i2 p2 h2).trans (by rw [k2]))
theorem soughtP (R : TsetP P w s.heap a L es ep t) {x : Addr} {k : List Int} (hsm : SmP k) (hx : IsT P w s.heap k x) (hu : A.units < cLine) {Q : SetFound → Shared → Prop}
    (yes : k ∈ L.map (·.2) → Q (.there none) s) (no : ∀ K, Gap t (thash P w k) K → k ∉ L.map (·.2) → Q (.free (way t.mask (thash P w k) K) false) s) : wpAny (model P w) A (setSearch a (.ref x) (thash P w k) true) Q E s := by
  have r := R.rm
  have mb := R.msk.lt
  obtain ⟨K, Kb, g⟩ := R.tab.gap (by rw [List.length_map]; omega) (thash P w k)
  refine seekP R hsm hx hu Kb g yes (no K g) 100000 0 none rfl (Nat.zero_le _) (by decide) fun i p hp hk => ?_
  have hi : (L.map fun p => thash P w p.2)[i]? = some (thash P w k) := by simp [hp, hk]
  have il : i < t.place.toList.length := by
    have := (List.getElem?_eq_some_iff.mp hi).1
    rw [Array.length_toList, R.tab.sz]; exact this
  obtain ⟨d, dK, e⟩ := R.tab.ahead g hi (List.getElem?_eq_getElem il)
  exact ⟨d, Nat.zero_le _, dK, by rw [List.getElem?_eq_getElem il, e]⟩
/-- laid anew -/
theorem relaid_atP {o : Obj} (ho : s.heap.get? a = some o) (hex : o.ExactSet) (hd : o.data = .set es ep t) (row : es.toList = rowsOf P w L) (sz : t.place.size = es.size) (dm : t.dummies = #[]) (fl : es.size ≤ t.mask)
    (one : (L.map (·.2)).Nodup) (tup : ∀ p ∈ L, IsT P w s.heap p.2 p.1) (sm : ∀ p ∈ L, SmP p.2) (pl : t.plain = true) (ld : w.params.followText "set-order" = true ∨ t.led = true) (few : L.length ≤ 49000) {n : Nat} (nb : n = L.length * 4) (n0 : 0 < L.length) (gr : ∃ m, SetTable.sizeAbove (L.length * 4) = m + 1 ∧ MskP m ∧ L.length * 4 ≤ m) {Q : Unit → Shared → Prop}
    (fin : ∀ h' L' es' ep' t', Heap.SameBut a s.heap h' → TsetP P w h' a L' es' ep' t' → L'.Perm L → Q () { s with heap := h' }) : wpAny (model P w) A (setRelay a n) Q E s := by
  have len := row_lenP row
  rw [← nb] at gr
  obtain ⟨m, em, mk, nm⟩ := gr
  have po := mk.pow
  have mlt := mk.lt
  obtain ⟨u, ord, e, pm, T, um, ul, up⟩ := anew t (hs := es.map (·.1)) em po (by rw [Array.size_map]; omega)
  rw [Array.size_map, len] at pm
  obtain ⟨L2, r1, r2, r3⟩ := order_rows L es ord row pm
  rw [← r3] at T
  have sz2 : (ord.filterMap (es[·]?)).size = es.size := by rw [row_lenP r1, r2.length_eq, len]
  rw [setRelay_eq]
  refine wpAny_bind (wpAny_setState_of ho hd (fits_ofP dm sz fl) ?_)
  dsimp only
  refine wp_if_neg (by rw [sizeLine_eq, em]; omega) ?_
  try refine wpAny_bind (wpAny_pure ?_)
  rw [e]
  dsimp only
  refine wpAny_bind (wp_if_neg (by simp [sz2]) ?_)
  try refine wpAny_bind (wpAny_pure ?_)
  refine wpAny_pure ?_
  dsimp only
  refine wpAny_storeSet_of ho hd ?_ (by rw [sz2, sizeLine_eq]; omega)
  have sb : Heap.SameBut a s.heap (s.heap.update a (Obj.putSet (ord.filterMap (es[·]?)) u)) := Heap.SameBut.update ..
  have l2 := r2.length_eq
  exact fin _ L2 _ (ep + 1) u sb ⟨⟨_, store_at ho hd, ⟨hex.1, hex.2.1, hex.2.2⟩, rfl⟩, r1, T, (r2.map (·.2)).nodup_iff.mpr one, fun p hp => isT_same (tup p (r2.mem_iff.mp hp)) ho hd sb, up ▸ pl, ul ▸ ld, by rw [l2, um]; omega, by omega, um ▸ mk, fun p hp => sm p (r2.mem_iff.mp hp)⟩ r2
/-- one more -/
theorem TsetP.add (R : TsetP P w s.heap a L es ep t) {x : Addr} {k : List Int} (hsm : SmP k) (hx : IsT P w s.heap k x) (hu : A.units < cLine) (few : L.length < 49000) {Q : Bool → Shared → Prop}
    (fin : ∀ b h' L' es' ep' t', Heap.SameBut a s.heap h' → TsetP P w h' a L' es' ep' t' → (k ∈ L.map (·.2) → L' = L) → (k ∉ L.map (·.2) → L'.Perm ((x, k) :: L)) → Q b { s with heap := h' }) :
    wpAny (model P w) A (setAddHashed a (.ref x) (thash P w k)) Q E s := by
  obtain ⟨o, ho, hex, hd⟩ := R.at_
  have len := row_lenP R.row
  have rm := R.rm
  refine wpAny_holding ?_
  rw [show (100000 : Nat) = 99999 + 1 from rfl, setAddHashedIn_succ]
  refine wpAny_bind (wpAny_setState_of ho hd R.fit ?_)
  dsimp only
  refine wp_if_neg (by simp [byScan, Value.scannable]) ?_
  try refine wpAny_bind (wpAny_pure ?_)
  refine wpAny_bind (soughtP R hsm hx hu (fun km => wpAny_pure (fin false s.heap L es ep t (.refl a s.heap) R (fun _ => rfl) fun z => absurd km z)) fun K g kn => ?_)
  dsimp only
  refine wpAny_bind (wpAny_setState_of ho hd R.fit ?_)
  dsimp only
  obtain ⟨u, p, eu, pl, lk, T, usz⟩ := R.tab.put g
  rw [List.length_map] at pl usz
  rw [eu]
  dsimp only
  first
    | (refine wpAny_bind ?_; refine wp_if_pos (lk.plain.trans R.pln) ?_; refine hashBy_tup hx ?_)
    | refine wp_if_pos (lk.plain.trans R.pln) (wpAny_bind (hashBy_tup hx ?_))
  simp only [if_true]
  have pm := put_perm L p (x, k)
  have hrow : (SetTable.insertAt es p (thash P w k, Value.ref x)).toList = rowsOf P w (L.take p ++ (x, k) :: L.drop p) := by
    rw [SetTable.toList_insertAt, R.row, rows_put]
  have T2 : TabG u ((L.take p ++ (x, k) :: L.drop p).map fun p => thash P w p.2) := by
    simpa only [List.map_append, List.map_cons, List.map_take, List.map_drop] using T
  generalize SetTable.insertAt es p (thash P w k, Value.ref x) = es1 at hrow ⊢
  generalize L.take p ++ (x, k) :: L.drop p = L1 at pm hrow T2
  have l1 : L1.length = L.length + 1 := pm.length_eq
  have one1 : (L1.map (·.2)).Nodup := (pm.map (·.2)).nodup_iff.mpr (List.nodup_cons.mpr ⟨kn, R.one⟩)
  have len1 := row_lenP hrow
  refine wpAny_bind (wpAny_storeSet_of ho hd ?_ (by rw [len1, sizeLine_eq]; omega))
  have sb : Heap.SameBut a s.heap (s.heap.update a (Obj.putSet es1 u)) := Heap.SameBut.update ..
  have ho1 := store_at (es' := es1) (t' := u) ho hd
  generalize s.heap.update a (Obj.putSet es1 u) = h1 at sb ho1 ⊢
  have tup1 : ∀ p ∈ L1, IsT P w h1 p.2 p.1 := fun p hp => by
    rcases List.mem_cons.mp (pm.mem_iff.mp hp) with rfl | hp
    · exact isT_same hx ho hd sb
    · exact isT_same (R.tup p hp) ho hd sb
  have sm1 : ∀ p ∈ L1, SmP p.2 := fun p hp => by
    rcases List.mem_cons.mp (pm.mem_iff.mp hp) with rfl | hp
    · exact hsm
    · exact R.sm p hp
  have ld1 : w.params.followText "set-order" = true ∨ u.led = true := by rw [lk.led]; exact R.led
  have full : u.tooFull = decide ((L.length + 1) * 5 ≥ t.mask * 3) := by
    simp [SetTable.tooFull, SetTable.fill, lk.dum, usz, lk.mask]
  by_cases c : u.tooFull = true
  · first
      | (refine wpAny_bind ?_; refine wp_if_pos (by simp [c]) ?_)
      | (refine wp_if_pos (by simp [c]) ?_; refine wpAny_bind ?_)
    refine relaid_atP (s := { s with heap := h1 }) ho1 ⟨hex.1, hex.2.1, hex.2.2⟩ rfl hrow (by rw [len1, l1, usz]) lk.dum (by rw [len1, l1, lk.mask]; omega) one1 tup1 sm1 (lk.plain.trans R.pln) ld1 (by omega) (by rw [len, l1]; simp only [SetTable.grown]; rw [if_neg (by omega)]) (by omega) (by rw [full, decide_eq_true_eq] at c; rw [l1]; exact R.msk.grow c rm few) fun h2 L2 es2 ep2 t2 sb2 R2 pm2 => ?_
    exact wpAny_pure (fin true h2 L2 es2 ep2 t2 (sb.trans sb2) R2 (fun z => absurd z kn) fun _ => pm2.trans pm)
  · first
      | refine wp_if_neg (by simp [c]) ?_
      | (refine wpAny_bind ?_; refine wp_if_neg (by simp [c]) ?_; refine wpAny_pure ?_)
    rw [full, decide_eq_true_eq] at c
    have mk := R.msk
    exact wpAny_pure (fin true h1 L1 es1 (ep + 1) u sb ⟨⟨_, ho1, ⟨hex.1, hex.2.1, hex.2.2⟩, rfl⟩, hrow, T2, one1, tup1, lk.plain.trans R.pln, ld1, by rw [l1, lk.mask]; omega, by omega, lk.mask ▸ mk, sm1⟩ (fun z => absurd z kn) fun _ => pm)
theorem TsetP.moved {h h' : Heap} (R : TsetP P w h a L es ep t) (ha : ∀ o, h.get? a = some o → h'.get? a = some o) (ht : ∀ p ∈ L, IsT P w h' p.2 p.1) : TsetP P w h' a L es ep t :=
  let ⟨o, ho, r⟩ := R.at_
  ⟨⟨o, ha o ho, r⟩, R.row, R.tab, R.one, ht, R.pln, R.led, R.rm, R.few, R.msk, R.sm⟩
theorem TsetP.new {h : Heap} (ho : h.get? a = some { cls := .type "set", dict := none, data := .set #[] 0 (.fresh 0 0 (!w.params.followText "set-order")) }) : TsetP P w h a [] #[] 0 (.fresh 0 0 (!w.params.followText "set-order")) :=
  ⟨⟨_, ho, ⟨rfl, rfl, rfl⟩, rfl⟩, rfl, ⟨List.Pairwise.nil, rfl, rfl, ⟨3, rfl⟩, nofun, nofun⟩, List.nodup_nil, nofun, rfl, by cases w.params.followText "set-order" <;> simp [SetTable.fresh], by simp [SetTable.fresh], by simp, .inl rfl, nofun⟩
end
end Dw

/-! Dw88: len of {a pair of small numbers for .. in ..}, up to 49000. Own work. -/
namespace Dw
open PySem PySem.Spec PyProof.Rows L2 Fw
/-- the set at a, whatever its tuples' addresses hold -/
def TsetP0 (P : Program) (w : World) (h : Heap) (a : Addr) (L : List (Addr × List Int)) : Prop := ∃ es ep t g, TsetP P w g a L es ep t ∧ g.get? a = h.get? a
theorem TsetP.bare {P : Program} {w : World} {h : Heap} {a : Addr} {L : List (Addr × List Int)} {es : Array (Int × Value)} {ep : Nat} {t : SetTable} (R : TsetP P w h a L es ep t) : TsetP0 P w h a L := ⟨es, ep, t, h, R, rfl⟩
theorem TsetP0.full {P : Program} {w : World} {h : Heap} {a : Addr} {L : List (Addr × List Int)} (R : TsetP0 P w h a L) (ht : ∀ p ∈ L, IsT P w h p.2 p.1) : ∃ es ep t, TsetP P w h a L es ep t := by
  obtain ⟨es, ep, t, g, R, e⟩ := R
  exact ⟨es, ep, t, R.moved (fun o z => e ▸ z) ht⟩
/-! by data -/
section
variable {X : Cx} {Z : ZX} {K : PySem.W.Frag}
variable {elt iter tg : Expr} {ifs : List Expr} {scope : Scope} {own : List (Str × Nat)} {ti : TL} {g : TGd} {tt : TB} {te : TD} {us : List Nat} {pos p pos2 : Pos}
end
end Dw

/-! Dw89: min(x, key=lambda n: (abs(n), -n)); min(x, default=d) of whole numbers; x[k] += e, x a list of one's own. Own work. -/
namespace Lm
open PySem PySem.Spec PyProof.Rows L2 Fw Dw
/-- the lambda's names: one plain parameter -/
structure LamP (scope : Scope) (a : Str) : Prop where
  kind : scope.kind = .function
  co : scope.isCoroutine = false
  gen : scope.isGenerator = false
  cells : ∀ y ∈ scope.names, y.2 ≠ .cell
  look : scope.names.lookup a = some .local
  free : ∀ y ∈ scope.names, y.2 ≠ .free
  abs : scope.names.lookup ("abs" : Str) = some .globalImplicit
def lamPB (scope : Scope) (a : Str) : Bool :=
  decide (scope.kind = .function) && !scope.isCoroutine && !scope.isGenerator && decide (scope.names.lookup a = some .local) && decide (scope.names.lookup ("abs" : Str) = some .globalImplicit) && scope.names.all fun y => !decide (y.2 = .cell) && !decide (y.2 = .free)
theorem lamP_by {scope : Scope} {a : Str} (h : lamPB scope a = true) : LamP scope a := by
  unfold lamPB at h
  simp only [Bool.and_eq_true, Bool.not_eq_true', decide_eq_true_eq, decide_eq_false_iff_not, List.all_eq_true] at h
  obtain ⟨⟨⟨⟨⟨h1, h2⟩, h3⟩, h4⟩, h5⟩, h6⟩ := h
  exact ⟨h1, h2, h3, fun y hy => (h6 y hy).1, h4, fun y hy => (h6 y hy).2, h5⟩
abbrev lpEnv (X : Cx) (scope : Scope) (L f c' : Addr) : Env := PySem.W.envX (X.env.qual ++ "<lambda>") scope L f (.ref c') (cloFrom X.env.cells scope.names [])
section
variable {X : Cx} {pins : List (Addr × Obj)} {σ : L2.St} {H : Hp} {s : Shared}
theorem get_size (h : Heap) : h.get? h.objs.size = none := by
  cases q : h.get? h.objs.size with
  | none => rfl
  | some o => exact absurd (Heap.lt_size q) (Nat.lt_irrefl _)
/-- (abs(n), -n) of a whole number: a new tuple, all else stays -/
def PairAt (h : Heap) (k : Value) (n : Int) : Prop := ∃ t t1 t2, k = .ref t ∧ h.get? t = some { cls := .type "tuple", data := .seq #[.int (if n < 0 then -n else n) t1, .int (-n) t2] }
theorem lp_body {A : Around} {scope : Scope} {L f c' : Addr} {a : Str} {p1 p2 p3 p4 p5 p6 : Pos} {k : Nat} {n : Int} {tk0 : Tok} {s2 : Shared} {E : Value → Shared → Prop} (I : Inv X pins σ H s) (P : LamP scope a) (hm : X.mg "abs" = none) (kp : ∀ b o, s.heap.get? b = some o → s2.heap.get? b = some o)
    (hn : s2.heap.Ns L fun x => ([(a, Value.int n tk0)] : List (Str × Value)).reverse.lookup x) (hd : (a == ("__debug__" : Str)) = false) :
    wpAny (model X.prog X.w) A (eval (.Tuple [.Call (.Name "abs" p1) [.Name a p2] [] p3, .UnaryOp .USub (.Name a p4) p5] k p6) (lpEnv X scope L f c'))
      (fun v s' => s'.os = s2.os ∧ s'.gens = s2.gens ∧ s'.drawn = s2.drawn ∧ (∀ b o, s2.heap.get? b = some o → s'.heap.get? b = some o) ∧ PairAt s'.heap v n ∧ ∀ t, v = .ref t → s2.heap.get? t = none) E s2 := by
  have hv : ([(a, Value.int n tk0)] : List (Str × Value)).reverse.lookup a = some (.int n tk0) := by
    show ([(a, Value.int n tk0)] : List (Str × Value)).lookup a = _
    rw [List.lookup_cons, beq_self_eq_true]
  have nm : ∀ (A : Around) (pos : Pos) (Q : Value → Shared → Prop) (E : Value → Shared → Prop) (s3 : Shared), s3.heap = s2.heap → Q (.int n tk0) s3 → wpAny (model X.prog X.w) A (eval (.Name a pos) (lpEnv X scope L f c')) Q E s3 := fun A pos Q E s3 e q =>
    wpAny_Name (wpAny_loadName_local (env := lpEnv X scope L f c') P.kind P.look (show s3.heap.Ns _ _ from e ▸ hn) hv q) hd
  have bk : ∀ b o, X.base.get? b = some o → s2.heap.get? b = some o := fun b o e => kp b o (I.bk b o e)
  obtain ⟨mb, h1, h2⟩ := I.mod.blt
  refine wpAny_Tuple_spliced ?_
  refine PyProof.Rows.args_cons (Call_ (Calls.Name_function_global (env := lpEnv X scope L f c') P.kind P.abs (Calls.loadGlobal_builtin (I.mod.glob.keeps bk) hm (h1.keeps bk) ((h2 ("abs" : Str) (by decide)).trans boot_abs) (PyProof.Rows.callWith_builtin1 (PyProof.Rows.args_cons (nm _ _ _ _ _ rfl (PyProof.Rows.args_nil ?_)) rfl) rfl rfl)) (by decide)) rfl) rfl
  refine call_abs_int fun u tk1 => ?_
  refine PyProof.Rows.args_cons (UnaryOp_ (nm _ _ _ _ _ rfl (neg_int (PyProof.Rows.args_nil ?_)))) rfl
  refine ⟨by size_fits, rfl, rfl, rfl, fun b o e => Heap.get?_push_of_some _ e, ⟨_, _, _, rfl, Heap.get?_push_size _ rfl⟩, fun t e => ?_⟩
  cases e
  exact get_size _
/-- the lambda is called with a whole number, where all of s stands -/
theorem lp_call {A : Around} {params : Arguments} {scope : Scope} {f c' : Addr} {a : Str} {pm ctv : Value} {p1 p2 p3 p4 p5 p6 : Pos} {j k : Nat} {n : Int} {tk0 : Tok} {s2 : Shared} (I : Inv X pins σ H s) (P : LamP scope a) (hm : X.mg "abs" = none) (hr : Room (k + 1) A)
    (kp : ∀ b o, s.heap.get? b = some o → s2.heap.get? b = some o)
    (hf : s.heap.get? f = some (PySem.W.kla_obj "<lambda>" (X.env.qual ++ "<lambda>") params (.Tuple [.Call (.Name "abs" p1) [.Name a p2] [] p3, .UnaryOp .USub (.Name a p4) p5] j p6) scope (cloFrom X.env.cells scope.names []) pm c' ctv)) (hc : H c' = some (LamX.CodeO c' (X.env.qual ++ "<lambda>")))
    (hbind : ∀ u, bindArgs (PySem.W.kla_fn "<lambda>" (X.env.qual ++ "<lambda>") params (.Tuple [.Call (.Name "abs" p1) [.Name a p2] [] p3, .UnaryOp .USub (.Name a p4) p5] j p6) scope (cloFrom X.env.cells scope.names []) pm (.ref c') ctv) ⟨[u], []⟩ = pure [(a, u)]) (hd : (a == ("__debug__" : Str)) = false) :
    wpAny (model X.prog X.w) A (call (.ref f) [.int n tk0]) (fun v s' => s'.os = s2.os ∧ s'.gens = s2.gens ∧ s'.drawn = s2.drawn ∧ (∀ b o, s2.heap.get? b = some o → s'.heap.get? b = some o) ∧ PairAt s'.heap v n ∧ ∀ t, v = .ref t → s2.heap.get? t = none) (fun _ _ => False) s2 := by
  refine wpAny_call ?_
  obtain ⟨⟨oc, vs, t, hoc, hdc, hvc⟩, _, _⟩ := I.hok c' _ hc
  refine PySem.W.kla_callFunE hr.depth (kp _ _ hf) rfl P.co P.gen rfl ⟨c', oc, vs, t, rfl, kp _ _ hoc, hdc, hvc⟩ ?_
  rw [hbind]
  refine wpAny_pure (wpAny_newFunctionEnv P.cells (fun y hy => by
    simp only [List.mem_cons, List.not_mem_nil, or_false] at hy
    subst hy; exact P.look) (fun h₁ hns hsb => ⟨(I.nolimit.keeps kp).fresh _ hsb, ?_⟩) P.kind)
  have kp1 : ∀ b o, s2.heap.get? b = some o → h₁.get? b = some o := fun b o e => hsb.extBut b o (Nat.ne_of_lt (Heap.lt_size e)) (Heap.get?_push_of_some _ e)
  refine PySem.W.kla_codeExpr (wpAny_mono (lp_body (s := s) (s2 := { s2 with heap := h₁, toks := s2.toks + ([(a, Value.int n tk0)] : List (Str × Value)).length }) I P hm (fun b o e => kp1 b o (kp b o e)) hns hd) (fun v s' ⟨e1, e2, e3, e4, e5⟩ => ?_) fun e s' hq => hq)
  refine ⟨e1, e2, e3, fun b o e => e4 b o (kp1 b o e), e5.1, fun t e => ?_⟩
  cases q : s2.heap.get? t with
  | none => rfl
  | some o =>
    have z := e5.2 t e
    rw [show ({ s2 with heap := h₁, toks := s2.toks + ([(a, Value.int n tk0)] : List (Str × Value)).length } : Shared).heap.get? t = h₁.get? t from rfl, kp1 t o q] at z
    cases z
/-! the least by (abs(n), -n) -/
def kPair (n : Int) : Int × Int := (if n < 0 then -n else n, -n)
def nearer (m y : Int) : Prop := m.natAbs < y.natAbs ∨ (m.natAbs = y.natAbs ∧ y ≤ m)
theorem lt_near {m y : Int} : PySem.W.DatumOrd.lt (kPair m) (kPair y) = true ↔ ¬ nearer y m := by
  show (if (kPair m).1 = (kPair y).1 then decide ((kPair m).2 < (kPair y).2) else decide ((kPair m).1 < (kPair y).1)) = true ↔ _
  unfold kPair nearer
  dsimp only
  split <;> split <;> split <;> (try rw [decide_eq_true_eq]) <;> omega
theorem best_near (f : Nat → Int) : ∀ k, argBest (fun i j => PySem.W.DatumOrd.lt (kPair (f i)) (kPair (f j))) k ≤ k ∧ ∀ j, j ≤ k → nearer (f (argBest (fun i j => PySem.W.DatumOrd.lt (kPair (f i)) (kPair (f j))) k)) (f j)
  | 0 => ⟨Nat.le_refl _, fun j hj => by
    have : j = 0 := by omega
    subst this; exact .inr ⟨rfl, Int.le_refl _⟩⟩
  | k + 1 => by
    obtain ⟨h1, h2⟩ := best_near f k
    simp only [argBest]
    by_cases c : PySem.W.DatumOrd.lt (kPair (f (k + 1))) (kPair (f (argBest (fun i j => PySem.W.DatumOrd.lt (kPair (f i)) (kPair (f j))) k))) = true
    · rw [if_pos c]
      rw [lt_near] at c
      refine ⟨Nat.le_refl _, fun j hj => ?_⟩
      by_cases e : j = k + 1
      · subst e; exact .inr ⟨rfl, Int.le_refl _⟩
      · have := h2 j (by omega)
        unfold nearer at *
        omega
    · rw [if_neg c]
      rw [lt_near] at c
      refine ⟨by omega, fun j hj => ?_⟩
      by_cases e : j = k + 1
      · subst e; exact Classical.not_not.mp c
      · exact h2 j (by omega)
theorem pair_holds {h : Heap} {k : Value} {n : Int} (p : PairAt h k n) : PySem.W.Holds h k (kPair n) := by
  obtain ⟨t, t1, t2, rfl, e⟩ := p
  exact PySem.W.holds_pair ⟨_, e, rfl, _, rfl⟩ (PySem.W.holds_int _ _) (PySem.W.holds_int _ _)
theorem min_near {l : Addr} {ns : List Int} {params : Arguments} {scope : Scope} {f c' : Addr} {a : Str} {pm ctv : Value} {p1 p2 p3 p4 p5 p6 : Pos} {j k : Nat} {Q : VK} {E : Value → Shared → Prop} (I : Inv X pins σ H s) (hl : SqL X.K H l (ns.map V.int)) (hne : 0 < ns.length) (P : LamP scope a) (hm : X.mg "abs" = none) (hr : Room (k + 3) X.A)
    (hf : s.heap.get? f = some (PySem.W.kla_obj "<lambda>" (X.env.qual ++ "<lambda>") params (.Tuple [.Call (.Name "abs" p1) [.Name a p2] [] p3, .UnaryOp .USub (.Name a p4) p5] j p6) scope (cloFrom X.env.cells scope.names []) pm c' ctv)) (hc : H c' = some (LamX.CodeO c' (X.env.qual ++ "<lambda>")))
    (hbind : ∀ u, bindArgs (PySem.W.kla_fn "<lambda>" (X.env.qual ++ "<lambda>") params (.Tuple [.Call (.Name "abs" p1) [.Name a p2] [] p3, .UnaryOp .USub (.Name a p4) p5] j p6) scope (cloFrom X.env.cells scope.names []) pm (.ref c') ctv) ⟨[u], []⟩ = pure [(a, u)]) (hd : (a == ("__debug__" : Str)) = false)
    (q : ∀ m, m ∈ ns → (∀ y, y ∈ ns → nearer m y) → Q (.int m) H) :
    wpAny (model X.prog X.w) X.A (call (.builtin "min") [.ref l] [(Str.ofString "key", .ref f)]) (EP X pins σ Q) E s := by
  obtain ⟨its, rv, hpl, hz⟩ := I.list hl
  have hlen : its.length = ns.length := by rw [← rv.length, List.length_map]
  have at_ : ∀ (i : Nat) (v : Value), its.toArray[i]? = some v → i < ns.length ∧ ∃ t, v = .int (ns.getD i 0) t := fun i v e => by
    have e' : its[i]? = some v := by simpa using e
    have hi := (List.getElem?_eq_some_iff.mp e').1
    obtain ⟨u, h1, h2⟩ := rv.get (i := i) (x := .int (ns.getD i 0)) (by
      rw [List.getElem?_map, List.getElem?_eq_getElem (by omega), List.getD_eq_getElem?_getD, List.getElem?_eq_getElem (by omega)]; rfl)
    rw [e'] at h1
    cases h1
    exact ⟨by omega, h2⟩
  refine PySem.call_min_walkK (iter_anyList hpl.isList fun s2 e st hfp hlI => ?_)
  have hd1 : X.A.handled = none := hr.hd
  have kp2 : ∀ b o, s.heap.get? b = some o → s2.heap.get? b = some o := fun b o h => by rw [e]; exact Heap.get?_push_of_some _ h
  have eos : s2.os = s.os ∧ s2.gens = s.gens ∧ s2.drawn = s.drawn := by rw [e]; exact ⟨rfl, rfl, rfl⟩
  have sz2 : s.heap.objs.size < s2.heap.objs.size := by rw [e]; show _ < (s.heap.push _).objs.size; rw [Heap.size_push]; exact Nat.lt_succ_self _
  have W := (Walks.list (prog := X.prog) (w := X.w) (A := X.A.in1) hd1 s.heap.objs.size l hlI its.toArray).toS
  refine ⟨_, _, _, _, _, _, _, fun s' => s'.os = s.os ∧ s'.gens = s.gens ∧ s'.drawn = s.drawn ∧ ∀ b o, s.heap.get? b = some o → s'.heap.get? b = some o, fun i v s' => i < ns.length ∧ ∃ t, v = .ref t ∧ t ≠ s.heap.objs.size ∧ t ≠ s2.heap.objs.size ∧ PairAt s'.heap v (ns.getD i 0), fun i j => PySem.W.DatumOrd.lt (kPair (ns.getD i 0)) (kPair (ns.getD j 0)), rfl, W, st, hfp, by simpa [hlen] using hne, ?_, ⟨eos.1, eos.2.1, eos.2.2, kp2⟩, fun v s' hP hJ => ?_⟩
  · refine ⟨fun s3 s4 ⟨a1, a2, a3, a4⟩ m => ⟨m.os.trans a1, (show s4.gens = s3.gens from m.gens).trans a2, m.drawn.trans a3, fun b o h => m.heap b o (fun z => ?_) (a4 b o h)⟩, fun i k3 s3 s4 ⟨a0, t, et, n1, n2, t', a1, a2, e1, e2⟩ m => ⟨a0, t, et, n1, n2, t', a1, a2, e1, m.heap _ _ (fun z => ?_) e2⟩, fun i v s3 o Q' E' hi hP hJ hst hS k3 => ?_, fun i j ki kj s3 Q' E' hJ hki hkj q' => ?_⟩
    · have hb := Heap.lt_size h
      simp only [List.mem_cons, List.not_mem_nil, or_false] at z
      rcases z with rfl | rfl
      · exact absurd (Nat.lt_trans sz2 hb) (Nat.lt_irrefl _)
      · exact absurd hb (Nat.lt_irrefl _)
    · have : t' = t := by rw [et] at e1; cases e1; rfl
      simp only [List.mem_cons, List.not_mem_nil, or_false] at z
      rcases z with z | z
      · exact n2 (by rw [← this, z])
      · exact n1 (by rw [← this, z])
    · obtain ⟨hi', t0, rfl⟩ := at_ i v hP
      obtain ⟨a1, a2, a3, a4⟩ := hJ
      refine wpAny_mono (lp_call I P hm hr.in1 a4 hf hc hbind hd) (fun k4 s4 ⟨b1, b2, b3, b4, b5, b6⟩ => ?_) fun _ _ h => h.elim
      obtain ⟨o1, ho1, _⟩ := hst.1
      refine k3 k4 s4 ⟨b1.trans a1, b2.trans a2, b3.trans a3, fun b o h => b4 b o (a4 b o h)⟩ (W.frame _ { s3 with heap := s3.heap, toks := 0 } s4.heap s4.toks hst (Nat.zero_le _) fun b _ o h => b4 b o h) (b4 _ _ hS) ⟨hi', ?_⟩ fun j' k' ⟨c0, t, et, n1, n2, t', d1, d2, e1, e2⟩ => ⟨c0, t, et, n1, n2, t', d1, d2, e1, b4 _ _ e2⟩
      obtain ⟨t, u1, u2, et, ht⟩ := b5
      refine ⟨t, et, fun z => ?_, fun z => ?_, t, u1, u2, et, ht⟩
      · have := b6 t et
        rw [z, ho1] at this
        cases this
      · have := b6 t et
        rw [z, hS] at this
        cases this
    · exact PySem.W.lt_datum (pair_holds hki.2.choose_spec.2.2.2) (pair_holds hkj.2.choose_spec.2.2.2) (by have := hr.in1.units0; show _ + 1 < cLine; have := hr.un; show X.A.units + 1 + 1 < cLine; omega) q'
  · obtain ⟨hb, t, rfl⟩ := at_ _ _ hP
    obtain ⟨b1, b2⟩ := best_near (fun i => ns.getD i 0) (its.toArray.size - 1)
    have sz : its.toArray.size = ns.length := by simpa using hlen
    obtain ⟨a1, a2, a3, a4⟩ := hJ
    have es : s' = { s with heap := s'.heap, toks := s'.toks } := by
      cases s'; cases s; simp_all
    rw [es]
    refine ⟨.int _, H, I.kept a4, ⟨t, rfl⟩, q _ ?_ fun y hy => ?_⟩
    · rw [List.getD_eq_getElem?_getD, List.getElem?_eq_getElem hb]
      exact List.getElem_mem _
    · obtain ⟨j, hj, rfl⟩ := List.getElem_of_mem hy
      have := b2 j (by omega)
      rw [show ns.getD j 0 = ns[j] from by rw [List.getD_eq_getElem?_getD, List.getElem?_eq_getElem hj]; rfl] at this
      exact this
end

/-- min(a, key=lambda n: (abs(n), -n)) -/
def dMinKL (ta : TD) : TD := fun ρ n Q => ta ρ n fun d n1 => ∃ ns : List Int, d = .lst (ns.map .int) ∧ 0 < ns.length ∧ ∀ m, m ∈ ns → (∀ y, y ∈ ns → nearer m y) → Q (.int m) n1
theorem repL_ints {K : PySem.W.Frag} {F : Option Addr} {G : Hp} : ∀ {vs : List V} {ns : List Int}, RepL K F G vs (ns.map .int) → vs = ns.map V.int
  | [], [], _ => rfl
  | _, n :: r, h => by
    cases h with | cons h t =>
    cases h
    rw [List.map_cons, repL_ints t]
theorem de_minKL {X : Cx} {Z : ZX} {c P : Addr} {x a : Str} {k j : Nat} {e : Expr} {params : Arguments} {scope : Scope} {p lpos kpos pos p1 p2 p3 p4 p5 p6 : Pos} {ta : TD} {q : Str} (M : Mk X.mg X.base X.env.code c P q) (L : LamP scope a) (hr : Room (k + 3) X.A)
    (hg : Gl X x) (hm : X.mg x = none) (hv : bootBuiltins x = some (.builtin "min")) (hma : X.mg "abs" = none) (ha : DE X Z e ta)
    (hq0 : X.env.qual ++ "<lambda>" = q := by first | rfl | kernel_rfl) (hbind : ∀ (c' : Addr) (cl : List (Str × Addr)) (pm ctv u : Value), bindArgs (PySem.W.kla_fn "<lambda>" (X.env.qual ++ "<lambda>") params (.Tuple [.Call (.Name "abs" p1) [.Name a p2] [] p3, .UnaryOp .USub (.Name a p4) p5] j p6) scope cl pm (.ref c') ctv) ⟨[u], []⟩ = pure [(a, u)] := by intro _ _ _ _ _; rfl) (hdef : defaultsOf params X.env = ([], []) := by rfl) (hn : x ≠ "__name__" := by decide) (hdb : (x == ("__debug__" : Str)) = false := by decide) (hda : (a == ("__debug__" : Str)) = false := by decide)
    (he : backTo pos (starEach [e] X.env) = (false, eval e X.env) :: backTo pos (starEach [] X.env) := by rfl) (hpl : (backTo pos (starEach [e] X.env)).any (·.1) = false := by rfl) (hst : starEach [e] X.env = (false, eval e X.env) :: starEach [] X.env := by rfl) :
    DE X Z (.Call (.Name x p) [e] [⟨some "key", .Lambda params (.Tuple [.Call (.Name "abs" p1) [.Name a p2] [] p3, .UnaryOp .USub (.Name a p4) p5] j p6) scope lpos, kpos⟩] pos) (dMinKL ta) := by
  subst hq0
  refine ⟨⟨fun pins s σ H Q I ⟨B, G, ρ, n, Qd, env, q, k0⟩ => ?_⟩⟩
  refine wpAny_Call_Name_kw (ld_blt I hg hm hv ?_ hn hdb)
  refine PyProof.Rows.callWith_kw (thn ((pa_cons ha.pe pa_nil hst).run pos pins s σ H (fun vs H1 => ∃ v d n1 G1, vs = [v] ∧ (∃ ns : List Int, d = .lst (ns.map .int) ∧ 0 < ns.length ∧ ∀ m, m ∈ ns → (∀ y, y ∈ ns → nearer m y) → Qd (.int m) n1) ∧ Ext B.F G H G1 H1 ∧ Wd B.F G1 H1 n1 ∧ Rep X.K B.F G1 v d) I
      ⟨B, G, ρ, n, _, env, q, fun d n1 v H1 G1 q1 x1 w1 r1 => ⟨v, d, n1, G1, rfl, q1, x1, w1, r1⟩⟩) fun us s1 ⟨vs, H1, I1, rvs, v, d, n1, G1, ev, ⟨ns, ed, hne, hq⟩, x1, w1, r1⟩ => ?_) he hpl rfl rfl
  subst ev
  subst ed
  show wpAny _ _ (evalAll [do let v ← eval (.Lambda params _ scope lpos) X.env; standAt pos; pure v]) _ _ s1
  refine wpAny_evalAll_cons (wpAny_bind (lam_make3 I1 M (fun p hp => (w1.tb p hp).1) hdef (fun y hy e => absurd e (L.free y hy)) fun f c' pm ctv H2 s2 I2 made T2 hf fn ffr hc => wpAny_bind (wpAny_standAt (wpAny_pure (wpAny_evalAll_nil ?_)))))
  cases r1 with | @lst q1 xs _ g1 rl =>
  obtain rfl := Vals.ref1 rvs
  obtain ⟨xm, w2⟩ := made_ext w1 (List.mem_map.mpr ⟨_, M.mem, rfl⟩) made T2
  show wpAny _ _ (call (.builtin "min") [.ref q1] [(Str.ofString "key", .ref f)]) _ _ _
  obtain rfl := repL_ints rl
  refine min_near I2 (SqL.of (w2.sub _ _ g1)) hne L hma hr hf hc (fun u => hbind c' _ pm ctv u) hda fun m h1 h2 => ?_
  exact ((k0.trans x1).trans xm).here (hq m h1 h2) w2 (.int m)
end Lm

namespace Dw
open PySem PySem.Spec PyProof.Rows L2 Fw
section
variable {X : Cx} {pins : List (Addr × Obj)} {σ : L2.St} {H : Hp} {s : Shared}
theorem vals_ints {h : Heap} : ∀ {ns : List Int} {its : List Value}, Vals (ns.map V.int) its → PySem.W.HoldAll h its ns
  | [], _, .nil => .nil
  | n :: r, _, .cons h t => by
    obtain ⟨u, rfl⟩ := h
    exact .cons (PySem.W.holds_int _ _) (vals_ints t)
/-! x[k] += e -/
variable {Z : ZX} {K : PySem.W.Frag}
end
end Dw

/-! Dw90: list(range(a, b)). Own work. -/
namespace Dw
open PySem PySem.Spec PyProof.Rows L2 Fw
section
variable {X : Cx} {Z : ZX} {ta tb : TD} {p p2 pos pos2 : Pos} {a b : Expr} {K : PySem.W.Frag}
end
end Dw

/-! Dw91: dict(x) of a dict of one's own; defs that hand back two dicts of their own. Own work. -/
namespace Dw
open PySem PySem.Spec PyProof.Rows L2 Fw
section
variable {X : Cx} {Z : ZX} {K : PySem.W.Frag} {pos p p2 : Pos} {x : Str}
end
/-! two dicts of one's own, as a tuple -/
abbrev QPP := List (Key × D) → List (Key × D) → Nat → Prop
def KOPP (K : PySem.W.Frag) (F : Option Addr) (G H : Hp) (Qd : QPP) (Q : VK) : Prop := ∀ es fs n' t a b kvs lvs H' G', Qd es fs n' → Ext F G H G' H' → Wd F G' H' n' → a ≠ b → H a = none → H b = none → H' a = some (.dK kvs) → H' b = some (.dK lvs) → G' a = none → G' b = none → RepK K F G' kvs es → RepK K F G' lvs fs → SqT K H' t [.ref a, .ref b] → Q (.ref t) H'
abbrev SpPP := List D → Nat → QPP → Prop
abbrev TQP := QPP → Ro → Nat → Prop
section
variable {X : Cx} {Z : ZX} {st : Stmt} {rest a : List Stmt} {tz : TZ} {u v : TQP} {pos p1 p2 p3 : Pos}
end
section
variable {g : Bool} {P : Program} {w : World} {K : PySem.W.Frag} {mg : Str → Option Value} {base : Heap} {CX : CXT} {k : Nat} {f : Addr} {fd : FuncData} {ps N : List Str} {spo : SpPP}
  {x qual : Str} {params : Arguments} {body : List Stmt} {scope : Scope} {dvs : List V} {kws : List (Str × V)}
end
structure CalPP (X : Cx) (Z : ZX) (x : Str) (n : Nat) (so : List D → Nat → QPP → Prop) : Prop where
  ex : ∃ a : Addr, X.mg x = some (.ref a) ∧ PySem.W.keepIn X.K (.ref a) = true ∧ ∀ (pins : List (Addr × Obj)) (s : Shared) (σ : L2.St) (H : Hp) (us : List Value) (vs : List V) (Q : VK) B G ρ m ds Qd, Inv X pins σ H s → Vals vs us → vs.length = n →
    EnvD X.K Z B G H σ ρ m → RepL X.K B.F G vs ds → so ds m Qd → KOPP X.K B.F G H Qd Q → wpAny (model X.prog X.w) X.A (call (.ref a) us []) (EP X pins σ Q) X.xe s
theorem KOPP.trans {K : PySem.W.Frag} {F : Option Addr} {G H G1 H1 : Hp} {Qd : QPP} {Q : VK} (k : KOPP K F G H Qd Q) (x : Ext F G H G1 H1) : KOPP K F G1 H1 Qd Q := fun es fs n' t a b kvs lvs H' G' h x' w ne ha hb h1 h2 h3 h4 r1 r2 ht => k es fs n' t a b kvs lvs H' G' h (x.trans x') w ne (free0 x ha) (free0 x hb) h1 h2 h3 h4 r1 r2 ht
section
variable {g : Bool} {X : Cx} {Z : ZX} {x : Str} {n k : Nat} {gD : List D → List D → List D} {spk : SpPP} {so : List D → Nat → QPP → Prop} {e : Expr} {es : List Expr} {tl : TL} {p pos : Pos}
end
end Dw

/-! Dw92: for z in (x, y): z[k1], z[k2] = e: two dicts of one's own changed by a third name. Own work. -/
namespace Dw
open PySem PySem.Spec PyProof.Rows L2 Fw
section
variable {X : Cx} {Z : ZX}
end
end Dw

set_option exponentiation.threshold 5000
theorem Fw.szl {n : Nat} (h : n ≤ 60) : n ≤ PySem.sizeLine := Nat.le_trans h (by decide)
local macro_rules | `(tactic| walk_at "dd") => `(tactic| repeat' (first
  | (intro hc; first | (exact absurd hc (by decide)) | (cases hc; done) | (subst hc) | skip)
  | assumption
  | refine And.intro ?_ ?_
  | rfl
  | exact Fw.szl (by simp)
  | refine ⟨_, rfl, ?_⟩
  | refine ⟨_, _, rfl, ?_⟩
  | refine ⟨_, _, _, rfl, ?_⟩
  | refine ⟨_, _, _, _, rfl, ?_⟩
  | refine ⟨_, _, _, _, _, rfl, ?_⟩
  | refine ⟨_, _, _, _, _, _, rfl, ?_⟩
  | refine ⟨_, _, _, _, _, _, _, rfl, ?_⟩
  | refine ⟨_, _, _, _, _, _, _, _, rfl, ?_⟩
  | refine ⟨_, _, _, _, _, _, _, _, _, rfl, ?_⟩
  | refine ⟨_, _, _, _, _, _, _, _, _, _, rfl, ?_⟩
  | fail))
namespace Lw
open PySem PySem.Spec PyProof.Rows L2 Fw Dw
def top (i : Nat) : Stmt := PySem.Challenge.pw_formatwords_k28_refusals_and_their_field.main.body.getD i (.Pass ⟨0, 0, 0, 0⟩)
abbrev FnP (K : PySem.W.Frag) (x : Str) (st : Stmt) (f : Addr) (fd : FuncData) : Prop := FunD K x x (defArgs st) (defBody st) (defScope st) [] [] f fd
end Lw

/-! ### looks at data: lemmas -/
namespace Lw
open PySem PySem.Spec PyProof.Rows L2 Fw Dw
theorem brF {b : Bool} {p q : Prop} (h : b = false) (hq : q) : br b p q := ⟨fun z => absurd (h.symm.trans z) (by decide), fun _ => hq⟩
theorem brT {b : Bool} {p q : Prop} (h : b = true) (hp : p) : br b p q := ⟨fun _ => hp, fun z => absurd (h.symm.trans z) (by decide)⟩
def tyN : D → String
  | .non => "NoneType" | .bl _ => "bool" | .int _ => "int" | .str _ => "str" | .tup _ => "tuple" | .lst _ => "list" | .dct _ => "dict" | _ => ""
def Typed : D → Bool
  | .non => true | .bl _ => true | .int _ => true | .str _ => true | .tup _ => true | .lst _ => true | .dct _ => true | _ => false
theorem Typed.ty {K : PySem.W.Frag} {d : D} (h : Typed d = true) : TyD K d (.type (tyN d)) := by
  cases d <;> first | (cases h; done) | constructor
section
variable {K : PySem.W.Frag} {d : D} {n : Nat} {Q : QD}
end
end Lw

namespace Lw
open PySem PySem.Spec PyProof.Rows L2 Fw Dw
/-- all but what stands at p is as it was; the feed at p keeps its cells -/
structure But (p : Addr) (H H' : Hp) : Prop where
  to : ∀ b o, H b = some o → b ≠ p → H' b = some o
  cells : ∀ c a l, H p = some (.dK (fdK c a l)) → ∃ a' l', H' p = some (.dK (fdK c a' l'))
instance {p : Addr} {H H' : Hp} : CoeFun (But p H H') fun _ => ∀ b o, H b = some o → b ≠ p → H' b = some o := ⟨But.to⟩
theorem But.refl (p : Addr) (H : Hp) : But p H H := ⟨fun _ _ h _ => h, fun _ a l h => ⟨a, l, h⟩⟩
theorem But.trans {p : Addr} {H H1 H2 : Hp} (a : But p H H1) (b : But p H1 H2) : But p H H2 := ⟨fun c o h n => b c o (a c o h n) n, fun c x y h => by
  obtain ⟨x', y', h'⟩ := a.cells c x y h
  exact b.cells c x' y' h'⟩
theorem But.of {p : Addr} {H H' : Hp} (h : ∀ b o, H b = some o → H' b = some o) : But p H H' := ⟨fun b o e _ => h b o e, fun c a l e => ⟨a, l, h _ _ e⟩⟩
theorem But.new {p q : Addr} {o : HO} {H : Hp} (h : H q = none) : But p H (upd H q o) := But.of fun b u e => by
  rw [upd_ne (ne_of_none e h)]; exact e
theorem But.at {p c : Addr} {a l : Int} {o : HO} {H : Hp} (h : H p = some (.dK (fdK c a l))) (ho : ∃ a' l', o = .dK (fdK c a' l')) : But p H (upd H p o) := by
  refine ⟨fun b u e n => by rw [upd_ne n]; exact e, fun c' a' l' e => ?_⟩
  obtain ⟨x, y, rfl⟩ := ho
  rw [h] at e
  have z := congrArg (fun o => match o with | some (HO.dK ((_, V.ref c) :: _)) => c | _ => 0) e
  have z' : c = c' := z
  subst z'
  exact ⟨x, y, upd_same⟩
theorem Same.but {p : Addr} {H H' : Hp} (a : Same H H') : But p H H' := But.of a
/-- something of one's own, made behind the feed, is changed -/
theorem _root_.Dw.Feed.put {H0 H : Hp} {p D : Addr} {n m : Nat} {o : HO} (F : Feed H0 p n) (hD : H0 D = none) (B : But p H0 H) (F2 : Feed H p m) : Feed (upd H D o) p m := by
  obtain ⟨c, ns, a, l, h1, h2, _⟩ := F
  obtain ⟨c', ns', a', l', g1, g2, g3, g4, g5⟩ := F2
  obtain ⟨x, y, e⟩ := B.cells c a l h1
  rw [g1] at e
  have z := congrArg (fun o => match o with | some (HO.dK ((_, V.ref c) :: _)) => c | _ => 0) e
  have z' : c' = c := z
  subst z'
  exact ⟨c', ns', a', l', by rw [upd_ne (ne_of_none h1 hD)]; exact g1, by rw [upd_ne (ne_of_none h2 hD)]; exact g2, g3, g4, g5⟩
/-- .. and so all else is as it was -/
theorem But.put {H0 H : Hp} {p D : Addr} {o : HO} (B : But p H0 H) (hD : H0 D = none) (hp : ∃ u, H0 p = some u) : But p H0 (upd H D o) := by
  obtain ⟨u, hu⟩ := hp
  refine ⟨fun b v e n => by rw [upd_ne (ne_of_none e hD)]; exact B b v e n, fun c a l e => ?_⟩
  obtain ⟨a', l', z⟩ := B.cells c a l e
  exact ⟨a', l', by rw [upd_ne (ne_of_none hu hD)]; exact z⟩
theorem _root_.Dw.Feed.mono {H : Hp} {p : Addr} {n m : Nat} (f : Feed H p n) (h : n ≤ m) : Feed H p m := by
  obtain ⟨c, ns, a, l, h1, h2, h3, h4, h5⟩ := f
  exact ⟨c, ns, a, l, h1, h2, h3, by omega, h5⟩
theorem _root_.Dw.Feed.same {H H' : Hp} {p : Addr} {n : Nat} (f : Feed H p n) (s : Same H H') : Feed H' p n := by
  obtain ⟨c, ns, a, l, h1, h2, h3, h4, h5⟩ := f
  exact ⟨c, ns, a, l, s _ _ h1, s _ _ h2, h3, h4, h5⟩
theorem same_new {H : Hp} {q : Addr} {o : HO} (h : H q = none) : Same H (upd H q o) := fun b u e => by
  rw [upd_ne (ne_of_none e h)]; exact e
theorem _root_.Dw.Feed.new {H : Hp} {p q : Addr} {o : HO} {n : Nat} (f : Feed H p n) (h : H q = none) : Feed (upd H q o) p n := f.same (same_new h)
theorem _root_.Dw.Feed.ex {H : Hp} {p : Addr} {n : Nat} (f : Feed H p n) : ∃ kvs, H p = some (.dK kvs) := by
  obtain ⟨c, ns, a, l, h1, _⟩ := f
  exact ⟨_, h1⟩
theorem _root_.Dw.Feed.ne {H : Hp} {p q : Addr} {n : Nat} {o : HO} (f : Feed H p n) (h : H q = some o) (ho : ∀ kvs, o ≠ .dK kvs) : q ≠ p := by
  obtain ⟨kvs, e⟩ := f.ex
  exact ne_of h e (ho kvs)
theorem s_ne1 : ¬ ("cells" : Str) = "at" := by decide +kernel
theorem s_ne2 : ¬ ("cells" : Str) = "left" := by decide +kernel
theorem s_ne3 : ¬ ("at" : Str) = "left" := by decide +kernel
theorem k_ne1 : ¬ (Sum.inr (Str.ofString "cells") : Key) = Sum.inr (Str.ofString "at") := fun e => s_ne1 (Sum.inr.inj e)
theorem k_ne2 : ¬ (Sum.inr (Str.ofString "cells") : Key) = Sum.inr (Str.ofString "left") := fun e => s_ne2 (Sum.inr.inj e)
theorem k_ne3 : ¬ (Sum.inr (Str.ofString "at") : Key) = Sum.inr (Str.ofString "left") := fun e => s_ne3 (Sum.inr.inj e)
theorem v_cells (c : Addr) (a l : Int) : valV (fdK c a l) (Sum.inr "cells") = some (.ref c) := by
  unfold fdK; rw [valV_pos rfl]
theorem v_at (c : Addr) (a l : Int) : valV (fdK c a l) (Sum.inr "at") = some (.int a) := by
  unfold fdK; rw [valV_neg k_ne1, valV_pos rfl]
theorem v_left (c : Addr) (a l : Int) : valV (fdK c a l) (Sum.inr "left") = some (.int l) := by
  unfold fdK; rw [valV_neg k_ne2, valV_neg k_ne3, valV_pos rfl]
theorem p_at (c : Addr) (a l b : Int) : putK (fdK c a l) (Sum.inr "at") (.int b) = fdK c b l := by
  unfold putK fdK
  rw [if_pos (by simp)]
  simp [s_ne1, Ne.symm s_ne3]
theorem p_left (c : Addr) (a l b : Int) : putK (fdK c a l) (Sum.inr "left") (.int b) = fdK c a b := by
  unfold putK fdK
  rw [if_pos (by simp)]
  simp [s_ne2, s_ne3]
theorem fdK_len (c : Addr) (a l : Int) : (fdK c a l).length < sizeLine := by
  show 3 < sizeLine
  decide
/-- a draw: some number from 0 on, less than m -/
def spDraw : Sp := fun vs H Q _ => ∃ (p : Addr) (m : Int) (n : Nat), vs = [.ref p, .int m] ∧ 0 < m ∧ m < 2 ^ 200 ∧ Feed H p n ∧ n < 1000000000 ∧
  ∀ (r : Int) (H' : Hp), 0 ≤ r → r < m → Feed H' p (n + 1) → But p H H' → Q (.int r) H'
theorem dp_ints {K : PySem.W.Frag} {H : Hp} : ∀ ns : List Int, DpAll K H (ns.map V.int) (ns.map PyData.int)
  | [] => .nil
  | n :: r => .cons (.int n) (dp_ints r)
theorem lay_ints : ∀ ns : List Int, PyData.canLayAll0 (ns.map PyData.int) = true
  | [] => rfl
  | n :: r => by
    show (PyData.canLay0 (.int n) && PyData.canLayAll0 (r.map PyData.int)) = true
    rw [lay_ints r]; rfl
theorem depth_ints : ∀ ns : List Int, PyData.depthAll (ns.map PyData.int) = 0
  | [] => rfl
  | n :: r => by
    show max (PyData.depth (.int n)) (PyData.depthAll (r.map PyData.int)) = 0
    rw [depth_ints r]; rfl
theorem shaped_ints (ns : List Int) : SeqAt.shaped (.list (ns.map PyData.int)) = true := by
  show (PyData.canLayAll0 (ns.map PyData.int) && decide (PyData.depthAll (ns.map PyData.int) + 1 ≤ 64)) = true
  rw [lay_ints, depth_ints]; rfl
section
variable {P : Program} {w : World} {K : PySem.W.Frag} {mg : Str → Option Value} {base : Heap}
abbrev s_draw : Stmt := top 22
theorem sc__law_draw : FnScope ["_law_feed_here", "_law_amount", "_law_digit", "_law_spot", "_law_cell", "_law_mixed", "_law_turn"] ["_law_feed_here", "_law_amount"] (defScope s_draw) :=
  ⟨rfl, rfl, rfl, by decide +kernel, rfl, by decide +kernel,
    by decide +kernel⟩
theorem ok_draw {f : Addr} {fd : FuncData} (F : FnP K "_law_draw" s_draw f fd) (mg_len : mg "len" = none) (mg_abs : mg "abs" = none) (mg_range : mg "range" = none) :
    FnOk P w K mg base CX0 1 f fd ["_law_feed_here", "_law_amount"] spDraw := by
  refine F.ok sc__law_draw (fun vs H Q E h => ?_) (fun cdv A outer s H vs Q E hr h => ?_)
  · obtain ⟨p, m, n, rfl, _⟩ := h
    rfl
  · obtain ⟨p, m, n, rfl, hm, hm2, hF, hn, k⟩ := h
    have hu := hu_of hr
    have hmn : m.natAbs < 2 ^ 201 := by
      have h1 : (m.natAbs : Int) < ((2 ^ 201 : Nat) : Int) := by
        have e : ((2 ^ 201 : Nat) : Int) = 2 ^ 201 := by norm_cast
        rw [e]; omega
      exact Int.ofNat_lt.mp h1
    have hmw : ∀ i : Int, CDivW i m := fun i => ⟨hm, Nat.lt_of_lt_of_le (PySem.Flt.log2_lt_of (k := 201) (by decide) hmn) (by decide)⟩
    refine ⟨_, PSs.nox (pss_cons (ps_if (pt_cmpR op_gt (pe_dget hu (pv 0) pe_str (fun _ _ => rfl)) pe_int (nomark _))
    (pss_cons (ps_set (i := 2) sc__law_draw.nd rfl (Or.inl rfl) (pe_op op_mod (pe_dget hu (pv 0) pe_str (fun _ _ => rfl)) (pv 1)))
      (pss_cons (ps_dput hu (pv 0) pe_str (pe_op op_fdivW (pe_dget hu (pv 0) pe_str (fun _ _ => rfl)) (pv 1)) rfl)
      (pss_one (ps_ret (pv 2)))))
    pss_nil)
  (pss_cons (ps_set (i := 3) sc__law_draw.nd rfl (Or.inl rfl) (pe_dget hu (pv 0) pe_str (fun _ _ => rfl)))
  (pss_cons (ps_dput hu (pv 0) pe_str (pe_op op_add (pv 3) pe_int) rfl)
  (pss_cons (ps_set (i := 4) sc__law_draw.nd rfl (Or.inl rfl) (pe_op op_add (pe_op op_mul (pv 3) (pv 3)) pe_int))
  (C8.pss_cut (ps_if (pt_cmpR (op_neD hr.units) (pe_dget hu (pv 0) pe_str (fun _ _ => rfl)) (pe_lst pa_nil) (nomark _))
    (pss_one (ps_set (i := 4) sc__law_draw.nd rfl (Or.inl rfl) (pe_ix ix_list (pe_dget hu (pv 0) pe_str (fun _ _ => rfl)) (pe_op op_mod (pv 3) (pe_callB call_len_seq (by rfl) mg_len (by decide +kernel) (pa_cons (pe_dget hu (pv 0) pe_str (fun _ _ => rfl)) pa_nil))) (fun _ _ => rfl))))
    pss_nil)
  (C8.pss_cut (ps_if (PW.pt (pw_and (pt_cmpR op_lt (pv 3) (pe_callB call_len_seq (by rfl) mg_len (by decide +kernel) (pa_cons (pe_dget hu (pv 0) pe_str (fun _ _ => rfl)) pa_nil)) (nomark _)) (pw_and1 (pt_cmpR op_ge (pe_callB call_abs (by rfl) mg_abs (by decide +kernel) (pa_cons (pv 4) pa_nil)) (pe_op op_pow pe_int pe_int) (nomark _)))))
    (pss_cons (ps_dput hu (pv 0) pe_str (pe_op op_fdivW (pe_callB call_abs (by rfl) mg_abs (by decide +kernel) (pa_cons (pv 4) pa_nil)) (pv 1)) rfl)
      (pss_one (ps_ret (pe_op op_mod (pe_callB call_abs (by rfl) mg_abs (by decide +kernel) (pa_cons (pv 4) pa_nil)) (pv 1)))))
    pss_nil)
  (pss_cons (ps_set (i := 5) sc__law_draw.nd rfl (Or.inl rfl) (pe_op op_mod (pe_op op_mul (pe_op op_add (pe_op op_add (pe_op op_mod (pv 4) pe_int) (pe_op op_mul pe_int (pv 3))) pe_int) pe_int) pe_int))
  (pss_cons (ps_for PassesOwn.never rfl (pi_range1 (by rfl) mg_range (pa_cons pe_int pa_nil)) (pg_name (i := 6) sc__law_draw.nd rfl (.inl rfl))
    (pss_cons (ps_set (i := 5) sc__law_draw.nd rfl (Or.inl rfl) (pe_op op_add (pe_op op_add (pe_op op_add (pe_op op_mul (pv 5) (pv 5)) (pe_op op_mul pe_int (pv 5))) (pv 3)) (pv 6)))
      (pss_one (ps_set (i := 5) sc__law_draw.nd rfl (Or.inl rfl) (pe_op op_mod (pv 5) pe_int)))))
  (pss_one (ps_ret (pe_op op_mod (pe_op op_fdivW (pv 5) pe_int) (pv 1)))))))))))), ?_⟩
    obtain ⟨c, ns, a, l, h1, h2, ha, han, hl⟩ := hF
    have g1 : ∀ H1 : Hp, H1 p = some (.dK (fdK c a l)) → DGet H1 p (.str "left") (some (.int l)) := fun H1 e => by
      have z := DGet.k (k := Sum.inr "left") e; rw [v_left] at z; exact z
    have g2 : ∀ (H1 : Hp) (a l : Int), H1 p = some (.dK (fdK c a l)) → DGet H1 p (.str "at") (some (.int a)) := fun H1 a l e => by
      have z := DGet.k (k := Sum.inr "at") e; rw [v_at] at z; exact z
    have g3 : ∀ (H1 : Hp) (a l : Int), H1 p = some (.dK (fdK c a l)) → DGet H1 p (.str "cells") (some (.ref c)) := fun H1 a l e => by
      have z := DGet.k (k := Sum.inr "cells") e; rw [v_cells] at z; exact z
    have ncp : c ≠ p := ne_of h2 h1 (by intro z; cases z)
    -- left > 0
    refine ⟨_, rfl, p, _, rfl, g1 H h1, _, _, rfl, rfl, _, rfl, ?_⟩
    refine ite2 (fun _ => ?_) (fun _ => ?_)
    · refine ⟨_, rfl, p, _, rfl, g1 H h1, _, rfl, _, _, rfl, rfl, hm, ?_⟩
      refine ⟨_, rfl, p, _, rfl, g1 H h1, _, rfl, _, _, rfl, rfl, hmw _, _, rfl, p, _, rfl, DPut.k (k := Sum.inr "left") h1 (fdK_len _ _ _), ?_⟩
      refine ⟨_, rfl, ?_⟩
      refine k _ _ (Int.emod_nonneg _ (by omega)) (Int.emod_lt_of_pos _ hm) ⟨c, ns, a, l / m, ?_, ?_, ha, by omega, Int.ediv_nonneg hl (by omega)⟩ (But.at h1 ⟨_, _, by rw [p_left]⟩)
      · rw [upd_same, p_left]
      · rw [upd_ne ncp]; exact h2
    · -- at; at + 1
      refine ⟨_, rfl, p, _, rfl, g2 H a l h1, ?_⟩
      refine ⟨_, rfl, _, _, rfl, rfl, _, rfl, p, _, rfl, DPut.k (k := Sum.inr "at") h1 (fdK_len _ _ _), ?_⟩
      have e1 : upd H p (.dK (putK (fdK c a l) (Sum.inr "at") (.int (a + 1)))) = upd H p (.dK (fdK c (a + 1) l)) := by rw [p_at]
      rw [e1]
      generalize hH1 : upd H p (.dK (fdK c (a + 1) l)) = H1
      have i1 : H1 p = some (.dK (fdK c (a + 1) l)) := by rw [← hH1]; exact upd_same
      have i2 : H1 c = some (.lst (ns.map V.int)) := by rw [← hH1, upd_ne ncp]; exact h2
      have i3 : But p H H1 := by rw [← hH1]; exact But.at h1 ⟨_, _, rfl⟩
      refine ⟨_, rfl, _, rfl, _, _, rfl, rfl, .inl ⟨by omega, by omega⟩, _, _, rfl, rfl, ?_⟩
      -- behind the first if: some cell, the feed as it is but for a new list
      refine ⟨fun σ' H2 => ∃ z : Int, σ' = [some (.ref p), some (.int m), none, some (.int a), some (.int z), none, none] ∧ H2 p = some (.dK (fdK c (a + 1) l)) ∧ H2 c = some (.lst (ns.map V.int)) ∧ But p H H2, ?_, ?_⟩
      · refine ⟨_, rfl, p, _, rfl, g3 H1 _ _ i1, (by show 0 ≤ sizeLine; decide), fun q hq => ?_⟩
        have j1 := same_new (o := HO.lst []) hq _ _ i1
        have j2 := same_new (o := HO.lst []) hq _ _ i2
        have j3 : But p H (upd H1 q (.lst [])) := i3.trans (But.new hq)
        generalize hH2 : upd H1 q (.lst []) = H2 at j1 j2 j3 ⊢
        have jq : H2 q = some (.lst []) := by rw [← hH2]; exact upd_same
        refine ⟨_, _, .lst (SqL.of j2) (dp_ints ns), .lst (SqL.of jq) .nil, shaped_ints ns, rfl, _, rfl, ?_⟩
        cases ns with
        | nil =>
          refine iteF ?_
          exact ⟨_, rfl, j1, j2, j3⟩
        | cons n0 nr =>
          refine iteT ?_
          have hpos : (0 : Int) < (((n0 :: nr).map V.int).length : Int) := by simp
          have hlt := Int.emod_lt_of_pos a hpos
          have hge := Int.emod_nonneg a (Int.ne_of_gt hpos)
          obtain ⟨i, hi⟩ : ∃ i : Nat, a % (((n0 :: nr).map V.int).length : Int) = i := ⟨(a % (((n0 :: nr).map V.int).length : Int)).toNat, by omega⟩
          have hil : i < ((n0 :: nr).map V.int).length := by omega
          refine ⟨_, rfl, p, _, rfl, g3 H2 _ _ j1, _, rfl, _, rfl, p, _, rfl, g3 H2 _ _ j1, c, _, rfl, .inl (SqL.of j2), _, _, rfl, rfl, hpos, c, _, _, V.int ((n0 :: nr).getD i 0), rfl, rfl, SqL.of j2, ?_, ?_⟩
          · rw [hi]
            apply atI_nat
            rw [List.getElem?_map]
            rw [List.length_map] at hil
            rw [List.getD_eq_getElem?_getD, List.getElem?_eq_getElem hil]
            rfl
          · exact ⟨_, rfl, j1, j2, j3⟩
      · rintro σ' H2 ⟨z, rfl, j1, j2, j3⟩
        have fin : ∀ (r l' : Int) (H3 : Hp), 0 ≤ r → r < m → 0 ≤ l' → H3 p = some (.dK (fdK c (a + 1) l')) → H3 c = some (.lst (ns.map V.int)) → But p H H3 → Q (.int r) H3 := fun r l' H3 q1 q2 q3 q4 q5 q6 =>
          k r H3 q1 q2 ⟨c, ns, a + 1, l', q4, q5, by omega, by omega, q3⟩ q6
        refine ⟨fun σ' H2 => ∃ z : Int, σ' = [some (.ref p), some (.int m), none, some (.int a), some (.int z), none, none] ∧ H2 p = some (.dK (fdK c (a + 1) l)) ∧ H2 c = some (.lst (ns.map V.int)) ∧ But p H H2, ?_, ?_⟩
        · -- at < len(cells) and abs(cell) >= 10 ** 18
          refine ⟨_, rfl, _, rfl, p, _, rfl, g3 H2 _ _ j1, c, _, rfl, .inl (SqL.of j2), _, _, rfl, rfl, _, rfl, ?_⟩
          refine ite2 (fun _ => ?_) (fun _ => ?_)
          · refine ⟨_, rfl, _, rfl, _, _, rfl, rfl, ⟨by decide, by decide, by decide⟩, _, _, rfl, rfl, _, rfl, ?_⟩
            have habs : (0 : Int) ≤ (if z < 0 then -z else z) := by split <;> omega
            refine ite2 (fun _ => ?_) (fun _ => ?_)
            · refine ⟨_, rfl, _, rfl, _, rfl, _, _, rfl, rfl, hmw _, _, rfl, p, _, rfl, DPut.k (k := Sum.inr "left") j1 (fdK_len _ _ _), ?_⟩
              refine ⟨_, rfl, _, rfl, _, rfl, _, _, rfl, rfl, hm, ?_⟩
              refine fin _ ((if z < 0 then -z else z) / m) _ (Int.emod_nonneg _ (by omega)) (Int.emod_lt_of_pos _ hm) (Int.ediv_nonneg habs (by omega)) (by rw [upd_same, p_left]) (by rw [upd_ne ncp]; exact j2) (j3.trans (But.at j1 ⟨_, _, by rw [p_left]⟩))
            · exact ⟨z, rfl, j1, j2, j3⟩
          · exact ⟨z, rfl, j1, j2, j3⟩
        · rintro σ' H2 ⟨z, rfl, j1, j2, j3⟩
          -- the number that is mixed
          have w1 := Int.emod_nonneg z (show (4294967311 : Int) ≠ 0 by decide)
          have w2 := Int.emod_lt_of_pos z (show (0 : Int) < 4294967311 by decide)
          refine ⟨_, rfl, _, _, rfl, rfl, (by show (0 : Int) < 4294967311; decide), _, rfl, _, _, rfl, rfl, .inl ⟨by decide, by decide⟩, _, _, rfl, rfl, _, _, rfl, rfl, _, _, rfl, rfl, .inr ⟨by decide, by decide⟩, _, _, rfl, rfl, (by show (0 : Int) < 4294967311; decide), ?_⟩
          have inv := fun (b : Int) => Int.emod_nonneg b (show (4294967311 : Int) ≠ 0 by decide)
          have inv2 := fun (b : Int) => Int.emod_lt_of_pos b (show (0 : Int) < 4294967311 by decide)
          refine ⟨3, rfl, by decide, by decide, for_range (lo := 0) (n := 3) (fun i σ' H' => H' = H2 ∧ ∃ (y : Int) (v : Option V), 0 ≤ y ∧ y < 4294967311 ∧ σ' = [some (.ref p), some (.int m), none, some (.int a), some (.int z), some (.int y), v])
            ⟨rfl, _, none, inv _, inv2 _, rfl⟩ ?_ ?_⟩
          · rintro i σ' H' hi ⟨rfl, y, v, y0, y1, rfl⟩
            refine ⟨_, rfl, _, rfl, _, _, rfl, rfl, .inl ⟨by omega, by omega⟩, _, rfl, _, _, rfl, rfl, .inl ⟨by decide, by decide⟩, _, _, rfl, rfl, _, rfl, _, _, rfl, rfl, _, rfl, _, _, rfl, rfl, ?_⟩
            refine ⟨_, rfl, _, _, rfl, rfl, (by show (0 : Int) < 4294967311; decide), ?_⟩
            exact ⟨rfl, _, _, inv _, inv2 _, rfl⟩
          · rintro σ' H' ⟨rfl, y, v, y0, y1, rfl⟩
            refine ⟨_, rfl, _, _, rfl, rfl, ⟨by decide, by decide⟩, _, rfl, _, _, rfl, rfl, hm, ?_⟩
            exact fin _ _ _ (Int.emod_nonneg _ (by omega)) (Int.emod_lt_of_pos _ hm) hl j1 j2 j3
end
end Lw

/-! ### the feed is made -/
namespace Lw
open PySem PySem.Spec PyProof.Rows L2 Fw Dw
def spFeed (K : PySem.W.Frag) : Sp := fun vs H Q _ => ∃ (a : Addr) (ns : List Int), vs = [.ref a] ∧ SqL K H a (ns.map V.int) ∧ ns.length ≤ 63 ∧
  ∀ (p : Addr) (H' : Hp), H p = none → Same H H' → Feed H' p 0 → Q (.ref p) H'
theorem merge_fd (D : Addr) : mergeK [] [((Sum.inr (Str.ofString "cells") : Key), V.ref D), (Sum.inr (Str.ofString "at"), V.int 0), (Sum.inr (Str.ofString "left"), V.int 0)] = fdK D 0 0 := by
  simp [mergeK, putK, fdK, s_ne1, s_ne2, s_ne3]
theorem cut_ints (ns : List Int) (lo hi : Option Int) : ∃ ms : List Int, cutV (ns.map V.int) lo hi = ms.map V.int := by
  unfold cutV
  rw [List.length_map]
  exact ⟨(ns.drop _).take _, by rw [List.map_take, List.map_drop]⟩
theorem take_succ_of {α : Type} {l : List α} {i : Nat} {x : α} (h : l[i]? = some x) : l.take (i + 1) = l.take i ++ [x] := by
  rw [List.take_succ, h]; rfl
section
variable {P : Program} {w : World} {K : PySem.W.Frag} {mg : Str → Option Value} {base : Heap}
abbrev s_feed : Stmt := top 21
theorem sc__law_feed : FnScope ["_law_script", "_law_cell"] ["_law_script"] (defScope s_feed) :=
  ⟨rfl, rfl, rfl, by decide +kernel, rfl, by decide +kernel,
    by decide +kernel⟩
theorem ok_feed {f : Addr} {fd : FuncData} (F : FnP K "_law_feed" s_feed f fd) : FnOk P w K mg base CX0 1 f fd ["_law_script"] (spFeed K) := by
  refine F.ok sc__law_feed (fun vs H Q E h => ?_) (fun cdv A outer s H vs Q E hr h => ?_)
  · obtain ⟨a, ns, rfl, _⟩ := h
    rfl
  · obtain ⟨a, ns, rfl, hS, hlen, k⟩ := h
    refine ⟨_, PSs.nox (pss_one (ps_ret (pe_disp (pps_cons pe_str (pe_lc (own := [("_law_cell", 1)]) (g := gName 1) (tt := tYes) (by rfl) sc__law_feed.nd (pi_list (pe_slice sl_list (pv 0) po_none (po_some pe_int))) (blkOk_by (own := [("_law_cell", 1)]) (N := ["_law_script", "_law_cell"]) (sc := defScope (top 21)) (by decide +kernel)) (fun _ _ _ _ _ => (pg_name (i := 1) sc__law_feed.nd rfl (.inl rfl))) (fun _ _ _ _ _ => pts_nil) (fun _ _ _ _ _ => (pv 1))) (pps_cons pe_str pe_int (pps_cons pe_str pe_int pps_nil))) (by rfl) (by rfl) (fun z => by cases z) (by decide)))), ?_⟩
    intro p hp
    obtain ⟨ms, hms⟩ := cut_ints ns none (some 63)
    have s1 : Same H (upd H p (.dK [])) := same_new hp
    refine ⟨_, rfl, _, rfl, a, _, rfl, s1.seq hS, fun q hq => ⟨q, rfl, ⟨_, SqL.of upd_same⟩, fun D hD => ?_⟩⟩
    rw [hms] at hD ⊢
    have n1 : p ≠ q := ne_of_none upd_same hq
    have n2 : q ≠ D := ne_of_none upd_same hD
    have n3 : p ≠ D := ne_of_none (by rw [upd_ne n1]; exact upd_same) hD
    have hD0 : H D = none := (s1.trans (same_new hq)).free hD
    refine lc_list (K := K) (a := q) (xs := ms.map V.int) (fun i H' => Same H H' ∧ H' q = some (.lst (ms.map V.int)) ∧ H' p = some (.dK []) ∧ H' D = some (.lst ((ms.map V.int).take i)))
      ⟨(s1.trans (same_new hq)).trans (same_new hD), ?_, ?_, upd_same⟩ (fun i H' _ h => SqL.of h.2.1) ?_ ?_
    · rw [upd_ne n2, upd_same]
    · rw [upd_ne n3, upd_ne n1, upd_same]
    · rintro i x H' hx ⟨k1, k2, k3, k4⟩
      refine ⟨rfl, ?_⟩
      refine ⟨_, rfl, _, k4, ?_, ?_, ?_, ?_, ?_⟩
      · rw [List.length_take]
        have h1 := cutV_length (ns.map V.int) none (some 63)
        rw [hms, List.length_map, List.length_map] at h1
        have h2 : 1000 < sizeLine := by decide
        rw [List.length_map]
        omega
      · intro b o e
        rw [upd_ne (ne_of_none e hD0)]; exact k1 b o e
      · rw [upd_ne n2]; exact k2
      · rw [upd_ne n3]; exact k3
      · rw [upd_same, take_succ_of hx]
    · rintro H' ⟨k1, k2, k3, k4⟩
      refine ⟨k3, [(Sum.inr (Str.ofString "cells"), .ref D), (Sum.inr (Str.ofString "at"), .int 0), (Sum.inr (Str.ofString "left"), .int 0)], rfl, by show 3 ≤ 15; decide, ?_⟩
      rw [merge_fd]
      refine k p _ hp (fun b o e => by rw [upd_ne (ne_of_none e hp)]; exact k1 b o e) ⟨D, ms, 0, 0, upd_same, ?_, by decide, by decide, by decide⟩
      rw [upd_ne n3.symm, k4, List.take_length]
end
end Lw

/-! ### by data -/
namespace Lw
open PySem PySem.Spec PyProof.Rows L2 Fw Dw
/-- a draw: any number from 0 on, less than m -/
def spDrawD : SpD := fun ds n Q _ => ∃ m, ds = [.feed, .int m] ∧ 0 < m ∧ m < 2 ^ 200 ∧ n < 1000000000 ∧ ∀ r, 0 ≤ r → r < m → Q (.int r) (n + 1)
theorem But.ext {F : Option Addr} {p : Addr} {G H H' : Hp} (f : F = some p) (b : But p H H') (hp : ∃ c a l, H p = some (.dK (fdK c a l))) : Ext F G H G H' := by
  subst f
  refine ⟨fun c o h n _ => b.to c o h (fun z => n (by rw [z])), fun q c a l e h => ?_, fun c h => ?_, Same.refl _, fun _ h _ => h⟩
  · cases e
    exact b.cells c a l h
  · by_cases z : c = p
    · subst z
      obtain ⟨c', a, l, e⟩ := hp
      obtain ⟨a', l', e'⟩ := b.cells c' a l e
      rw [e']; exact fun y => nomatch y
    · cases q : H c with
      | none => exact absurd q h
      | some o => rw [b.to c o q z]; exact fun y => nomatch y
section
variable {P : Program} {w : World} {K : PySem.W.Frag} {mg : Str → Option Value} {base : Heap} {f : Addr} {fd : FuncData}
theorem drawD {k : Nat} {ps : List Str} (F : FnOk P w K mg base CX0 k f fd ps spDraw) : FnX true P w K mg base CX0 k f fd ps (liftSp K spDrawD) := by
  refine FnX.of (F.imp fun vs H Q E h => ?_)
  obtain ⟨F', G, n, ds, Qd, Ed, w, r, ⟨m, rfl, h1, h2, h3, q⟩, kd, _⟩ := h
  cases r with | cons r1 r => cases r with | cons r2 r =>
  cases r
  cases r2
  cases r1 with | feed hp =>
  obtain ⟨fd', g⟩ := w.fd _ hp
  refine ⟨_, m, n, rfl, h1, h2, fd', h3, fun r H' h4 h5 f2 b => ?_⟩
  obtain ⟨c, ns, a, l, e, _⟩ := fd'
  have x := But.ext (G := G) hp b ⟨c, a, l, e⟩
  refine kd (.int r) (n + 1) _ H' G (q r h4 h5) x ⟨fun b' o hb => ?_, fun p' f' => ?_, w.tb.step (fun _ _ _ z => z) fun b' o t z => b.to b' o z (ne_to e nto_k t z)⟩ (.int r)
  · exact b.to b' o (w.sub b' o hb) (fun z => by
      rw [z, g] at hb; cases hb)
  · rw [hp] at f'
    cases f'
    exact ⟨f2, g⟩
def spLaw (K : PySem.W.Frag) : Sp := fun vs H Q _ => ∃ (a : Addr) (ns : List Int), vs = [.ref a] ∧ (∀ p ∈ Tb, H p.1 = some (.tbl #[])) ∧ SqL K H a (ns.map V.int) ∧ ns.length ≤ 63 ∧ ∀ H', Q (.bl true) H'
/-- what is shared at the law's begin: all but the tables -/
def noTb (H : Hp) : Hp := fun b => if b ∈ Tb.map (·.1) then none else H b
theorem noTb_sub {H : Hp} : Same (noTb H) H := fun b o e => by
  unfold noTb at e
  by_cases c : b ∈ Tb.map (·.1)
  · rw [if_pos c] at e; cases e
  · rw [if_neg c] at e; exact e
theorem noTb_seq {K : PySem.W.Frag} {H : Hp} {a : Addr} {xs : List V} (hT : ∀ p ∈ Tb, H p.1 = some (.tbl #[])) (h : SqL K H a xs) : SqL K (noTb H) a xs := by
  have k : ∀ o, H a = some o → (∀ ps, o ≠ .tbl ps) → noTb H a = some o := fun o e n => by
    unfold noTb
    rw [if_neg fun z => ?_]
    · exact e
    · obtain ⟨p, hp, ep⟩ := List.mem_map.mp z
      have := hT p hp
      rw [ep, e] at this
      cases this
      exact n _ rfl
  rcases h with (h | ⟨o, h⟩) | h
  · exact .inl (.inl (k _ h (by intro ps z; cases z)))
  · exact .inl (.inr ⟨o, k _ h (by intro ps z; cases z)⟩)
  · exact .inr h
/-- the law itself: a feed is made of the script, the rest by data -/
theorem law_fn {x qual x0 : Str} {params : Arguments} {st0 : Stmt} {rest : List Stmt} {scope : Scope} {dvs : List V} {kws : List (Str × V)} {N : List Str} {k : Nat} (F : FunD K x qual params (st0 :: rest) scope dvs kws f fd) (S : FnScope N [x0] scope) (hN : 2 ≤ N.length)
    (hb : ∀ (cdv : Value) (A : Around) (outer : List PySem.Env) (s : Shared) (H : Hp) (E : XK), A.guards = some [] → Room k (A.deeper (envOfC qual scope s.heap.objs.size f cdv)) →
      ∃ tz, PS (cxOf CX0 P w K mg base N qual scope f cdv A outer s H E) st0 (tAsg (tCall (spFeed K) [] E0 (tCons (tVar 0) tNil)) (gName 1)) ∧ DSs (cxOf CX0 P w K mg base N qual scope f cdv A outer s H E) zNo rest tz ∧
        ∀ ns : List Int, ns.length ≤ 63 → tz { nx := fun _ _ => False, rt := fun d _ => d = .bl true } (some (.d (.scr ns)) :: some (.d .feed) :: List.replicate (N.length - 2) none) 0) :
    FnG P w K mg base CX0 (k + 1) f fd [x0] (spLaw K) := by
  refine (fnX (g := true) F S (fun vs H Q E h => ?_) fun cdv A outer s H vs Q E hg hr h => ?_).toG
  · obtain ⟨a, ns, rfl, _⟩ := h; rfl
  · obtain ⟨a, ns, rfl, hT, hS, hl, q⟩ := h
    obtain ⟨tz, h1, h2, h3⟩ := hb cdv A outer s H E (hg rfl) hr
    refine ⟨_, pss_cons h1 h2.pss, _, rfl, a, ns, rfl, hS, hl, fun p H' hp sm hf => ?_⟩
    have hst : (L2.start N [V.ref a]).set 1 (some (V.ref p)) = some (V.ref a) :: some (V.ref p) :: List.replicate (N.length - 2) none := by
      unfold L2.start
      obtain ⟨m, e⟩ : ∃ m, N.length = m + 2 := ⟨N.length - 2, by omega⟩
      rw [e]
      rfl
    show dls K zNo tz _ ((L2.start N [V.ref a]).set 1 (some (V.ref p))) H'
    rw [hst]
    have w : Wd (some p) (noTb H) H' 0 := ⟨noTb_sub.trans sm, fun p' e => by cases e; exact ⟨hf, noTb_sub.free hp⟩, fun p' hp' => ⟨LamX.TabS.nil (sm _ _ (hT p' hp')), by
      unfold noTb
      rw [if_pos (List.mem_map.mpr ⟨p', hp', rfl⟩)]⟩⟩
    have hS := noTb_seq hT hS
    refine ⟨⟨some p, noTb H, H'⟩, noTb H, _, 0, _, ⟨⟨w, Ext.refl, by simp, fun i x hi => ?_, fun i s1 o1 hi ho => ?_, fun i j s1 s2 o1 o2 q1 q2 _ hi ho => ?_⟩, zNo_ok⟩, h3 ns hl, ⟨fun _ _ _ _ _ _ h => h.elim, fun _ _ _ _ _ _ h => h.elim, fun _ _ _ _ _ _ h => h.elim, fun G2 H2 n v d h x w r => ?_, fun _ _ _ _ _ _ h => h.elim, fun _ _ _ _ _ _ h => h.elim⟩⟩
    · match i, hi with
      | 0, hi => cases hi; exact ⟨_, rfl, .scr hS⟩
      | 1, hi => cases hi; exact ⟨_, rfl, .feed rfl⟩
      | i + 2, hi =>
        rw [List.getElem?_cons_succ, List.getElem?_cons_succ, List.getElem?_replicate] at hi
        split at hi <;> cases hi
    · match i, hi with
      | 0, hi => cases hi; cases ho
      | 1, hi => cases hi; cases ho
      | i + 2, hi =>
        rw [List.getElem?_cons_succ, List.getElem?_cons_succ, List.getElem?_replicate] at hi
        split at hi <;> cases hi
    · match i, hi with
      | 0, hi => cases hi; cases ho
      | 1, hi => cases hi; cases ho
      | i + 2, hi =>
        rw [List.getElem?_cons_succ, List.getElem?_cons_succ, List.getElem?_replicate] at hi
        split at hi <;> cases hi
    · have e : d = .bl true := h
      subst e
      cases r
      exact q H2
end
end Lw

/-! ### draws: what is picked -/
namespace Lw
open PySem PySem.Spec PyProof.Rows L2 Fw Dw
abbrev DDraw (P : Program) (w : World) (K : PySem.W.Frag) (mg : Str → Option Value) (base : Heap) : Prop := Fb true P w K mg base CX0 1 "_law_draw" 2 [] (fun ds _ => ds) (liftSp K spDrawD)
theorem at_some {l : List D} {i : Int} (h0 : 0 ≤ i) (h1 : i < l.length) : ∃ d, d ∈ l ∧ atI l i = some d := by
  obtain ⟨j, rfl⟩ : ∃ j : Nat, i = j := ⟨i.toNat, by omega⟩
  have hj : j < l.length := by omega
  exact ⟨l[j], List.getElem_mem hj, atI_nat (List.getElem?_eq_getElem hj)⟩
/-- a list's item at a drawn place -/
theorem ix_pick {l : List D} {i : Int} {n : Nat} {Q : QD} (h0 : 0 ≤ i) (h1 : i < l.length) (h : ∀ d ∈ l, Q d n) : dIx (.lst l) (.int i) n Q := by
  obtain ⟨d, hd, e⟩ := at_some h0 h1
  show (match atI l i with | some d => Q d n | none => False)
  rw [e]
  exact h d hd
/-- a draw -/
theorem draw_of {m : Int} {n : Nat} {Q : QD} {E : XD} (h1 : 0 < m) (h2 : m < 2 ^ 200) (h3 : n < 1000000000) (q : ∀ r, 0 ≤ r → r < m → Q (.int r) (n + 1)) : spDrawD [.feed, .int m] n Q E := ⟨m, rfl, h1, h2, h3, q⟩
end Lw

/-! ### own exceptions as values: made by places or by names, over any base -/
namespace Xk
open PySem Builtin Builtin.ObjectAttr
/-- a base B of exceptions: made by newId (O's), begun by initId -/
structure BaseX (B O newId initId : String) (bm : List Value) : Prop where
  owned : newId.dropRight 8 = O
  dotted : newId.endsWith ".__new__" = true
  code : entryFor table newId = some Builtin.«BaseException.__new__»
  calm : newId.startsWith "lifetime." = false
  nSplit : splitId newId = some (O, "__new__")
  nKind : builtinKind newId = some .builtinFn
  nRow : Manifest.signature? newId = some ⟨.any, O, O, .cls, [⟨"args", .varPos, false⟩, ⟨"kwargs", .varKw, false⟩]⟩
  cO : bm.contains (.type O) = true
  cB : bm.contains (.type B) = true
  cA : bm.contains (.type "AttributeError") = false
  cN : bm.contains (.type "NameError") = false
  alike : Manifest.canonical newId = Manifest.canonical "BaseException.__new__"
  oStar : (O != "*") = true
  bStar : (B != "*") = true
  iPlain : plainId initId = true
  iCode : entryFor table initId = some Builtin.«BaseException.__init__»
  iSplit : splitId initId = some (B, "__init__")
  iKind : builtinKind initId = some .slot
  iRow : Manifest.signature? initId = some ⟨.positional, "*", B, .self, [⟨"args", .varPos, false⟩]⟩
theorem BaseX.of {B newId initId : String} {bm : List Value} (F : ExcBaseFacts B newId initId bm) : BaseX B B newId initId bm :=
  ⟨F.owner, F.ends, F.entry, F.quiet, F.newSplit, F.newKind, F.newRow, F.hasB, F.hasB, F.noAttr, F.noName, F.canon, F.noStar, F.noStar, F.init.plain, F.initEntry, F.initSplit, F.initKind, F.initRow⟩
abbrev keM : List Value := [.type "KeyError", .type "LookupError", .type "Exception", .type "BaseException", .type "object"]
theorem base_key : BaseX "KeyError" "LookupError" "LookupError.__new__" "KeyError.__init__" keM where
  owned := by decide +kernel
  dotted := by decide +kernel
  code := PyProof.Rows.excClass_KeyError.newEntry
  calm := by decide +kernel
  nSplit := by kernel_rfl
  nKind := by kernel_rfl
  nRow := by kernel_rfl
  cO := by decide +kernel
  cB := by decide +kernel
  cA := by decide +kernel
  cN := by decide +kernel
  alike := by decide +kernel
  oStar := by decide +kernel
  bStar := by decide +kernel
  iPlain := PyProof.Rows.excClass_KeyError.init.plain
  iCode := PyProof.Rows.excClass_KeyError.initEntry
  iSplit := by kernel_rfl
  iKind := by kernel_rfl
  iRow := by kernel_rfl
section
variable {M : Model} {A : Around} {E : Value → Shared → Prop} {hp : Heap} {gs : Array GenState} {dr : Drawn} {tk : Nat} {os : OsState}
variable {cn cq : Str} {C ns : Addr} {bs bm : List Value} {hd : Bool} {sl : List Str} {sb : List Value} {ab : Bool} {col : Option Bool} {dd : Option Addr} {z0 z1 z2 z3 z5 : Option Value} {B O newId initId : String}
theorem see_new (T : BaseX B O newId initId bm) {rest : List Value} {kws : List (Str × Value)} {Q : Unit → Shared → Prop} (lies : hp.get? C = some (excClassObj cn cq C ns bs bm hd sl sb ab col dd z0 z1 z2 z3 z5 newId)) (fin : Q () ⟨hp, gs, dr, tk, os⟩) :
    wpAny M A (checkBuiltinCall newId ⟨.ref C :: rest, kws⟩) Q E ⟨hp, gs, dr, tk, os⟩ := by
  have up : (Value.ref C :: bm).contains (.type O) = true := by rw [List.contains_cons, T.cO, Bool.or_true]
  have st := T.oStar
  simp only [checkBuiltinCall, T.nKind, T.nSplit, T.nRow]
  repeat (first | refine wpAny_loadPart_at lies ?_ | (refine wpAny_isSubtype_exc lies ?_; rw [up]) | refine wpAny_staticBase_exc lies ?_ | refine wpAny_madeBy_exc lies ?_ | (simp only [bne_self_eq_false, Bool.false_eq_true, if_false]) | wp_step)
  exact fin
theorem see_init (T : BaseX B O newId initId bm) {x : Addr} {ob : Obj} {rest : List Value} {Q : Unit → Shared → Prop} (lies : hp.get? C = some (excClassObj cn cq C ns bs bm hd sl sb ab col dd z0 z1 z2 z3 z5 newId)) (at_ : hp.get? x = some ob) (of : ob.cls = .ref C) (fin : Q () ⟨hp, gs, dr, tk, os⟩) :
    wpAny M A (checkBuiltinCall initId ⟨.ref x :: rest, []⟩) Q E ⟨hp, gs, dr, tk, os⟩ := by
  have up : (Value.ref C :: bm).contains (.type B) = true := by rw [List.contains_cons, T.cB, Bool.or_true]
  have st := T.bStar
  simp only [checkBuiltinCall, T.iKind, T.iSplit, T.iRow]
  repeat (first | (with_reducible refine wpAny_loadPart_at at_ ?_; rw [of]) | with_reducible refine wpAny_loadPart_at lies ?_ | (with_reducible refine wpAny_isSubtype_exc lies ?_; rw [up]) | wp_step)
  refine wpAny_onRaise ?_
  have ok : ∀ (a b : String) (n : Nat), Bind.check ⟨.positional, "*", B, .self, [⟨"args", .varPos, false⟩]⟩ a b n (List.map (fun y => y.fst) ({ pos := Value.ref x :: rest } : Args).kw) = pure () := fun a b n => check_star_args _ _ _ _ _ _
  rw [ok]
  exact wpAny_pure fin
end
section
variable {prog : Program} {w : World} {A : Around} {E : Value → Shared → Prop} {R : Result → Shared → Prop} {hp : Heap} {gs : Array GenState} {dr : Drawn} {tk : Nat} {os : OsState}
variable {cn cq : Str} {C ns : Addr} {bs bm : List Value} {hd : Bool} {sl : List Str} {sb : List Value} {ab : Bool} {col : Option Bool} {dd : Option Addr} {z0 z1 z2 z3 z5 : Option Value} {B O newId initId : String}
theorem run_new (T : BaseX B O newId initId bm) {rest : List Value} {kws : List (Str × Value)} (lies : hp.get? C = some (excClassObj cn cq C ns bs bm hd sl sb ab col dd z0 z1 z2 z3 z5 newId)) (few : rest.length ≤ sizeLine)
    (fin : R (.ok (.ret (.ref (hp.objs.size + 1)))) ⟨(hp.push (W.kdv_tup rest)).push (HandSPX.excO C hp.objs.size), gs, dr, tk, os⟩) : codeAny (model prog w) A (.builtin newId ⟨.ref C :: rest, kws⟩) R ⟨hp, gs, dr, tk, os⟩ := by
  have de := T.dotted
  have up : (Value.ref C :: bm).contains (.type O) = true := by rw [List.contains_cons, T.cO, Bool.or_true]
  have u1 : (Value.ref C :: bm).contains (.type "AttributeError") = false := by rw [List.contains_cons, T.cA]; rfl
  have u2 : (Value.ref C :: bm).contains (.type "NameError") = false := by rw [List.contains_cons, T.cN]; rfl
  refine codeAny_builtinAt T.code ?_
  unfold Builtin.«BaseException.__new__»
  refine wpAt_bind ?_
  show wpAt _ _ _ (stack >>= _) _ _ _
  refine wpAt_bind (wpAt_stack fun p below => wpAt_of_wpAny ?_)
  wp_walk
  refine wpAt_of_wpAny ?_
  rw [T.owned]
  repeat (first | with_reducible refine wpAny_madeHere_exc T.alike lies ?_ | with_reducible refine wpAny_loadPart_at lies ?_ | (with_reducible refine wpAny_isSubtype_exc lies ?_; first | rw [up] | rw [u1] | rw [u2]) | wp_step)
  show R _ _
  rw [Heap.size_push]
  exact fin
theorem run_type (T : BaseX B O newId initId bm) {rest : List Value} {kws : List (Str × Value)} {fI : Addr} {Q : Fin → Shared → Prop} (lies : hp.get? C = some (excClassObj cn cq C ns bs bm hd sl sb ab col dd z0 z1 z2 z3 z5 newId)) (few : rest.length ≤ sizeLine)
    (ini : W.Looks (model prog w) hp (typeLookup (.ref C) "__init__") (some (.ref fI))) (bnd : ∀ self, W.Looks (model prog w) hp (bindSpecial (.ref fI) self) (.ref fI, [self]))
    (go : codeAny (model prog w) A (.call (.ref fI) ⟨.ref (hp.objs.size + 1) :: rest, kws⟩) (fun r s' => match r with | .ok (.ret v) => v = .none ∧ Q (.done (.ret (.ref (hp.objs.size + 1)))) s' | .ok _ => False | .error e => E e s')
      ⟨(hp.push (W.kdv_tup rest)).push (HandSPX.excO C hp.objs.size), gs, dr, tk, os⟩) : wpAny (model prog w) A (Builtin.«type.__call__» ⟨.ref C :: rest, kws⟩) Q E ⟨hp, gs, dr, tk, os⟩ := by
  repeat (first | with_reducible refine wpAny_loadPart_at lies ?_ | with_reducible refine wpAny_madeBy_exc lies ?_ | wp_step)
  refine codeAny_call_builtin_code (Code.quiet_builtin _ T.calm) (see_new T lies ?_)
  refine run_new T lies few ?_
  show wpAny _ _ _ _ _ _
  have old : ∀ b o, hp.get? b = some o → ((hp.push (W.kdv_tup rest)).push (HandSPX.excO C hp.objs.size)).get? b = some o := fun b o z => Heap.get?_push_of_some _ (Heap.get?_push_of_some _ z)
  have lies2 := old _ _ lies
  have new : ((hp.push (W.kdv_tup rest)).push (HandSPX.excO C hp.objs.size)).get? (hp.objs.size + 1) = some (HandSPX.excO C hp.objs.size) := by heap_get
  have self_ : (Value.ref C :: bm).contains (.ref C) = true := by simp
  have ini2 := ini.keeps old
  have bnd2 := (bnd (.ref (hp.objs.size + 1))).keeps old
  unfold isInstance
  repeat (first | with_reducible refine wpAny_loadPart_at new ?_ | (with_reducible refine wpAny_isSubtype_exc lies2 ?_; rw [self_]) | wp_step)
  show wpAny _ _ (typeLookup (.ref C) _) _ _ _
  refine ini2.at ?_
  refine wpAny_holding (wpAny_bind (bnd2.at ?_))
  refine wpAny_bind (wpAny_call (codeAny_mono go fun r s' z => ?_))
  rcases r with e | (v | _ | _ | _) <;> first | exact z | exact z.elim | skip
  obtain ⟨rfl, z⟩ := z
  first
    | exact wpAny_pure (wpAny_pure z)
    | (wp_walk; exact z)
/-- C(..), by places and names -/
theorem run_call (T : BaseX B O newId initId bm) {rest : List Value} {kws : List (Str × Value)} {fI : Addr} (lies : hp.get? C = some (excClassObj cn cq C ns bs bm hd sl sb ab col dd z0 z1 z2 z3 z5 newId)) (few : rest.length ≤ sizeLine)
    (ini : W.Looks (model prog w) hp (typeLookup (.ref C) "__init__") (some (.ref fI))) (bnd : ∀ self, W.Looks (model prog w) hp (bindSpecial (.ref fI) self) (.ref fI, [self]))
    (go : codeAny (model prog w) (A.under (.builtin "type.__call__" ⟨.ref C :: rest, kws⟩)) (.call (.ref fI) ⟨.ref (hp.objs.size + 1) :: rest, kws⟩) (W.InitBack (hp.objs.size + 1) R) ⟨(hp.push (W.kdv_tup rest)).push (HandSPX.excO C hp.objs.size), gs, dr, tk, os⟩) :
    codeAny (model prog w) A (.call (.ref C) ⟨rest, kws⟩) R ⟨hp, gs, dr, tk, os⟩ := by
  have l1 := tc_lookup
  have l2 := tc_bind (.ref C)
  have ty : (⟨hp, gs, dr, tk, os⟩ : Shared).TypeIs (.ref C) "type" := ⟨_, lies, rfl⟩
  refine codeAny_of_tree ?_
  show wpAny _ _ (callAny (.ref C) _) _ _ _
  repeat (any_goals (first | assumption | with_reducible refine wpAny_loadPart_at lies ?_ | wp_step))
  refine ⟨rfl, ?_⟩
  have typ : W.Looks (model prog w) hp (isInstance (.ref C) (.type "type")) true := by
    intro A Q E s k q
    obtain ⟨hp2, gs2, dr2, tk2, os2⟩ := s
    have lies3 := k _ _ lies
    have f3 := tc_sub
    unfold isInstance
    repeat (any_goals (first | assumption | with_reducible refine wpAny_loadPart_at lies3 ?_ | wp_step))
  refine codeAny_call_builtin_at (Code.quiet_builtin _ (by decide +kernel)) entry_typeCall (W.check_slot tc_kind tc_split typ (W.tc_args _ _ _) (run_type T lies few ini bnd ?_))
  refine codeAny_mono go fun r s' z => ?_
  rcases r with e | (v | _ | _ | _) <;> exact z
/-- B.__init__(x, ..) -/
theorem run_base (T : BaseX B O newId initId bm) {x t0 : Addr} {rest : List Value} (lies : hp.get? C = some (excClassObj cn cq C ns bs bm hd sl sb ab col dd z0 z1 z2 z3 z5 newId)) (at_ : hp.get? x = some (HandSPX.excO C t0)) (few : rest.length ≤ sizeLine)
    (fin : ∀ h' t1, (∀ b o, b ≠ x → hp.get? b = some o → h'.get? b = some o) → h'.get? x = some (HandSPX.excO C t1) → R (.ok (.ret .none)) ⟨h', gs, dr, tk, os⟩) : codeAny (model prog w) A (.call (.builtin initId) ⟨.ref x :: rest, []⟩) R ⟨hp, gs, dr, tk, os⟩ := by
  refine codeAny_call_builtin T.iPlain T.iCode (see_init T lies at_ rfl ?_)
  wp_walk
  refine fin _ hp.objs.size (fun b o ne z => ?_) ?_
  · rw [Heap.get?_update_other _ _ (Ne.symm ne)]
    exact Heap.get?_push_of_some _ z
  · rw [Heap.get?_update_self _ (Heap.get?_push_of_some _ at_) rfl]
    rfl
end
end Xk

/-! ### own exceptions over any base: their stores, their making as values -/
namespace Lw
open PySem PySem.Spec PyProof.Rows L2 Fw Dw
open Builtin Builtin.ObjectAttr
/-- such a base, and what a store asks of it -/
structure XB (B O newId initId : String) (bm : List Value) : Prop where
  T : Xk.BaseX B O newId initId bm
  ob : bm.contains (.type "object") = true
  pass : ∀ self : Value, refuseLoop self "__setattr__" bm = pure ()
theorem xb_of {B newId initId : String} {bm : List Value} (F : ExcBaseFacts B newId initId bm) (S : StoreFacts B bm "object.__setattr__" "object") : XB B B newId initId bm := ⟨.of F, S.hasOwner, S.passes⟩
theorem xb_key : XB "KeyError" "LookupError" "LookupError.__new__" "KeyError.__init__" Xk.keM := ⟨Xk.base_key, by decide +kernel, fun self => by kernel_rfl⟩
theorem xmro_pass {B O newId initId : String} {bm : List Value} (T : XB B O newId initId bm) (C : Addr) (self : Value) : refuseLoop self "__setattr__" (.ref C :: bm) = pure () := by
  rw [refuseLoop_ref]; exact T.pass self
theorem xmro_ob {B O newId initId : String} {bm : List Value} (T : XB B O newId initId bm) (C : Addr) : (Value.ref C :: bm).contains (.type "object") = true := by
  rw [List.contains_cons, T.ob, Bool.or_true]
section
variable {X : Cx} {pins : List (Addr × Obj)} {σ : L2.St} {H : Hp} {s : Shared} {a C dx : Addr} {f : Str} {y : V} {u : Value} {fs : List (Str × V)} {E : Value → Shared → Prop} {A : Around} {B O newId initId : String} {bm : List Value}
/-- self.f = y, the first store -/
theorem xput_first {Q : Unit → Shared → Prop} (T : XB B O newId initId bm) (O : OexB X.K C newId bm) (I : Inv X pins σ H s) (e : H a = some (exo a C none)) (hno : PySem.W.findIn X.K (.ref C) f = some none) (ry : RelV y u)
    (h : ∀ dx s', H dx = none → dx ≠ a → Inv X pins σ (upd (upd H dx (exd dx [(f, y)])) a (exo a C (some dx))) s' → Q () s') : wpAny (model X.prog X.w) A (setAttr (.ref a) f u) Q E s := by
  obtain ⟨nm, q, N, bs, sn, sub, ab, col, dd, k0, k1, k2, k3, k5, hC⟩ := O.cls
  have hcl : PySem.W.clsIn X.K C = some { name := nm, bases := bs, mro := .ref C :: bm, ns := N, qualname := q, hasDict := true, slotNames := sn, subclasses := sub, abstract := ab, collection := col, hasDel := false } := by
    unfold PySem.W.clsIn; rw [hC] <;> rfl
  obtain ⟨t1, ho⟩ := exo_at I.hok e
  obtain ⟨hp, g, dr, tk, os⟩ := s
  refine PySem.W.set_plain I.kIn (ox := { cls := .ref C, dict := none, data := .fields #[.ref t1, .none, .none, .none, .bool false, .none] }) (od := none) ⟨ho, rfl, rfl, trivial⟩ O.sa ?_
  refine osa_first I.kIn ho hcl (xmro_pass T C) rfl (xmro_ob T C) rfl hno ?_
  intro h' tk' dx k dn dne hx hn
  have hnd : H dx = none := I.hok.fresh dn
  have ndx : ∀ {b : Addr} {o : Obj}, hp.get? b = some o → b ≠ dx := fun {b o} q => Nat.ne_of_lt (Nat.lt_of_lt_of_le (Heap.lt_size q) dn)
  have na : ∀ {b : Addr}, H b = none → b ≠ a := fun {b} n z => by
    rw [z, e] at n; cases n
  have two : ∀ {b : Addr} {o : HO}, H b = some o → o ≠ exo a C none → upd (upd H dx (exd dx [(f, y)])) a (exo a C (some dx)) b = some o := fun {b o} q n => by
    have hb : b ≠ a := fun z => by
      rw [z, e] at q
      exact n (Option.some.inj q).symm
    rw [upd_ne hb, upd_ne (ne_of_none q hnd)]; exact q
  have U : Un X.fs [] H (upd (upd H dx (exd dx [(f, y)])) a (exo a C (some dx))) hp h' := by
    refine ⟨fun b o q n _ _ => k b o (na n) q, fun b o q n _ _ => ⟨o.slots, k b o (na n) q⟩, fun b o q n _ => ?_, fun b o q _ => ?_, fun b xs q => two q (Ne.symm exo_tup), fun b o v q => two q (Ne.symm exo_frz), fun b ps q => ⟨#[], ?_⟩⟩
    · rw [upd_ne (na n), upd_ne (ndx q)]; exact n
    · by_cases hb : b = a
      · exact ⟨_, by rw [hb]; exact hx⟩
      · exact ⟨o, k b o hb q⟩
    · have z := two q (Ne.symm exo_tbl)
      rw [z]; simp
  refine h dx _ hnd dne (I.un (t' := tk') U fun b o q => ?_)
  by_cases hb : b = a
  · subst hb
    rw [upd_same] at q; cases q
    exact exo_ok hx
  · rw [upd_ne hb] at q
    by_cases hd : b = dx
    · subst hd
      rw [upd_same] at q; cases q
      exact exd_ok hn (relO_put (fs := []) ry fun g => True.intro)
    · rw [upd_ne hd] at q
      refine (I.hok b o q).stay (fun c v hc z => k c v ?_ z) (fun c hc => two hc (Ne.symm exo_own)) fun c xs hc => two hc (Ne.symm exo_tup)
      rcases hc with hc | hc
      · rw [hc]; exact hb
      · exact at_ne e hc exo_own
/-- self.f = y, a further store -/
theorem xput_next {Q : Unit → Shared → Prop} (T : XB B O newId initId bm) (O : OexB X.K C newId bm) (I : Inv X pins σ H s) (e : H a = some (exo a C (some dx))) (ed : H dx = some (exd dx fs)) (hl : fs.length ≤ 900) (hno : PySem.W.findIn X.K (.ref C) f = some none) (ry : RelV y u)
    (h : ∀ s', Inv X pins σ (upd H dx (exd dx ((f, y) :: fs))) s' → Q () s') : wpAny (model X.prog X.w) A (setAttr (.ref a) f u) Q E s := by
  obtain ⟨nm, q, N, bs, sn, sub, ab, col, dd, k0, k1, k2, k3, k5, hC⟩ := O.cls
  have hcl : PySem.W.clsIn X.K C = some { name := nm, bases := bs, mro := .ref C :: bm, ns := N, qualname := q, hasDict := true, slotNames := sn, subclasses := sub, abstract := ab, collection := col, hasDel := false } := by
    unfold PySem.W.clsIn; rw [hC] <;> rfl
  obtain ⟨t1, ho⟩ := exo_at I.hok e
  obtain ⟨mA, hns, rel⟩ := exd_at I.hok ed
  have hw := within_of rel
  obtain ⟨hp, g, dr, tk, os⟩ := s
  obtain ⟨oD, _, _, hoD, _, _⟩ := hns.count hw
  refine PySem.W.set_plain I.kIn (ox := { cls := .ref C, dict := some dx, data := .fields #[.ref t1, .none, .none, .none, .bool false, .none] }) (od := some oD) ⟨ho, rfl, rfl, hoD⟩ O.sa ?_
  refine osa_next I.kIn ho hns hw (by rw [List.length_map]; omega) hcl (xmro_pass T C) rfl (xmro_ob T C) rfl hno ?_
  intro h' tk' k hn
  have hd : ∃ o, h'.get? dx = some o := by
    obtain ⟨o, _, _, e', _⟩ := hn
    exact ⟨o, e'⟩
  exact h _ (I.write (t' := tk') (x := dx) (e := dx) (o := exd dx ((f, y) :: fs)) (by rw [ed]; exact True.intro) (.inl rfl) k hd (exd_ok hn (relO_put ry rel)))
/-- B.__init__(self, ..) -/
theorem xinit_up {us : List Value} {Q : Value → Shared → Prop} (T : XB B O newId initId bm) (O : OexB X.K C newId bm) (I : Inv X pins σ H s) (e : H a = some (exo a C none)) (hl : us.length ≤ sizeLine) (h : ∀ s', Inv X pins σ H s' → Q .none s') :
    wpAny (model X.prog X.w) A (call (.builtin initId) (.ref a :: us)) Q E s := by
  obtain ⟨nm, q, N, bs, sn, sub, ab, col, dd, k0, k1, k2, k3, k5, hC⟩ := O.cls
  obtain ⟨t1, ho⟩ := exo_at I.hok e
  obtain ⟨hp, g, dr, tk, os⟩ := s
  refine wpAny_call (Xk.run_base T.T (I.kIn _ _ hC) ho hl fun h' t2 k hx => ?_)
  have J := I.write (t' := tk) (x := a) (e := a) (o := exo a C none) (by rw [e]; exact True.intro) (.inl rfl) k ⟨_, hx⟩ (exo_ok hx)
  have eu : upd H a (exo a C none) = H := by
    funext b
    by_cases hb : b = a
    · rw [hb, upd_same, e]
    · rw [upd_ne hb]
  rw [eu] at J
  exact h _ J
end
section
variable {X : Cx} {o e : Expr} {es : List Expr} {to te : TE} {ta : TA} {f : Str} {p p' p1 p2 pos : Pos} {B O newId initId : String} {bm : List Value} {bs : Str}
theorem pe_up {pl : Sem Bool} (T : XB B O newId initId bm) (hg : Gl X bs) (hm : X.mg bs = none) (hv : bootBuiltins bs = some (.type B)) (ty : typeOf (.type B) = pure (.type "type"))
    (vV : PySem.W.findCls X.K (.type B) (.type "type") "__init__" = some (.val (.builtin initId))) (ha : PA X (e :: es) ta) (h1 : (bs == ("__debug__" : Str)) = false := by decide) (h2 : bs ≠ "__name__" := by decide)
    (ga : Manifest.isStub B = false := by decide +kernel) (hh : PySem.W.handedIn (.builtin initId) = true := by decide +kernel)
    (hc : eval (.Call (.Attribute (.Name bs p1) "__init__" p2) (e :: es) [] pos) X.env = (do
      let ov ← eval (.Name bs p1) X.env
      standAt p2.atName
      let (f, first) ← holding [ov] (getMethod ov "__init__" pl)
      callWith pos f first (backTo pos (starEach (e :: es) X.env)) (backToKw pos (keywordEach [] X.env))) := by rfl)
    (he : starEach (e :: es) X.env = (false, eval e X.env) :: starEach es X.env := by rfl) (hpl : (backTo pos (starEach es X.env)).any (·.1) = false := by rfl) :
    PE X (.Call (.Attribute (.Name bs p1) "__init__" p2) (e :: es) [] pos) (tUp X.K newId bm ta) := by
  refine ⟨fun pins s σ H Q I h => ?_⟩
  refine PySem.W.methodCall_KW (ld_blt I hg hm hv ?_ h2 h1) hc
  obtain ⟨m, fr⟩ := I.fr
  refine PySem.W.method_type fr I.ok.mod.kin ty ga vV hh ?_
  show wpAny _ _ (callWith pos (Value.builtin initId) [] (backTo pos (starEach (e :: es) X.env)) []) _ _ _
  refine PyProof.Rows.callWith_method1 (thn (ha.run pos pins _ σ H _ (I.tok _) h) fun us s1 z => ?_) he hpl
  obtain ⟨vs, H1, I1, r1, a, C, ws, ev, hl, O, ea, q⟩ := z
  subst ev
  cases r1 with
  | @cons _ u0 _ ur ra rw' =>
    obtain rfl : u0 = Value.ref a := ra
    have hlen : ur.length ≤ sizeLine := by
      rw [← Paired.length rw', sizeLine_eq]
      omega
    exact xinit_up T O I1 ea hlen fun s' J => ⟨.non, H1, J, rfl, q⟩
theorem ps_put (T : XB B O newId initId bm) (ho : PE X o to) (he : PE X e te) (hs : swapsWith e (some (.Attribute o f p')) pos.line X.env = pure false := by rfl) : PS X (.Assign [.Attribute o f p'] e pos) (tPut X.K newId bm f to te) := by
  refine ⟨fun pins s σ H D I h => ?_⟩
  refine plainObj_wpAny_Assign_Attribute (thn (he.run pins s σ H _ I h) fun v s1 z1 => ?_) hs
  obtain ⟨y, H1, I1, r1, q1⟩ := z1
  refine thn (ho.run pins s1 σ H1 _ I1 q1) fun u s2 z2 => ?_
  obtain ⟨x, H2, I2, r2, a, C, rfl, O, hno, q⟩ := z2
  cases r2
  rcases q with ⟨ea, q⟩ | ⟨dx, fs, ea, ed, hl, q⟩
  · exact xput_first T O I2 ea hno r1 fun dx s' n ne J => ⟨σ, _, J, q dx n ne⟩
  · exact xput_next T O I2 ea ed hl hno r1 fun s' J => ⟨σ, _, J, q⟩
end
/-- __init__ that keeps its arguments, in order -/
def spIniN (C : Addr) (fns : List Str) : Sp := fun vs H Q _ => ∃ (a : Addr) (ws : List V), vs = .ref a :: ws ∧ ws.length = fns.length ∧ H a = some (exo a C none) ∧ ∀ dx, H dx = none → dx ≠ a → Q .non (upd (upd H dx (exd dx (fns.zip ws).reverse)) a (exo a C (some dx)))
theorem put_swap {H : Hp} {a dx : Addr} {A B E : HO} (h : dx ≠ a) : upd (upd (upd H dx A) a E) dx B = upd (upd H dx B) a E := by
  funext b
  by_cases c : b = dx
  · subst c
    rw [upd_same, upd_ne h, upd_same]
  · rw [upd_ne c]
    by_cases c2 : b = a
    · subst c2; rw [upd_same, upd_same]
    · rw [upd_ne c2, upd_ne c2, upd_ne c, upd_ne c]
/-- a further field -/
theorem put_more {K : PySem.W.Frag} {C a dx : Addr} {newId : String} {bm : List Value} {H : Hp} {f : Str} {y : V} {fs : List (Str × V)} {σ : L2.St} {D : Ends} (O : OexB K C newId bm) (no : PySem.W.findIn K (.ref C) f = some none) (hn : dx ≠ a) (few : fs.length ≤ 900)
    (q : D.nx σ (upd (upd H dx (exd dx ((f, y) :: fs))) a (exo a C (some dx)))) :
    ∃ a' C' : Addr, V.ref a = .ref a' ∧ OexB K C' newId bm ∧ PySem.W.findIn K (.ref C') f = some none ∧ ((upd (upd H dx (exd dx fs)) a (exo a C (some dx)) a' = some (exo a' C' none) ∧ ∀ dx', upd (upd H dx (exd dx fs)) a (exo a C (some dx)) dx' = none → dx' ≠ a' → D.nx σ (upd (upd (upd (upd H dx (exd dx fs)) a (exo a C (some dx))) dx' (exd dx' [(f, y)])) a' (exo a' C' (some dx')))) ∨
      ∃ (dx' : Addr) (fs' : List (Str × V)), upd (upd H dx (exd dx fs)) a (exo a C (some dx)) a' = some (exo a' C' (some dx')) ∧ upd (upd H dx (exd dx fs)) a (exo a C (some dx)) dx' = some (exd dx' fs') ∧ fs'.length ≤ 900 ∧ D.nx σ (upd (upd (upd H dx (exd dx fs)) a (exo a C (some dx))) dx' (exd dx' ((f, y) :: fs')))) :=
  ⟨a, C, rfl, O, no, .inr ⟨dx, fs, upd_same, by rw [upd_ne hn, upd_same], few, by rw [put_swap hn]; exact q⟩⟩
/-- an own exception class, its __init__ keeps its arguments under these names -/
structure Eb (P : Program) (w : World) (K : PySem.W.Frag) (mg : Str → Option Value) (base : Heap) (k : Nat) (x : Str) (C : Addr) (n : Nat) (ks : List Str) (gD : List D → List D → List D) (fns : List Str) : Prop where
  ex : ∃ (B O newId initId : String) (bm : List Value) (fI : Addr) (fd : FuncData) (ps : List Str) (g' : List Value → List Value → List Value) (gV : List V → List V → List V), XB B O newId initId bm ∧ OexB K C newId bm ∧ PySem.W.findIn K (.ref C) "__init__" = some (some (.ref fI)) ∧ PySem.W.typeIn K (.ref fI) = some (.type "function") ∧
    FnOk P w K mg base CX0 k fI fd ps (spIniN C fns) ∧ mg x = some (.ref C) ∧ KBn K fd ps (n + 1) ks g' gV ∧ ∀ F G a vs ds zs es, vs.length = n → zs.length = ks.length → RepL K F G vs ds → RepL K F G zs es → ∃ ws, gV (V.ref a :: vs) zs = V.ref a :: ws ∧ RepL K F G ws (gD ds es)
def sdEx (C : Addr) (gD : List D → List D → List D) (fns : List Str) : List D → List D → Nat → Ro → QD → Prop := fun ds es n _ Q => (gD ds es).length = fns.length ∧ ds.length ≤ 900 ∧ Q (.exc C (fns.zip (gD ds es)).reverse) n
theorem RepF.append {K : PySem.W.Frag} {F : Option Addr} {G : Hp} : ∀ {vs ws : List (Str × V)} {ds es : List (Str × D)}, RepF K F G vs ds → RepF K F G ws es → RepF K F G (vs ++ ws) (ds ++ es)
  | _, _, _, _, .nil, s => s
  | _, _, _, _, .cons h r, s => .cons h (RepF.append r s)
theorem repF_zip {K : PySem.W.Frag} {F : Option Addr} {G : Hp} : ∀ {fns : List Str} {vs : List V} {ds : List D}, RepL K F G vs ds → RepF K F G (fns.zip vs).reverse (fns.zip ds).reverse
  | [], _, _, _ => by simp only [List.zip_nil_left, List.reverse_nil]; exact .nil
  | _ :: _, _, _, .nil => by simp only [List.zip_nil_right, List.reverse_nil]; exact .nil
  | f :: r, _, _, .cons h t => by
    simp only [List.zip_cons_cons, List.reverse_cons]
    exact RepF.append (repF_zip t) (.cons h .nil)
/-- a new exception and its dict -/
theorem exc_done {K : PySem.W.Frag} {F : Option Addr} {G H : Hp} {Qd : QD} {Q : VK} {n : Nat} {a dx C : Addr} {fs : List (Str × V)} {ds : List (Str × D)} (kd : KD K F G H Qd Q) (w : Wd F G H n) (ha : H a = none) (hd : H dx = none) (ne : dx ≠ a) (r : RepF K F G fs ds) (q : Qd (.exc C ds) n) :
    Q (.ref a) (upd (upd H dx (.xd fs)) a (ExK a (.ref C) (some dx))) := by
  have h1 : upd H dx (.xd fs) a = none := by rw [upd_ne (Ne.symm ne)]; exact ha
  have g0 : G dx = none := w.free hd
  have g1 : upd G dx (.xd fs) a = none := by rw [upd_ne (Ne.symm ne)]; exact w.free ha
  have s1 : Same G (upd (upd G dx (.xd fs)) a (ExK a (.ref C) (some dx))) := Same.trans (new_to g0) (new_to g1)
  refine kd (.exc C ds) n (.ref a) _ (upd (upd G dx (.xd fs)) a (ExK a (.ref C) (some dx))) q ((Ext.share hd g0).trans (Ext.share h1 g1)) ((w.share hd).share h1) (.exc ⟨upd_same, .inr ⟨dx, rfl, ?_⟩⟩ (r.mono s1))
  rw [upd_ne ne, upd_same]
theorem Eb.cal {X : Cx} {Z : ZX} {x : Str} {n k : Nat} {C : Addr} {ks : List Str} {gD : List D → List D → List D} {fns : List Str} (D : Eb X.prog X.w X.K X.mg X.base k x C n ks gD fns) (hr : Room (k + 1) X.A) : Cal X Z x n ks (sdEx C gD fns) := by
  obtain ⟨B, O, newId, initId, bm, fI, fd, ps, g', gV, T, Ox, iC, tI, F1, hm, hb, rel⟩ := D.ex
  refine ⟨C, hm, Ox.kC, fun pins s σ H us ws vs zs Q Bx G ρ m ds es Qd I r rz l1 l2 env rd re q kd => ?_⟩
  obtain ⟨q1, q2, q⟩ := q
  obtain ⟨nm, qq, N, bs, sn, sub, ab, col, dd, k0, k1, k2, k3, k5, hC⟩ := Ox.cls
  obtain ⟨hp, g, dr, tk, os⟩ := s
  have hsz : hp.objs.size ≤ hp.objs.size + 1 := Nat.le_succ _
  have fa : H (hp.objs.size + 1) = none := I.hok.fresh hsz
  generalize hG : (hp.push (PySem.W.kdv_tup us)).push (HandSPX.excO C hp.objs.size) = G1
  have kk : ∀ b o, hp.get? b = some o → G1.get? b = some o := fun b o e => by rw [← hG]; exact Heap.get?_push_of_some _ (Heap.get?_push_of_some _ e)
  have hget : G1.get? (hp.objs.size + 1) = some (HandSPX.excO C hp.objs.size) := by rw [← hG]; heap_get
  have I2 : Inv X pins σ (upd H (hp.objs.size + 1) (exo (hp.objs.size + 1) C none)) ⟨G1, g, dr, tk, os⟩ :=
    I.laid (t' := tk) (a := hp.objs.size + 1) (o := exo (hp.objs.size + 1) C none) (h' := G1) kk hsz (exo_ok hget)
  obtain ⟨wv, e1, r1⟩ := rel Bx.F G (hp.objs.size + 1) vs ds zs es l1 l2 rd re
  have r0 : Vals (V.ref (hp.objs.size + 1) :: vs) (Value.ref (hp.objs.size + 1) :: us) := .cons rfl r
  have n1 : (Value.ref (hp.objs.size + 1) :: us).length = n + 1 := by rw [List.length_cons, ← r.length, l1]
  have hus : us.length ≤ sizeLine := by
    rw [← r.length, rd.length, sizeLine_eq]; omega
  have sp : spIniN C fns (gV (V.ref (hp.objs.size + 1) :: vs) zs) (upd H (hp.objs.size + 1) (exo (hp.objs.size + 1) C none))
      (fun v H2 => v = .non ∧ ∃ dx, H dx = none ∧ dx ≠ hp.objs.size + 1 ∧ H2 = upd (upd (upd H (hp.objs.size + 1) (exo (hp.objs.size + 1) C none)) dx (exd dx (fns.zip wv).reverse)) (hp.objs.size + 1) (exo (hp.objs.size + 1) C (some dx))) (fun _ _ _ => False) :=
    ⟨_, wv, e1, by rw [r1.length, q1], upd_same, fun dx h1 h2 => ⟨rfl, dx, by rw [upd_ne h2] at h1; exact h1, h2, rfl⟩⟩
  have call := F1.run _ X.stack _ _ ⟨Value.ref (hp.objs.size + 1) :: us, ks.zip ws⟩ (g' (Value.ref (hp.objs.size + 1) :: us) ws) _ _ (fun _ _ _ => False) (hr.make C us (ks.zip ws)) (I2.env0.make C us (ks.zip ws)) (hb.to _ (Value.ref (hp.objs.size + 1) :: us) ws I2.kIn n1 (rz.length.symm.trans l2)) (hb.rel r0 rz) sp
  refine wpAny_call (Xk.run_call T.T (I.kIn _ _ hC) hus (PySem.W.looks_findIn I.kIn iC) (fun self => PySem.W.bind_fn I.kIn self tI) ?_)
  rw [hG]
  refine codeAny_mono call fun r s' z => ?_
  rcases r with er | (_ | _ | _ | u)
  · exact pass0 pins σ _ _ er s' I2 z
  all_goals first | exact False.elim z | skip
  obtain ⟨v, H2, os2, bare2, un2, hok2, rv, ev, dx, hd, ne, e2⟩ := z
  subst ev
  obtain ⟨h2, g2, d2, t2, os'⟩ := s'
  have ea : H2 (hp.objs.size + 1) = some (exo (hp.objs.size + 1) C (some dx)) := by rw [e2, upd_same]
  have ed : H2 dx = some (exd dx (fns.zip wv).reverse) := by rw [e2, upd_ne ne, upd_same]
  obtain ⟨t0, G2, J, kG, ge, hoe, na⟩ := mk_end0 (d2 := d2) (t2 := t2) I hsz kk un2 hok2 os2 bare2 ea ed hd
  have J2 := J.laidN (t' := t2) (o := ExK (hp.objs.size + 1) (.ref C) (some dx)) kG ge na (exK_ok hoe ⟨rfl, rfl⟩ rfl)
  have eH : upd (upd (del H2 (hp.objs.size + 1)) dx (.xd (fns.zip wv).reverse)) (hp.objs.size + 1) (ExK (hp.objs.size + 1) (.ref C) (some dx)) = upd (upd H dx (.xd (fns.zip wv).reverse)) (hp.objs.size + 1) (ExK (hp.objs.size + 1) (.ref C) (some dx)) := by
    funext b
    by_cases c : b = hp.objs.size + 1
    · subst c; rw [upd_same, upd_same]
    · rw [upd_ne c, upd_ne c]
      by_cases c2 : b = dx
      · subst c2; rw [upd_same, upd_same]
      · rw [upd_ne c2, upd_ne c2, del_ne c, e2, upd_ne c, upd_ne c2, upd_ne c]
  rw [eH] at J2
  exact ⟨rv, V.ref (hp.objs.size + 1), _, J2, rfl, exc_done kd env.w fa hd ne (repF_zip r1) q⟩
/-- .. without __init__ -/
structure Eb0 (K : PySem.W.Frag) (mg : Str → Option Value) (x : Str) (C : Addr) : Prop where
  R : Rz0 K mg x C
theorem Eb0.cal {X : Cx} {Z : ZX} {x : Str} {C : Addr} (D : Eb0 X.K X.mg x C) : Cal X Z x 0 [] (fun _ _ n _ Q => Q (.exc C []) n) := by
  obtain ⟨B, newId, initId, bm, F, q⟩ := D.R.ex
  refine ⟨C, D.R.gC, D.R.kC, fun pins s σ H us ws vs zs Q Bx G ρ m ds es Qd I r rz l1 l2 env rd re hq kd => ?_⟩
  have e1 : us = [] := List.length_eq_zero_iff.mp (r.length.symm.trans l1)
  subst e1
  rw [List.zip_nil_left]
  obtain ⟨hp, g, d, t, os⟩ := s
  obtain ⟨bm', N, nm, qn, bs, hdct, sn, sub, ab, col, dd, k0, k1, k2, k3, k5, mN, hC, hN, hni, T⟩ := exc_obj I.kIn q
  refine wpAny_call_exc_subT F T hC hN hni (fun h' a hm => ?_) (by show 0 ≤ sizeLine; omega)
  have hn : H a = none := I.hok.gone hm.new
  obtain ⟨t2, ht, _, _⟩ := hm.there
  have J := I.laidN (t' := t) (o := ExK a (.ref C) none) hm.keeps hm.new hn (exK_ok ht ⟨rfl, rfl⟩ rfl)
  refine ⟨.ref a, _, J, rfl, ?_⟩
  have gn := env.w.free hn
  exact kd (.exc C []) m (.ref a) _ (upd G a (ExK a (.ref C) none)) hq (Ext.share hn gn) (env.w.share hn) (.exc ⟨upd_same, .inl ⟨rfl, rfl⟩⟩ .nil)
end Lw

/-! ### the __init__s of the refusals -/
namespace Lw
open PySem PySem.Spec PyProof.Rows L2 Fw Dw
/-- what such a class says of itself -/
structure OwnN (K : PySem.W.Frag) (C fI : Addr) (B newId initId : String) (bm : List Value) (fns : List Str) : Prop where
  O : OexB K C newId bm
  k : ExcK K C
  iC : PySem.W.findIn K (.ref C) "__init__" = some (some (.ref fI))
  tI : PySem.W.typeIn K (.ref fI) = some (.type "function")
  no : ∀ f ∈ fns, PySem.W.findIn K (.ref C) f = some none
  up : PySem.W.findCls K (.type B) (.type "type") "__init__" = some (.val (.builtin initId))
def ownNB (K : PySem.W.Frag) (C fI : Addr) (B newId initId : String) (bm : List Value) (fns : List Str) : Bool :=
  oexB K C newId bm && excKB K C && decide (PySem.W.findIn K (.ref C) "__init__" = some (some (.ref fI))) && decide (PySem.W.typeIn K (.ref fI) = some (.type "function")) && fns.all (fun f => decide (PySem.W.findIn K (.ref C) f = some none)) &&
    (match PySem.W.findCls K (.type B) (.type "type") "__init__" with | some (.val (.builtin n)) => n == initId | _ => false)
theorem ownNB_ok {K : PySem.W.Frag} {C fI : Addr} {B newId initId : String} {bm : List Value} {fns : List Str} (h : ownNB K C fI B newId initId bm fns = true) : OwnN K C fI B newId initId bm fns := by
  unfold ownNB at h
  simp only [Bool.and_eq_true, decide_eq_true_eq, List.all_eq_true] at h
  obtain ⟨⟨⟨⟨⟨h1, h2⟩, h3⟩, h4⟩, h5⟩, h6⟩ := h
  refine ⟨oexB_ok h1, excKB_ok h2, h3, h4, h5, ?_⟩
  split at h6
  · rename_i n e
    rw [e, eq_of_beq h6]
  · cases h6
section
variable {P : Program} {w : World} {K : PySem.W.Frag} {mg : Str → Option Value} {base : Heap}
abbrev s_NoDigitsI : Stmt := inClass (top 1) 0
theorem sc_NoDigits___init__ : FnScope ["self", "at"] ["self", "at"] (defScope s_NoDigitsI) :=
  ⟨rfl, rfl, rfl, by decide +kernel, rfl, by decide +kernel,
    by decide +kernel⟩
theorem ok_NoDigits_init {C f : Addr} {fd : FuncData} (F : FunD K "__init__" "NoDigits.__init__" (defArgs s_NoDigitsI) (defBody s_NoDigitsI) (defScope s_NoDigitsI) [] [] f fd) (W : OwnN K C f "ValueError" "ValueError.__new__" "ValueError.__init__" [.type "ValueError", .type "Exception", .type "BaseException", .type "object"] ["at"])
    (mg_ValueError : mg "ValueError" = none) : FnOk P w K mg base CX0 1 f fd ["self", "at"] (spIniN C ["at"]) := by
  have T := xb_of PySem.F.excBase_ValueError PySem.F.store_ValueError
  have ty : typeOf (.type "ValueError") = pure (.type "type") := by kernel_rfl
  have up := W.up
  refine F.ok sc_NoDigits___init__ (fun vs H Q E h => ?_) (fun cdv A outer s H vs Q E hr h => ?_)
  · obtain ⟨a, ws, rfl, hl, _⟩ := h
    rw [List.length_cons, hl]; rfl
  · obtain ⟨a, ws, rfl, hl, ha, k⟩ := h
    match ws, hl, k with
    | [v0], _, k =>
    refine ⟨_, PSs.nox (pss_cons (ps_expr (pe_up T rfl mg_ValueError (by decide +kernel) ty up (pa_cons (pv 0) (pa_cons pe_str pa_nil))))
  (pss_one (ps_put T (pv 0) (pv 1)))), ?_⟩
    refine ⟨_, rfl, a, C, [_], rfl, by decide, W.O, ha, ?_⟩
    exact ⟨_, rfl, _, rfl, a, C, rfl, W.O, (W.no _ (by simp)), .inl ⟨ha, fun dx hd hn => k dx hd hn⟩⟩
abbrev s_NoWordI : Stmt := inClass (top 2) 0
theorem sc_NoWord___init__ : FnScope ["self", "field"] ["self", "field"] (defScope s_NoWordI) :=
  ⟨rfl, rfl, rfl, by decide +kernel, rfl, by decide +kernel,
    by decide +kernel⟩
theorem ok_NoWord_init {C f : Addr} {fd : FuncData} (F : FunD K "__init__" "NoWord.__init__" (defArgs s_NoWordI) (defBody s_NoWordI) (defScope s_NoWordI) [] [] f fd) (W : OwnN K C f "ValueError" "ValueError.__new__" "ValueError.__init__" [.type "ValueError", .type "Exception", .type "BaseException", .type "object"] ["field"])
    (mg_ValueError : mg "ValueError" = none) : FnOk P w K mg base CX0 1 f fd ["self", "field"] (spIniN C ["field"]) := by
  have T := xb_of PySem.F.excBase_ValueError PySem.F.store_ValueError
  have ty : typeOf (.type "ValueError") = pure (.type "type") := by kernel_rfl
  have up := W.up
  refine F.ok sc_NoWord___init__ (fun vs H Q E h => ?_) (fun cdv A outer s H vs Q E hr h => ?_)
  · obtain ⟨a, ws, rfl, hl, _⟩ := h
    rw [List.length_cons, hl]; rfl
  · obtain ⟨a, ws, rfl, hl, ha, k⟩ := h
    match ws, hl, k with
    | [v0], _, k =>
    refine ⟨_, PSs.nox (pss_cons (ps_expr (pe_up T rfl mg_ValueError (by decide +kernel) ty up (pa_cons (pv 0) (pa_cons pe_str pa_nil))))
  (pss_one (ps_put T (pv 0) (pv 1)))), ?_⟩
    refine ⟨_, rfl, a, C, [_], rfl, by decide, W.O, ha, ?_⟩
    exact ⟨_, rfl, _, rfl, a, C, rfl, W.O, (W.no _ (by simp)), .inl ⟨ha, fun dx hd hn => k dx hd hn⟩⟩
abbrev s_NoTextI : Stmt := inClass (top 3) 0
theorem sc_NoText___init__ : FnScope ["self", "at"] ["self", "at"] (defScope s_NoTextI) :=
  ⟨rfl, rfl, rfl, by decide +kernel, rfl, by decide +kernel,
    by decide +kernel⟩
theorem ok_NoText_init {C f : Addr} {fd : FuncData} (F : FunD K "__init__" "NoText.__init__" (defArgs s_NoTextI) (defBody s_NoTextI) (defScope s_NoTextI) [] [] f fd) (W : OwnN K C f "ValueError" "ValueError.__new__" "ValueError.__init__" [.type "ValueError", .type "Exception", .type "BaseException", .type "object"] ["at"])
    (mg_ValueError : mg "ValueError" = none) : FnOk P w K mg base CX0 1 f fd ["self", "at"] (spIniN C ["at"]) := by
  have T := xb_of PySem.F.excBase_ValueError PySem.F.store_ValueError
  have ty : typeOf (.type "ValueError") = pure (.type "type") := by kernel_rfl
  have up := W.up
  refine F.ok sc_NoText___init__ (fun vs H Q E h => ?_) (fun cdv A outer s H vs Q E hr h => ?_)
  · obtain ⟨a, ws, rfl, hl, _⟩ := h
    rw [List.length_cons, hl]; rfl
  · obtain ⟨a, ws, rfl, hl, ha, k⟩ := h
    match ws, hl, k with
    | [v0], _, k =>
    refine ⟨_, PSs.nox (pss_cons (ps_expr (pe_up T rfl mg_ValueError (by decide +kernel) ty up (pa_cons (pv 0) (pa_cons pe_str pa_nil))))
  (pss_one (ps_put T (pv 0) (pv 1)))), ?_⟩
    refine ⟨_, rfl, a, C, [_], rfl, by decide, W.O, ha, ?_⟩
    exact ⟨_, rfl, _, rfl, a, C, rfl, W.O, (W.no _ (by simp)), .inl ⟨ha, fun dx hd hn => k dx hd hn⟩⟩
abbrev s_NoMachineI : Stmt := inClass (top 4) 0
theorem sc_NoMachine___init__ : FnScope ["self", "field"] ["self", "field"] (defScope s_NoMachineI) :=
  ⟨rfl, rfl, rfl, by decide +kernel, rfl, by decide +kernel,
    by decide +kernel⟩
theorem ok_NoMachine_init {C f : Addr} {fd : FuncData} (F : FunD K "__init__" "NoMachine.__init__" (defArgs s_NoMachineI) (defBody s_NoMachineI) (defScope s_NoMachineI) [] [] f fd) (W : OwnN K C f "ValueError" "ValueError.__new__" "ValueError.__init__" [.type "ValueError", .type "Exception", .type "BaseException", .type "object"] ["field"])
    (mg_ValueError : mg "ValueError" = none) : FnOk P w K mg base CX0 1 f fd ["self", "field"] (spIniN C ["field"]) := by
  have T := xb_of PySem.F.excBase_ValueError PySem.F.store_ValueError
  have ty : typeOf (.type "ValueError") = pure (.type "type") := by kernel_rfl
  have up := W.up
  refine F.ok sc_NoMachine___init__ (fun vs H Q E h => ?_) (fun cdv A outer s H vs Q E hr h => ?_)
  · obtain ⟨a, ws, rfl, hl, _⟩ := h
    rw [List.length_cons, hl]; rfl
  · obtain ⟨a, ws, rfl, hl, ha, k⟩ := h
    match ws, hl, k with
    | [v0], _, k =>
    refine ⟨_, PSs.nox (pss_cons (ps_expr (pe_up T rfl mg_ValueError (by decide +kernel) ty up (pa_cons (pv 0) (pa_cons pe_str pa_nil))))
  (pss_one (ps_put T (pv 0) (pv 1)))), ?_⟩
    refine ⟨_, rfl, a, C, [_], rfl, by decide, W.O, ha, ?_⟩
    exact ⟨_, rfl, _, rfl, a, C, rfl, W.O, (W.no _ (by simp)), .inl ⟨ha, fun dx hd hn => k dx hd hn⟩⟩
abbrev s_NoughtI : Stmt := inClass (top 6) 0
theorem sc_Nought___init__ : FnScope ["self", "top"] ["self", "top"] (defScope s_NoughtI) :=
  ⟨rfl, rfl, rfl, by decide +kernel, rfl, by decide +kernel,
    by decide +kernel⟩
theorem ok_Nought_init {C f : Addr} {fd : FuncData} (F : FunD K "__init__" "Nought.__init__" (defArgs s_NoughtI) (defBody s_NoughtI) (defScope s_NoughtI) [] [] f fd) (W : OwnN K C f "ZeroDivisionError" "ZeroDivisionError.__new__" "ZeroDivisionError.__init__" [.type "ZeroDivisionError", .type "ArithmeticError", .type "Exception", .type "BaseException", .type "object"] ["top"])
    (mg_ZeroDivisionError : mg "ZeroDivisionError" = none) : FnOk P w K mg base CX0 1 f fd ["self", "top"] (spIniN C ["top"]) := by
  have T := xb_of PySem.F.excBase_ZeroDivisionError PySem.F.store_ZeroDivisionError
  have ty : typeOf (.type "ZeroDivisionError") = pure (.type "type") := by kernel_rfl
  have up := W.up
  refine F.ok sc_Nought___init__ (fun vs H Q E h => ?_) (fun cdv A outer s H vs Q E hr h => ?_)
  · obtain ⟨a, ws, rfl, hl, _⟩ := h
    rw [List.length_cons, hl]; rfl
  · obtain ⟨a, ws, rfl, hl, ha, k⟩ := h
    match ws, hl, k with
    | [v0], _, k =>
    refine ⟨_, PSs.nox (pss_cons (ps_expr (pe_up T rfl mg_ZeroDivisionError (by decide +kernel) ty up (pa_cons (pv 0) (pa_cons pe_str pa_nil))))
  (pss_one (ps_put T (pv 0) (pv 1)))), ?_⟩
    refine ⟨_, rfl, a, C, [_], rfl, by decide, W.O, ha, ?_⟩
    exact ⟨_, rfl, _, rfl, a, C, rfl, W.O, (W.no _ (by simp)), .inl ⟨ha, fun dx hd hn => k dx hd hn⟩⟩
abbrev s_NoKindI : Stmt := inClass (top 7) 0
theorem sc_NoKind___init__ : FnScope ["self", "field"] ["self", "field"] (defScope s_NoKindI) :=
  ⟨rfl, rfl, rfl, by decide +kernel, rfl, by decide +kernel,
    by decide +kernel⟩
theorem ok_NoKind_init {C f : Addr} {fd : FuncData} (F : FunD K "__init__" "NoKind.__init__" (defArgs s_NoKindI) (defBody s_NoKindI) (defScope s_NoKindI) [] [] f fd) (W : OwnN K C f "TypeError" "TypeError.__new__" "TypeError.__init__" [.type "TypeError", .type "Exception", .type "BaseException", .type "object"] ["field"])
    (mg_TypeError : mg "TypeError" = none) : FnOk P w K mg base CX0 1 f fd ["self", "field"] (spIniN C ["field"]) := by
  have T := xb_of PySem.F.excBase_TypeError PySem.F.store_TypeError
  have ty : typeOf (.type "TypeError") = pure (.type "type") := by kernel_rfl
  have up := W.up
  refine F.ok sc_NoKind___init__ (fun vs H Q E h => ?_) (fun cdv A outer s H vs Q E hr h => ?_)
  · obtain ⟨a, ws, rfl, hl, _⟩ := h
    rw [List.length_cons, hl]; rfl
  · obtain ⟨a, ws, rfl, hl, ha, k⟩ := h
    match ws, hl, k with
    | [v0], _, k =>
    refine ⟨_, PSs.nox (pss_cons (ps_expr (pe_up T rfl mg_TypeError (by decide +kernel) ty up (pa_cons (pv 0) (pa_cons pe_str pa_nil))))
  (pss_one (ps_put T (pv 0) (pv 1)))), ?_⟩
    refine ⟨_, rfl, a, C, [_], rfl, by decide, W.O, ha, ?_⟩
    exact ⟨_, rfl, _, rfl, a, C, rfl, W.O, (W.no _ (by simp)), .inl ⟨ha, fun dx hd hn => k dx hd hn⟩⟩
abbrev s_NoThingI : Stmt := inClass (top 8) 0
theorem sc_NoThing___init__ : FnScope ["self", "thing"] ["self", "thing"] (defScope s_NoThingI) :=
  ⟨rfl, rfl, rfl, by decide +kernel, rfl, by decide +kernel,
    by decide +kernel⟩
theorem ok_NoThing_init {C f : Addr} {fd : FuncData} (F : FunD K "__init__" "NoThing.__init__" (defArgs s_NoThingI) (defBody s_NoThingI) (defScope s_NoThingI) [] [] f fd) (W : OwnN K C f "LookupError" "LookupError.__new__" "LookupError.__init__" [.type "LookupError", .type "Exception", .type "BaseException", .type "object"] ["thing"])
    (mg_LookupError : mg "LookupError" = none) : FnOk P w K mg base CX0 1 f fd ["self", "thing"] (spIniN C ["thing"]) := by
  have T := xb_of PySem.F.excBase_LookupError PySem.F.store_LookupError
  have ty : typeOf (.type "LookupError") = pure (.type "type") := by kernel_rfl
  have up := W.up
  refine F.ok sc_NoThing___init__ (fun vs H Q E h => ?_) (fun cdv A outer s H vs Q E hr h => ?_)
  · obtain ⟨a, ws, rfl, hl, _⟩ := h
    rw [List.length_cons, hl]; rfl
  · obtain ⟨a, ws, rfl, hl, ha, k⟩ := h
    match ws, hl, k with
    | [v0], _, k =>
    refine ⟨_, PSs.nox (pss_cons (ps_expr (pe_up T rfl mg_LookupError (by decide +kernel) ty up (pa_cons (pv 0) (pa_cons pe_str pa_nil))))
  (pss_one (ps_put T (pv 0) (pv 1)))), ?_⟩
    refine ⟨_, rfl, a, C, [_], rfl, by decide, W.O, ha, ?_⟩
    exact ⟨_, rfl, _, rfl, a, C, rfl, W.O, (W.no _ (by simp)), .inl ⟨ha, fun dx hd hn => k dx hd hn⟩⟩
abbrev s_NoRowI : Stmt := inClass (top 9) 0
theorem sc_NoRow___init__ : FnScope ["self", "at"] ["self", "at"] (defScope s_NoRowI) :=
  ⟨rfl, rfl, rfl, by decide +kernel, rfl, by decide +kernel,
    by decide +kernel⟩
theorem ok_NoRow_init {C f : Addr} {fd : FuncData} (F : FunD K "__init__" "NoRow.__init__" (defArgs s_NoRowI) (defBody s_NoRowI) (defScope s_NoRowI) [] [] f fd) (W : OwnN K C f "LookupError" "LookupError.__new__" "LookupError.__init__" [.type "LookupError", .type "Exception", .type "BaseException", .type "object"] ["at"])
    (mg_LookupError : mg "LookupError" = none) : FnOk P w K mg base CX0 1 f fd ["self", "at"] (spIniN C ["at"]) := by
  have T := xb_of PySem.F.excBase_LookupError PySem.F.store_LookupError
  have ty : typeOf (.type "LookupError") = pure (.type "type") := by kernel_rfl
  have up := W.up
  refine F.ok sc_NoRow___init__ (fun vs H Q E h => ?_) (fun cdv A outer s H vs Q E hr h => ?_)
  · obtain ⟨a, ws, rfl, hl, _⟩ := h
    rw [List.length_cons, hl]; rfl
  · obtain ⟨a, ws, rfl, hl, ha, k⟩ := h
    match ws, hl, k with
    | [v0], _, k =>
    refine ⟨_, PSs.nox (pss_cons (ps_expr (pe_up T rfl mg_LookupError (by decide +kernel) ty up (pa_cons (pv 0) (pa_cons pe_str pa_nil))))
  (pss_one (ps_put T (pv 0) (pv 1)))), ?_⟩
    refine ⟨_, rfl, a, C, [_], rfl, by decide, W.O, ha, ?_⟩
    exact ⟨_, rfl, _, rfl, a, C, rfl, W.O, (W.no _ (by simp)), .inl ⟨ha, fun dx hd hn => k dx hd hn⟩⟩
abbrev s_NoNameI : Stmt := inClass (top 10) 0
theorem sc_NoName___init__ : FnScope ["self", "name"] ["self", "name"] (defScope s_NoNameI) :=
  ⟨rfl, rfl, rfl, by decide +kernel, rfl, by decide +kernel,
    by decide +kernel⟩
theorem ok_NoName_init {C f : Addr} {fd : FuncData} (F : FunD K "__init__" "NoName.__init__" (defArgs s_NoNameI) (defBody s_NoNameI) (defScope s_NoNameI) [] [] f fd) (W : OwnN K C f "KeyError" "LookupError.__new__" "KeyError.__init__" [.type "KeyError", .type "LookupError", .type "Exception", .type "BaseException", .type "object"] ["name"])
    (mg_KeyError : mg "KeyError" = none) : FnOk P w K mg base CX0 1 f fd ["self", "name"] (spIniN C ["name"]) := by
  have T := xb_key
  have ty : typeOf (.type "KeyError") = pure (.type "type") := by kernel_rfl
  have up := W.up
  refine F.ok sc_NoName___init__ (fun vs H Q E h => ?_) (fun cdv A outer s H vs Q E hr h => ?_)
  · obtain ⟨a, ws, rfl, hl, _⟩ := h
    rw [List.length_cons, hl]; rfl
  · obtain ⟨a, ws, rfl, hl, ha, k⟩ := h
    match ws, hl, k with
    | [v0], _, k =>
    refine ⟨_, PSs.nox (pss_cons (ps_expr (pe_up T rfl mg_KeyError (by decide +kernel) ty up (pa_cons (pv 0) (pa_cons pe_str pa_nil))))
  (pss_one (ps_put T (pv 0) (pv 1)))), ?_⟩
    refine ⟨_, rfl, a, C, [_], rfl, by decide, W.O, ha, ?_⟩
    exact ⟨_, rfl, _, rfl, a, C, rfl, W.O, (W.no _ (by simp)), .inl ⟨ha, fun dx hd hn => k dx hd hn⟩⟩
abbrev s_TakenI : Stmt := inClass (top 11) 0
theorem sc_Taken___init__ : FnScope ["self", "name"] ["self", "name"] (defScope s_TakenI) :=
  ⟨rfl, rfl, rfl, by decide +kernel, rfl, by decide +kernel,
    by decide +kernel⟩
theorem ok_Taken_init {C f : Addr} {fd : FuncData} (F : FunD K "__init__" "Taken.__init__" (defArgs s_TakenI) (defBody s_TakenI) (defScope s_TakenI) [] [] f fd) (W : OwnN K C f "KeyError" "LookupError.__new__" "KeyError.__init__" [.type "KeyError", .type "LookupError", .type "Exception", .type "BaseException", .type "object"] ["name"])
    (mg_KeyError : mg "KeyError" = none) : FnOk P w K mg base CX0 1 f fd ["self", "name"] (spIniN C ["name"]) := by
  have T := xb_key
  have ty : typeOf (.type "KeyError") = pure (.type "type") := by kernel_rfl
  have up := W.up
  refine F.ok sc_Taken___init__ (fun vs H Q E h => ?_) (fun cdv A outer s H vs Q E hr h => ?_)
  · obtain ⟨a, ws, rfl, hl, _⟩ := h
    rw [List.length_cons, hl]; rfl
  · obtain ⟨a, ws, rfl, hl, ha, k⟩ := h
    match ws, hl, k with
    | [v0], _, k =>
    refine ⟨_, PSs.nox (pss_cons (ps_expr (pe_up T rfl mg_KeyError (by decide +kernel) ty up (pa_cons (pv 0) (pa_cons pe_str pa_nil))))
  (pss_one (ps_put T (pv 0) (pv 1)))), ?_⟩
    refine ⟨_, rfl, a, C, [_], rfl, by decide, W.O, ha, ?_⟩
    exact ⟨_, rfl, _, rfl, a, C, rfl, W.O, (W.no _ (by simp)), .inl ⟨ha, fun dx hd hn => k dx hd hn⟩⟩
abbrev s_TooFarI : Stmt := inClass (top 12) 0
theorem sc_TooFar___init__ : FnScope ["self", "many"] ["self", "many"] (defScope s_TooFarI) :=
  ⟨rfl, rfl, rfl, by decide +kernel, rfl, by decide +kernel,
    by decide +kernel⟩
theorem ok_TooFar_init {C f : Addr} {fd : FuncData} (F : FunD K "__init__" "TooFar.__init__" (defArgs s_TooFarI) (defBody s_TooFarI) (defScope s_TooFarI) [] [] f fd) (W : OwnN K C f "IndexError" "IndexError.__new__" "IndexError.__init__" [.type "IndexError", .type "LookupError", .type "Exception", .type "BaseException", .type "object"] ["many"])
    (mg_IndexError : mg "IndexError" = none) : FnOk P w K mg base CX0 1 f fd ["self", "many"] (spIniN C ["many"]) := by
  have T := xb_of PySem.F.excBase_IndexError PySem.F.store_IndexError
  have ty : typeOf (.type "IndexError") = pure (.type "type") := by kernel_rfl
  have up := W.up
  refine F.ok sc_TooFar___init__ (fun vs H Q E h => ?_) (fun cdv A outer s H vs Q E hr h => ?_)
  · obtain ⟨a, ws, rfl, hl, _⟩ := h
    rw [List.length_cons, hl]; rfl
  · obtain ⟨a, ws, rfl, hl, ha, k⟩ := h
    match ws, hl, k with
    | [v0], _, k =>
    refine ⟨_, PSs.nox (pss_cons (ps_expr (pe_up T rfl mg_IndexError (by decide +kernel) ty up (pa_cons (pv 0) (pa_cons pe_str pa_nil))))
  (pss_one (ps_put T (pv 0) (pv 1)))), ?_⟩
    refine ⟨_, rfl, a, C, [_], rfl, by decide, W.O, ha, ?_⟩
    exact ⟨_, rfl, _, rfl, a, C, rfl, W.O, (W.no _ (by simp)), .inl ⟨ha, fun dx hd hn => k dx hd hn⟩⟩
abbrev s_UnclearI : Stmt := inClass (top 14) 0
theorem sc_Unclear___init__ : FnScope ["self", "text"] ["self", "text"] (defScope s_UnclearI) :=
  ⟨rfl, rfl, rfl, by decide +kernel, rfl, by decide +kernel,
    by decide +kernel⟩
theorem ok_Unclear_init {C f : Addr} {fd : FuncData} (F : FunD K "__init__" "Unclear.__init__" (defArgs s_UnclearI) (defBody s_UnclearI) (defScope s_UnclearI) [] [] f fd) (W : OwnN K C f "RuntimeError" "RuntimeError.__new__" "RuntimeError.__init__" [.type "RuntimeError", .type "Exception", .type "BaseException", .type "object"] ["text"])
    (mg_RuntimeError : mg "RuntimeError" = none) : FnOk P w K mg base CX0 1 f fd ["self", "text"] (spIniN C ["text"]) := by
  have T := xb_of PySem.F.excBase_RuntimeError PySem.F.store_RuntimeError
  have ty : typeOf (.type "RuntimeError") = pure (.type "type") := by kernel_rfl
  have up := W.up
  refine F.ok sc_Unclear___init__ (fun vs H Q E h => ?_) (fun cdv A outer s H vs Q E hr h => ?_)
  · obtain ⟨a, ws, rfl, hl, _⟩ := h
    rw [List.length_cons, hl]; rfl
  · obtain ⟨a, ws, rfl, hl, ha, k⟩ := h
    match ws, hl, k with
    | [v0], _, k =>
    refine ⟨_, PSs.nox (pss_cons (ps_expr (pe_up T rfl mg_RuntimeError (by decide +kernel) ty up (pa_cons (pv 0) (pa_cons pe_str pa_nil))))
  (pss_one (ps_put T (pv 0) (pv 1)))), ?_⟩
    refine ⟨_, rfl, a, C, [_], rfl, by decide, W.O, ha, ?_⟩
    exact ⟨_, rfl, _, rfl, a, C, rfl, W.O, (W.no _ (by simp)), .inl ⟨ha, fun dx hd hn => k dx hd hn⟩⟩
abbrev s_NeededI : Stmt := inClass (top 15) 0
theorem sc_Needed___init__ : FnScope ["self", "name", "by"] ["self", "name", "by"] (defScope s_NeededI) :=
  ⟨rfl, rfl, rfl, by decide +kernel, rfl, by decide +kernel,
    by decide +kernel⟩
theorem ok_Needed_init {C f : Addr} {fd : FuncData} (F : FunD K "__init__" "Needed.__init__" (defArgs s_NeededI) (defBody s_NeededI) (defScope s_NeededI) [] [] f fd) (W : OwnN K C f "RuntimeError" "RuntimeError.__new__" "RuntimeError.__init__" [.type "RuntimeError", .type "Exception", .type "BaseException", .type "object"] ["name", "by"])
    (mg_RuntimeError : mg "RuntimeError" = none) : FnOk P w K mg base CX0 1 f fd ["self", "name", "by"] (spIniN C ["name", "by"]) := by
  have T := xb_of PySem.F.excBase_RuntimeError PySem.F.store_RuntimeError
  have ty : typeOf (.type "RuntimeError") = pure (.type "type") := by kernel_rfl
  have up := W.up
  refine F.ok sc_Needed___init__ (fun vs H Q E h => ?_) (fun cdv A outer s H vs Q E hr h => ?_)
  · obtain ⟨a, ws, rfl, hl, _⟩ := h
    rw [List.length_cons, hl]; rfl
  · obtain ⟨a, ws, rfl, hl, ha, k⟩ := h
    match ws, hl, k with
    | [v0, v1], _, k =>
    refine ⟨_, PSs.nox (pss_cons (ps_expr (pe_up T rfl mg_RuntimeError (by decide +kernel) ty up (pa_cons (pv 0) (pa_cons pe_str pa_nil))))
  (pss_cons (ps_put T (pv 0) (pv 1))
  (pss_one (ps_put T (pv 0) (pv 2))))), ?_⟩
    refine ⟨_, rfl, a, C, [_], rfl, by decide, W.O, ha, ?_⟩
    refine ⟨_, rfl, _, rfl, a, C, rfl, W.O, (W.no _ (by simp)), .inl ⟨ha, fun dx hd hn => ?_⟩⟩
    refine ⟨_, rfl, _, rfl, put_more W.O (W.no _ (by simp)) hn (by simp) ?_⟩
    exact k dx hd hn
abbrev s_RingI : Stmt := inClass (top 16) 0
theorem sc_Ring___init__ : FnScope ["self", "ring"] ["self", "ring"] (defScope s_RingI) :=
  ⟨rfl, rfl, rfl, by decide +kernel, rfl, by decide +kernel,
    by decide +kernel⟩
theorem ok_Ring_init {C f : Addr} {fd : FuncData} (F : FunD K "__init__" "Ring.__init__" (defArgs s_RingI) (defBody s_RingI) (defScope s_RingI) [] [] f fd) (W : OwnN K C f "RuntimeError" "RuntimeError.__new__" "RuntimeError.__init__" [.type "RuntimeError", .type "Exception", .type "BaseException", .type "object"] ["ring"])
    (mg_RuntimeError : mg "RuntimeError" = none) : FnOk P w K mg base CX0 1 f fd ["self", "ring"] (spIniN C ["ring"]) := by
  have T := xb_of PySem.F.excBase_RuntimeError PySem.F.store_RuntimeError
  have ty : typeOf (.type "RuntimeError") = pure (.type "type") := by kernel_rfl
  have up := W.up
  refine F.ok sc_Ring___init__ (fun vs H Q E h => ?_) (fun cdv A outer s H vs Q E hr h => ?_)
  · obtain ⟨a, ws, rfl, hl, _⟩ := h
    rw [List.length_cons, hl]; rfl
  · obtain ⟨a, ws, rfl, hl, ha, k⟩ := h
    match ws, hl, k with
    | [v0], _, k =>
    refine ⟨_, PSs.nox (pss_cons (ps_expr (pe_up T rfl mg_RuntimeError (by decide +kernel) ty up (pa_cons (pv 0) (pa_cons pe_str pa_nil))))
  (pss_one (ps_put T (pv 0) (pv 1)))), ?_⟩
    refine ⟨_, rfl, a, C, [_], rfl, by decide, W.O, ha, ?_⟩
    exact ⟨_, rfl, _, rfl, a, C, rfl, W.O, (W.no _ (by simp)), .inl ⟨ha, fun dx hd hn => k dx hd hn⟩⟩
abbrev s_UnkeptI : Stmt := inClass (top 17) 0
theorem sc_Unkept___init__ : FnScope ["self", "name", "other", "text", "one", "two"] ["self", "name", "other", "text", "one", "two"] (defScope s_UnkeptI) :=
  ⟨rfl, rfl, rfl, by decide +kernel, rfl, by decide +kernel,
    by decide +kernel⟩
theorem ok_Unkept_init {C f : Addr} {fd : FuncData} (F : FunD K "__init__" "Unkept.__init__" (defArgs s_UnkeptI) (defBody s_UnkeptI) (defScope s_UnkeptI) [] [] f fd) (W : OwnN K C f "RuntimeError" "RuntimeError.__new__" "RuntimeError.__init__" [.type "RuntimeError", .type "Exception", .type "BaseException", .type "object"] ["name", "other", "text", "one", "two"])
    (mg_RuntimeError : mg "RuntimeError" = none) : FnOk P w K mg base CX0 1 f fd ["self", "name", "other", "text", "one", "two"] (spIniN C ["name", "other", "text", "one", "two"]) := by
  have T := xb_of PySem.F.excBase_RuntimeError PySem.F.store_RuntimeError
  have ty : typeOf (.type "RuntimeError") = pure (.type "type") := by kernel_rfl
  have up := W.up
  refine F.ok sc_Unkept___init__ (fun vs H Q E h => ?_) (fun cdv A outer s H vs Q E hr h => ?_)
  · obtain ⟨a, ws, rfl, hl, _⟩ := h
    rw [List.length_cons, hl]; rfl
  · obtain ⟨a, ws, rfl, hl, ha, k⟩ := h
    match ws, hl, k with
    | [v0, v1, v2, v3, v4], _, k =>
    refine ⟨_, PSs.nox (pss_cons (ps_expr (pe_up T rfl mg_RuntimeError (by decide +kernel) ty up (pa_cons (pv 0) (pa_cons pe_str pa_nil))))
  (pss_cons (ps_put T (pv 0) (pv 1))
  (pss_cons (ps_put T (pv 0) (pv 2))
  (pss_cons (ps_put T (pv 0) (pv 3))
  (pss_cons (ps_put T (pv 0) (pv 4))
  (pss_one (ps_put T (pv 0) (pv 5)))))))), ?_⟩
    refine ⟨_, rfl, a, C, [_], rfl, by decide, W.O, ha, ?_⟩
    refine ⟨_, rfl, _, rfl, a, C, rfl, W.O, (W.no _ (by simp)), .inl ⟨ha, fun dx hd hn => ?_⟩⟩
    refine ⟨_, rfl, _, rfl, put_more W.O (W.no _ (by simp)) hn (by simp) ?_⟩
    refine ⟨_, rfl, _, rfl, put_more W.O (W.no _ (by simp)) hn (by simp) ?_⟩
    refine ⟨_, rfl, _, rfl, put_more W.O (W.no _ (by simp)) hn (by simp) ?_⟩
    refine ⟨_, rfl, _, rfl, put_more W.O (W.no _ (by simp)) hn (by simp) ?_⟩
    exact k dx hd hn
abbrev s_NoDeedI : Stmt := inClass (top 18) 0
theorem sc_NoDeed___init__ : FnScope ["self", "at"] ["self", "at"] (defScope s_NoDeedI) :=
  ⟨rfl, rfl, rfl, by decide +kernel, rfl, by decide +kernel,
    by decide +kernel⟩
theorem ok_NoDeed_init {C f : Addr} {fd : FuncData} (F : FunD K "__init__" "NoDeed.__init__" (defArgs s_NoDeedI) (defBody s_NoDeedI) (defScope s_NoDeedI) [] [] f fd) (W : OwnN K C f "NotImplementedError" "NotImplementedError.__new__" "NotImplementedError.__init__" [.type "NotImplementedError", .type "RuntimeError", .type "Exception", .type "BaseException", .type "object"] ["at"])
    (mg_NotImplementedError : mg "NotImplementedError" = none) : FnOk P w K mg base CX0 1 f fd ["self", "at"] (spIniN C ["at"]) := by
  have T := xb_of PySem.F.excBase_NotImplementedError PySem.F.store_NotImplementedError
  have ty : typeOf (.type "NotImplementedError") = pure (.type "type") := by kernel_rfl
  have up := W.up
  refine F.ok sc_NoDeed___init__ (fun vs H Q E h => ?_) (fun cdv A outer s H vs Q E hr h => ?_)
  · obtain ⟨a, ws, rfl, hl, _⟩ := h
    rw [List.length_cons, hl]; rfl
  · obtain ⟨a, ws, rfl, hl, ha, k⟩ := h
    match ws, hl, k with
    | [v0], _, k =>
    refine ⟨_, PSs.nox (pss_cons (ps_expr (pe_up T rfl mg_NotImplementedError (by decide +kernel) ty up (pa_cons (pv 0) (pa_cons pe_str pa_nil))))
  (pss_one (ps_put T (pv 0) (pv 1)))), ?_⟩
    refine ⟨_, rfl, a, C, [_], rfl, by decide, W.O, ha, ?_⟩
    exact ⟨_, rfl, _, rfl, a, C, rfl, W.O, (W.no _ (by simp)), .inl ⟨ha, fun dx hd hn => k dx hd hn⟩⟩
abbrev s_NoAskI : Stmt := inClass (top 19) 0
theorem sc_NoAsk___init__ : FnScope ["self", "row"] ["self", "row"] (defScope s_NoAskI) :=
  ⟨rfl, rfl, rfl, by decide +kernel, rfl, by decide +kernel,
    by decide +kernel⟩
theorem ok_NoAsk_init {C f : Addr} {fd : FuncData} (F : FunD K "__init__" "NoAsk.__init__" (defArgs s_NoAskI) (defBody s_NoAskI) (defScope s_NoAskI) [] [] f fd) (W : OwnN K C f "Exception" "Exception.__new__" "Exception.__init__" [.type "Exception", .type "BaseException", .type "object"] ["row"])
    (mg_Exception : mg "Exception" = none) : FnOk P w K mg base CX0 1 f fd ["self", "row"] (spIniN C ["row"]) := by
  have T := xb_of PySem.F.excBase_Exception PySem.F.store_Exception
  have ty : typeOf (.type "Exception") = pure (.type "type") := by kernel_rfl
  have up := W.up
  refine F.ok sc_NoAsk___init__ (fun vs H Q E h => ?_) (fun cdv A outer s H vs Q E hr h => ?_)
  · obtain ⟨a, ws, rfl, hl, _⟩ := h
    rw [List.length_cons, hl]; rfl
  · obtain ⟨a, ws, rfl, hl, ha, k⟩ := h
    match ws, hl, k with
    | [v0], _, k =>
    refine ⟨_, PSs.nox (pss_cons (ps_expr (pe_up T rfl mg_Exception (by decide +kernel) ty up (pa_cons (pv 0) (pa_cons pe_str pa_nil))))
  (pss_one (ps_put T (pv 0) (pv 1)))), ?_⟩
    refine ⟨_, rfl, a, C, [_], rfl, by decide, W.O, ha, ?_⟩
    exact ⟨_, rfl, _, rfl, a, C, rfl, W.O, (W.no _ (by simp)), .inl ⟨ha, fun dx hd hn => k dx hd hn⟩⟩
end
end Lw

/-! ### the refusals, made -/
namespace Lw
open PySem PySem.Spec PyProof.Rows L2 Fw Dw
def XF : List (List Str) := [["at"], ["field"], ["at"], ["field"], [], ["top"], ["field"], ["thing"], ["at"], ["name"], ["name"], ["many"], [], ["text"], ["name", "by"], ["ring"], ["name", "other", "text", "one", "two"], ["at"], ["row"]]
def FX (i : Nat) : List Str := XF.getD i []
def exD (CE : Nat → Addr) (i : Nat) (xs : List D) : D := .exc (CE i) ((FX i).zip xs).reverse
/-- what the i-th is made with -/
def arX (i : Nat) (x y : D) : List D := if i = 14 then [x, y] else if i = 16 then [x, y, .str "a b", .lst [x], .tup [y, .int 0]] else if i = 4 ∨ i = 12 then [] else [x]
theorem var_at {i : Nat} {ρ : Ro} {n : Nat} {Q : QD} {d : D} (h : ρ[i]? = some (some (.d d))) (q : Q d n) : dVar i ρ n Q := by
  unfold dVar; rw [h]; exact q
theorem ixA_lst {l : List D} {y : D} {n : Nat} {Q : QD} (q : dIx (.lst l) y n Q) : dIxA (.lst l) y n Q := q
theorem sub_at {a b c : Int} {n : Nat} {Q : QD} (h : a - b = c) (q : Q (.int c) n) : dSub (.int a) (.int b) n Q := by
  show Q (.int (a - b)) n
  rw [h]; exact q
theorem ixN {l : List D} {k : Nat} {d : D} {n : Nat} {Q : QD} (h : l[k]? = some d) (q : Q d n) : dIx (.lst l) (.int k) n Q := by
  unfold dIx
  dsimp only
  rw [atI_nat h]; exact q
def spFst (CE : Nat → Addr) : SpD := fun ds n Q _ => ∃ (i : Nat) (x : D), i < 10 ∧ ds = [.int i, x] ∧ Q (exD CE i (arX i x .non)) n
def spSnd (CE : Nat → Addr) : SpD := fun ds n Q _ => ∃ (i : Nat) (x y : D), 10 ≤ i ∧ i < 19 ∧ ds = [.int i, x, y] ∧ Q (exD CE i (arX i x y)) n
/-- made by names: none of those without fields -/
def nmX (CE : Nat → Addr) (i : Nat) (x y : D) : D := if i = 4 ∨ i = 12 then .non else exD CE i (arX i x y)
def spNmd (CE : Nat → Addr) : SpD := fun ds n Q _ => ∃ (i : Nat) (x y : D), i < 19 ∧ ds = [.int i, x, y] ∧ Q (nmX CE i x y) n
section
variable {P : Program} {w : World} {K : PySem.W.Frag} {mg : Str → Option Value} {base : Heap} {f : Addr} {fd : FuncData} {CE : Nat → Addr}
abbrev EP1 (P : Program) (w : World) (K : PySem.W.Frag) (mg : Str → Option Value) (base : Heap) (x : Str) (C : Addr) (fns : List Str) : Prop := Eb P w K mg base 1 x C fns.length [] (fun ds _ => ds) fns
abbrev EK1 (P : Program) (w : World) (K : PySem.W.Frag) (mg : Str → Option Value) (base : Heap) (x : Str) (C : Addr) (fns : List Str) : Prop := Eb P w K mg base 1 x C 0 fns.reverse (fun _ es => es.reverse) fns
abbrev s__law_first : Stmt := top 23
theorem sc__law_first : FnScope ["_law_which", "_law_it"] ["_law_which", "_law_it"] (defScope s__law_first) := ⟨rfl, rfl, rfl, by decide +kernel, rfl, by decide +kernel, by decide +kernel⟩
theorem ok__law_first (F : FunD K "_law_first" "_law_first" (defArgs s__law_first) (defBody s__law_first) (defScope s__law_first) [] [] f fd) (D_NoDigits : EP1 P w K mg base "NoDigits" (CE 0) ["at"])
    (D_NoWord : EP1 P w K mg base "NoWord" (CE 1) ["field"])
    (D_NoText : EP1 P w K mg base "NoText" (CE 2) ["at"])
    (D_NoMachine : EP1 P w K mg base "NoMachine" (CE 3) ["field"])
    (D_NoRange : Eb0 K mg "NoRange" (CE 4))
    (D_Nought : EP1 P w K mg base "Nought" (CE 5) ["top"])
    (D_NoKind : EP1 P w K mg base "NoKind" (CE 6) ["field"])
    (D_NoThing : EP1 P w K mg base "NoThing" (CE 7) ["thing"])
    (D_NoRow : EP1 P w K mg base "NoRow" (CE 8) ["at"])
    (D_NoName : EP1 P w K mg base "NoName" (CE 9) ["name"]) : FnX false P w K mg base CX0 3 f fd ["_law_which", "_law_it"] (liftSp K (spFst CE)) := by
  refine fnD F sc__law_first (fun ds n Q E h => ?_) (fun cdv A outer s H E Ed hg hr => ?_)
  · obtain ⟨i, x, hi, rfl, q⟩ := h; rfl
  · refine ⟨_, DSs.nx (dss_cons (ds_if (dt_lt (dv 0) de_int)
    (dss_one (ds_ret (de_ixA hr.units (DO.de (do_lst (da_cons (de_call (Eb.cal D_NoDigits (hr.mono (by decide))) rfl (da_cons (dv 1) da_nil)) (da_cons (de_call (Eb.cal D_NoWord (hr.mono (by decide))) rfl (da_cons (dv 1) da_nil)) (da_cons (de_call (Eb.cal D_NoText (hr.mono (by decide))) rfl (da_cons (dv 1) da_nil)) da_nil))))) (dv 0))))
    dss_nil)
  (dss_cons (ds_if (dt_lt (dv 0) de_int)
    (dss_one (ds_ret (de_ixA hr.units (DO.de (do_lst (da_cons (de_call (Eb.cal D_NoMachine (hr.mono (by decide))) rfl (da_cons (dv 1) da_nil)) (da_cons (de_call0 (Eb0.cal D_NoRange) rfl) (da_cons (de_call (Eb.cal D_Nought (hr.mono (by decide))) rfl (da_cons (dv 1) da_nil)) da_nil))))) (de_sub (dv 0) de_int))))
    dss_nil)
  (dss_one (ds_ret (de_ixA hr.units (DO.de (do_lst (da_cons (de_call (Eb.cal D_NoKind (hr.mono (by decide))) rfl (da_cons (dv 1) da_nil)) (da_cons (de_call (Eb.cal D_NoThing (hr.mono (by decide))) rfl (da_cons (dv 1) da_nil)) (da_cons (de_call (Eb.cal D_NoRow (hr.mono (by decide))) rfl (da_cons (dv 1) da_nil)) (da_cons (de_call (Eb.cal D_NoName (hr.mono (by decide))) rfl (da_cons (dv 1) da_nil)) da_nil)))))) (de_sub (dv 0) de_int)))))), fun ds n Q h => ?_⟩
    obtain ⟨i, x, hi, rfl, q⟩ := h
    rcases (show i = 0 ∨ i = 1 ∨ i = 2 ∨ i = 3 ∨ i = 4 ∨ i = 5 ∨ i = 6 ∨ i = 7 ∨ i = 8 ∨ i = 9 from by omega) with rfl | rfl | rfl | rfl | rfl | rfl | rfl | rfl | rfl | rfl
    · dsimp only [dSeq, dIf, dTestB, d2, dC, dSh, dCall, dCons, dNil, dLst, dTup, dRet, dNext]
      refine var_at rfl (brT (by rfl) ?_)
      refine var_at rfl ⟨rfl, rfl, rfl, by simp, ?_⟩
      refine var_at rfl ⟨rfl, rfl, rfl, by simp, ?_⟩
      refine var_at rfl ⟨rfl, rfl, rfl, by simp, ?_⟩
      refine ⟨szl (by simp), var_at rfl ((ixA_lst (ixN (k := 0) (by rfl) ?_)))⟩
      exact q
    · dsimp only [dSeq, dIf, dTestB, d2, dC, dSh, dCall, dCons, dNil, dLst, dTup, dRet, dNext]
      refine var_at rfl (brT (by rfl) ?_)
      refine var_at rfl ⟨rfl, rfl, rfl, by simp, ?_⟩
      refine var_at rfl ⟨rfl, rfl, rfl, by simp, ?_⟩
      refine var_at rfl ⟨rfl, rfl, rfl, by simp, ?_⟩
      refine ⟨szl (by simp), var_at rfl ((ixA_lst (ixN (k := 1) (by rfl) ?_)))⟩
      exact q
    · dsimp only [dSeq, dIf, dTestB, d2, dC, dSh, dCall, dCons, dNil, dLst, dTup, dRet, dNext]
      refine var_at rfl (brT (by rfl) ?_)
      refine var_at rfl ⟨rfl, rfl, rfl, by simp, ?_⟩
      refine var_at rfl ⟨rfl, rfl, rfl, by simp, ?_⟩
      refine var_at rfl ⟨rfl, rfl, rfl, by simp, ?_⟩
      refine ⟨szl (by simp), var_at rfl ((ixA_lst (ixN (k := 2) (by rfl) ?_)))⟩
      exact q
    · dsimp only [dSeq, dIf, dTestB, d2, dC, dSh, dCall, dCons, dNil, dLst, dTup, dRet, dNext]
      refine var_at rfl (brF (by rfl) ?_)
      refine var_at rfl (brT (by rfl) ?_)
      refine var_at rfl ⟨rfl, rfl, rfl, by simp, ?_⟩
      refine ⟨rfl, rfl, ?_⟩
      refine var_at rfl ⟨rfl, rfl, rfl, by simp, ?_⟩
      refine ⟨szl (by simp), var_at rfl (sub_at (c := ((0 : Nat) : Int)) (by decide) (ixA_lst (ixN (k := 0) (by rfl) ?_)))⟩
      exact q
    · dsimp only [dSeq, dIf, dTestB, d2, dC, dSh, dCall, dCons, dNil, dLst, dTup, dRet, dNext]
      refine var_at rfl (brF (by rfl) ?_)
      refine var_at rfl (brT (by rfl) ?_)
      refine var_at rfl ⟨rfl, rfl, rfl, by simp, ?_⟩
      refine ⟨rfl, rfl, ?_⟩
      refine var_at rfl ⟨rfl, rfl, rfl, by simp, ?_⟩
      refine ⟨szl (by simp), var_at rfl (sub_at (c := ((1 : Nat) : Int)) (by decide) (ixA_lst (ixN (k := 1) (by rfl) ?_)))⟩
      exact q
    · dsimp only [dSeq, dIf, dTestB, d2, dC, dSh, dCall, dCons, dNil, dLst, dTup, dRet, dNext]
      refine var_at rfl (brF (by rfl) ?_)
      refine var_at rfl (brT (by rfl) ?_)
      refine var_at rfl ⟨rfl, rfl, rfl, by simp, ?_⟩
      refine ⟨rfl, rfl, ?_⟩
      refine var_at rfl ⟨rfl, rfl, rfl, by simp, ?_⟩
      refine ⟨szl (by simp), var_at rfl (sub_at (c := ((2 : Nat) : Int)) (by decide) (ixA_lst (ixN (k := 2) (by rfl) ?_)))⟩
      exact q
    · dsimp only [dSeq, dIf, dTestB, d2, dC, dSh, dCall, dCons, dNil, dLst, dTup, dRet, dNext]
      refine var_at rfl (brF (by rfl) ?_)
      refine var_at rfl (brF (by rfl) ?_)
      refine var_at rfl ⟨rfl, rfl, rfl, by simp, ?_⟩
      refine var_at rfl ⟨rfl, rfl, rfl, by simp, ?_⟩
      refine var_at rfl ⟨rfl, rfl, rfl, by simp, ?_⟩
      refine var_at rfl ⟨rfl, rfl, rfl, by simp, ?_⟩
      refine ⟨szl (by simp), var_at rfl (sub_at (c := ((0 : Nat) : Int)) (by decide) (ixA_lst (ixN (k := 0) (by rfl) ?_)))⟩
      exact q
    · dsimp only [dSeq, dIf, dTestB, d2, dC, dSh, dCall, dCons, dNil, dLst, dTup, dRet, dNext]
      refine var_at rfl (brF (by rfl) ?_)
      refine var_at rfl (brF (by rfl) ?_)
      refine var_at rfl ⟨rfl, rfl, rfl, by simp, ?_⟩
      refine var_at rfl ⟨rfl, rfl, rfl, by simp, ?_⟩
      refine var_at rfl ⟨rfl, rfl, rfl, by simp, ?_⟩
      refine var_at rfl ⟨rfl, rfl, rfl, by simp, ?_⟩
      refine ⟨szl (by simp), var_at rfl (sub_at (c := ((1 : Nat) : Int)) (by decide) (ixA_lst (ixN (k := 1) (by rfl) ?_)))⟩
      exact q
    · dsimp only [dSeq, dIf, dTestB, d2, dC, dSh, dCall, dCons, dNil, dLst, dTup, dRet, dNext]
      refine var_at rfl (brF (by rfl) ?_)
      refine var_at rfl (brF (by rfl) ?_)
      refine var_at rfl ⟨rfl, rfl, rfl, by simp, ?_⟩
      refine var_at rfl ⟨rfl, rfl, rfl, by simp, ?_⟩
      refine var_at rfl ⟨rfl, rfl, rfl, by simp, ?_⟩
      refine var_at rfl ⟨rfl, rfl, rfl, by simp, ?_⟩
      refine ⟨szl (by simp), var_at rfl (sub_at (c := ((2 : Nat) : Int)) (by decide) (ixA_lst (ixN (k := 2) (by rfl) ?_)))⟩
      exact q
    · dsimp only [dSeq, dIf, dTestB, d2, dC, dSh, dCall, dCons, dNil, dLst, dTup, dRet, dNext]
      refine var_at rfl (brF (by rfl) ?_)
      refine var_at rfl (brF (by rfl) ?_)
      refine var_at rfl ⟨rfl, rfl, rfl, by simp, ?_⟩
      refine var_at rfl ⟨rfl, rfl, rfl, by simp, ?_⟩
      refine var_at rfl ⟨rfl, rfl, rfl, by simp, ?_⟩
      refine var_at rfl ⟨rfl, rfl, rfl, by simp, ?_⟩
      refine ⟨szl (by simp), var_at rfl (sub_at (c := ((3 : Nat) : Int)) (by decide) (ixA_lst (ixN (k := 3) (by rfl) ?_)))⟩
      exact q
abbrev s__law_second : Stmt := top 24
theorem sc__law_second : FnScope ["_law_which", "_law_it", "_law_that"] ["_law_which", "_law_it", "_law_that"] (defScope s__law_second) := ⟨rfl, rfl, rfl, by decide +kernel, rfl, by decide +kernel, by decide +kernel⟩
theorem ok__law_second (F : FunD K "_law_second" "_law_second" (defArgs s__law_second) (defBody s__law_second) (defScope s__law_second) [] [] f fd) (D_Taken : EP1 P w K mg base "Taken" (CE 10) ["name"])
    (D_TooFar : EP1 P w K mg base "TooFar" (CE 11) ["many"])
    (D_Endless : Eb0 K mg "Endless" (CE 12))
    (D_Unclear : EP1 P w K mg base "Unclear" (CE 13) ["text"])
    (D_Needed : EP1 P w K mg base "Needed" (CE 14) ["name", "by"])
    (D_Ring : EP1 P w K mg base "Ring" (CE 15) ["ring"])
    (D_Unkept : EP1 P w K mg base "Unkept" (CE 16) ["name", "other", "text", "one", "two"])
    (D_NoDeed : EP1 P w K mg base "NoDeed" (CE 17) ["at"])
    (D_NoAsk : EP1 P w K mg base "NoAsk" (CE 18) ["row"]) : FnX false P w K mg base CX0 3 f fd ["_law_which", "_law_it", "_law_that"] (liftSp K (spSnd CE)) := by
  refine fnD F sc__law_second (fun ds n Q E h => ?_) (fun cdv A outer s H E Ed hg hr => ?_)
  · obtain ⟨i, x, y, lo, hi, rfl, q⟩ := h; rfl
  · refine ⟨_, DSs.nx (dss_cons (ds_if (dt_lt (dv 0) de_int)
    (dss_one (ds_ret (de_ixA hr.units (DO.de (do_lst (da_cons (de_call (Eb.cal D_Taken (hr.mono (by decide))) rfl (da_cons (dv 1) da_nil)) (da_cons (de_call (Eb.cal D_TooFar (hr.mono (by decide))) rfl (da_cons (dv 1) da_nil)) (da_cons (de_call0 (Eb0.cal D_Endless) rfl) (da_cons (de_call (Eb.cal D_Unclear (hr.mono (by decide))) rfl (da_cons (dv 1) da_nil)) da_nil)))))) (de_sub (dv 0) de_int))))
    dss_nil)
  (dss_cons (ds_if (dt_lt (dv 0) de_int)
    (dss_one (ds_ret (de_ixA hr.units (DO.de (do_lst (da_cons (de_call (Eb.cal D_Needed (hr.mono (by decide))) rfl (da_cons (dv 1) (da_cons (dv 2) da_nil))) (da_cons (de_call (Eb.cal D_Ring (hr.mono (by decide))) rfl (da_cons (dv 1) da_nil)) (da_cons (de_call (Eb.cal D_Unkept (hr.mono (by decide))) rfl (da_cons (dv 1) (da_cons (dv 2) (da_cons de_str (da_cons (DO.de (do_lst (da_cons (dv 1) da_nil))) (da_cons (de_tup (da_cons (dv 2) (da_cons de_int da_nil))) da_nil)))))) da_nil))))) (de_sub (dv 0) de_int))))
    dss_nil)
  (dss_one (ds_ret (de_ixA hr.units (DO.de (do_lst (da_cons (de_call (Eb.cal D_NoDeed (hr.mono (by decide))) rfl (da_cons (dv 1) da_nil)) (da_cons (de_call (Eb.cal D_NoAsk (hr.mono (by decide))) rfl (da_cons (dv 1) da_nil)) da_nil)))) (de_sub (dv 0) de_int)))))), fun ds n Q h => ?_⟩
    obtain ⟨i, x, y, lo, hi, rfl, q⟩ := h
    rcases (show i = 10 ∨ i = 11 ∨ i = 12 ∨ i = 13 ∨ i = 14 ∨ i = 15 ∨ i = 16 ∨ i = 17 ∨ i = 18 from by omega) with rfl | rfl | rfl | rfl | rfl | rfl | rfl | rfl | rfl
    · dsimp only [dSeq, dIf, dTestB, d2, dC, dSh, dCall, dCons, dNil, dLst, dTup, dRet, dNext]
      refine var_at rfl (brT (by rfl) ?_)
      refine var_at rfl ⟨rfl, rfl, rfl, by simp, ?_⟩
      refine var_at rfl ⟨rfl, rfl, rfl, by simp, ?_⟩
      refine ⟨rfl, rfl, ?_⟩
      refine var_at rfl ⟨rfl, rfl, rfl, by simp, ?_⟩
      refine ⟨szl (by simp), var_at rfl (sub_at (c := ((0 : Nat) : Int)) (by decide) (ixA_lst (ixN (k := 0) (by rfl) ?_)))⟩
      exact q
    · dsimp only [dSeq, dIf, dTestB, d2, dC, dSh, dCall, dCons, dNil, dLst, dTup, dRet, dNext]
      refine var_at rfl (brT (by rfl) ?_)
      refine var_at rfl ⟨rfl, rfl, rfl, by simp, ?_⟩
      refine var_at rfl ⟨rfl, rfl, rfl, by simp, ?_⟩
      refine ⟨rfl, rfl, ?_⟩
      refine var_at rfl ⟨rfl, rfl, rfl, by simp, ?_⟩
      refine ⟨szl (by simp), var_at rfl (sub_at (c := ((1 : Nat) : Int)) (by decide) (ixA_lst (ixN (k := 1) (by rfl) ?_)))⟩
      exact q
    · dsimp only [dSeq, dIf, dTestB, d2, dC, dSh, dCall, dCons, dNil, dLst, dTup, dRet, dNext]
      refine var_at rfl (brT (by rfl) ?_)
      refine var_at rfl ⟨rfl, rfl, rfl, by simp, ?_⟩
      refine var_at rfl ⟨rfl, rfl, rfl, by simp, ?_⟩
      refine ⟨rfl, rfl, ?_⟩
      refine var_at rfl ⟨rfl, rfl, rfl, by simp, ?_⟩
      refine ⟨szl (by simp), var_at rfl (sub_at (c := ((2 : Nat) : Int)) (by decide) (ixA_lst (ixN (k := 2) (by rfl) ?_)))⟩
      exact q
    · dsimp only [dSeq, dIf, dTestB, d2, dC, dSh, dCall, dCons, dNil, dLst, dTup, dRet, dNext]
      refine var_at rfl (brT (by rfl) ?_)
      refine var_at rfl ⟨rfl, rfl, rfl, by simp, ?_⟩
      refine var_at rfl ⟨rfl, rfl, rfl, by simp, ?_⟩
      refine ⟨rfl, rfl, ?_⟩
      refine var_at rfl ⟨rfl, rfl, rfl, by simp, ?_⟩
      refine ⟨szl (by simp), var_at rfl (sub_at (c := ((3 : Nat) : Int)) (by decide) (ixA_lst (ixN (k := 3) (by rfl) ?_)))⟩
      exact q
    · dsimp only [dSeq, dIf, dTestB, d2, dC, dSh, dCall, dCons, dNil, dLst, dTup, dRet, dNext]
      refine var_at rfl (brF (by rfl) ?_)
      refine var_at rfl (brT (by rfl) ?_)
      refine var_at rfl (var_at rfl ⟨rfl, rfl, rfl, by simp, ?_⟩)
      refine var_at rfl ⟨rfl, rfl, rfl, by simp, ?_⟩
      refine var_at rfl (var_at rfl (var_at rfl ⟨szl (by simp), var_at rfl ⟨szl (by simp), ⟨rfl, rfl, rfl, by simp, ?_⟩⟩⟩))
      refine ⟨szl (by simp), var_at rfl (sub_at (c := ((0 : Nat) : Int)) (by decide) (ixA_lst (ixN (k := 0) (by rfl) ?_)))⟩
      exact q
    · dsimp only [dSeq, dIf, dTestB, d2, dC, dSh, dCall, dCons, dNil, dLst, dTup, dRet, dNext]
      refine var_at rfl (brF (by rfl) ?_)
      refine var_at rfl (brT (by rfl) ?_)
      refine var_at rfl (var_at rfl ⟨rfl, rfl, rfl, by simp, ?_⟩)
      refine var_at rfl ⟨rfl, rfl, rfl, by simp, ?_⟩
      refine var_at rfl (var_at rfl (var_at rfl ⟨szl (by simp), var_at rfl ⟨szl (by simp), ⟨rfl, rfl, rfl, by simp, ?_⟩⟩⟩))
      refine ⟨szl (by simp), var_at rfl (sub_at (c := ((1 : Nat) : Int)) (by decide) (ixA_lst (ixN (k := 1) (by rfl) ?_)))⟩
      exact q
    · dsimp only [dSeq, dIf, dTestB, d2, dC, dSh, dCall, dCons, dNil, dLst, dTup, dRet, dNext]
      refine var_at rfl (brF (by rfl) ?_)
      refine var_at rfl (brT (by rfl) ?_)
      refine var_at rfl (var_at rfl ⟨rfl, rfl, rfl, by simp, ?_⟩)
      refine var_at rfl ⟨rfl, rfl, rfl, by simp, ?_⟩
      refine var_at rfl (var_at rfl (var_at rfl ⟨szl (by simp), var_at rfl ⟨szl (by simp), ⟨rfl, rfl, rfl, by simp, ?_⟩⟩⟩))
      refine ⟨szl (by simp), var_at rfl (sub_at (c := ((2 : Nat) : Int)) (by decide) (ixA_lst (ixN (k := 2) (by rfl) ?_)))⟩
      exact q
    · dsimp only [dSeq, dIf, dTestB, d2, dC, dSh, dCall, dCons, dNil, dLst, dTup, dRet, dNext]
      refine var_at rfl (brF (by rfl) ?_)
      refine var_at rfl (brF (by rfl) ?_)
      refine var_at rfl ⟨rfl, rfl, rfl, by simp, ?_⟩
      refine var_at rfl ⟨rfl, rfl, rfl, by simp, ?_⟩
      refine ⟨szl (by simp), var_at rfl (sub_at (c := ((0 : Nat) : Int)) (by decide) (ixA_lst (ixN (k := 0) (by rfl) ?_)))⟩
      exact q
    · dsimp only [dSeq, dIf, dTestB, d2, dC, dSh, dCall, dCons, dNil, dLst, dTup, dRet, dNext]
      refine var_at rfl (brF (by rfl) ?_)
      refine var_at rfl (brF (by rfl) ?_)
      refine var_at rfl ⟨rfl, rfl, rfl, by simp, ?_⟩
      refine var_at rfl ⟨rfl, rfl, rfl, by simp, ?_⟩
      refine ⟨szl (by simp), var_at rfl (sub_at (c := ((1 : Nat) : Int)) (by decide) (ixA_lst (ixN (k := 1) (by rfl) ?_)))⟩
      exact q
abbrev s__law_named : Stmt := top 25
theorem sc__law_named : FnScope ["_law_which", "_law_it", "_law_that"] ["_law_which", "_law_it", "_law_that"] (defScope s__law_named) := ⟨rfl, rfl, rfl, by decide +kernel, rfl, by decide +kernel, by decide +kernel⟩
theorem ok__law_named (F : FunD K "_law_named" "_law_named" (defArgs s__law_named) (defBody s__law_named) (defScope s__law_named) [] [] f fd) (D_NoDigits_at : EK1 P w K mg base "NoDigits" (CE 0) ["at"])
    (D_NoWord_field : EK1 P w K mg base "NoWord" (CE 1) ["field"])
    (D_NoText_at : EK1 P w K mg base "NoText" (CE 2) ["at"])
    (D_NoMachine_field : EK1 P w K mg base "NoMachine" (CE 3) ["field"])
    (D_Nought_top : EK1 P w K mg base "Nought" (CE 5) ["top"])
    (D_NoKind_field : EK1 P w K mg base "NoKind" (CE 6) ["field"])
    (D_NoThing_thing : EK1 P w K mg base "NoThing" (CE 7) ["thing"])
    (D_NoRow_at : EK1 P w K mg base "NoRow" (CE 8) ["at"])
    (D_NoName_name : EK1 P w K mg base "NoName" (CE 9) ["name"])
    (D_Taken_name : EK1 P w K mg base "Taken" (CE 10) ["name"])
    (D_TooFar_many : EK1 P w K mg base "TooFar" (CE 11) ["many"])
    (D_Unclear_text : EK1 P w K mg base "Unclear" (CE 13) ["text"])
    (D_Needed_by_name : EK1 P w K mg base "Needed" (CE 14) ["name", "by"])
    (D_Ring_ring : EK1 P w K mg base "Ring" (CE 15) ["ring"])
    (D_Unkept_two_one_text_other_name : EK1 P w K mg base "Unkept" (CE 16) ["name", "other", "text", "one", "two"])
    (D_NoDeed_at : EK1 P w K mg base "NoDeed" (CE 17) ["at"])
    (D_NoAsk_row : EK1 P w K mg base "NoAsk" (CE 18) ["row"]) : FnX false P w K mg base CX0 3 f fd ["_law_which", "_law_it", "_law_that"] (liftSp K (spNmd CE)) := by
  refine fnD F sc__law_named (fun ds n Q E h => ?_) (fun cdv A outer s H E Ed hg hr => ?_)
  · obtain ⟨i, x, y, hi, rfl, q⟩ := h; rfl
  · refine ⟨_, DSs.nx (dss_cons (ds_if (dt_lt (dv 0) de_int)
    (dss_one (ds_ret (de_ixA hr.units (DO.de (do_lst (da_cons (de_callK0 (Eb.cal D_NoDigits_at (hr.mono (by decide))) rfl (dk_cons (dv 1) dk_nil)) (da_cons (de_callK0 (Eb.cal D_NoWord_field (hr.mono (by decide))) rfl (dk_cons (dv 1) dk_nil)) (da_cons (de_callK0 (Eb.cal D_NoText_at (hr.mono (by decide))) rfl (dk_cons (dv 1) dk_nil)) (da_cons (de_callK0 (Eb.cal D_NoMachine_field (hr.mono (by decide))) rfl (dk_cons (dv 1) dk_nil)) (da_cons de_non da_nil))))))) (dv 0))))
    dss_nil)
  (dss_cons (ds_if (dt_lt (dv 0) de_int)
    (dss_one (ds_ret (de_ixA hr.units (DO.de (do_lst (da_cons (de_callK0 (Eb.cal D_Nought_top (hr.mono (by decide))) rfl (dk_cons (dv 1) dk_nil)) (da_cons (de_callK0 (Eb.cal D_NoKind_field (hr.mono (by decide))) rfl (dk_cons (dv 1) dk_nil)) (da_cons (de_callK0 (Eb.cal D_NoThing_thing (hr.mono (by decide))) rfl (dk_cons (dv 1) dk_nil)) (da_cons (de_callK0 (Eb.cal D_NoRow_at (hr.mono (by decide))) rfl (dk_cons (dv 1) dk_nil)) (da_cons (de_callK0 (Eb.cal D_NoName_name (hr.mono (by decide))) rfl (dk_cons (dv 1) dk_nil)) da_nil))))))) (de_sub (dv 0) de_int))))
    dss_nil)
  (dss_cons (ds_if (dt_lt (dv 0) de_int)
    (dss_one (ds_ret (de_ixA hr.units (DO.de (do_lst (da_cons (de_callK0 (Eb.cal D_Taken_name (hr.mono (by decide))) rfl (dk_cons (dv 1) dk_nil)) (da_cons (de_callK0 (Eb.cal D_TooFar_many (hr.mono (by decide))) rfl (dk_cons (dv 1) dk_nil)) (da_cons de_non (da_cons (de_callK0 (Eb.cal D_Unclear_text (hr.mono (by decide))) rfl (dk_cons (dv 1) dk_nil)) da_nil)))))) (de_sub (dv 0) de_int))))
    dss_nil)
  (dss_cons (ds_if (dt_lt (dv 0) de_int)
    (dss_one (ds_ret (de_ixA hr.units (DO.de (do_lst (da_cons (de_callK0 (Eb.cal D_Needed_by_name (hr.mono (by decide))) rfl (dk_cons (dv 2) (dk_cons (dv 1) dk_nil))) (da_cons (de_callK0 (Eb.cal D_Ring_ring (hr.mono (by decide))) rfl (dk_cons (dv 1) dk_nil)) (da_cons (de_callK0 (Eb.cal D_Unkept_two_one_text_other_name (hr.mono (by decide))) rfl (dk_cons (de_tup (da_cons (dv 2) (da_cons de_int da_nil))) (dk_cons (DO.de (do_lst (da_cons (dv 1) da_nil))) (dk_cons de_str (dk_cons (dv 2) (dk_cons (dv 1) dk_nil)))))) da_nil))))) (de_sub (dv 0) de_int))))
    dss_nil)
  (dss_one (ds_ret (de_ixA hr.units (DO.de (do_lst (da_cons (de_callK0 (Eb.cal D_NoDeed_at (hr.mono (by decide))) rfl (dk_cons (dv 1) dk_nil)) (da_cons (de_callK0 (Eb.cal D_NoAsk_row (hr.mono (by decide))) rfl (dk_cons (dv 1) dk_nil)) da_nil)))) (de_sub (dv 0) de_int)))))))), fun ds n Q h => ?_⟩
    obtain ⟨i, x, y, hi, rfl, q⟩ := h
    rcases (show i = 0 ∨ i = 1 ∨ i = 2 ∨ i = 3 ∨ i = 4 ∨ i = 5 ∨ i = 6 ∨ i = 7 ∨ i = 8 ∨ i = 9 ∨ i = 10 ∨ i = 11 ∨ i = 12 ∨ i = 13 ∨ i = 14 ∨ i = 15 ∨ i = 16 ∨ i = 17 ∨ i = 18 from by omega) with rfl | rfl | rfl | rfl | rfl | rfl | rfl | rfl | rfl | rfl | rfl | rfl | rfl | rfl | rfl | rfl | rfl | rfl | rfl
    · dsimp only [dSeq, dIf, dTestB, d2, dC, dSh, dCall, dCons, dNil, dLst, dTup, dRet, dNext]
      refine var_at rfl (brT (by rfl) ?_)
      refine var_at rfl ⟨rfl, rfl, rfl, by simp, ?_⟩
      refine var_at rfl ⟨rfl, rfl, rfl, by simp, ?_⟩
      refine var_at rfl ⟨rfl, rfl, rfl, by simp, ?_⟩
      refine var_at rfl ⟨rfl, rfl, rfl, by simp, ?_⟩
      refine ⟨szl (by simp), var_at rfl ((ixA_lst (ixN (k := 0) (by rfl) ?_)))⟩
      exact q
    · dsimp only [dSeq, dIf, dTestB, d2, dC, dSh, dCall, dCons, dNil, dLst, dTup, dRet, dNext]
      refine var_at rfl (brT (by rfl) ?_)
      refine var_at rfl ⟨rfl, rfl, rfl, by simp, ?_⟩
      refine var_at rfl ⟨rfl, rfl, rfl, by simp, ?_⟩
      refine var_at rfl ⟨rfl, rfl, rfl, by simp, ?_⟩
      refine var_at rfl ⟨rfl, rfl, rfl, by simp, ?_⟩
      refine ⟨szl (by simp), var_at rfl ((ixA_lst (ixN (k := 1) (by rfl) ?_)))⟩
      exact q
    · dsimp only [dSeq, dIf, dTestB, d2, dC, dSh, dCall, dCons, dNil, dLst, dTup, dRet, dNext]
      refine var_at rfl (brT (by rfl) ?_)
      refine var_at rfl ⟨rfl, rfl, rfl, by simp, ?_⟩
      refine var_at rfl ⟨rfl, rfl, rfl, by simp, ?_⟩
      refine var_at rfl ⟨rfl, rfl, rfl, by simp, ?_⟩
      refine var_at rfl ⟨rfl, rfl, rfl, by simp, ?_⟩
      refine ⟨szl (by simp), var_at rfl ((ixA_lst (ixN (k := 2) (by rfl) ?_)))⟩
      exact q
    · dsimp only [dSeq, dIf, dTestB, d2, dC, dSh, dCall, dCons, dNil, dLst, dTup, dRet, dNext]
      refine var_at rfl (brT (by rfl) ?_)
      refine var_at rfl ⟨rfl, rfl, rfl, by simp, ?_⟩
      refine var_at rfl ⟨rfl, rfl, rfl, by simp, ?_⟩
      refine var_at rfl ⟨rfl, rfl, rfl, by simp, ?_⟩
      refine var_at rfl ⟨rfl, rfl, rfl, by simp, ?_⟩
      refine ⟨szl (by simp), var_at rfl ((ixA_lst (ixN (k := 3) (by rfl) ?_)))⟩
      exact q
    · dsimp only [dSeq, dIf, dTestB, d2, dC, dSh, dCall, dCons, dNil, dLst, dTup, dRet, dNext]
      refine var_at rfl (brT (by rfl) ?_)
      refine var_at rfl ⟨rfl, rfl, rfl, by simp, ?_⟩
      refine var_at rfl ⟨rfl, rfl, rfl, by simp, ?_⟩
      refine var_at rfl ⟨rfl, rfl, rfl, by simp, ?_⟩
      refine var_at rfl ⟨rfl, rfl, rfl, by simp, ?_⟩
      refine ⟨szl (by simp), var_at rfl ((ixA_lst (ixN (k := 4) (by rfl) ?_)))⟩
      exact q
    · dsimp only [dSeq, dIf, dTestB, d2, dC, dSh, dCall, dCons, dNil, dLst, dTup, dRet, dNext]
      refine var_at rfl (brF (by rfl) ?_)
      refine var_at rfl (brT (by rfl) ?_)
      refine var_at rfl ⟨rfl, rfl, rfl, by simp, ?_⟩
      refine var_at rfl ⟨rfl, rfl, rfl, by simp, ?_⟩
      refine var_at rfl ⟨rfl, rfl, rfl, by simp, ?_⟩
      refine var_at rfl ⟨rfl, rfl, rfl, by simp, ?_⟩
      refine var_at rfl ⟨rfl, rfl, rfl, by simp, ?_⟩
      refine ⟨szl (by simp), var_at rfl (sub_at (c := ((0 : Nat) : Int)) (by decide) (ixA_lst (ixN (k := 0) (by rfl) ?_)))⟩
      exact q
    · dsimp only [dSeq, dIf, dTestB, d2, dC, dSh, dCall, dCons, dNil, dLst, dTup, dRet, dNext]
      refine var_at rfl (brF (by rfl) ?_)
      refine var_at rfl (brT (by rfl) ?_)
      refine var_at rfl ⟨rfl, rfl, rfl, by simp, ?_⟩
      refine var_at rfl ⟨rfl, rfl, rfl, by simp, ?_⟩
      refine var_at rfl ⟨rfl, rfl, rfl, by simp, ?_⟩
      refine var_at rfl ⟨rfl, rfl, rfl, by simp, ?_⟩
      refine var_at rfl ⟨rfl, rfl, rfl, by simp, ?_⟩
      refine ⟨szl (by simp), var_at rfl (sub_at (c := ((1 : Nat) : Int)) (by decide) (ixA_lst (ixN (k := 1) (by rfl) ?_)))⟩
      exact q
    · dsimp only [dSeq, dIf, dTestB, d2, dC, dSh, dCall, dCons, dNil, dLst, dTup, dRet, dNext]
      refine var_at rfl (brF (by rfl) ?_)
      refine var_at rfl (brT (by rfl) ?_)
      refine var_at rfl ⟨rfl, rfl, rfl, by simp, ?_⟩
      refine var_at rfl ⟨rfl, rfl, rfl, by simp, ?_⟩
      refine var_at rfl ⟨rfl, rfl, rfl, by simp, ?_⟩
      refine var_at rfl ⟨rfl, rfl, rfl, by simp, ?_⟩
      refine var_at rfl ⟨rfl, rfl, rfl, by simp, ?_⟩
      refine ⟨szl (by simp), var_at rfl (sub_at (c := ((2 : Nat) : Int)) (by decide) (ixA_lst (ixN (k := 2) (by rfl) ?_)))⟩
      exact q
    · dsimp only [dSeq, dIf, dTestB, d2, dC, dSh, dCall, dCons, dNil, dLst, dTup, dRet, dNext]
      refine var_at rfl (brF (by rfl) ?_)
      refine var_at rfl (brT (by rfl) ?_)
      refine var_at rfl ⟨rfl, rfl, rfl, by simp, ?_⟩
      refine var_at rfl ⟨rfl, rfl, rfl, by simp, ?_⟩
      refine var_at rfl ⟨rfl, rfl, rfl, by simp, ?_⟩
      refine var_at rfl ⟨rfl, rfl, rfl, by simp, ?_⟩
      refine var_at rfl ⟨rfl, rfl, rfl, by simp, ?_⟩
      refine ⟨szl (by simp), var_at rfl (sub_at (c := ((3 : Nat) : Int)) (by decide) (ixA_lst (ixN (k := 3) (by rfl) ?_)))⟩
      exact q
    · dsimp only [dSeq, dIf, dTestB, d2, dC, dSh, dCall, dCons, dNil, dLst, dTup, dRet, dNext]
      refine var_at rfl (brF (by rfl) ?_)
      refine var_at rfl (brT (by rfl) ?_)
      refine var_at rfl ⟨rfl, rfl, rfl, by simp, ?_⟩
      refine var_at rfl ⟨rfl, rfl, rfl, by simp, ?_⟩
      refine var_at rfl ⟨rfl, rfl, rfl, by simp, ?_⟩
      refine var_at rfl ⟨rfl, rfl, rfl, by simp, ?_⟩
      refine var_at rfl ⟨rfl, rfl, rfl, by simp, ?_⟩
      refine ⟨szl (by simp), var_at rfl (sub_at (c := ((4 : Nat) : Int)) (by decide) (ixA_lst (ixN (k := 4) (by rfl) ?_)))⟩
      exact q
    · dsimp only [dSeq, dIf, dTestB, d2, dC, dSh, dCall, dCons, dNil, dLst, dTup, dRet, dNext]
      refine var_at rfl (brF (by rfl) ?_)
      refine var_at rfl (brF (by rfl) ?_)
      refine var_at rfl (brT (by rfl) ?_)
      refine var_at rfl ⟨rfl, rfl, rfl, by simp, ?_⟩
      refine var_at rfl ⟨rfl, rfl, rfl, by simp, ?_⟩
      refine var_at rfl ⟨rfl, rfl, rfl, by simp, ?_⟩
      refine ⟨szl (by simp), var_at rfl (sub_at (c := ((0 : Nat) : Int)) (by decide) (ixA_lst (ixN (k := 0) (by rfl) ?_)))⟩
      exact q
    · dsimp only [dSeq, dIf, dTestB, d2, dC, dSh, dCall, dCons, dNil, dLst, dTup, dRet, dNext]
      refine var_at rfl (brF (by rfl) ?_)
      refine var_at rfl (brF (by rfl) ?_)
      refine var_at rfl (brT (by rfl) ?_)
      refine var_at rfl ⟨rfl, rfl, rfl, by simp, ?_⟩
      refine var_at rfl ⟨rfl, rfl, rfl, by simp, ?_⟩
      refine var_at rfl ⟨rfl, rfl, rfl, by simp, ?_⟩
      refine ⟨szl (by simp), var_at rfl (sub_at (c := ((1 : Nat) : Int)) (by decide) (ixA_lst (ixN (k := 1) (by rfl) ?_)))⟩
      exact q
    · dsimp only [dSeq, dIf, dTestB, d2, dC, dSh, dCall, dCons, dNil, dLst, dTup, dRet, dNext]
      refine var_at rfl (brF (by rfl) ?_)
      refine var_at rfl (brF (by rfl) ?_)
      refine var_at rfl (brT (by rfl) ?_)
      refine var_at rfl ⟨rfl, rfl, rfl, by simp, ?_⟩
      refine var_at rfl ⟨rfl, rfl, rfl, by simp, ?_⟩
      refine var_at rfl ⟨rfl, rfl, rfl, by simp, ?_⟩
      refine ⟨szl (by simp), var_at rfl (sub_at (c := ((2 : Nat) : Int)) (by decide) (ixA_lst (ixN (k := 2) (by rfl) ?_)))⟩
      exact q
    · dsimp only [dSeq, dIf, dTestB, d2, dC, dSh, dCall, dCons, dNil, dLst, dTup, dRet, dNext]
      refine var_at rfl (brF (by rfl) ?_)
      refine var_at rfl (brF (by rfl) ?_)
      refine var_at rfl (brT (by rfl) ?_)
      refine var_at rfl ⟨rfl, rfl, rfl, by simp, ?_⟩
      refine var_at rfl ⟨rfl, rfl, rfl, by simp, ?_⟩
      refine var_at rfl ⟨rfl, rfl, rfl, by simp, ?_⟩
      refine ⟨szl (by simp), var_at rfl (sub_at (c := ((3 : Nat) : Int)) (by decide) (ixA_lst (ixN (k := 3) (by rfl) ?_)))⟩
      exact q
    · dsimp only [dSeq, dIf, dTestB, d2, dC, dSh, dCall, dCons, dNil, dLst, dTup, dRet, dNext]
      refine var_at rfl (brF (by rfl) ?_)
      refine var_at rfl (brF (by rfl) ?_)
      refine var_at rfl (brF (by rfl) ?_)
      refine var_at rfl (brT (by rfl) ?_)
      refine var_at rfl (var_at rfl ⟨rfl, rfl, rfl, by simp, ?_⟩)
      refine var_at rfl ⟨rfl, rfl, rfl, by simp, ?_⟩
      refine var_at rfl ⟨szl (by simp), var_at rfl ⟨szl (by simp), var_at rfl (var_at rfl ⟨rfl, rfl, rfl, by simp, ?_⟩)⟩⟩
      refine ⟨szl (by simp), var_at rfl (sub_at (c := ((0 : Nat) : Int)) (by decide) (ixA_lst (ixN (k := 0) (by rfl) ?_)))⟩
      exact q
    · dsimp only [dSeq, dIf, dTestB, d2, dC, dSh, dCall, dCons, dNil, dLst, dTup, dRet, dNext]
      refine var_at rfl (brF (by rfl) ?_)
      refine var_at rfl (brF (by rfl) ?_)
      refine var_at rfl (brF (by rfl) ?_)
      refine var_at rfl (brT (by rfl) ?_)
      refine var_at rfl (var_at rfl ⟨rfl, rfl, rfl, by simp, ?_⟩)
      refine var_at rfl ⟨rfl, rfl, rfl, by simp, ?_⟩
      refine var_at rfl ⟨szl (by simp), var_at rfl ⟨szl (by simp), var_at rfl (var_at rfl ⟨rfl, rfl, rfl, by simp, ?_⟩)⟩⟩
      refine ⟨szl (by simp), var_at rfl (sub_at (c := ((1 : Nat) : Int)) (by decide) (ixA_lst (ixN (k := 1) (by rfl) ?_)))⟩
      exact q
    · dsimp only [dSeq, dIf, dTestB, d2, dC, dSh, dCall, dCons, dNil, dLst, dTup, dRet, dNext]
      refine var_at rfl (brF (by rfl) ?_)
      refine var_at rfl (brF (by rfl) ?_)
      refine var_at rfl (brF (by rfl) ?_)
      refine var_at rfl (brT (by rfl) ?_)
      refine var_at rfl (var_at rfl ⟨rfl, rfl, rfl, by simp, ?_⟩)
      refine var_at rfl ⟨rfl, rfl, rfl, by simp, ?_⟩
      refine var_at rfl ⟨szl (by simp), var_at rfl ⟨szl (by simp), var_at rfl (var_at rfl ⟨rfl, rfl, rfl, by simp, ?_⟩)⟩⟩
      refine ⟨szl (by simp), var_at rfl (sub_at (c := ((2 : Nat) : Int)) (by decide) (ixA_lst (ixN (k := 2) (by rfl) ?_)))⟩
      exact q
    · dsimp only [dSeq, dIf, dTestB, d2, dC, dSh, dCall, dCons, dNil, dLst, dTup, dRet, dNext]
      refine var_at rfl (brF (by rfl) ?_)
      refine var_at rfl (brF (by rfl) ?_)
      refine var_at rfl (brF (by rfl) ?_)
      refine var_at rfl (brF (by rfl) ?_)
      refine var_at rfl ⟨rfl, rfl, rfl, by simp, ?_⟩
      refine var_at rfl ⟨rfl, rfl, rfl, by simp, ?_⟩
      refine ⟨szl (by simp), var_at rfl (sub_at (c := ((0 : Nat) : Int)) (by decide) (ixA_lst (ixN (k := 0) (by rfl) ?_)))⟩
      exact q
    · dsimp only [dSeq, dIf, dTestB, d2, dC, dSh, dCall, dCons, dNil, dLst, dTup, dRet, dNext]
      refine var_at rfl (brF (by rfl) ?_)
      refine var_at rfl (brF (by rfl) ?_)
      refine var_at rfl (brF (by rfl) ?_)
      refine var_at rfl (brF (by rfl) ?_)
      refine var_at rfl ⟨rfl, rfl, rfl, by simp, ?_⟩
      refine var_at rfl ⟨rfl, rfl, rfl, by simp, ?_⟩
      refine ⟨szl (by simp), var_at rfl (sub_at (c := ((1 : Nat) : Int)) (by decide) (ixA_lst (ixN (k := 1) (by rfl) ?_)))⟩
      exact q
end
end Lw

/-! ### the refusals, looked at -/
namespace Lw
open PySem PySem.Spec PyProof.Rows L2 Fw Dw
def BSX : List String := ["ValueError", "ArithmeticError", "ZeroDivisionError", "TypeError", "LookupError", "KeyError", "IndexError", "OverflowError", "RuntimeError", "NotImplementedError"]
def BX (k : Nat) : String := BSX.getD k ""
def ABX : List (List Int) := [[0], [0], [0], [0], [1], [1, 2], [3], [4], [4], [4, 5], [4, 5], [4, 6], [1, 7], [8], [8], [8], [8], [8, 9], []]
def AX (i : Nat) : List Int := ABX.getD i []
/-- what the classes say of one another -/
structure KitX (K : PySem.W.Frag) (CE : Nat → Addr) : Prop where
  ex : ∀ i, i < 19 → ExcK K (CE i)
  own : ∀ i, i < 19 → ∀ j, j < 19 → PySem.W.kitOne K (.ref (CE i)) (.ref (CE j)) = some (decide (j = i))
  bas : ∀ i, i < 19 → ∀ k, k < 10 → PySem.W.kitOne K (.ref (CE i)) (.type (BX k)) = some (decide (((k : Nat) : Int) ∈ AX i))
  no : ∀ i, i < 19 → ∀ f ∈ FX i, PySem.W.findIn K (.ref (CE i)) f = some none
def spFld (CE : Nat → Addr) : SpD := fun ds n Q _ => ∃ (i : Nat) (xs : List D), i < 19 ∧ xs.length = (FX i).length ∧ ds = [.int i, exD CE i xs] ∧ Q (.lst xs) n
def spCls (CE : Nat → Addr) : SpD := fun ds n Q _ => ∃ (i : Nat) (fs : List (Str × D)), i < 19 ∧ ds = [.exc (CE i) fs] ∧ Q (.lst (((List.range 19).map fun j => decide (j = i)).map D.bl)) n
def spBas (CE : Nat → Addr) : SpD := fun ds n Q _ => ∃ (i : Nat) (fs : List (Str × D)), i < 19 ∧ ds = [.exc (CE i) fs] ∧ Q (.lst (((List.range 10).map fun k => decide (((k : Nat) : Int) ∈ AX i)).map D.bl)) n
def spDBs : SpD := fun ds n Q _ => ∃ i : Nat, i < 19 ∧ ds = [.int i] ∧ Q (.lst (((List.range 10).map fun k => decide (((k : Nat) : Int) ∈ AX i)).map D.bl)) n
theorem dAdd_L {a b : List D} {n : Nat} {Q : QD} (h : a.length + b.length ≤ 1000) (q : Q (.lst (a ++ b)) n) : dAdd (.lst a) (.lst b) n Q := ⟨Nat.le_trans h (by decide), q⟩
theorem isi_at {K : PySem.W.Frag} {C : Addr} {fs : List (Str × D)} {c : V} {u : Value} {b : Bool} {n : Nat} {Q : QD} (h1 : clsD c = some u) (h2 : ExcK K C) (h3 : PySem.W.kitOne K (.ref C) u = some b) (q : Q (.bl b) n) : dIsi K [.exc C fs, .val c] n Q := ⟨u, b, h1, h2, h3, q⟩
section
variable {P : Program} {w : World} {K : PySem.W.Frag} {mg : Str → Option Value} {base : Heap} {f : Addr} {fd : FuncData} {CE : Nat → Addr}
abbrev s__law_fields : Stmt := top 26
theorem sc__law_fields : FnScope ["_law_which", "_law_e"] ["_law_which", "_law_e"] (defScope s__law_fields) := ⟨rfl, rfl, rfl, by decide +kernel, rfl, by decide +kernel, by decide +kernel⟩
theorem ok__law_fields (F : FunD K "_law_fields" "_law_fields" (defArgs s__law_fields) (defBody s__law_fields) (defScope s__law_fields) [] [] f fd) (KX : KitX K CE) : FnX false P w K mg base CX0 3 f fd ["_law_which", "_law_e"] (liftSp K (spFld CE)) := by
  refine fnD F sc__law_fields (fun ds n Q E h => ?_) (fun cdv A outer s H E Ed hg hr => ?_)
  · obtain ⟨i, xs, hi, hl, rfl, q⟩ := h; rfl
  · refine ⟨_, DSs.nx (dss_cons (ds_if (dt_in (hr.mono (Nat.zero_le _)) (dv 0) (de_tup (da_cons de_int (da_cons de_int (da_cons de_int (da_cons de_int da_nil))))))
    (dss_one (ds_ret (DO.de (do_lst (da_cons (de_kf (dv 1)) da_nil)))))
    dss_nil)
  (dss_cons (ds_if (dt_in (hr.mono (Nat.zero_le _)) (dv 0) (de_tup (da_cons de_int (da_cons de_int (da_cons de_int da_nil)))))
    (dss_one (ds_ret (DO.de (do_lst (da_cons (de_kf (dv 1)) da_nil)))))
    dss_nil)
  (dss_cons (ds_if (dt_in (hr.mono (Nat.zero_le _)) (dv 0) (de_tup (da_cons de_int (da_cons de_int da_nil))))
    (dss_one (ds_ret (DO.de (do_lst (da_cons (de_kf (dv 1)) da_nil)))))
    dss_nil)
  (dss_cons (ds_if (dt_in (hr.mono (Nat.zero_le _)) (dv 0) (de_tup (da_cons de_int (da_cons de_int da_nil))))
    (dss_one (ds_ret (DO.de (do_lst da_nil))))
    dss_nil)
  (dss_cons (ds_if (dt_in (hr.mono (Nat.zero_le _)) (dv 0) (de_tup (da_cons de_int (da_cons de_int (da_cons de_int da_nil)))))
    (dss_one (ds_ret (de_ifExp (dt_eq hr.units (dv 0) de_int) (DO.de (do_lst (da_cons (de_kf (dv 1)) da_nil))) (de_ifExp (dt_eq hr.units (dv 0) de_int) (DO.de (do_lst (da_cons (de_kf (dv 1)) da_nil))) (DO.de (do_lst (da_cons (de_kf (dv 1)) da_nil)))))))
    dss_nil)
  (dss_cons (ds_if (dt_in (hr.mono (Nat.zero_le _)) (dv 0) (de_tup (da_cons de_int (da_cons de_int (da_cons de_int da_nil)))))
    (dss_one (ds_ret (de_ifExp (dt_eq hr.units (dv 0) de_int) (DO.de (do_lst (da_cons (de_kf (dv 1)) da_nil))) (de_ifExp (dt_eq hr.units (dv 0) de_int) (DO.de (do_lst (da_cons (de_kf (dv 1)) da_nil))) (DO.de (do_lst (da_cons (de_kf (dv 1)) da_nil)))))))
    dss_nil)
  (dss_one (ds_ret (de_ifExp (dt_eq hr.units (dv 0) de_int) (DO.de (do_lst (da_cons (de_kf (dv 1)) (da_cons (de_kf (dv 1)) da_nil)))) (DO.de (do_lst (da_cons (de_kf (dv 1)) (da_cons (de_kf (dv 1)) (da_cons (de_kf (dv 1)) (da_cons (de_kf (dv 1)) (da_cons (de_kf (dv 1)) da_nil)))))))))))))))), fun ds n Q h => ?_⟩
    obtain ⟨i, xs, hi, hl, rfl, q⟩ := h
    rcases (show i = 0 ∨ i = 1 ∨ i = 2 ∨ i = 3 ∨ i = 4 ∨ i = 5 ∨ i = 6 ∨ i = 7 ∨ i = 8 ∨ i = 9 ∨ i = 10 ∨ i = 11 ∨ i = 12 ∨ i = 13 ∨ i = 14 ∨ i = 15 ∨ i = 16 ∨ i = 17 ∨ i = 18 from by omega) with rfl | rfl | rfl | rfl | rfl | rfl | rfl | rfl | rfl | rfl | rfl | rfl | rfl | rfl | rfl | rfl | rfl | rfl | rfl
    · match xs, hl, q with
      | [x0], _, q =>
      dsimp only [dSeq, dIf, dTestB, dIfV, d2, dC, dSh, dCall, dCb, dCons, dNil, dLst, dTup, dRet, dNext, dSet, dKf]
      refine var_at rfl ⟨szl (by simp), rfl, rfl, brT (by rfl) ?_⟩
      refine var_at rfl ⟨KX.ex 0 (by decide), KX.no 0 (by decide) _ (by simp [FX, XF]), ?_⟩
      exact ⟨szl (by simp), q⟩
    · match xs, hl, q with
      | [x0], _, q =>
      dsimp only [dSeq, dIf, dTestB, dIfV, d2, dC, dSh, dCall, dCb, dCons, dNil, dLst, dTup, dRet, dNext, dSet, dKf]
      refine var_at rfl ⟨szl (by simp), rfl, rfl, brF (by rfl) ?_⟩
      refine var_at rfl ⟨szl (by simp), rfl, rfl, brT (by rfl) ?_⟩
      refine var_at rfl ⟨KX.ex 1 (by decide), KX.no 1 (by decide) _ (by simp [FX, XF]), ?_⟩
      exact ⟨szl (by simp), q⟩
    · match xs, hl, q with
      | [x0], _, q =>
      dsimp only [dSeq, dIf, dTestB, dIfV, d2, dC, dSh, dCall, dCb, dCons, dNil, dLst, dTup, dRet, dNext, dSet, dKf]
      refine var_at rfl ⟨szl (by simp), rfl, rfl, brT (by rfl) ?_⟩
      refine var_at rfl ⟨KX.ex 2 (by decide), KX.no 2 (by decide) _ (by simp [FX, XF]), ?_⟩
      exact ⟨szl (by simp), q⟩
    · match xs, hl, q with
      | [x0], _, q =>
      dsimp only [dSeq, dIf, dTestB, dIfV, d2, dC, dSh, dCall, dCb, dCons, dNil, dLst, dTup, dRet, dNext, dSet, dKf]
      refine var_at rfl ⟨szl (by simp), rfl, rfl, brF (by rfl) ?_⟩
      refine var_at rfl ⟨szl (by simp), rfl, rfl, brT (by rfl) ?_⟩
      refine var_at rfl ⟨KX.ex 3 (by decide), KX.no 3 (by decide) _ (by simp [FX, XF]), ?_⟩
      exact ⟨szl (by simp), q⟩
    · match xs, hl, q with
      | [], _, q =>
      dsimp only [dSeq, dIf, dTestB, dIfV, d2, dC, dSh, dCall, dCb, dCons, dNil, dLst, dTup, dRet, dNext, dSet, dKf]
      refine var_at rfl ⟨szl (by simp), rfl, rfl, brF (by rfl) ?_⟩
      refine var_at rfl ⟨szl (by simp), rfl, rfl, brF (by rfl) ?_⟩
      refine var_at rfl ⟨szl (by simp), rfl, rfl, brF (by rfl) ?_⟩
      refine var_at rfl ⟨szl (by simp), rfl, rfl, brT (by rfl) ?_⟩
      exact ⟨szl (by simp), q⟩
    · match xs, hl, q with
      | [x0], _, q =>
      dsimp only [dSeq, dIf, dTestB, dIfV, d2, dC, dSh, dCall, dCb, dCons, dNil, dLst, dTup, dRet, dNext, dSet, dKf]
      refine var_at rfl ⟨szl (by simp), rfl, rfl, brF (by rfl) ?_⟩
      refine var_at rfl ⟨szl (by simp), rfl, rfl, brF (by rfl) ?_⟩
      refine var_at rfl ⟨szl (by simp), rfl, rfl, brF (by rfl) ?_⟩
      refine var_at rfl ⟨szl (by simp), rfl, rfl, brF (by rfl) ?_⟩
      refine var_at rfl ⟨szl (by simp), rfl, rfl, brT (by rfl) ?_⟩
      refine var_at rfl (brT (by rfl) ?_)
      refine var_at rfl ⟨KX.ex 5 (by decide), KX.no 5 (by decide) _ (by simp [FX, XF]), ?_⟩
      exact ⟨szl (by simp), q⟩
    · match xs, hl, q with
      | [x0], _, q =>
      dsimp only [dSeq, dIf, dTestB, dIfV, d2, dC, dSh, dCall, dCb, dCons, dNil, dLst, dTup, dRet, dNext, dSet, dKf]
      refine var_at rfl ⟨szl (by simp), rfl, rfl, brF (by rfl) ?_⟩
      refine var_at rfl ⟨szl (by simp), rfl, rfl, brT (by rfl) ?_⟩
      refine var_at rfl ⟨KX.ex 6 (by decide), KX.no 6 (by decide) _ (by simp [FX, XF]), ?_⟩
      exact ⟨szl (by simp), q⟩
    · match xs, hl, q with
      | [x0], _, q =>
      dsimp only [dSeq, dIf, dTestB, dIfV, d2, dC, dSh, dCall, dCb, dCons, dNil, dLst, dTup, dRet, dNext, dSet, dKf]
      refine var_at rfl ⟨szl (by simp), rfl, rfl, brF (by rfl) ?_⟩
      refine var_at rfl ⟨szl (by simp), rfl, rfl, brF (by rfl) ?_⟩
      refine var_at rfl ⟨szl (by simp), rfl, rfl, brF (by rfl) ?_⟩
      refine var_at rfl ⟨szl (by simp), rfl, rfl, brF (by rfl) ?_⟩
      refine var_at rfl ⟨szl (by simp), rfl, rfl, brT (by rfl) ?_⟩
      refine var_at rfl (brF (by rfl) ?_)
      refine var_at rfl (brT (by rfl) ?_)
      refine var_at rfl ⟨KX.ex 7 (by decide), KX.no 7 (by decide) _ (by simp [FX, XF]), ?_⟩
      exact ⟨szl (by simp), q⟩
    · match xs, hl, q with
      | [x0], _, q =>
      dsimp only [dSeq, dIf, dTestB, dIfV, d2, dC, dSh, dCall, dCb, dCons, dNil, dLst, dTup, dRet, dNext, dSet, dKf]
      refine var_at rfl ⟨szl (by simp), rfl, rfl, brT (by rfl) ?_⟩
      refine var_at rfl ⟨KX.ex 8 (by decide), KX.no 8 (by decide) _ (by simp [FX, XF]), ?_⟩
      exact ⟨szl (by simp), q⟩
    · match xs, hl, q with
      | [x0], _, q =>
      dsimp only [dSeq, dIf, dTestB, dIfV, d2, dC, dSh, dCall, dCb, dCons, dNil, dLst, dTup, dRet, dNext, dSet, dKf]
      refine var_at rfl ⟨szl (by simp), rfl, rfl, brF (by rfl) ?_⟩
      refine var_at rfl ⟨szl (by simp), rfl, rfl, brF (by rfl) ?_⟩
      refine var_at rfl ⟨szl (by simp), rfl, rfl, brT (by rfl) ?_⟩
      refine var_at rfl ⟨KX.ex 9 (by decide), KX.no 9 (by decide) _ (by simp [FX, XF]), ?_⟩
      exact ⟨szl (by simp), q⟩
    · match xs, hl, q with
      | [x0], _, q =>
      dsimp only [dSeq, dIf, dTestB, dIfV, d2, dC, dSh, dCall, dCb, dCons, dNil, dLst, dTup, dRet, dNext, dSet, dKf]
      refine var_at rfl ⟨szl (by simp), rfl, rfl, brF (by rfl) ?_⟩
      refine var_at rfl ⟨szl (by simp), rfl, rfl, brF (by rfl) ?_⟩
      refine var_at rfl ⟨szl (by simp), rfl, rfl, brT (by rfl) ?_⟩
      refine var_at rfl ⟨KX.ex 10 (by decide), KX.no 10 (by decide) _ (by simp [FX, XF]), ?_⟩
      exact ⟨szl (by simp), q⟩
    · match xs, hl, q with
      | [x0], _, q =>
      dsimp only [dSeq, dIf, dTestB, dIfV, d2, dC, dSh, dCall, dCb, dCons, dNil, dLst, dTup, dRet, dNext, dSet, dKf]
      refine var_at rfl ⟨szl (by simp), rfl, rfl, brF (by rfl) ?_⟩
      refine var_at rfl ⟨szl (by simp), rfl, rfl, brF (by rfl) ?_⟩
      refine var_at rfl ⟨szl (by simp), rfl, rfl, brF (by rfl) ?_⟩
      refine var_at rfl ⟨szl (by simp), rfl, rfl, brF (by rfl) ?_⟩
      refine var_at rfl ⟨szl (by simp), rfl, rfl, brT (by rfl) ?_⟩
      refine var_at rfl (brF (by rfl) ?_)
      refine var_at rfl (brF (by rfl) ?_)
      refine var_at rfl ⟨KX.ex 11 (by decide), KX.no 11 (by decide) _ (by simp [FX, XF]), ?_⟩
      exact ⟨szl (by simp), q⟩
    · match xs, hl, q with
      | [], _, q =>
      dsimp only [dSeq, dIf, dTestB, dIfV, d2, dC, dSh, dCall, dCb, dCons, dNil, dLst, dTup, dRet, dNext, dSet, dKf]
      refine var_at rfl ⟨szl (by simp), rfl, rfl, brF (by rfl) ?_⟩
      refine var_at rfl ⟨szl (by simp), rfl, rfl, brF (by rfl) ?_⟩
      refine var_at rfl ⟨szl (by simp), rfl, rfl, brF (by rfl) ?_⟩
      refine var_at rfl ⟨szl (by simp), rfl, rfl, brT (by rfl) ?_⟩
      exact ⟨szl (by simp), q⟩
    · match xs, hl, q with
      | [x0], _, q =>
      dsimp only [dSeq, dIf, dTestB, dIfV, d2, dC, dSh, dCall, dCb, dCons, dNil, dLst, dTup, dRet, dNext, dSet, dKf]
      refine var_at rfl ⟨szl (by simp), rfl, rfl, brF (by rfl) ?_⟩
      refine var_at rfl ⟨szl (by simp), rfl, rfl, brF (by rfl) ?_⟩
      refine var_at rfl ⟨szl (by simp), rfl, rfl, brF (by rfl) ?_⟩
      refine var_at rfl ⟨szl (by simp), rfl, rfl, brF (by rfl) ?_⟩
      refine var_at rfl ⟨szl (by simp), rfl, rfl, brF (by rfl) ?_⟩
      refine var_at rfl ⟨szl (by simp), rfl, rfl, brT (by rfl) ?_⟩
      refine var_at rfl (brT (by rfl) ?_)
      refine var_at rfl ⟨KX.ex 13 (by decide), KX.no 13 (by decide) _ (by simp [FX, XF]), ?_⟩
      exact ⟨szl (by simp), q⟩
    · match xs, hl, q with
      | [x0, x1], _, q =>
      dsimp only [dSeq, dIf, dTestB, dIfV, d2, dC, dSh, dCall, dCb, dCons, dNil, dLst, dTup, dRet, dNext, dSet, dKf]
      refine var_at rfl ⟨szl (by simp), rfl, rfl, brF (by rfl) ?_⟩
      refine var_at rfl ⟨szl (by simp), rfl, rfl, brF (by rfl) ?_⟩
      refine var_at rfl ⟨szl (by simp), rfl, rfl, brF (by rfl) ?_⟩
      refine var_at rfl ⟨szl (by simp), rfl, rfl, brF (by rfl) ?_⟩
      refine var_at rfl ⟨szl (by simp), rfl, rfl, brF (by rfl) ?_⟩
      refine var_at rfl ⟨szl (by simp), rfl, rfl, brF (by rfl) ?_⟩
      refine var_at rfl (brT (by rfl) ?_)
      refine var_at rfl ⟨KX.ex 14 (by decide), KX.no 14 (by decide) _ (by simp [FX, XF]), ?_⟩
      refine var_at rfl ⟨KX.ex 14 (by decide), KX.no 14 (by decide) _ (by simp [FX, XF]), ?_⟩
      exact ⟨szl (by simp), q⟩
    · match xs, hl, q with
      | [x0], _, q =>
      dsimp only [dSeq, dIf, dTestB, dIfV, d2, dC, dSh, dCall, dCb, dCons, dNil, dLst, dTup, dRet, dNext, dSet, dKf]
      refine var_at rfl ⟨szl (by simp), rfl, rfl, brF (by rfl) ?_⟩
      refine var_at rfl ⟨szl (by simp), rfl, rfl, brF (by rfl) ?_⟩
      refine var_at rfl ⟨szl (by simp), rfl, rfl, brF (by rfl) ?_⟩
      refine var_at rfl ⟨szl (by simp), rfl, rfl, brF (by rfl) ?_⟩
      refine var_at rfl ⟨szl (by simp), rfl, rfl, brF (by rfl) ?_⟩
      refine var_at rfl ⟨szl (by simp), rfl, rfl, brT (by rfl) ?_⟩
      refine var_at rfl (brF (by rfl) ?_)
      refine var_at rfl (brT (by rfl) ?_)
      refine var_at rfl ⟨KX.ex 15 (by decide), KX.no 15 (by decide) _ (by simp [FX, XF]), ?_⟩
      exact ⟨szl (by simp), q⟩
    · match xs, hl, q with
      | [x0, x1, x2, x3, x4], _, q =>
      dsimp only [dSeq, dIf, dTestB, dIfV, d2, dC, dSh, dCall, dCb, dCons, dNil, dLst, dTup, dRet, dNext, dSet, dKf]
      refine var_at rfl ⟨szl (by simp), rfl, rfl, brF (by rfl) ?_⟩
      refine var_at rfl ⟨szl (by simp), rfl, rfl, brF (by rfl) ?_⟩
      refine var_at rfl ⟨szl (by simp), rfl, rfl, brF (by rfl) ?_⟩
      refine var_at rfl ⟨szl (by simp), rfl, rfl, brF (by rfl) ?_⟩
      refine var_at rfl ⟨szl (by simp), rfl, rfl, brF (by rfl) ?_⟩
      refine var_at rfl ⟨szl (by simp), rfl, rfl, brF (by rfl) ?_⟩
      refine var_at rfl (brF (by rfl) ?_)
      refine var_at rfl ⟨KX.ex 16 (by decide), KX.no 16 (by decide) _ (by simp [FX, XF]), ?_⟩
      refine var_at rfl ⟨KX.ex 16 (by decide), KX.no 16 (by decide) _ (by simp [FX, XF]), ?_⟩
      refine var_at rfl ⟨KX.ex 16 (by decide), KX.no 16 (by decide) _ (by simp [FX, XF]), ?_⟩
      refine var_at rfl ⟨KX.ex 16 (by decide), KX.no 16 (by decide) _ (by simp [FX, XF]), ?_⟩
      refine var_at rfl ⟨KX.ex 16 (by decide), KX.no 16 (by decide) _ (by simp [FX, XF]), ?_⟩
      exact ⟨szl (by simp), q⟩
    · match xs, hl, q with
      | [x0], _, q =>
      dsimp only [dSeq, dIf, dTestB, dIfV, d2, dC, dSh, dCall, dCb, dCons, dNil, dLst, dTup, dRet, dNext, dSet, dKf]
      refine var_at rfl ⟨szl (by simp), rfl, rfl, brT (by rfl) ?_⟩
      refine var_at rfl ⟨KX.ex 17 (by decide), KX.no 17 (by decide) _ (by simp [FX, XF]), ?_⟩
      exact ⟨szl (by simp), q⟩
    · match xs, hl, q with
      | [x0], _, q =>
      dsimp only [dSeq, dIf, dTestB, dIfV, d2, dC, dSh, dCall, dCb, dCons, dNil, dLst, dTup, dRet, dNext, dSet, dKf]
      refine var_at rfl ⟨szl (by simp), rfl, rfl, brF (by rfl) ?_⟩
      refine var_at rfl ⟨szl (by simp), rfl, rfl, brF (by rfl) ?_⟩
      refine var_at rfl ⟨szl (by simp), rfl, rfl, brF (by rfl) ?_⟩
      refine var_at rfl ⟨szl (by simp), rfl, rfl, brF (by rfl) ?_⟩
      refine var_at rfl ⟨szl (by simp), rfl, rfl, brF (by rfl) ?_⟩
      refine var_at rfl ⟨szl (by simp), rfl, rfl, brT (by rfl) ?_⟩
      refine var_at rfl (brF (by rfl) ?_)
      refine var_at rfl (brF (by rfl) ?_)
      refine var_at rfl ⟨KX.ex 18 (by decide), KX.no 18 (by decide) _ (by simp [FX, XF]), ?_⟩
      exact ⟨szl (by simp), q⟩
abbrev s__law_classes : Stmt := top 27
theorem sc__law_classes : FnScope ["_law_e", "_law_found"] ["_law_e"] (defScope s__law_classes) := ⟨rfl, rfl, rfl, by decide +kernel, rfl, by decide +kernel, by decide +kernel⟩
theorem ok__law_classes (F : FunD K "_law_classes" "_law_classes" (defArgs s__law_classes) (defBody s__law_classes) (defScope s__law_classes) [] [] f fd) (KX : KitX K CE) (mg_isinstance : mg "isinstance" = none)
    (mg_NoDigits : mg "NoDigits" = some (.ref (CE 0)))
    (mg_NoWord : mg "NoWord" = some (.ref (CE 1)))
    (mg_NoText : mg "NoText" = some (.ref (CE 2)))
    (mg_NoMachine : mg "NoMachine" = some (.ref (CE 3)))
    (mg_NoRange : mg "NoRange" = some (.ref (CE 4)))
    (mg_Nought : mg "Nought" = some (.ref (CE 5)))
    (mg_NoKind : mg "NoKind" = some (.ref (CE 6)))
    (mg_NoThing : mg "NoThing" = some (.ref (CE 7)))
    (mg_NoRow : mg "NoRow" = some (.ref (CE 8)))
    (mg_NoName : mg "NoName" = some (.ref (CE 9)))
    (mg_Taken : mg "Taken" = some (.ref (CE 10)))
    (mg_TooFar : mg "TooFar" = some (.ref (CE 11)))
    (mg_Endless : mg "Endless" = some (.ref (CE 12)))
    (mg_Unclear : mg "Unclear" = some (.ref (CE 13)))
    (mg_Needed : mg "Needed" = some (.ref (CE 14)))
    (mg_Ring : mg "Ring" = some (.ref (CE 15)))
    (mg_Unkept : mg "Unkept" = some (.ref (CE 16)))
    (mg_NoDeed : mg "NoDeed" = some (.ref (CE 17)))
    (mg_NoAsk : mg "NoAsk" = some (.ref (CE 18))) : FnX false P w K mg base CX0 3 f fd ["_law_e"] (liftSp K (spCls CE)) := by
  refine fnD F sc__law_classes (fun ds n Q E h => ?_) (fun cdv A outer s H E Ed hg hr => ?_)
  · obtain ⟨i, fs, hi, rfl, q⟩ := h; rfl
  · refine ⟨_, DSs.nx (dss_cons (ds_set (i := 1) [] sc__law_classes.nd rfl (Or.inl rfl) (DO.de (do_lst (da_cons (de_isi mg_isinstance (da_cons (dv 0) (da_cons (de_gval rfl mg_NoDigits) da_nil))) (da_cons (de_isi mg_isinstance (da_cons (dv 0) (da_cons (de_gval rfl mg_NoWord) da_nil))) (da_cons (de_isi mg_isinstance (da_cons (dv 0) (da_cons (de_gval rfl mg_NoText) da_nil))) (da_cons (de_isi mg_isinstance (da_cons (dv 0) (da_cons (de_gval rfl mg_NoMachine) da_nil))) da_nil)))))))
  (dss_cons (ds_set (i := 1) [] sc__law_classes.nd rfl (Or.inl rfl) (de_add (dv 1) (DO.de (do_lst (da_cons (de_isi mg_isinstance (da_cons (dv 0) (da_cons (de_gval rfl mg_NoRange) da_nil))) (da_cons (de_isi mg_isinstance (da_cons (dv 0) (da_cons (de_gval rfl mg_Nought) da_nil))) (da_cons (de_isi mg_isinstance (da_cons (dv 0) (da_cons (de_gval rfl mg_NoKind) da_nil))) (da_cons (de_isi mg_isinstance (da_cons (dv 0) (da_cons (de_gval rfl mg_NoThing) da_nil))) da_nil))))))))
  (dss_cons (ds_set (i := 1) [] sc__law_classes.nd rfl (Or.inl rfl) (de_add (dv 1) (DO.de (do_lst (da_cons (de_isi mg_isinstance (da_cons (dv 0) (da_cons (de_gval rfl mg_NoRow) da_nil))) (da_cons (de_isi mg_isinstance (da_cons (dv 0) (da_cons (de_gval rfl mg_NoName) da_nil))) (da_cons (de_isi mg_isinstance (da_cons (dv 0) (da_cons (de_gval rfl mg_Taken) da_nil))) (da_cons (de_isi mg_isinstance (da_cons (dv 0) (da_cons (de_gval rfl mg_TooFar) da_nil))) da_nil))))))))
  (dss_cons (ds_set (i := 1) [] sc__law_classes.nd rfl (Or.inl rfl) (de_add (dv 1) (DO.de (do_lst (da_cons (de_isi mg_isinstance (da_cons (dv 0) (da_cons (de_gval rfl mg_Endless) da_nil))) (da_cons (de_isi mg_isinstance (da_cons (dv 0) (da_cons (de_gval rfl mg_Unclear) da_nil))) (da_cons (de_isi mg_isinstance (da_cons (dv 0) (da_cons (de_gval rfl mg_Needed) da_nil))) (da_cons (de_isi mg_isinstance (da_cons (dv 0) (da_cons (de_gval rfl mg_Ring) da_nil))) da_nil))))))))
  (dss_one (ds_ret (de_add (dv 1) (DO.de (do_lst (da_cons (de_isi mg_isinstance (da_cons (dv 0) (da_cons (de_gval rfl mg_Unkept) da_nil))) (da_cons (de_isi mg_isinstance (da_cons (dv 0) (da_cons (de_gval rfl mg_NoDeed) da_nil))) (da_cons (de_isi mg_isinstance (da_cons (dv 0) (da_cons (de_gval rfl mg_NoAsk) da_nil))) da_nil)))))))))))), fun ds n Q h => ?_⟩
    obtain ⟨i, fs, hi, rfl, q⟩ := h
    dsimp only [dSeq, dIf, dTestB, dIfV, d2, dC, dSh, dCall, dCb, dCons, dNil, dLst, dTup, dRet, dNext, dSet, dKf]
    refine var_at rfl (isi_at rfl (KX.ex i hi) (KX.own i hi 0 (by decide)) ?_)
    refine var_at rfl (isi_at rfl (KX.ex i hi) (KX.own i hi 1 (by decide)) ?_)
    refine var_at rfl (isi_at rfl (KX.ex i hi) (KX.own i hi 2 (by decide)) ?_)
    refine var_at rfl (isi_at rfl (KX.ex i hi) (KX.own i hi 3 (by decide)) ?_)
    refine ⟨szl (by simp), ?_⟩
    refine var_at rfl ?_
    refine var_at rfl (isi_at rfl (KX.ex i hi) (KX.own i hi 4 (by decide)) ?_)
    refine var_at rfl (isi_at rfl (KX.ex i hi) (KX.own i hi 5 (by decide)) ?_)
    refine var_at rfl (isi_at rfl (KX.ex i hi) (KX.own i hi 6 (by decide)) ?_)
    refine var_at rfl (isi_at rfl (KX.ex i hi) (KX.own i hi 7 (by decide)) ?_)
    refine ⟨szl (by simp), ?_⟩
    refine dAdd_L (by simp) ?_
    refine var_at rfl ?_
    refine var_at rfl (isi_at rfl (KX.ex i hi) (KX.own i hi 8 (by decide)) ?_)
    refine var_at rfl (isi_at rfl (KX.ex i hi) (KX.own i hi 9 (by decide)) ?_)
    refine var_at rfl (isi_at rfl (KX.ex i hi) (KX.own i hi 10 (by decide)) ?_)
    refine var_at rfl (isi_at rfl (KX.ex i hi) (KX.own i hi 11 (by decide)) ?_)
    refine ⟨szl (by simp), ?_⟩
    refine dAdd_L (by simp) ?_
    refine var_at rfl ?_
    refine var_at rfl (isi_at rfl (KX.ex i hi) (KX.own i hi 12 (by decide)) ?_)
    refine var_at rfl (isi_at rfl (KX.ex i hi) (KX.own i hi 13 (by decide)) ?_)
    refine var_at rfl (isi_at rfl (KX.ex i hi) (KX.own i hi 14 (by decide)) ?_)
    refine var_at rfl (isi_at rfl (KX.ex i hi) (KX.own i hi 15 (by decide)) ?_)
    refine ⟨szl (by simp), ?_⟩
    refine dAdd_L (by simp) ?_
    refine var_at rfl ?_
    refine var_at rfl (isi_at rfl (KX.ex i hi) (KX.own i hi 16 (by decide)) ?_)
    refine var_at rfl (isi_at rfl (KX.ex i hi) (KX.own i hi 17 (by decide)) ?_)
    refine var_at rfl (isi_at rfl (KX.ex i hi) (KX.own i hi 18 (by decide)) ?_)
    refine ⟨szl (by simp), ?_⟩
    refine dAdd_L (by simp) ?_
    exact q
abbrev s__law_bases : Stmt := top 28
theorem sc__law_bases : FnScope ["_law_e", "_law_found"] ["_law_e"] (defScope s__law_bases) := ⟨rfl, rfl, rfl, by decide +kernel, rfl, by decide +kernel, by decide +kernel⟩
theorem ok__law_bases (F : FunD K "_law_bases" "_law_bases" (defArgs s__law_bases) (defBody s__law_bases) (defScope s__law_bases) [] [] f fd) (KX : KitX K CE) (mg_isinstance : mg "isinstance" = none)
    (mg_ValueError : mg "ValueError" = none)
    (mg_ArithmeticError : mg "ArithmeticError" = none)
    (mg_ZeroDivisionError : mg "ZeroDivisionError" = none)
    (mg_TypeError : mg "TypeError" = none)
    (mg_LookupError : mg "LookupError" = none)
    (mg_KeyError : mg "KeyError" = none)
    (mg_IndexError : mg "IndexError" = none)
    (mg_OverflowError : mg "OverflowError" = none)
    (mg_RuntimeError : mg "RuntimeError" = none)
    (mg_NotImplementedError : mg "NotImplementedError" = none) : FnX false P w K mg base CX0 3 f fd ["_law_e"] (liftSp K (spBas CE)) := by
  refine fnD F sc__law_bases (fun ds n Q E h => ?_) (fun cdv A outer s H E Ed hg hr => ?_)
  · obtain ⟨i, fs, hi, rfl, q⟩ := h; rfl
  · refine ⟨_, DSs.nx (dss_cons (ds_set (i := 1) [] sc__law_bases.nd rfl (Or.inl rfl) (DO.de (do_lst (da_cons (de_isi mg_isinstance (da_cons (dv 0) (da_cons (de_gty (T := "ValueError") rfl mg_ValueError (by decide +kernel)) da_nil))) (da_cons (de_isi mg_isinstance (da_cons (dv 0) (da_cons (de_gty (T := "ArithmeticError") rfl mg_ArithmeticError (by decide +kernel)) da_nil))) (da_cons (de_isi mg_isinstance (da_cons (dv 0) (da_cons (de_gty (T := "ZeroDivisionError") rfl mg_ZeroDivisionError (by decide +kernel)) da_nil))) da_nil))))))
  (dss_cons (ds_set (i := 1) [] sc__law_bases.nd rfl (Or.inl rfl) (de_add (dv 1) (DO.de (do_lst (da_cons (de_isi mg_isinstance (da_cons (dv 0) (da_cons (de_gty (T := "TypeError") rfl mg_TypeError (by decide +kernel)) da_nil))) (da_cons (de_isi mg_isinstance (da_cons (dv 0) (da_cons (de_gty (T := "LookupError") rfl mg_LookupError (by decide +kernel)) da_nil))) (da_cons (de_isi mg_isinstance (da_cons (dv 0) (da_cons (de_gty (T := "KeyError") rfl mg_KeyError (by decide +kernel)) da_nil))) da_nil)))))))
  (dss_cons (ds_set (i := 1) [] sc__law_bases.nd rfl (Or.inl rfl) (de_add (dv 1) (DO.de (do_lst (da_cons (de_isi mg_isinstance (da_cons (dv 0) (da_cons (de_gty (T := "IndexError") rfl mg_IndexError (by decide +kernel)) da_nil))) (da_cons (de_isi mg_isinstance (da_cons (dv 0) (da_cons (de_gty (T := "OverflowError") rfl mg_OverflowError (by decide +kernel)) da_nil))) (da_cons (de_isi mg_isinstance (da_cons (dv 0) (da_cons (de_gty (T := "RuntimeError") rfl mg_RuntimeError (by decide +kernel)) da_nil))) da_nil)))))))
  (dss_one (ds_ret (de_add (dv 1) (DO.de (do_lst (da_cons (de_isi mg_isinstance (da_cons (dv 0) (da_cons (de_gty (T := "NotImplementedError") rfl mg_NotImplementedError (by decide +kernel)) da_nil))) da_nil))))))))), fun ds n Q h => ?_⟩
    obtain ⟨i, fs, hi, rfl, q⟩ := h
    dsimp only [dSeq, dIf, dTestB, dIfV, d2, dC, dSh, dCall, dCb, dCons, dNil, dLst, dTup, dRet, dNext, dSet, dKf]
    refine var_at rfl (isi_at rfl (KX.ex i hi) (KX.bas i hi 0 (by decide)) ?_)
    refine var_at rfl (isi_at rfl (KX.ex i hi) (KX.bas i hi 1 (by decide)) ?_)
    refine var_at rfl (isi_at rfl (KX.ex i hi) (KX.bas i hi 2 (by decide)) ?_)
    refine ⟨szl (by simp), ?_⟩
    refine var_at rfl ?_
    refine var_at rfl (isi_at rfl (KX.ex i hi) (KX.bas i hi 3 (by decide)) ?_)
    refine var_at rfl (isi_at rfl (KX.ex i hi) (KX.bas i hi 4 (by decide)) ?_)
    refine var_at rfl (isi_at rfl (KX.ex i hi) (KX.bas i hi 5 (by decide)) ?_)
    refine ⟨szl (by simp), ?_⟩
    refine dAdd_L (by simp) ?_
    refine var_at rfl ?_
    refine var_at rfl (isi_at rfl (KX.ex i hi) (KX.bas i hi 6 (by decide)) ?_)
    refine var_at rfl (isi_at rfl (KX.ex i hi) (KX.bas i hi 7 (by decide)) ?_)
    refine var_at rfl (isi_at rfl (KX.ex i hi) (KX.bas i hi 8 (by decide)) ?_)
    refine ⟨szl (by simp), ?_⟩
    refine dAdd_L (by simp) ?_
    refine var_at rfl ?_
    refine var_at rfl (isi_at rfl (KX.ex i hi) (KX.bas i hi 9 (by decide)) ?_)
    refine ⟨szl (by simp), ?_⟩
    refine dAdd_L (by simp) ?_
    exact q
theorem any_int {a : Int} : ∀ l : List Int, ((l.map D.int).any fun z => eqD z (.int a)) = decide (a ∈ l)
  | [] => by simp
  | x :: r => by
    have e : eqD (.int x) (.int a) = decide (x = a) := by
      unfold eqD
      rw [D.py, D.py]; rfl
    rw [List.map_cons, List.any_cons, any_int r, e]
    by_cases c : x = a
    · subst c; simp
    · have c2 : ¬ a = x := fun z => c z.symm
      simp [c, c2]
theorem flat_int : ∀ l : List Int, (l.map D.int).all flatD = true
  | [] => rfl
  | x :: r => by rw [List.map_cons, List.all_cons, flat_int r]; rfl
abbrev abD : List D := ABX.map fun l => .lst (l.map D.int)
theorem ab_at {i : Nat} (h : i < 19) : abD[i]? = some (.lst ((AX i).map D.int)) := by
  have hl : i < ABX.length := h
  rw [List.getElem?_map, List.getElem?_eq_getElem hl]
  unfold AX
  rw [List.getD_eq_getElem?_getD, List.getElem?_eq_getElem hl]; rfl
abbrev s__law_due_bases : Stmt := top 29
theorem sc__law_due_bases : FnScope ["_law_which", "_law_above", "_law_k"] ["_law_which"] (defScope s__law_due_bases) := ⟨rfl, rfl, rfl, by decide +kernel, rfl, by decide +kernel, by decide +kernel⟩
theorem ok__law_due_bases (F : FunD K "_law_due_bases" "_law_due_bases" (defArgs s__law_due_bases) (defBody s__law_due_bases) (defScope s__law_due_bases) [] [] f fd) (mg_range : mg "range" = none) : FnX false P w K mg base CX0 3 f fd ["_law_which"] (liftSp K spDBs) := by
  refine fnD F sc__law_due_bases (fun ds n Q E h => ?_) (fun cdv A outer s H E Ed hg hr => ?_)
  · obtain ⟨i, hi, rfl, q⟩ := h; rfl
  · refine ⟨_, DSs.nx (dss_cons (ds_set (i := 1) [] sc__law_due_bases.nd rfl (Or.inr rfl) (DO.de (do_lst (da_cons (DO.de (do_lst (da_cons de_int da_nil))) (da_cons (DO.de (do_lst (da_cons de_int da_nil))) (da_cons (DO.de (do_lst (da_cons de_int da_nil))) (da_cons (DO.de (do_lst (da_cons de_int da_nil))) (da_cons (DO.de (do_lst (da_cons de_int da_nil))) (da_cons (DO.de (do_lst (da_cons de_int (da_cons de_int da_nil)))) (da_cons (DO.de (do_lst (da_cons de_int da_nil))) (da_cons (DO.de (do_lst (da_cons de_int da_nil))) (da_cons (DO.de (do_lst (da_cons de_int da_nil))) (da_cons (DO.de (do_lst (da_cons de_int (da_cons de_int da_nil)))) (da_cons (DO.de (do_lst (da_cons de_int (da_cons de_int da_nil)))) (da_cons (DO.de (do_lst (da_cons de_int (da_cons de_int da_nil)))) (da_cons (DO.de (do_lst (da_cons de_int (da_cons de_int da_nil)))) da_nil))))))))))))))))
  (dss_cons (ds_set (i := 1) [] sc__law_due_bases.nd rfl (Or.inr rfl) (de_add (dv 1) (DO.de (do_lst (da_cons (DO.de (do_lst (da_cons de_int da_nil))) (da_cons (DO.de (do_lst (da_cons de_int da_nil))) (da_cons (DO.de (do_lst (da_cons de_int da_nil))) (da_cons (DO.de (do_lst (da_cons de_int da_nil))) (da_cons (DO.de (do_lst (da_cons de_int (da_cons de_int da_nil)))) (da_cons (DO.de (do_lst da_nil)) da_nil))))))))))
  (dss_one (ds_ret (DO.de (do_lc (own := [("_law_k", 2)]) (by rfl) sc__law_due_bases.nd (di_range1 mg_range (da_cons de_int da_nil)) (blkOk_by (own := [("_law_k", 2)]) (N := ["_law_which", "_law_above", "_law_k"]) (sc := defScope (top 29)) (by decide +kernel)) (fun _ _ _ _ _ => (dg_name (i := 2) sc__law_due_bases.nd rfl (.inl rfl))) (fun _ _ _ _ _ => dts_nil) (fun _ _ _ _ _ => (de_in (hr.mono (Nat.zero_le _)) (dv 2) (de_ixA hr.units (dv 1) (dv 0)))))))))), fun ds n Q h => ?_⟩
    obtain ⟨i, hi, rfl, q⟩ := h
    dsimp only [dSeq, dIf, dTestB, dIfV, d2, dC, dSh, dCall, dCb, dCons, dNil, dLst, dTup, dRet, dNext, dSet, dKf]
    iterate 13 refine ⟨szl (by simp), ?_⟩
    refine ⟨szl (by simp), var_at rfl ?_⟩
    iterate 6 refine ⟨szl (by simp), ?_⟩
    refine ⟨szl (by simp), dAdd_L (by simp) ?_⟩
    dsimp only [dLc, dRng1]
    refine ⟨by decide, by decide, szl (by simp [rngD]), ?_⟩
    refine Comp.of (fun k : Nat => D.int (0 + (k : Nat))) (List.range ((10 : Int)).toNat) (fun pre acc m => m = n ∧ acc = (pre.map fun k : Nat => decide (((k : Nat) : Int) ∈ AX i)).map D.bl) ⟨rfl, rfl⟩ ?_ ?_
    · rintro pre k suf acc m el ⟨rfl, rfl⟩
      refine brT rfl ?_
      refine var_at rfl (var_at (d := .lst abD) rfl (var_at rfl (ixA_lst (ixN (k := i) (ab_at hi) (.inl ⟨rfl, flat_int _, ?_⟩)))))
      rw [any_int]
      refine ⟨rfl, ?_⟩
      rw [List.map_append, List.map_append, show (0 + (k : Int)) = (k : Int) from by omega]; rfl
    · rintro acc m ⟨rfl, rfl⟩
      exact q
end
end Lw

/-! ### the refusals: the law -/
namespace Lw
open PySem PySem.Spec PyProof.Rows L2 Fw Dw
/-- what they are made with -/
def SMX : List D := [.non, .bl true, .int 0, .int 7, .int (-1), .int (10 ^ 30), .str "", .str "a", .str "a b", .str "name", .lst [], .lst [.str "a", .str "b"], .tup [.str "a"], .dct [], .dct [(.inr "a", .lst [.int 1])], .tup [.int 1, .tup [.int 2, .int 3]]]
structure OkX (x : D) : Prop where
  ok : okR 20 x = true
  few : blkD x ≤ 40
theorem okX_of : ∀ x ∈ SMX, OkX x := by
  intro x hx
  simp only [SMX, List.mem_cons, List.not_mem_nil, or_false] at hx
  rcases hx with rfl | rfl | rfl | rfl | rfl | rfl | rfl | rfl | rfl | rfl | rfl | rfl | rfl | rfl | rfl | rfl <;> exact ⟨by decide +kernel, by decide +kernel⟩
theorem rpr_ar {i : Nat} {x y : D} (hx : OkX x) (hy : OkX y) : Rpr (.lst (arX i x y)) := by
  have h1 : okR 59 x = true := okR_mono (by decide) hx.ok
  have h2 : okR 59 y = true := okR_mono (by decide) hy.ok
  have g1 : okR 58 x = true := okR_mono (by decide) hx.ok
  have g2 : okR 58 y = true := okR_mono (by decide) hy.ok
  have b1 := hx.few
  have b2 := hy.few
  unfold arX
  split
  · exact ⟨by simp [okR, okRL, h1, h2], by simp only [blkD, blkL]; omega⟩
  split
  · have z : PyData.strOk (Str.ofString "a b") = true := by decide +kernel
    have z2 : okR 58 (.int 0) = true := by decide +kernel
    have z3 : blkD (.str "a b") ≤ 10 := by decide +kernel
    have z4 : blkD (.int 0) = 0 := by decide +kernel
    refine ⟨okR_lst fun d hd => ?_, ?_⟩
    · simp only [List.mem_cons, List.not_mem_nil, or_false] at hd
      rcases hd with rfl | rfl | rfl | rfl | rfl
      · exact h1
      · exact h2
      · rw [okR]; exact z
      · exact okR_lst fun d hd => by rw [List.mem_singleton.mp hd]; exact g1
      · refine okR_tup fun d hd => ?_
        simp only [List.mem_cons, List.not_mem_nil, or_false] at hd
        rcases hd with rfl | rfl
        · exact g2
        · exact z2
    · have e : blkD (.lst [x, y, .str "a b", .lst [x], .tup [y, .int 0]]) ≤ 1000 := by
        simp only [blkD, blkL] at z3 z4 ⊢
        omega
      omega
  split
  · exact ⟨by simp [okR, okRL], by simp [blkD, blkL]⟩
  · exact ⟨by simp [okR, okRL, h1], by simp only [blkD, blkL]; omega⟩
theorem ar_len {i : Nat} (hi : i < 19) (x y : D) : (arX i x y).length = (FX i).length := by
  rcases (show i = 0 ∨ i = 1 ∨ i = 2 ∨ i = 3 ∨ i = 4 ∨ i = 5 ∨ i = 6 ∨ i = 7 ∨ i = 8 ∨ i = 9 ∨ i = 10 ∨ i = 11 ∨ i = 12 ∨ i = 13 ∨ i = 14 ∨ i = 15 ∨ i = 16 ∨ i = 17 ∨ i = 18 from by omega) with rfl | rfl | rfl | rfl | rfl | rfl | rfl | rfl | rfl | rfl | rfl | rfl | rfl | rfl | rfl | rfl | rfl | rfl | rfl <;> rfl
theorem range_pre {n a : Nat} {pre suf : List Nat} (el : List.range n = pre ++ a :: suf) : a = pre.length ∧ pre.length < n := by
  have h2 : pre.length < n := by
    have := congrArg List.length el
    rw [List.length_range, List.length_append, List.length_cons] at this; omega
  have h1 := congrArg (fun l => l[pre.length]?) el
  simp only [List.getElem?_append_right (Nat.le_refl _), Nat.sub_self, List.getElem?_cons_zero] at h1
  rw [List.getElem?_range h2] at h1
  exact ⟨(Option.some.inj h1).symm, h2⟩
theorem neS_self {s : Str} {n : Nat} {Q : QD} (q : Q (.bl false) n) : dNe (.str s) (.str s) n Q := by
  show Q (.bl (!decide (s = s))) n
  rw [decide_eq_true rfl]; exact q
theorem bl_eq : ∀ l : List Bool, PyData.eqvAll (pyL (l.map D.bl)) (pyL (l.map D.bl)) = true
  | [] => by simp [pyL, PyData.eqvAll]
  | b :: r => by
    rw [List.map_cons, pyL, PyData.eqvAll, bl_eq r]
    simp [D.py, PyData.eqv]
theorem neL_self {l : List Bool} {n : Nat} {Q : QD} (q : Q (.bl false) n) : dNe (.lst (l.map D.bl)) (.lst (l.map D.bl)) n Q := by
  have h1 : dpt 60 (.lst (l.map D.bl)) = true := by
    rw [dpt, dptL_all, List.all_eq_true]
    intro x hx
    obtain ⟨b, _, rfl⟩ := List.mem_map.mp hx
    rw [dpt]
  refine ⟨h1, h1, ?_⟩
  have e : eqD (.lst (l.map D.bl)) (.lst (l.map D.bl)) = true := by
    unfold eqD
    rw [D.py, PyData.eqv, bl_eq]
  rw [e]; exact q
theorem ar_ten {i : Nat} (h : i < 10) (x y z : D) : arX i x y = arX i x z := by
  have h1 : ¬ i = 14 := by omega
  have h2 : ¬ i = 16 := by omega
  simp [arX, h1, h2]
theorem keepO_28 {d : D} {ρ : Ro} : keepO d ρ (fzs [] ρ) = ρ := by
  cases d <;> rfl
abbrev fr28 (ns : List Int) (s2 s3 s4 s5 s6 s7 s8 s9 : Option Sl) : Ro := [some (.d (.scr ns)), some (.d .feed), s2, s3, s4, s5, s6, s7, s8, s9]
section
variable {P : Program} {w : World} {K : PySem.W.Frag} {mg : Str → Option Value} {base : Heap} {f : Addr} {fd : FuncData} {CE : Nat → Addr}
abbrev s_law : Stmt := top 30
theorem sc_law : FnScope ["_law_script", "_law_feed_here", "_law_some", "_law_which", "_law_it", "_law_that", "_law_made", "_law_due", "_law_named_here", "_law_k"] ["_law_script"] (defScope s_law) := ⟨rfl, rfl, rfl, by decide +kernel, rfl, by decide +kernel, by decide +kernel⟩
theorem ok_law (F : FunD K "law" "law" (defArgs s_law) (defBody s_law) (defScope s_law) [] [] f fd) (sysb : Fw.SysIn base) (D__law_feed : Dn P w K mg base CX0 1 "_law_feed" ["_law_script"] [] (spFeed K))
    (D__law_draw : DDraw P w K mg base) (D__law_first : Fb false P w K mg base CX0 3 "_law_first" 2 [] (fun ds _ => ds) (liftSp K (spFst CE))) (D__law_second : Fb false P w K mg base CX0 3 "_law_second" 3 [] (fun ds _ => ds) (liftSp K (spSnd CE))) (D__law_named : Fb false P w K mg base CX0 3 "_law_named" 3 [] (fun ds _ => ds) (liftSp K (spNmd CE)))
    (D__law_fields : Fb false P w K mg base CX0 3 "_law_fields" 2 [] (fun ds _ => ds) (liftSp K (spFld CE))) (D__law_classes : Fb false P w K mg base CX0 3 "_law_classes" 1 [] (fun ds _ => ds) (liftSp K (spCls CE))) (D__law_bases : Fb false P w K mg base CX0 3 "_law_bases" 1 [] (fun ds _ => ds) (liftSp K (spBas CE))) (D__law_due_bases : Fb false P w K mg base CX0 3 "_law_due_bases" 1 [] (fun ds _ => ds) (liftSp K spDBs))
    (mg_range : mg "range" = none) (mg_repr : mg "repr" = none) :
    FnG P w K mg base CX0 13 f fd ["_law_script"] (spLaw K) := by
  refine law_fn (k := 12) F sc_law (by decide) fun cdv A outer s H E gd hr => ?_
  refine ⟨_, ps_set (i := 1) sc_law.nd rfl (Or.inl rfl) (pe_dn D__law_feed (hr.mono (by decide)) rfl (pa_cons (pv 0) pa_nil)), DSs.nx (dss_cut (ds_set (i := 2) [] sc_law.nd rfl (Or.inl rfl) (DO.de (do_lst (da_cons de_non (da_cons de_bl (da_cons de_int (da_cons de_int (da_cons (de_neg de_int) (da_cons (de_pow de_int de_int) (da_cons de_str (da_cons de_str (da_cons de_str (da_cons de_str (da_cons (DO.de (do_lst da_nil)) (da_cons (DO.de (do_lst (da_cons de_str (da_cons de_str da_nil)))) (da_cons (de_tup (da_cons de_str da_nil)) (da_cons (DOK.de do_d0) (da_cons (DOK.de (do_disp (dps_cons de_str (DO.de (do_lst (da_cons de_int da_nil))) dps_nil))) (da_cons (de_tup (da_cons de_int (da_cons (de_tup (da_cons de_int (da_cons de_int da_nil))) da_nil))) da_nil)))))))))))))))))))
  (dss_cut (ds_for [] PassesOwn.never rfl (di_range1 mg_range (da_cons de_int da_nil)) (dg_name (i := 3) sc_law.nd rfl (.inr rfl))
    (dss_cut (ds_par [] (by rfl) sc_law.nd (i := 4) (j := 5) rfl rfl (by decide) rfl rfl (da_cons (de_ixA hr.units (dv 2) (de_call (Fb.cal D__law_draw (fun _ => gd) (hr.mono (by decide))) rfl (da_cons (dv 1) (da_cons de_int da_nil)))) (da_cons (de_ixA hr.units (dv 2) (de_call (Fb.cal D__law_draw (fun _ => gd) (hr.mono (by decide))) rfl (da_cons (dv 1) (da_cons de_int da_nil)))) da_nil)) (by rfl))
      (dss_cut (ds_set (i := 6) [] sc_law.nd rfl (Or.inl rfl) (de_ifExp (dt_lt (dv 3) de_int) (de_call (Fb.cal D__law_first (fun _ => gd) (hr.mono (by decide))) rfl (da_cons (dv 3) (da_cons (dv 4) da_nil))) (de_call (Fb.cal D__law_second (fun _ => gd) (hr.mono (by decide))) rfl (da_cons (dv 3) (da_cons (dv 4) (da_cons (dv 5) da_nil))))))
      (dss_cut (ds_set (i := 7) [] sc_law.nd rfl (Or.inl rfl) (de_ifExp (dt_notin (hr.mono (Nat.zero_le _)) (dv 3) (de_tup (da_cons de_int (da_cons de_int da_nil)))) (DO.de (do_lst (da_cons (dv 4) da_nil))) (DO.de (do_lst da_nil))))
      (dss_cut (ds_if (dt_eq hr.units (dv 3) de_int)
        (dss_one (ds_set (i := 7) [] sc_law.nd rfl (Or.inl rfl) (DO.de (do_lst (da_cons (dv 4) (da_cons (dv 5) da_nil))))))
        (dss_one (ds_if (dt_eq hr.units (dv 3) de_int)
            (dss_one (ds_set (i := 7) [] sc_law.nd rfl (Or.inl rfl) (DO.de (do_lst (da_cons (dv 4) (da_cons (dv 5) (da_cons de_str (da_cons (DO.de (do_lst (da_cons (dv 4) da_nil))) (da_cons (de_tup (da_cons (dv 5) (da_cons de_int da_nil))) da_nil)))))))))
            dss_nil)))
      (dss_cut (ds_if (dt_ne hr.units (de_callB (call_reprX sysb gd hr.units) cv_reprX (by rfl) mg_repr (by decide +kernel) (da_cons (de_call (Fb.cal D__law_fields (fun _ => gd) (hr.mono (by decide))) rfl (da_cons (dv 3) (da_cons (dv 6) da_nil))) da_nil)) (de_callB (call_reprX sysb gd hr.units) cv_reprX (by rfl) mg_repr (by decide +kernel) (da_cons (dv 7) da_nil)))
        (dss_one (ds_ret de_bl))
        dss_nil)
      (dss_cut (ds_if (DW.dt (dw_or (dt_ne hr.units (de_call (Fb.cal D__law_classes (fun _ => gd) (hr.mono (by decide))) rfl (da_cons (dv 6) da_nil)) (DO.de (do_lc (own := [("_law_k", 9)]) (by rfl) sc_law.nd (di_range1 mg_range (da_cons de_int da_nil)) (blkOk_by (own := [("_law_k", 9)]) (N := ["_law_script", "_law_feed_here", "_law_some", "_law_which", "_law_it", "_law_that", "_law_made", "_law_due", "_law_named_here", "_law_k"]) (sc := defScope (top 30)) (by decide +kernel)) (fun _ _ _ _ _ => (dg_name (i := 9) sc_law.nd rfl (.inl rfl))) (fun _ _ _ _ _ => dts_nil) (fun _ _ _ _ _ => (de_eq hr.units (dv 9) (dv 3)))))) (dw_or1 (dt_ne hr.units (de_call (Fb.cal D__law_bases (fun _ => gd) (hr.mono (by decide))) rfl (da_cons (dv 6) da_nil)) (de_call (Fb.cal D__law_due_bases (fun _ => gd) (hr.mono (by decide))) rfl (da_cons (dv 3) da_nil))))))
        (dss_one (ds_ret de_bl))
        dss_nil)
      (dss_cut (ds_set (i := 8) [] sc_law.nd rfl (Or.inl rfl) (de_call (Fb.cal D__law_named (fun _ => gd) (hr.mono (by decide))) rfl (da_cons (dv 3) (da_cons (dv 4) (da_cons (dv 5) da_nil)))))
      (dss_one (ds_if (DW.dt (dw_and (dt_isnt (dv 8) de_non) (dw_and1 (dt_ne hr.units (de_callB (call_reprX sysb gd hr.units) cv_reprX (by rfl) mg_repr (by decide +kernel) (da_cons (de_call (Fb.cal D__law_fields (fun _ => gd) (hr.mono (by decide))) rfl (da_cons (dv 3) (da_cons (dv 8) da_nil))) da_nil)) (de_callB (call_reprX sysb gd hr.units) cv_reprX (by rfl) mg_repr (by decide +kernel) (da_cons (dv 7) da_nil))))))
        (dss_one (ds_ret de_bl))
        dss_nil))))))))))
  (dss_one (ds_ret de_bl)))), fun ns hns => ?_⟩
  refine ⟨fun ρ m => m = 0 ∧ ρ = fr28 ns (some (.d (.lst SMX))) none none none none none none none, ?_, ?_⟩
  · dsimp only [dSeq, dIf, dTestB, dIfV, d2, d1, dC, dSh, dCall, dCb, dCons, dNil, dLst, dTup, dRet, dNext, dSet, dPar]
    refine ⟨⟨by decide, by decide, by decide⟩, szl (by simp), szl (by simp), szl (by simp), ?_⟩
    dsimp only [dShK, dD0, dDisp, dPairs, dC, dSh, dLst, dCons, dNil]
    refine ⟨szl (by simp), by simp, szl (by simp), szl (by simp), szl (by simp), rfl, ?_⟩
    rw [keepO_28]; rfl
  rintro ρ m ⟨rfl, rfl⟩
  refine ⟨fun ρ m => m ≤ 100000, ?_, ?_⟩
  · refine ⟨by decide, by decide, Loop.of (fun i : Nat => D.int (0 + (i : Nat))) (List.range ((19 : Int)).toNat) (fun pre ρ m => m ≤ 2 * pre.length ∧ ∃ s3 s4 s5 s6 s7 s8 s9 : Option Sl, ρ = fr28 ns (some (.d (.lst SMX))) s3 s4 s5 s6 s7 s8 s9) ⟨Nat.zero_le _, _, _, _, _, _, _, _, rfl⟩ ?_ ?_⟩
    · rintro pre i suf ρ m el ⟨hm, s3, s4, s5, s6, s7, s8, s9, rfl⟩
      obtain ⟨ei, hi⟩ := range_pre (n := 19) el
      have hi : i < 19 := by omega
      rw [List.length_append, List.length_singleton, show (0 + (i : Int)) = (i : Int) from by omega]
      refine ⟨fun ρ m2 => m2 = m + 2 ∧ ∃ x y : D, x ∈ SMX ∧ y ∈ SMX ∧ ρ = fr28 ns (some (.d (.lst SMX))) (some (.d (.int i))) (some (.d x)) (some (.d y)) s6 s7 s8 s9, ?_, ?_⟩
      · dsimp only [dSeq, dIf, dTestB, dIfV, d2, d1, dC, dSh, dCall, dCb, dCons, dNil, dLst, dTup, dRet, dNext, dSet, dPar]
        refine var_at rfl (var_at rfl ⟨rfl, rfl, draw_of (by decide) (by decide) (by omega) fun r a b => ixA_lst (ix_pick a b fun x hx => ?_)⟩)
        refine var_at rfl (var_at rfl ⟨rfl, rfl, draw_of (by decide) (by decide) (by omega) fun r2 a2 b2 => ixA_lst (ix_pick a2 b2 fun y hy => ?_)⟩)
        exact ⟨rfl, x, y, hx, hy, rfl⟩
      rintro ρ m2 ⟨rfl, x, y, hx, hy, rfl⟩
      have kx := okX_of x hx
      have ky := okX_of y hy
      refine ⟨fun ρ k => k = m + 2 ∧ ρ = fr28 ns (some (.d (.lst SMX))) (some (.d (.int i))) (some (.d x)) (some (.d y)) (some (.d (exD CE i (arX i x y)))) s7 s8 s9, ?_, ?_⟩
      · dsimp only [dSeq, dIf, dTestB, dIfV, d2, d1, dC, dSh, dCall, dCb, dCons, dNil, dLst, dTup, dRet, dNext, dSet, dPar]
        refine var_at rfl ?_
        show br (decide ((i : Int) < 10)) _ _
        refine ⟨fun h => ?_, fun h => ?_⟩
        · have h := of_decide_eq_true h
          refine var_at rfl (var_at rfl ⟨rfl, rfl, i, x, by omega, rfl, rfl, ?_⟩)
          rw [keepO_28, ar_ten (by omega) x .non y]; rfl
        · have h := of_decide_eq_false h
          refine var_at rfl (var_at rfl (var_at rfl ⟨rfl, rfl, i, x, y, by omega, hi, rfl, rfl, ?_⟩))
          rw [keepO_28]; rfl
      rintro ρ k ⟨rfl, rfl⟩
      refine ⟨fun ρ k => k = m + 2 ∧ ρ = fr28 ns (some (.d (.lst SMX))) (some (.d (.int i))) (some (.d x)) (some (.d y)) (some (.d (exD CE i (arX i x y)))) (some (.d (.lst (if i = 4 ∨ i = 12 then [] else [x])))) s8 s9, ?_, ?_⟩
      · dsimp only [dSeq, dIf, dTestB, dIfV, d2, d1, dC, dSh, dCall, dCb, dCons, dNil, dLst, dTup, dRet, dNext, dSet, dPar]
        refine var_at rfl ⟨szl (by simp), rfl, rfl, ?_⟩
        have e : ([D.int 4, D.int 12].any fun z => eqD z (.int (i : Int))) = decide (i = 4 ∨ i = 12) := by
          have := any_int (a := (i : Int)) [4, 12]
          rw [List.map_cons, List.map_cons, List.map_nil] at this
          rw [this]
          by_cases c : i = 4 ∨ i = 12
          · rw [decide_eq_true c, decide_eq_true]
            rcases c with rfl | rfl <;> simp
          · rw [decide_eq_false c, decide_eq_false]
            simp; omega
        rw [e]
        by_cases c : i = 4 ∨ i = 12
        · rw [decide_eq_true c, if_pos c]
          refine brF rfl ⟨szl (by simp), rfl, ?_⟩
          rw [keepO_28]; rfl
        · rw [decide_eq_false c, if_neg c]
          refine brT rfl (var_at rfl ⟨szl (by simp), rfl, ?_⟩)
          rw [keepO_28]; rfl
      rintro ρ k ⟨rfl, rfl⟩
      refine ⟨fun ρ k => k = m + 2 ∧ ρ = fr28 ns (some (.d (.lst SMX))) (some (.d (.int i))) (some (.d x)) (some (.d y)) (some (.d (exD CE i (arX i x y)))) (some (.d (.lst (arX i x y)))) s8 s9, ?_, ?_⟩
      · dsimp only [dSeq, dIf, dTestB, dIfV, d2, d1, dC, dSh, dCall, dCb, dCons, dNil, dLst, dTup, dRet, dNext, dSet, dPar]
        refine var_at rfl ?_
        show br (decide ((i : Int) = 14)) _ _
        refine ⟨fun h => ?_, fun h => ?_⟩
        · have h := of_decide_eq_true h
          obtain rfl : i = 14 := by omega
          refine var_at rfl (var_at rfl ⟨szl (by simp), rfl, ?_⟩)
          rw [keepO_28]; rfl
        · have h := of_decide_eq_false h
          refine var_at rfl ?_
          show br (decide ((i : Int) = 16)) _ _
          refine ⟨fun h2 => ?_, fun h2 => ?_⟩
          · have h2 := of_decide_eq_true h2
            obtain rfl : i = 16 := by omega
            refine var_at rfl (var_at rfl (var_at rfl ⟨szl (by simp), var_at rfl ⟨szl (by simp), szl (by simp), rfl, ?_⟩⟩))
            rw [keepO_28]; rfl
          · have h2 := of_decide_eq_false h2
            have e : arX i x y = if i = 4 ∨ i = 12 then [] else [x] := by
              unfold arX
              rw [if_neg (by omega), if_neg (by omega)]
            rw [e]
            exact ⟨rfl, rfl⟩
      rintro ρ k ⟨rfl, rfl⟩
      have fin : ∀ {ρ : Ro} {n : Nat} {Q : QD}, Q (.lst (arX i x y)) n → sdOf (fun ds _ => ds) (spFld CE) [.int i, exD CE i (arX i x y)] [] n ρ Q := fun q => ⟨i, _, hi, ar_len hi x y, rfl, q⟩
      refine ⟨fun ρ k => k = m + 2 ∧ ρ = fr28 ns (some (.d (.lst SMX))) (some (.d (.int i))) (some (.d x)) (some (.d y)) (some (.d (exD CE i (arX i x y)))) (some (.d (.lst (arX i x y)))) s8 s9, ?_, ?_⟩
      · dsimp only [dSeq, dIf, dTestB, dIfV, d2, d1, dC, dSh, dCall, dCb, dCons, dNil, dLst, dTup, dRet, dNext, dSet, dPar]
        refine var_at rfl (var_at rfl ⟨rfl, rfl, fin (reprX_of (rpr_ar kx ky) (var_at rfl (reprX_of (rpr_ar kx ky) (neS_self (brF rfl ⟨rfl, rfl⟩)))))⟩)
      rintro ρ k ⟨rfl, rfl⟩
      refine ⟨fun ρ k => k = m + 2 ∧ ρ = fr28 ns (some (.d (.lst SMX))) (some (.d (.int i))) (some (.d x)) (some (.d y)) (some (.d (exD CE i (arX i x y)))) (some (.d (.lst (arX i x y)))) s8 s9, ?_, ?_⟩
      · dsimp only [dIf, dOr, dTestB, d2, dC, dSh, dCall, dCons, dNil]
        refine var_at rfl ⟨rfl, rfl, i, _, hi, rfl, ?_⟩
        dsimp only [dLc, dRng1, dCons, dNil, dC]
        refine ⟨by decide, by decide, szl (by simp [rngD]), ?_⟩
        refine Comp.of (fun j : Nat => D.int (0 + (j : Nat))) (List.range ((19 : Int)).toNat) (fun pre acc k => k = m + 2 ∧ acc = (pre.map fun j : Nat => decide (j = i)).map D.bl) ⟨rfl, rfl⟩ ?_ ?_
        · rintro pre j suf acc k el ⟨rfl, rfl⟩
          refine brT rfl ?_
          refine var_at rfl (var_at rfl ?_)
          refine ⟨rfl, ?_⟩
          have e : decide ((0 + (j : Int)) = (i : Int)) = decide (j = i) := by
            by_cases c : j = i
            · rw [decide_eq_true c, decide_eq_true]; omega
            · rw [decide_eq_false c, decide_eq_false]; omega
          rw [List.map_append, List.map_append, e]; rfl
        · rintro acc k ⟨rfl, rfl⟩
          refine neL_self (brF rfl ?_)
          exact var_at rfl ⟨rfl, rfl, i, _, hi, rfl, var_at rfl ⟨rfl, rfl, i, hi, rfl, neL_self (brF rfl ⟨rfl, rfl⟩)⟩⟩
      rintro ρ k ⟨rfl, rfl⟩
      refine ⟨fun ρ k => k = m + 2 ∧ ρ = fr28 ns (some (.d (.lst SMX))) (some (.d (.int i))) (some (.d x)) (some (.d y)) (some (.d (exD CE i (arX i x y)))) (some (.d (.lst (arX i x y)))) (some (.d (nmX CE i x y))) s9, ?_, ?_⟩
      · dsimp only [dSeq, dIf, dTestB, dIfV, d2, d1, dC, dSh, dCall, dCb, dCons, dNil, dLst, dTup, dRet, dNext, dSet, dPar]
        refine var_at rfl (var_at rfl (var_at rfl ⟨rfl, rfl, i, x, y, hi, rfl, rfl, ?_⟩))
        rw [keepO_28]; rfl
      rintro ρ k ⟨rfl, rfl⟩
      by_cases c : i = 4 ∨ i = 12
      · have e : nmX CE i x y = .non := if_pos c
        rw [e]
        dsimp only [dIf, dAnd, dTestB, d2, dC, dNext]
        refine var_at rfl (brF rfl (brF rfl ⟨?_, _, _, _, _, _, _, _, rfl⟩))
        omega
      · have e : nmX CE i x y = exD CE i (arX i x y) := if_neg c
        rw [e]
        dsimp only [dIf, dAnd, dTestB, d2, dC, dNext, dCb, dCall, dCons, dNil]
        refine var_at rfl (brT rfl ?_)
        refine var_at rfl (var_at rfl ⟨rfl, rfl, fin (reprX_of (rpr_ar kx ky) (var_at rfl (reprX_of (rpr_ar kx ky) (neS_self (brF rfl ⟨?_, _, _, _, _, _, _, _, rfl⟩)))))⟩)
        omega
    · rintro ρ m ⟨hm, s3, s4, s5, s6, s7, s8, s9, rfl⟩
      simp at hm
      omega
  · intro ρ m hm
    exact rfl
end
end Lw

/-! ### calls that give every parameter its value, by place or by name -/
namespace Fw
open PySem PySem.Spec PyProof.Rows L2
theorem kbN {K : PySem.W.Frag} {x qual : Str} {params : Arguments} {body : List Stmt} {scope : Scope} {kws : List (Str × V)} {f : Addr} {fd : FuncData} {ps : List Str} (F : FunD K x qual params body scope [] kws f fd) (n : Nat) (ks : List Str) (g : {α : Type} → List α → List α → List α)
    (hrel : ∀ {vs zs : List V} {us ws : List Value}, Vals vs us → Vals zs ws → Vals (g vs zs) (g us ws))
    (h : ∀ (kV doc pm : Value) (an : Option Addr) (cdv ct : Value) (us ws : List Value), us.length = n → ws.length = ks.length →
      bindArgs (PySem.W.fnOf x qual params body scope .none kV doc pm an cdv ct) ⟨us, ks.zip ws⟩ = pure (ps.zip (g us ws))) : KBn K fd ps n ks g g := by
  obtain ⟨oc, od, dV, kV, doc, pm, an, cdv, ct, osl, rfl, lk, hcd, hD, hK⟩ := F.ex
  rcases hD with ⟨_, rfl⟩ | ⟨e, _⟩
  · exact ⟨fun s us ws X l1 l2 => .of_eq (h kV doc pm an cdv ct us ws l1 l2), fun r1 r2 => hrel r1 r2⟩
  · exact absurd rfl e
theorem vals_rev : ∀ {vs : List V} {us : List Value}, Vals vs us → Vals vs.reverse us.reverse
  | _, _, .nil => .nil
  | _, _, .cons h r => by
    rw [List.reverse_cons, List.reverse_cons]
    exact (vals_rev r).append (.cons h .nil)
end Fw

/-! ### the head -/
namespace Hd
open PySem PySem.Spec PyProof.Rows L2 Fw Lw Dw
def tabs : List He.Tab := []
abbrev CEL (K : PySem.W.Frag) : List Addr := [He.ga K "NoDigits", He.ga K "NoWord", He.ga K "NoText", He.ga K "NoMachine", He.ga K "NoRange", He.ga K "Nought", He.ga K "NoKind", He.ga K "NoThing", He.ga K "NoRow", He.ga K "NoName", He.ga K "Taken", He.ga K "TooFar", He.ga K "Endless", He.ga K "Unclear", He.ga K "Needed", He.ga K "Ring", He.ga K "Unkept", He.ga K "NoDeed", He.ga K "NoAsk"]
abbrev CE (K : PySem.W.Frag) (i : Nat) : Addr := (CEL K).getD i 0
def kitOB (K : PySem.W.Frag) : Bool := (List.range 19).all fun i => (List.range 19).all fun j => decide (PySem.W.kitOne K (.ref (CE K i)) (.ref (CE K j)) = some (decide (j = i)))
def kitBB (K : PySem.W.Frag) : Bool := (List.range 19).all fun i => (List.range 10).all fun k => decide (PySem.W.kitOne K (.ref (CE K i)) (.type (BX k)) = some (decide (((k : Nat) : Int) ∈ AX i)))
theorem kitOB_ok {K : PySem.W.Frag} (h : kitOB K = true) : ∀ i, i < 19 → ∀ j, j < 19 → PySem.W.kitOne K (.ref (CE K i)) (.ref (CE K j)) = some (decide (j = i)) := fun i hi j hj => by
  unfold kitOB at h
  exact of_decide_eq_true (List.all_eq_true.mp (List.all_eq_true.mp h i (List.mem_range.mpr hi)) j (List.mem_range.mpr hj))
theorem kitBB_ok {K : PySem.W.Frag} (h : kitBB K = true) : ∀ i, i < 19 → ∀ k, k < 10 → PySem.W.kitOne K (.ref (CE K i)) (.type (BX k)) = some (decide (((k : Nat) : Int) ∈ AX i)) := fun i hi j hj => by
  unfold kitBB at h
  exact of_decide_eq_true (List.all_eq_true.mp (List.all_eq_true.mp h i (List.mem_range.mpr hi)) j (List.mem_range.mpr hj))
def extra (K : PySem.W.Frag) : Bool :=
  kitOB K && (kitBB K && (ownNB K (He.ga K "NoDigits") (He.fAd K ("NoDigits", some "__init__")) "ValueError" "ValueError.__new__" "ValueError.__init__" [.type "ValueError", .type "Exception", .type "BaseException", .type "object"] ["at"] && (ownNB K (He.ga K "NoWord") (He.fAd K ("NoWord", some "__init__")) "ValueError" "ValueError.__new__" "ValueError.__init__" [.type "ValueError", .type "Exception", .type "BaseException", .type "object"] ["field"] && (ownNB K (He.ga K "NoText") (He.fAd K ("NoText", some "__init__")) "ValueError" "ValueError.__new__" "ValueError.__init__" [.type "ValueError", .type "Exception", .type "BaseException", .type "object"] ["at"] && (ownNB K (He.ga K "NoMachine") (He.fAd K ("NoMachine", some "__init__")) "ValueError" "ValueError.__new__" "ValueError.__init__" [.type "ValueError", .type "Exception", .type "BaseException", .type "object"] ["field"] && (PySem.W.excIn K (He.ga K "NoRange") [.type "ArithmeticError", .type "Exception", .type "BaseException", .type "object"] "ArithmeticError.__new__" && (PySem.W.keepIn K (.ref (He.ga K "NoRange")) && (decide (PySem.W.subIn K (.ref (He.ga K "NoRange")) (.type "BaseException") = some true) && (decide (PySem.W.typeIn K (.ref (He.ga K "NoRange")) = some (.type "type")) && (excKB K (He.ga K "NoRange") && (ownNB K (He.ga K "Nought") (He.fAd K ("Nought", some "__init__")) "ZeroDivisionError" "ZeroDivisionError.__new__" "ZeroDivisionError.__init__" [.type "ZeroDivisionError", .type "ArithmeticError", .type "Exception", .type "BaseException", .type "object"] ["top"] && (ownNB K (He.ga K "NoKind") (He.fAd K ("NoKind", some "__init__")) "TypeError" "TypeError.__new__" "TypeError.__init__" [.type "TypeError", .type "Exception", .type "BaseException", .type "object"] ["field"] && (ownNB K (He.ga K "NoThing") (He.fAd K ("NoThing", some "__init__")) "LookupError" "LookupError.__new__" "LookupError.__init__" [.type "LookupError", .type "Exception", .type "BaseException", .type "object"] ["thing"] && (ownNB K (He.ga K "NoRow") (He.fAd K ("NoRow", some "__init__")) "LookupError" "LookupError.__new__" "LookupError.__init__" [.type "LookupError", .type "Exception", .type "BaseException", .type "object"] ["at"] && (ownNB K (He.ga K "NoName") (He.fAd K ("NoName", some "__init__")) "KeyError" "LookupError.__new__" "KeyError.__init__" [.type "KeyError", .type "LookupError", .type "Exception", .type "BaseException", .type "object"] ["name"] && (ownNB K (He.ga K "Taken") (He.fAd K ("Taken", some "__init__")) "KeyError" "LookupError.__new__" "KeyError.__init__" [.type "KeyError", .type "LookupError", .type "Exception", .type "BaseException", .type "object"] ["name"] && (ownNB K (He.ga K "TooFar") (He.fAd K ("TooFar", some "__init__")) "IndexError" "IndexError.__new__" "IndexError.__init__" [.type "IndexError", .type "LookupError", .type "Exception", .type "BaseException", .type "object"] ["many"] && (PySem.W.excIn K (He.ga K "Endless") [.type "OverflowError", .type "ArithmeticError", .type "Exception", .type "BaseException", .type "object"] "OverflowError.__new__" && (PySem.W.keepIn K (.ref (He.ga K "Endless")) && (decide (PySem.W.subIn K (.ref (He.ga K "Endless")) (.type "BaseException") = some true) && (decide (PySem.W.typeIn K (.ref (He.ga K "Endless")) = some (.type "type")) && (excKB K (He.ga K "Endless") && (ownNB K (He.ga K "Unclear") (He.fAd K ("Unclear", some "__init__")) "RuntimeError" "RuntimeError.__new__" "RuntimeError.__init__" [.type "RuntimeError", .type "Exception", .type "BaseException", .type "object"] ["text"] && (ownNB K (He.ga K "Needed") (He.fAd K ("Needed", some "__init__")) "RuntimeError" "RuntimeError.__new__" "RuntimeError.__init__" [.type "RuntimeError", .type "Exception", .type "BaseException", .type "object"] ["name", "by"] && (ownNB K (He.ga K "Ring") (He.fAd K ("Ring", some "__init__")) "RuntimeError" "RuntimeError.__new__" "RuntimeError.__init__" [.type "RuntimeError", .type "Exception", .type "BaseException", .type "object"] ["ring"] && (ownNB K (He.ga K "Unkept") (He.fAd K ("Unkept", some "__init__")) "RuntimeError" "RuntimeError.__new__" "RuntimeError.__init__" [.type "RuntimeError", .type "Exception", .type "BaseException", .type "object"] ["name", "other", "text", "one", "two"] && (ownNB K (He.ga K "NoDeed") (He.fAd K ("NoDeed", some "__init__")) "NotImplementedError" "NotImplementedError.__new__" "NotImplementedError.__init__" [.type "NotImplementedError", .type "RuntimeError", .type "Exception", .type "BaseException", .type "object"] ["at"] && (ownNB K (He.ga K "NoAsk") (He.fAd K ("NoAsk", some "__init__")) "Exception" "Exception.__new__" "Exception.__init__" [.type "Exception", .type "BaseException", .type "object"] ["row"]))))))))))))))))))))))))))))
def d__law_feed : He.DefD := ⟨("_law_feed", none), "_law_feed", "_law_feed", defArgs (top 21), defBody (top 21), defScope (top 21), [], []⟩
def d__law_draw : He.DefD := ⟨("_law_draw", none), "_law_draw", "_law_draw", defArgs (top 22), defBody (top 22), defScope (top 22), [], []⟩
def d__law_first : He.DefD := ⟨("_law_first", none), "_law_first", "_law_first", defArgs (top 23), defBody (top 23), defScope (top 23), [], []⟩
def d__law_second : He.DefD := ⟨("_law_second", none), "_law_second", "_law_second", defArgs (top 24), defBody (top 24), defScope (top 24), [], []⟩
def d__law_named : He.DefD := ⟨("_law_named", none), "_law_named", "_law_named", defArgs (top 25), defBody (top 25), defScope (top 25), [], []⟩
def d__law_fields : He.DefD := ⟨("_law_fields", none), "_law_fields", "_law_fields", defArgs (top 26), defBody (top 26), defScope (top 26), [], []⟩
def d__law_classes : He.DefD := ⟨("_law_classes", none), "_law_classes", "_law_classes", defArgs (top 27), defBody (top 27), defScope (top 27), [], []⟩
def d__law_bases : He.DefD := ⟨("_law_bases", none), "_law_bases", "_law_bases", defArgs (top 28), defBody (top 28), defScope (top 28), [], []⟩
def d__law_due_bases : He.DefD := ⟨("_law_due_bases", none), "_law_due_bases", "_law_due_bases", defArgs (top 29), defBody (top 29), defScope (top 29), [], []⟩
def d_law : He.DefD := ⟨("law", none), "law", "law", defArgs (top 30), defBody (top 30), defScope (top 30), [], []⟩
def d_NoDigits___init__ : He.DefD := ⟨("NoDigits", some "__init__"), "__init__", "NoDigits.__init__", defArgs (inClass (top 1) 0), defBody (inClass (top 1) 0), defScope (inClass (top 1) 0), [], []⟩
def d_NoWord___init__ : He.DefD := ⟨("NoWord", some "__init__"), "__init__", "NoWord.__init__", defArgs (inClass (top 2) 0), defBody (inClass (top 2) 0), defScope (inClass (top 2) 0), [], []⟩
def d_NoText___init__ : He.DefD := ⟨("NoText", some "__init__"), "__init__", "NoText.__init__", defArgs (inClass (top 3) 0), defBody (inClass (top 3) 0), defScope (inClass (top 3) 0), [], []⟩
def d_NoMachine___init__ : He.DefD := ⟨("NoMachine", some "__init__"), "__init__", "NoMachine.__init__", defArgs (inClass (top 4) 0), defBody (inClass (top 4) 0), defScope (inClass (top 4) 0), [], []⟩
def d_Nought___init__ : He.DefD := ⟨("Nought", some "__init__"), "__init__", "Nought.__init__", defArgs (inClass (top 6) 0), defBody (inClass (top 6) 0), defScope (inClass (top 6) 0), [], []⟩
def d_NoKind___init__ : He.DefD := ⟨("NoKind", some "__init__"), "__init__", "NoKind.__init__", defArgs (inClass (top 7) 0), defBody (inClass (top 7) 0), defScope (inClass (top 7) 0), [], []⟩
def d_NoThing___init__ : He.DefD := ⟨("NoThing", some "__init__"), "__init__", "NoThing.__init__", defArgs (inClass (top 8) 0), defBody (inClass (top 8) 0), defScope (inClass (top 8) 0), [], []⟩
def d_NoRow___init__ : He.DefD := ⟨("NoRow", some "__init__"), "__init__", "NoRow.__init__", defArgs (inClass (top 9) 0), defBody (inClass (top 9) 0), defScope (inClass (top 9) 0), [], []⟩
def d_NoName___init__ : He.DefD := ⟨("NoName", some "__init__"), "__init__", "NoName.__init__", defArgs (inClass (top 10) 0), defBody (inClass (top 10) 0), defScope (inClass (top 10) 0), [], []⟩
def d_Taken___init__ : He.DefD := ⟨("Taken", some "__init__"), "__init__", "Taken.__init__", defArgs (inClass (top 11) 0), defBody (inClass (top 11) 0), defScope (inClass (top 11) 0), [], []⟩
def d_TooFar___init__ : He.DefD := ⟨("TooFar", some "__init__"), "__init__", "TooFar.__init__", defArgs (inClass (top 12) 0), defBody (inClass (top 12) 0), defScope (inClass (top 12) 0), [], []⟩
def d_Unclear___init__ : He.DefD := ⟨("Unclear", some "__init__"), "__init__", "Unclear.__init__", defArgs (inClass (top 14) 0), defBody (inClass (top 14) 0), defScope (inClass (top 14) 0), [], []⟩
def d_Needed___init__ : He.DefD := ⟨("Needed", some "__init__"), "__init__", "Needed.__init__", defArgs (inClass (top 15) 0), defBody (inClass (top 15) 0), defScope (inClass (top 15) 0), [], []⟩
def d_Ring___init__ : He.DefD := ⟨("Ring", some "__init__"), "__init__", "Ring.__init__", defArgs (inClass (top 16) 0), defBody (inClass (top 16) 0), defScope (inClass (top 16) 0), [], []⟩
def d_Unkept___init__ : He.DefD := ⟨("Unkept", some "__init__"), "__init__", "Unkept.__init__", defArgs (inClass (top 17) 0), defBody (inClass (top 17) 0), defScope (inClass (top 17) 0), [], []⟩
def d_NoDeed___init__ : He.DefD := ⟨("NoDeed", some "__init__"), "__init__", "NoDeed.__init__", defArgs (inClass (top 18) 0), defBody (inClass (top 18) 0), defScope (inClass (top 18) 0), [], []⟩
def d_NoAsk___init__ : He.DefD := ⟨("NoAsk", some "__init__"), "__init__", "NoAsk.__init__", defArgs (inClass (top 19) 0), defBody (inClass (top 19) 0), defScope (inClass (top 19) 0), [], []⟩
def fn_0 : List He.DefD := [d__law_feed, d__law_draw, d__law_first, d__law_second, d__law_named, d__law_fields, d__law_classes, d__law_bases, d__law_due_bases, d_law, d_NoDigits___init__, d_NoWord___init__, d_NoText___init__, d_NoMachine___init__, d_Nought___init__, d_NoKind___init__, d_NoThing___init__, d_NoRow___init__, d_NoName___init__, d_Taken___init__, d_TooFar___init__, d_Unclear___init__, d_Needed___init__, d_Ring___init__, d_Unkept___init__, d_NoDeed___init__, d_NoAsk___init__]
def fn : List He.DefD := fn_0
def fa_0 : List He.Fa := [.glo "_law_feed", .glo "_law_draw", .glo "_law_first", .glo "_law_second", .glo "_law_named", .glo "_law_fields", .glo "_law_classes", .glo "_law_bases", .glo "_law_due_bases", .glo "law", .glo "NoDigits", .glo "NoWord", .glo "NoText", .glo "NoMachine", .glo "NoRange", .glo "Nought", .glo "NoKind", .glo "NoThing", .glo "NoRow", .glo "NoName", .glo "Taken", .glo "TooFar", .glo "Endless", .glo "Unclear", .glo "Needed", .glo "Ring", .glo "Unkept", .glo "NoDeed", .glo "NoAsk", .free "ArithmeticError"]
def fa_1 : List He.Fa := [.free "Exception", .free "IndexError", .free "KeyError", .free "LookupError", .free "NotImplementedError", .free "OverflowError", .free "RuntimeError", .free "TypeError", .free "ValueError", .free "ZeroDivisionError", .free "abs", .free "isinstance", .free "len", .free "range", .free "repr"]
def fa : List He.Fa := fa_0 ++ fa_1
def loose_0 : List Str := ["NoDigits", "NoWord", "NoText", "NoMachine", "NoRange", "Nought", "NoKind", "NoThing", "NoRow", "NoName", "Taken", "TooFar", "Endless", "Unclear", "Needed", "Ring", "Unkept", "NoDeed", "NoAsk", "_law_feed", "_law_draw", "_law_first", "_law_second", "_law_named", "_law_fields", "_law_classes", "_law_bases", "_law_due_bases"]
def loose : List Str := loose_0
abbrev R : PySem.W.OpenRow := PySem.W.OpenLaw.row PySem.Challenge.rw_formatwords_k28_refusals_and_their_field
abbrev hk : PySem.W.Hook := Fw.hookY 4 fa fn tabs extra
def ob (s : PySem.W.SharedT) : He.AlX × Bool := (He.obsX 4 fa fn tabs [] extra (HandSHeadRun.getT s), Fw.isDictO (HandSHeadRun.getT s sysModules))
theorem ob_eq (s : PySem.W.SharedT) : ob s = hk.obs s.abs := Fw.obsY_eq (HandSHeadRun.getT_eq s)
theorem run (w : World) : HandSHeadRun.RunEq R (PySem.W.view R.prog [30]) hk ob 9000 loose w := by
  intro os
  kernel_rfl
section
variable {K : PySem.W.Frag} {h : Heap} {mg : Str → Option Value} (X : K.In h) (G : h.Ns mainGlobals mg) (c : He.SaysD fa fn K)
include X G c in
theorem gl__law_feed : mg "_law_feed" = some (.ref (He.ga K "_law_feed")) := He.glo_ok X G (c.fact 0 (f := .glo "_law_feed") rfl)
include X G c in
theorem gl__law_draw : mg "_law_draw" = some (.ref (He.ga K "_law_draw")) := He.glo_ok X G (c.fact 1 (f := .glo "_law_draw") rfl)
include X G c in
theorem gl__law_first : mg "_law_first" = some (.ref (He.ga K "_law_first")) := He.glo_ok X G (c.fact 2 (f := .glo "_law_first") rfl)
include X G c in
theorem gl__law_second : mg "_law_second" = some (.ref (He.ga K "_law_second")) := He.glo_ok X G (c.fact 3 (f := .glo "_law_second") rfl)
include X G c in
theorem gl__law_named : mg "_law_named" = some (.ref (He.ga K "_law_named")) := He.glo_ok X G (c.fact 4 (f := .glo "_law_named") rfl)
include X G c in
theorem gl__law_fields : mg "_law_fields" = some (.ref (He.ga K "_law_fields")) := He.glo_ok X G (c.fact 5 (f := .glo "_law_fields") rfl)
include X G c in
theorem gl__law_classes : mg "_law_classes" = some (.ref (He.ga K "_law_classes")) := He.glo_ok X G (c.fact 6 (f := .glo "_law_classes") rfl)
include X G c in
theorem gl__law_bases : mg "_law_bases" = some (.ref (He.ga K "_law_bases")) := He.glo_ok X G (c.fact 7 (f := .glo "_law_bases") rfl)
include X G c in
theorem gl__law_due_bases : mg "_law_due_bases" = some (.ref (He.ga K "_law_due_bases")) := He.glo_ok X G (c.fact 8 (f := .glo "_law_due_bases") rfl)
include X G c in
theorem gl_law : mg "law" = some (.ref (He.ga K "law")) := He.glo_ok X G (c.fact 9 (f := .glo "law") rfl)
include X G c in
theorem gl_NoDigits : mg "NoDigits" = some (.ref (He.ga K "NoDigits")) := He.glo_ok X G (c.fact 10 (f := .glo "NoDigits") rfl)
include X G c in
theorem gl_NoWord : mg "NoWord" = some (.ref (He.ga K "NoWord")) := He.glo_ok X G (c.fact 11 (f := .glo "NoWord") rfl)
include X G c in
theorem gl_NoText : mg "NoText" = some (.ref (He.ga K "NoText")) := He.glo_ok X G (c.fact 12 (f := .glo "NoText") rfl)
include X G c in
theorem gl_NoMachine : mg "NoMachine" = some (.ref (He.ga K "NoMachine")) := He.glo_ok X G (c.fact 13 (f := .glo "NoMachine") rfl)
include X G c in
theorem gl_NoRange : mg "NoRange" = some (.ref (He.ga K "NoRange")) := He.glo_ok X G (c.fact 14 (f := .glo "NoRange") rfl)
include X G c in
theorem gl_Nought : mg "Nought" = some (.ref (He.ga K "Nought")) := He.glo_ok X G (c.fact 15 (f := .glo "Nought") rfl)
include X G c in
theorem gl_NoKind : mg "NoKind" = some (.ref (He.ga K "NoKind")) := He.glo_ok X G (c.fact 16 (f := .glo "NoKind") rfl)
include X G c in
theorem gl_NoThing : mg "NoThing" = some (.ref (He.ga K "NoThing")) := He.glo_ok X G (c.fact 17 (f := .glo "NoThing") rfl)
include X G c in
theorem gl_NoRow : mg "NoRow" = some (.ref (He.ga K "NoRow")) := He.glo_ok X G (c.fact 18 (f := .glo "NoRow") rfl)
include X G c in
theorem gl_NoName : mg "NoName" = some (.ref (He.ga K "NoName")) := He.glo_ok X G (c.fact 19 (f := .glo "NoName") rfl)
include X G c in
theorem gl_Taken : mg "Taken" = some (.ref (He.ga K "Taken")) := He.glo_ok X G (c.fact 20 (f := .glo "Taken") rfl)
include X G c in
theorem gl_TooFar : mg "TooFar" = some (.ref (He.ga K "TooFar")) := He.glo_ok X G (c.fact 21 (f := .glo "TooFar") rfl)
include X G c in
theorem gl_Endless : mg "Endless" = some (.ref (He.ga K "Endless")) := He.glo_ok X G (c.fact 22 (f := .glo "Endless") rfl)
include X G c in
theorem gl_Unclear : mg "Unclear" = some (.ref (He.ga K "Unclear")) := He.glo_ok X G (c.fact 23 (f := .glo "Unclear") rfl)
include X G c in
theorem gl_Needed : mg "Needed" = some (.ref (He.ga K "Needed")) := He.glo_ok X G (c.fact 24 (f := .glo "Needed") rfl)
include X G c in
theorem gl_Ring : mg "Ring" = some (.ref (He.ga K "Ring")) := He.glo_ok X G (c.fact 25 (f := .glo "Ring") rfl)
include X G c in
theorem gl_Unkept : mg "Unkept" = some (.ref (He.ga K "Unkept")) := He.glo_ok X G (c.fact 26 (f := .glo "Unkept") rfl)
include X G c in
theorem gl_NoDeed : mg "NoDeed" = some (.ref (He.ga K "NoDeed")) := He.glo_ok X G (c.fact 27 (f := .glo "NoDeed") rfl)
include X G c in
theorem gl_NoAsk : mg "NoAsk" = some (.ref (He.ga K "NoAsk")) := He.glo_ok X G (c.fact 28 (f := .glo "NoAsk") rfl)
include X G c in
theorem fr_ArithmeticError : mg "ArithmeticError" = none := He.free_ok X G (c.fact 29 (f := .free "ArithmeticError") rfl)
include X G c in
theorem fr_Exception : mg "Exception" = none := He.free_ok X G (c.fact 30 (f := .free "Exception") rfl)
include X G c in
theorem fr_IndexError : mg "IndexError" = none := He.free_ok X G (c.fact 31 (f := .free "IndexError") rfl)
include X G c in
theorem fr_KeyError : mg "KeyError" = none := He.free_ok X G (c.fact 32 (f := .free "KeyError") rfl)
include X G c in
theorem fr_LookupError : mg "LookupError" = none := He.free_ok X G (c.fact 33 (f := .free "LookupError") rfl)
include X G c in
theorem fr_NotImplementedError : mg "NotImplementedError" = none := He.free_ok X G (c.fact 34 (f := .free "NotImplementedError") rfl)
include X G c in
theorem fr_OverflowError : mg "OverflowError" = none := He.free_ok X G (c.fact 35 (f := .free "OverflowError") rfl)
include X G c in
theorem fr_RuntimeError : mg "RuntimeError" = none := He.free_ok X G (c.fact 36 (f := .free "RuntimeError") rfl)
include X G c in
theorem fr_TypeError : mg "TypeError" = none := He.free_ok X G (c.fact 37 (f := .free "TypeError") rfl)
include X G c in
theorem fr_ValueError : mg "ValueError" = none := He.free_ok X G (c.fact 38 (f := .free "ValueError") rfl)
include X G c in
theorem fr_ZeroDivisionError : mg "ZeroDivisionError" = none := He.free_ok X G (c.fact 39 (f := .free "ZeroDivisionError") rfl)
include X G c in
theorem fr_abs : mg "abs" = none := He.free_ok X G (c.fact 40 (f := .free "abs") rfl)
include X G c in
theorem fr_isinstance : mg "isinstance" = none := He.free_ok X G (c.fact 41 (f := .free "isinstance") rfl)
include X G c in
theorem fr_len : mg "len" = none := He.free_ok X G (c.fact 42 (f := .free "len") rfl)
include X G c in
theorem fr_range : mg "range" = none := He.free_ok X G (c.fact 43 (f := .free "range") rfl)
include X G c in
theorem fr_repr : mg "repr" = none := He.free_ok X G (c.fact 44 (f := .free "repr") rfl)
include c in
theorem de__law_feed : ∃ fd, FunD K d__law_feed.name d__law_feed.qual d__law_feed.params d__law_feed.body d__law_feed.scope (d__law_feed.dvs K) (d__law_feed.kws K) (He.fAd K d__law_feed.at_) fd := c.def_ 0 (d := d__law_feed) rfl
include c in
theorem de__law_draw : ∃ fd, FunD K d__law_draw.name d__law_draw.qual d__law_draw.params d__law_draw.body d__law_draw.scope (d__law_draw.dvs K) (d__law_draw.kws K) (He.fAd K d__law_draw.at_) fd := c.def_ 1 (d := d__law_draw) rfl
include c in
theorem de__law_first : ∃ fd, FunD K d__law_first.name d__law_first.qual d__law_first.params d__law_first.body d__law_first.scope (d__law_first.dvs K) (d__law_first.kws K) (He.fAd K d__law_first.at_) fd := c.def_ 2 (d := d__law_first) rfl
include c in
theorem de__law_second : ∃ fd, FunD K d__law_second.name d__law_second.qual d__law_second.params d__law_second.body d__law_second.scope (d__law_second.dvs K) (d__law_second.kws K) (He.fAd K d__law_second.at_) fd := c.def_ 3 (d := d__law_second) rfl
include c in
theorem de__law_named : ∃ fd, FunD K d__law_named.name d__law_named.qual d__law_named.params d__law_named.body d__law_named.scope (d__law_named.dvs K) (d__law_named.kws K) (He.fAd K d__law_named.at_) fd := c.def_ 4 (d := d__law_named) rfl
include c in
theorem de__law_fields : ∃ fd, FunD K d__law_fields.name d__law_fields.qual d__law_fields.params d__law_fields.body d__law_fields.scope (d__law_fields.dvs K) (d__law_fields.kws K) (He.fAd K d__law_fields.at_) fd := c.def_ 5 (d := d__law_fields) rfl
include c in
theorem de__law_classes : ∃ fd, FunD K d__law_classes.name d__law_classes.qual d__law_classes.params d__law_classes.body d__law_classes.scope (d__law_classes.dvs K) (d__law_classes.kws K) (He.fAd K d__law_classes.at_) fd := c.def_ 6 (d := d__law_classes) rfl
include c in
theorem de__law_bases : ∃ fd, FunD K d__law_bases.name d__law_bases.qual d__law_bases.params d__law_bases.body d__law_bases.scope (d__law_bases.dvs K) (d__law_bases.kws K) (He.fAd K d__law_bases.at_) fd := c.def_ 7 (d := d__law_bases) rfl
include c in
theorem de__law_due_bases : ∃ fd, FunD K d__law_due_bases.name d__law_due_bases.qual d__law_due_bases.params d__law_due_bases.body d__law_due_bases.scope (d__law_due_bases.dvs K) (d__law_due_bases.kws K) (He.fAd K d__law_due_bases.at_) fd := c.def_ 8 (d := d__law_due_bases) rfl
include c in
theorem de_law : ∃ fd, FunD K d_law.name d_law.qual d_law.params d_law.body d_law.scope (d_law.dvs K) (d_law.kws K) (He.fAd K d_law.at_) fd := c.def_ 9 (d := d_law) rfl
include c in
theorem de_NoDigits___init__ : ∃ fd, FunD K d_NoDigits___init__.name d_NoDigits___init__.qual d_NoDigits___init__.params d_NoDigits___init__.body d_NoDigits___init__.scope (d_NoDigits___init__.dvs K) (d_NoDigits___init__.kws K) (He.fAd K d_NoDigits___init__.at_) fd := c.def_ 10 (d := d_NoDigits___init__) rfl
include c in
theorem de_NoWord___init__ : ∃ fd, FunD K d_NoWord___init__.name d_NoWord___init__.qual d_NoWord___init__.params d_NoWord___init__.body d_NoWord___init__.scope (d_NoWord___init__.dvs K) (d_NoWord___init__.kws K) (He.fAd K d_NoWord___init__.at_) fd := c.def_ 11 (d := d_NoWord___init__) rfl
include c in
theorem de_NoText___init__ : ∃ fd, FunD K d_NoText___init__.name d_NoText___init__.qual d_NoText___init__.params d_NoText___init__.body d_NoText___init__.scope (d_NoText___init__.dvs K) (d_NoText___init__.kws K) (He.fAd K d_NoText___init__.at_) fd := c.def_ 12 (d := d_NoText___init__) rfl
include c in
theorem de_NoMachine___init__ : ∃ fd, FunD K d_NoMachine___init__.name d_NoMachine___init__.qual d_NoMachine___init__.params d_NoMachine___init__.body d_NoMachine___init__.scope (d_NoMachine___init__.dvs K) (d_NoMachine___init__.kws K) (He.fAd K d_NoMachine___init__.at_) fd := c.def_ 13 (d := d_NoMachine___init__) rfl
include c in
theorem de_Nought___init__ : ∃ fd, FunD K d_Nought___init__.name d_Nought___init__.qual d_Nought___init__.params d_Nought___init__.body d_Nought___init__.scope (d_Nought___init__.dvs K) (d_Nought___init__.kws K) (He.fAd K d_Nought___init__.at_) fd := c.def_ 14 (d := d_Nought___init__) rfl
include c in
theorem de_NoKind___init__ : ∃ fd, FunD K d_NoKind___init__.name d_NoKind___init__.qual d_NoKind___init__.params d_NoKind___init__.body d_NoKind___init__.scope (d_NoKind___init__.dvs K) (d_NoKind___init__.kws K) (He.fAd K d_NoKind___init__.at_) fd := c.def_ 15 (d := d_NoKind___init__) rfl
include c in
theorem de_NoThing___init__ : ∃ fd, FunD K d_NoThing___init__.name d_NoThing___init__.qual d_NoThing___init__.params d_NoThing___init__.body d_NoThing___init__.scope (d_NoThing___init__.dvs K) (d_NoThing___init__.kws K) (He.fAd K d_NoThing___init__.at_) fd := c.def_ 16 (d := d_NoThing___init__) rfl
include c in
theorem de_NoRow___init__ : ∃ fd, FunD K d_NoRow___init__.name d_NoRow___init__.qual d_NoRow___init__.params d_NoRow___init__.body d_NoRow___init__.scope (d_NoRow___init__.dvs K) (d_NoRow___init__.kws K) (He.fAd K d_NoRow___init__.at_) fd := c.def_ 17 (d := d_NoRow___init__) rfl
include c in
theorem de_NoName___init__ : ∃ fd, FunD K d_NoName___init__.name d_NoName___init__.qual d_NoName___init__.params d_NoName___init__.body d_NoName___init__.scope (d_NoName___init__.dvs K) (d_NoName___init__.kws K) (He.fAd K d_NoName___init__.at_) fd := c.def_ 18 (d := d_NoName___init__) rfl
include c in
theorem de_Taken___init__ : ∃ fd, FunD K d_Taken___init__.name d_Taken___init__.qual d_Taken___init__.params d_Taken___init__.body d_Taken___init__.scope (d_Taken___init__.dvs K) (d_Taken___init__.kws K) (He.fAd K d_Taken___init__.at_) fd := c.def_ 19 (d := d_Taken___init__) rfl
include c in
theorem de_TooFar___init__ : ∃ fd, FunD K d_TooFar___init__.name d_TooFar___init__.qual d_TooFar___init__.params d_TooFar___init__.body d_TooFar___init__.scope (d_TooFar___init__.dvs K) (d_TooFar___init__.kws K) (He.fAd K d_TooFar___init__.at_) fd := c.def_ 20 (d := d_TooFar___init__) rfl
include c in
theorem de_Unclear___init__ : ∃ fd, FunD K d_Unclear___init__.name d_Unclear___init__.qual d_Unclear___init__.params d_Unclear___init__.body d_Unclear___init__.scope (d_Unclear___init__.dvs K) (d_Unclear___init__.kws K) (He.fAd K d_Unclear___init__.at_) fd := c.def_ 21 (d := d_Unclear___init__) rfl
include c in
theorem de_Needed___init__ : ∃ fd, FunD K d_Needed___init__.name d_Needed___init__.qual d_Needed___init__.params d_Needed___init__.body d_Needed___init__.scope (d_Needed___init__.dvs K) (d_Needed___init__.kws K) (He.fAd K d_Needed___init__.at_) fd := c.def_ 22 (d := d_Needed___init__) rfl
include c in
theorem de_Ring___init__ : ∃ fd, FunD K d_Ring___init__.name d_Ring___init__.qual d_Ring___init__.params d_Ring___init__.body d_Ring___init__.scope (d_Ring___init__.dvs K) (d_Ring___init__.kws K) (He.fAd K d_Ring___init__.at_) fd := c.def_ 23 (d := d_Ring___init__) rfl
include c in
theorem de_Unkept___init__ : ∃ fd, FunD K d_Unkept___init__.name d_Unkept___init__.qual d_Unkept___init__.params d_Unkept___init__.body d_Unkept___init__.scope (d_Unkept___init__.dvs K) (d_Unkept___init__.kws K) (He.fAd K d_Unkept___init__.at_) fd := c.def_ 24 (d := d_Unkept___init__) rfl
include c in
theorem de_NoDeed___init__ : ∃ fd, FunD K d_NoDeed___init__.name d_NoDeed___init__.qual d_NoDeed___init__.params d_NoDeed___init__.body d_NoDeed___init__.scope (d_NoDeed___init__.dvs K) (d_NoDeed___init__.kws K) (He.fAd K d_NoDeed___init__.at_) fd := c.def_ 25 (d := d_NoDeed___init__) rfl
include c in
theorem de_NoAsk___init__ : ∃ fd, FunD K d_NoAsk___init__.name d_NoAsk___init__.qual d_NoAsk___init__.params d_NoAsk___init__.body d_NoAsk___init__.scope (d_NoAsk___init__.dvs K) (d_NoAsk___init__.kws K) (He.fAd K d_NoAsk___init__.at_) fd := c.def_ 26 (d := d_NoAsk___init__) rfl
end
abbrev lawAt : Nat := 30
theorem facts {P : Program} {w : World} {K : PySem.W.Frag} {h : Heap} {mg : Str → Option Value} {f : Addr} (X : K.In h) (G : h.Ns mainGlobals mg) (hfa : mg ("law" : Str) = some (.ref f)) (c : He.SaysD fa fn K) (m : extra K = true) :
    ∃ fd : FuncData, (∀ (s : Shared) (v : Value), BindsTo s fd ⟨[v], []⟩ [("_law_script", v)]) ∧ ∀ base : Heap, K.In base → base.Ns mainGlobals mg → Fw.SysIn base → FnG P w K mg base CX0 13 f fd ["_law_script"] (spLaw K) := by
  unfold extra at m
  simp only [Bool.and_eq_true, decide_eq_true_eq] at m
  obtain ⟨g0, ⟨g1, ⟨g2, ⟨g3, ⟨g4, ⟨g5, ⟨g6, ⟨g7, ⟨g8, ⟨g9, ⟨g10, ⟨g11, ⟨g12, ⟨g13, ⟨g14, ⟨g15, ⟨g16, ⟨g17, ⟨g18, ⟨g19, ⟨g20, ⟨g21, ⟨g22, ⟨g23, ⟨g24, ⟨g25, ⟨g26, ⟨g27, g28⟩⟩⟩⟩⟩⟩⟩⟩⟩⟩⟩⟩⟩⟩⟩⟩⟩⟩⟩⟩⟩⟩⟩⟩⟩⟩⟩⟩ := m
  obtain ⟨_, f__law_feed⟩ := de__law_feed c
  obtain ⟨_, f__law_draw⟩ := de__law_draw c
  have W_NoDigits := ownNB_ok g2
  obtain ⟨_, f_NoDigits⟩ := de_NoDigits___init__ c
  have kp_NoDigits : KBn K _ ["self", "at"] 2 [] (fun us _ => us) (fun us _ => us) := kbN f_NoDigits 2 [] (fun us _ => us) (fun a _ => a) fun _ _ _ _ _ _ us ws hu hw => match us, ws, hu, hw with | [_, _], [], _, _ => rfl
  have kk_NoDigits : KBn K _ ["self", "at"] 1 ["at"] (fun us ws => us ++ ws.reverse) (fun us ws => us ++ ws.reverse) := kbN f_NoDigits 1 ["at"] (fun us ws => us ++ ws.reverse) (fun a b => a.append (vals_rev b)) fun _ _ _ _ _ _ us ws hu hw => match us, ws, hu, hw with | [_], [_], _, _ => rfl
  have W_NoWord := ownNB_ok g3
  obtain ⟨_, f_NoWord⟩ := de_NoWord___init__ c
  have kp_NoWord : KBn K _ ["self", "field"] 2 [] (fun us _ => us) (fun us _ => us) := kbN f_NoWord 2 [] (fun us _ => us) (fun a _ => a) fun _ _ _ _ _ _ us ws hu hw => match us, ws, hu, hw with | [_, _], [], _, _ => rfl
  have kk_NoWord : KBn K _ ["self", "field"] 1 ["field"] (fun us ws => us ++ ws.reverse) (fun us ws => us ++ ws.reverse) := kbN f_NoWord 1 ["field"] (fun us ws => us ++ ws.reverse) (fun a b => a.append (vals_rev b)) fun _ _ _ _ _ _ us ws hu hw => match us, ws, hu, hw with | [_], [_], _, _ => rfl
  have W_NoText := ownNB_ok g4
  obtain ⟨_, f_NoText⟩ := de_NoText___init__ c
  have kp_NoText : KBn K _ ["self", "at"] 2 [] (fun us _ => us) (fun us _ => us) := kbN f_NoText 2 [] (fun us _ => us) (fun a _ => a) fun _ _ _ _ _ _ us ws hu hw => match us, ws, hu, hw with | [_, _], [], _, _ => rfl
  have kk_NoText : KBn K _ ["self", "at"] 1 ["at"] (fun us ws => us ++ ws.reverse) (fun us ws => us ++ ws.reverse) := kbN f_NoText 1 ["at"] (fun us ws => us ++ ws.reverse) (fun a b => a.append (vals_rev b)) fun _ _ _ _ _ _ us ws hu hw => match us, ws, hu, hw with | [_], [_], _, _ => rfl
  have W_NoMachine := ownNB_ok g5
  obtain ⟨_, f_NoMachine⟩ := de_NoMachine___init__ c
  have kp_NoMachine : KBn K _ ["self", "field"] 2 [] (fun us _ => us) (fun us _ => us) := kbN f_NoMachine 2 [] (fun us _ => us) (fun a _ => a) fun _ _ _ _ _ _ us ws hu hw => match us, ws, hu, hw with | [_, _], [], _, _ => rfl
  have kk_NoMachine : KBn K _ ["self", "field"] 1 ["field"] (fun us ws => us ++ ws.reverse) (fun us ws => us ++ ws.reverse) := kbN f_NoMachine 1 ["field"] (fun us ws => us ++ ws.reverse) (fun a b => a.append (vals_rev b)) fun _ _ _ _ _ _ us ws hu hw => match us, ws, hu, hw with | [_], [_], _, _ => rfl
  have W_Nought := ownNB_ok g11
  obtain ⟨_, f_Nought⟩ := de_Nought___init__ c
  have kp_Nought : KBn K _ ["self", "top"] 2 [] (fun us _ => us) (fun us _ => us) := kbN f_Nought 2 [] (fun us _ => us) (fun a _ => a) fun _ _ _ _ _ _ us ws hu hw => match us, ws, hu, hw with | [_, _], [], _, _ => rfl
  have kk_Nought : KBn K _ ["self", "top"] 1 ["top"] (fun us ws => us ++ ws.reverse) (fun us ws => us ++ ws.reverse) := kbN f_Nought 1 ["top"] (fun us ws => us ++ ws.reverse) (fun a b => a.append (vals_rev b)) fun _ _ _ _ _ _ us ws hu hw => match us, ws, hu, hw with | [_], [_], _, _ => rfl
  have W_NoKind := ownNB_ok g12
  obtain ⟨_, f_NoKind⟩ := de_NoKind___init__ c
  have kp_NoKind : KBn K _ ["self", "field"] 2 [] (fun us _ => us) (fun us _ => us) := kbN f_NoKind 2 [] (fun us _ => us) (fun a _ => a) fun _ _ _ _ _ _ us ws hu hw => match us, ws, hu, hw with | [_, _], [], _, _ => rfl
  have kk_NoKind : KBn K _ ["self", "field"] 1 ["field"] (fun us ws => us ++ ws.reverse) (fun us ws => us ++ ws.reverse) := kbN f_NoKind 1 ["field"] (fun us ws => us ++ ws.reverse) (fun a b => a.append (vals_rev b)) fun _ _ _ _ _ _ us ws hu hw => match us, ws, hu, hw with | [_], [_], _, _ => rfl
  have W_NoThing := ownNB_ok g13
  obtain ⟨_, f_NoThing⟩ := de_NoThing___init__ c
  have kp_NoThing : KBn K _ ["self", "thing"] 2 [] (fun us _ => us) (fun us _ => us) := kbN f_NoThing 2 [] (fun us _ => us) (fun a _ => a) fun _ _ _ _ _ _ us ws hu hw => match us, ws, hu, hw with | [_, _], [], _, _ => rfl
  have kk_NoThing : KBn K _ ["self", "thing"] 1 ["thing"] (fun us ws => us ++ ws.reverse) (fun us ws => us ++ ws.reverse) := kbN f_NoThing 1 ["thing"] (fun us ws => us ++ ws.reverse) (fun a b => a.append (vals_rev b)) fun _ _ _ _ _ _ us ws hu hw => match us, ws, hu, hw with | [_], [_], _, _ => rfl
  have W_NoRow := ownNB_ok g14
  obtain ⟨_, f_NoRow⟩ := de_NoRow___init__ c
  have kp_NoRow : KBn K _ ["self", "at"] 2 [] (fun us _ => us) (fun us _ => us) := kbN f_NoRow 2 [] (fun us _ => us) (fun a _ => a) fun _ _ _ _ _ _ us ws hu hw => match us, ws, hu, hw with | [_, _], [], _, _ => rfl
  have kk_NoRow : KBn K _ ["self", "at"] 1 ["at"] (fun us ws => us ++ ws.reverse) (fun us ws => us ++ ws.reverse) := kbN f_NoRow 1 ["at"] (fun us ws => us ++ ws.reverse) (fun a b => a.append (vals_rev b)) fun _ _ _ _ _ _ us ws hu hw => match us, ws, hu, hw with | [_], [_], _, _ => rfl
  have W_NoName := ownNB_ok g15
  obtain ⟨_, f_NoName⟩ := de_NoName___init__ c
  have kp_NoName : KBn K _ ["self", "name"] 2 [] (fun us _ => us) (fun us _ => us) := kbN f_NoName 2 [] (fun us _ => us) (fun a _ => a) fun _ _ _ _ _ _ us ws hu hw => match us, ws, hu, hw with | [_, _], [], _, _ => rfl
  have kk_NoName : KBn K _ ["self", "name"] 1 ["name"] (fun us ws => us ++ ws.reverse) (fun us ws => us ++ ws.reverse) := kbN f_NoName 1 ["name"] (fun us ws => us ++ ws.reverse) (fun a b => a.append (vals_rev b)) fun _ _ _ _ _ _ us ws hu hw => match us, ws, hu, hw with | [_], [_], _, _ => rfl
  have W_Taken := ownNB_ok g16
  obtain ⟨_, f_Taken⟩ := de_Taken___init__ c
  have kp_Taken : KBn K _ ["self", "name"] 2 [] (fun us _ => us) (fun us _ => us) := kbN f_Taken 2 [] (fun us _ => us) (fun a _ => a) fun _ _ _ _ _ _ us ws hu hw => match us, ws, hu, hw with | [_, _], [], _, _ => rfl
  have kk_Taken : KBn K _ ["self", "name"] 1 ["name"] (fun us ws => us ++ ws.reverse) (fun us ws => us ++ ws.reverse) := kbN f_Taken 1 ["name"] (fun us ws => us ++ ws.reverse) (fun a b => a.append (vals_rev b)) fun _ _ _ _ _ _ us ws hu hw => match us, ws, hu, hw with | [_], [_], _, _ => rfl
  have W_TooFar := ownNB_ok g17
  obtain ⟨_, f_TooFar⟩ := de_TooFar___init__ c
  have kp_TooFar : KBn K _ ["self", "many"] 2 [] (fun us _ => us) (fun us _ => us) := kbN f_TooFar 2 [] (fun us _ => us) (fun a _ => a) fun _ _ _ _ _ _ us ws hu hw => match us, ws, hu, hw with | [_, _], [], _, _ => rfl
  have kk_TooFar : KBn K _ ["self", "many"] 1 ["many"] (fun us ws => us ++ ws.reverse) (fun us ws => us ++ ws.reverse) := kbN f_TooFar 1 ["many"] (fun us ws => us ++ ws.reverse) (fun a b => a.append (vals_rev b)) fun _ _ _ _ _ _ us ws hu hw => match us, ws, hu, hw with | [_], [_], _, _ => rfl
  have W_Unclear := ownNB_ok g23
  obtain ⟨_, f_Unclear⟩ := de_Unclear___init__ c
  have kp_Unclear : KBn K _ ["self", "text"] 2 [] (fun us _ => us) (fun us _ => us) := kbN f_Unclear 2 [] (fun us _ => us) (fun a _ => a) fun _ _ _ _ _ _ us ws hu hw => match us, ws, hu, hw with | [_, _], [], _, _ => rfl
  have kk_Unclear : KBn K _ ["self", "text"] 1 ["text"] (fun us ws => us ++ ws.reverse) (fun us ws => us ++ ws.reverse) := kbN f_Unclear 1 ["text"] (fun us ws => us ++ ws.reverse) (fun a b => a.append (vals_rev b)) fun _ _ _ _ _ _ us ws hu hw => match us, ws, hu, hw with | [_], [_], _, _ => rfl
  have W_Needed := ownNB_ok g24
  obtain ⟨_, f_Needed⟩ := de_Needed___init__ c
  have kp_Needed : KBn K _ ["self", "name", "by"] 3 [] (fun us _ => us) (fun us _ => us) := kbN f_Needed 3 [] (fun us _ => us) (fun a _ => a) fun _ _ _ _ _ _ us ws hu hw => match us, ws, hu, hw with | [_, _, _], [], _, _ => rfl
  have kk_Needed : KBn K _ ["self", "name", "by"] 1 ["by", "name"] (fun us ws => us ++ ws.reverse) (fun us ws => us ++ ws.reverse) := kbN f_Needed 1 ["by", "name"] (fun us ws => us ++ ws.reverse) (fun a b => a.append (vals_rev b)) fun _ _ _ _ _ _ us ws hu hw => match us, ws, hu, hw with | [_], [_, _], _, _ => rfl
  have W_Ring := ownNB_ok g25
  obtain ⟨_, f_Ring⟩ := de_Ring___init__ c
  have kp_Ring : KBn K _ ["self", "ring"] 2 [] (fun us _ => us) (fun us _ => us) := kbN f_Ring 2 [] (fun us _ => us) (fun a _ => a) fun _ _ _ _ _ _ us ws hu hw => match us, ws, hu, hw with | [_, _], [], _, _ => rfl
  have kk_Ring : KBn K _ ["self", "ring"] 1 ["ring"] (fun us ws => us ++ ws.reverse) (fun us ws => us ++ ws.reverse) := kbN f_Ring 1 ["ring"] (fun us ws => us ++ ws.reverse) (fun a b => a.append (vals_rev b)) fun _ _ _ _ _ _ us ws hu hw => match us, ws, hu, hw with | [_], [_], _, _ => rfl
  have W_Unkept := ownNB_ok g26
  obtain ⟨_, f_Unkept⟩ := de_Unkept___init__ c
  have kp_Unkept : KBn K _ ["self", "name", "other", "text", "one", "two"] 6 [] (fun us _ => us) (fun us _ => us) := kbN f_Unkept 6 [] (fun us _ => us) (fun a _ => a) fun _ _ _ _ _ _ us ws hu hw => match us, ws, hu, hw with | [_, _, _, _, _, _], [], _, _ => rfl
  have kk_Unkept : KBn K _ ["self", "name", "other", "text", "one", "two"] 1 ["two", "one", "text", "other", "name"] (fun us ws => us ++ ws.reverse) (fun us ws => us ++ ws.reverse) := kbN f_Unkept 1 ["two", "one", "text", "other", "name"] (fun us ws => us ++ ws.reverse) (fun a b => a.append (vals_rev b)) fun _ _ _ _ _ _ us ws hu hw => match us, ws, hu, hw with | [_], [_, _, _, _, _], _, _ => rfl
  have W_NoDeed := ownNB_ok g27
  obtain ⟨_, f_NoDeed⟩ := de_NoDeed___init__ c
  have kp_NoDeed : KBn K _ ["self", "at"] 2 [] (fun us _ => us) (fun us _ => us) := kbN f_NoDeed 2 [] (fun us _ => us) (fun a _ => a) fun _ _ _ _ _ _ us ws hu hw => match us, ws, hu, hw with | [_, _], [], _, _ => rfl
  have kk_NoDeed : KBn K _ ["self", "at"] 1 ["at"] (fun us ws => us ++ ws.reverse) (fun us ws => us ++ ws.reverse) := kbN f_NoDeed 1 ["at"] (fun us ws => us ++ ws.reverse) (fun a b => a.append (vals_rev b)) fun _ _ _ _ _ _ us ws hu hw => match us, ws, hu, hw with | [_], [_], _, _ => rfl
  have W_NoAsk := ownNB_ok g28
  obtain ⟨_, f_NoAsk⟩ := de_NoAsk___init__ c
  have kp_NoAsk : KBn K _ ["self", "row"] 2 [] (fun us _ => us) (fun us _ => us) := kbN f_NoAsk 2 [] (fun us _ => us) (fun a _ => a) fun _ _ _ _ _ _ us ws hu hw => match us, ws, hu, hw with | [_, _], [], _, _ => rfl
  have kk_NoAsk : KBn K _ ["self", "row"] 1 ["row"] (fun us ws => us ++ ws.reverse) (fun us ws => us ++ ws.reverse) := kbN f_NoAsk 1 ["row"] (fun us ws => us ++ ws.reverse) (fun a b => a.append (vals_rev b)) fun _ _ _ _ _ _ us ws hu hw => match us, ws, hu, hw with | [_], [_], _, _ => rfl
  obtain ⟨_, f__law_first⟩ := de__law_first c
  have b__law_first : Binds K _ ["_law_which", "_law_it"] [] := f__law_first.bindsN fun _ _ _ _ _ _ us hl => match us, hl with | [_, _], _ => rfl
  obtain ⟨_, f__law_second⟩ := de__law_second c
  have b__law_second : Binds K _ ["_law_which", "_law_it", "_law_that"] [] := f__law_second.bindsN fun _ _ _ _ _ _ us hl => match us, hl with | [_, _, _], _ => rfl
  obtain ⟨_, f__law_named⟩ := de__law_named c
  have b__law_named : Binds K _ ["_law_which", "_law_it", "_law_that"] [] := f__law_named.bindsN fun _ _ _ _ _ _ us hl => match us, hl with | [_, _, _], _ => rfl
  obtain ⟨_, f__law_fields⟩ := de__law_fields c
  have b__law_fields : Binds K _ ["_law_which", "_law_e"] [] := f__law_fields.bindsN fun _ _ _ _ _ _ us hl => match us, hl with | [_, _], _ => rfl
  obtain ⟨_, f__law_classes⟩ := de__law_classes c
  have b__law_classes : Binds K _ ["_law_e"] [] := f__law_classes.bindsN fun _ _ _ _ _ _ us hl => match us, hl with | [_], _ => rfl
  obtain ⟨_, f__law_bases⟩ := de__law_bases c
  have b__law_bases : Binds K _ ["_law_e"] [] := f__law_bases.bindsN fun _ _ _ _ _ _ us hl => match us, hl with | [_], _ => rfl
  obtain ⟨_, f__law_due_bases⟩ := de__law_due_bases c
  have b__law_due_bases : Binds K _ ["_law_which"] [] := f__law_due_bases.bindsN fun _ _ _ _ _ _ us hl => match us, hl with | [_], _ => rfl
  obtain ⟨fd, f_law⟩ := de_law c
  have e := hfa.symm.trans (gl_law X G c)
  cases e
  have b__law_feed : Binds K _ ["_law_script"] [] := f__law_feed.bindsN fun _ _ _ _ _ _ us hl => match us, hl with | [_], _ => rfl
  have b__law_draw : Binds K _ ["_law_feed_here", "_law_amount"] [] := f__law_draw.bindsN fun _ _ _ _ _ _ us hl => match us, hl with | [_, _], _ => rfl
  have b := FunD.bindsA (ps := ["_law_script"]) f_law fun _ _ _ _ _ _ us hl => match us, hl with | [_], _ => rfl
  refine ⟨fd, fun s v => b s [v] rfl, fun base _ _ sysb => ?_⟩
  have D__law_draw := fb_all (g := true) (x := "_law_draw") (drawD (ok_draw (P := P) (w := w) (base := base) f__law_draw (fr_len X G c) (fr_abs X G c) (fr_range X G c))) (gl__law_draw X G c) f__law_draw.kp b__law_draw
  have o_NoDigits := ok_NoDigits_init (P := P) (w := w) (base := base) f_NoDigits W_NoDigits (fr_ValueError X G c)
  have D_NoDigits : EP1 P w K mg base "NoDigits" (CE K 0) ["at"] := ⟨_, _, _, _, _, _, _, _, _, _, (xb_of PySem.F.excBase_ValueError PySem.F.store_ValueError), W_NoDigits.O, W_NoDigits.iC, W_NoDigits.tI, o_NoDigits, gl_NoDigits X G c, kp_NoDigits, fun F G a vs ds zs es _ _ r1 _ => ⟨vs, rfl, r1⟩⟩
  have D_NoDigits_at : EK1 P w K mg base "NoDigits" (CE K 0) ["at"] := ⟨_, _, _, _, _, _, _, _, _, _, (xb_of PySem.F.excBase_ValueError PySem.F.store_ValueError), W_NoDigits.O, W_NoDigits.iC, W_NoDigits.tI, o_NoDigits, gl_NoDigits X G c, kk_NoDigits, fun F G a vs ds zs es h1 _ r1 r2 => ⟨vs ++ zs.reverse, rfl, by have e := List.length_eq_zero_iff.mp h1; subst e; exact r2.reverse⟩⟩
  have o_NoWord := ok_NoWord_init (P := P) (w := w) (base := base) f_NoWord W_NoWord (fr_ValueError X G c)
  have D_NoWord : EP1 P w K mg base "NoWord" (CE K 1) ["field"] := ⟨_, _, _, _, _, _, _, _, _, _, (xb_of PySem.F.excBase_ValueError PySem.F.store_ValueError), W_NoWord.O, W_NoWord.iC, W_NoWord.tI, o_NoWord, gl_NoWord X G c, kp_NoWord, fun F G a vs ds zs es _ _ r1 _ => ⟨vs, rfl, r1⟩⟩
  have D_NoWord_field : EK1 P w K mg base "NoWord" (CE K 1) ["field"] := ⟨_, _, _, _, _, _, _, _, _, _, (xb_of PySem.F.excBase_ValueError PySem.F.store_ValueError), W_NoWord.O, W_NoWord.iC, W_NoWord.tI, o_NoWord, gl_NoWord X G c, kk_NoWord, fun F G a vs ds zs es h1 _ r1 r2 => ⟨vs ++ zs.reverse, rfl, by have e := List.length_eq_zero_iff.mp h1; subst e; exact r2.reverse⟩⟩
  have o_NoText := ok_NoText_init (P := P) (w := w) (base := base) f_NoText W_NoText (fr_ValueError X G c)
  have D_NoText : EP1 P w K mg base "NoText" (CE K 2) ["at"] := ⟨_, _, _, _, _, _, _, _, _, _, (xb_of PySem.F.excBase_ValueError PySem.F.store_ValueError), W_NoText.O, W_NoText.iC, W_NoText.tI, o_NoText, gl_NoText X G c, kp_NoText, fun F G a vs ds zs es _ _ r1 _ => ⟨vs, rfl, r1⟩⟩
  have D_NoText_at : EK1 P w K mg base "NoText" (CE K 2) ["at"] := ⟨_, _, _, _, _, _, _, _, _, _, (xb_of PySem.F.excBase_ValueError PySem.F.store_ValueError), W_NoText.O, W_NoText.iC, W_NoText.tI, o_NoText, gl_NoText X G c, kk_NoText, fun F G a vs ds zs es h1 _ r1 r2 => ⟨vs ++ zs.reverse, rfl, by have e := List.length_eq_zero_iff.mp h1; subst e; exact r2.reverse⟩⟩
  have o_NoMachine := ok_NoMachine_init (P := P) (w := w) (base := base) f_NoMachine W_NoMachine (fr_ValueError X G c)
  have D_NoMachine : EP1 P w K mg base "NoMachine" (CE K 3) ["field"] := ⟨_, _, _, _, _, _, _, _, _, _, (xb_of PySem.F.excBase_ValueError PySem.F.store_ValueError), W_NoMachine.O, W_NoMachine.iC, W_NoMachine.tI, o_NoMachine, gl_NoMachine X G c, kp_NoMachine, fun F G a vs ds zs es _ _ r1 _ => ⟨vs, rfl, r1⟩⟩
  have D_NoMachine_field : EK1 P w K mg base "NoMachine" (CE K 3) ["field"] := ⟨_, _, _, _, _, _, _, _, _, _, (xb_of PySem.F.excBase_ValueError PySem.F.store_ValueError), W_NoMachine.O, W_NoMachine.iC, W_NoMachine.tI, o_NoMachine, gl_NoMachine X G c, kk_NoMachine, fun F G a vs ds zs es h1 _ r1 r2 => ⟨vs ++ zs.reverse, rfl, by have e := List.length_eq_zero_iff.mp h1; subst e; exact r2.reverse⟩⟩
  have D_NoRange : Eb0 K mg "NoRange" (CE K 4) := ⟨⟨⟨_, _, _, _, PySem.F.excBase_ArithmeticError, g6⟩, gl_NoRange X G c, g7, g8, g9⟩⟩
  have o_Nought := ok_Nought_init (P := P) (w := w) (base := base) f_Nought W_Nought (fr_ZeroDivisionError X G c)
  have D_Nought : EP1 P w K mg base "Nought" (CE K 5) ["top"] := ⟨_, _, _, _, _, _, _, _, _, _, (xb_of PySem.F.excBase_ZeroDivisionError PySem.F.store_ZeroDivisionError), W_Nought.O, W_Nought.iC, W_Nought.tI, o_Nought, gl_Nought X G c, kp_Nought, fun F G a vs ds zs es _ _ r1 _ => ⟨vs, rfl, r1⟩⟩
  have D_Nought_top : EK1 P w K mg base "Nought" (CE K 5) ["top"] := ⟨_, _, _, _, _, _, _, _, _, _, (xb_of PySem.F.excBase_ZeroDivisionError PySem.F.store_ZeroDivisionError), W_Nought.O, W_Nought.iC, W_Nought.tI, o_Nought, gl_Nought X G c, kk_Nought, fun F G a vs ds zs es h1 _ r1 r2 => ⟨vs ++ zs.reverse, rfl, by have e := List.length_eq_zero_iff.mp h1; subst e; exact r2.reverse⟩⟩
  have o_NoKind := ok_NoKind_init (P := P) (w := w) (base := base) f_NoKind W_NoKind (fr_TypeError X G c)
  have D_NoKind : EP1 P w K mg base "NoKind" (CE K 6) ["field"] := ⟨_, _, _, _, _, _, _, _, _, _, (xb_of PySem.F.excBase_TypeError PySem.F.store_TypeError), W_NoKind.O, W_NoKind.iC, W_NoKind.tI, o_NoKind, gl_NoKind X G c, kp_NoKind, fun F G a vs ds zs es _ _ r1 _ => ⟨vs, rfl, r1⟩⟩
  have D_NoKind_field : EK1 P w K mg base "NoKind" (CE K 6) ["field"] := ⟨_, _, _, _, _, _, _, _, _, _, (xb_of PySem.F.excBase_TypeError PySem.F.store_TypeError), W_NoKind.O, W_NoKind.iC, W_NoKind.tI, o_NoKind, gl_NoKind X G c, kk_NoKind, fun F G a vs ds zs es h1 _ r1 r2 => ⟨vs ++ zs.reverse, rfl, by have e := List.length_eq_zero_iff.mp h1; subst e; exact r2.reverse⟩⟩
  have o_NoThing := ok_NoThing_init (P := P) (w := w) (base := base) f_NoThing W_NoThing (fr_LookupError X G c)
  have D_NoThing : EP1 P w K mg base "NoThing" (CE K 7) ["thing"] := ⟨_, _, _, _, _, _, _, _, _, _, (xb_of PySem.F.excBase_LookupError PySem.F.store_LookupError), W_NoThing.O, W_NoThing.iC, W_NoThing.tI, o_NoThing, gl_NoThing X G c, kp_NoThing, fun F G a vs ds zs es _ _ r1 _ => ⟨vs, rfl, r1⟩⟩
  have D_NoThing_thing : EK1 P w K mg base "NoThing" (CE K 7) ["thing"] := ⟨_, _, _, _, _, _, _, _, _, _, (xb_of PySem.F.excBase_LookupError PySem.F.store_LookupError), W_NoThing.O, W_NoThing.iC, W_NoThing.tI, o_NoThing, gl_NoThing X G c, kk_NoThing, fun F G a vs ds zs es h1 _ r1 r2 => ⟨vs ++ zs.reverse, rfl, by have e := List.length_eq_zero_iff.mp h1; subst e; exact r2.reverse⟩⟩
  have o_NoRow := ok_NoRow_init (P := P) (w := w) (base := base) f_NoRow W_NoRow (fr_LookupError X G c)
  have D_NoRow : EP1 P w K mg base "NoRow" (CE K 8) ["at"] := ⟨_, _, _, _, _, _, _, _, _, _, (xb_of PySem.F.excBase_LookupError PySem.F.store_LookupError), W_NoRow.O, W_NoRow.iC, W_NoRow.tI, o_NoRow, gl_NoRow X G c, kp_NoRow, fun F G a vs ds zs es _ _ r1 _ => ⟨vs, rfl, r1⟩⟩
  have D_NoRow_at : EK1 P w K mg base "NoRow" (CE K 8) ["at"] := ⟨_, _, _, _, _, _, _, _, _, _, (xb_of PySem.F.excBase_LookupError PySem.F.store_LookupError), W_NoRow.O, W_NoRow.iC, W_NoRow.tI, o_NoRow, gl_NoRow X G c, kk_NoRow, fun F G a vs ds zs es h1 _ r1 r2 => ⟨vs ++ zs.reverse, rfl, by have e := List.length_eq_zero_iff.mp h1; subst e; exact r2.reverse⟩⟩
  have o_NoName := ok_NoName_init (P := P) (w := w) (base := base) f_NoName W_NoName (fr_KeyError X G c)
  have D_NoName : EP1 P w K mg base "NoName" (CE K 9) ["name"] := ⟨_, _, _, _, _, _, _, _, _, _, xb_key, W_NoName.O, W_NoName.iC, W_NoName.tI, o_NoName, gl_NoName X G c, kp_NoName, fun F G a vs ds zs es _ _ r1 _ => ⟨vs, rfl, r1⟩⟩
  have D_NoName_name : EK1 P w K mg base "NoName" (CE K 9) ["name"] := ⟨_, _, _, _, _, _, _, _, _, _, xb_key, W_NoName.O, W_NoName.iC, W_NoName.tI, o_NoName, gl_NoName X G c, kk_NoName, fun F G a vs ds zs es h1 _ r1 r2 => ⟨vs ++ zs.reverse, rfl, by have e := List.length_eq_zero_iff.mp h1; subst e; exact r2.reverse⟩⟩
  have o_Taken := ok_Taken_init (P := P) (w := w) (base := base) f_Taken W_Taken (fr_KeyError X G c)
  have D_Taken : EP1 P w K mg base "Taken" (CE K 10) ["name"] := ⟨_, _, _, _, _, _, _, _, _, _, xb_key, W_Taken.O, W_Taken.iC, W_Taken.tI, o_Taken, gl_Taken X G c, kp_Taken, fun F G a vs ds zs es _ _ r1 _ => ⟨vs, rfl, r1⟩⟩
  have D_Taken_name : EK1 P w K mg base "Taken" (CE K 10) ["name"] := ⟨_, _, _, _, _, _, _, _, _, _, xb_key, W_Taken.O, W_Taken.iC, W_Taken.tI, o_Taken, gl_Taken X G c, kk_Taken, fun F G a vs ds zs es h1 _ r1 r2 => ⟨vs ++ zs.reverse, rfl, by have e := List.length_eq_zero_iff.mp h1; subst e; exact r2.reverse⟩⟩
  have o_TooFar := ok_TooFar_init (P := P) (w := w) (base := base) f_TooFar W_TooFar (fr_IndexError X G c)
  have D_TooFar : EP1 P w K mg base "TooFar" (CE K 11) ["many"] := ⟨_, _, _, _, _, _, _, _, _, _, (xb_of PySem.F.excBase_IndexError PySem.F.store_IndexError), W_TooFar.O, W_TooFar.iC, W_TooFar.tI, o_TooFar, gl_TooFar X G c, kp_TooFar, fun F G a vs ds zs es _ _ r1 _ => ⟨vs, rfl, r1⟩⟩
  have D_TooFar_many : EK1 P w K mg base "TooFar" (CE K 11) ["many"] := ⟨_, _, _, _, _, _, _, _, _, _, (xb_of PySem.F.excBase_IndexError PySem.F.store_IndexError), W_TooFar.O, W_TooFar.iC, W_TooFar.tI, o_TooFar, gl_TooFar X G c, kk_TooFar, fun F G a vs ds zs es h1 _ r1 r2 => ⟨vs ++ zs.reverse, rfl, by have e := List.length_eq_zero_iff.mp h1; subst e; exact r2.reverse⟩⟩
  have D_Endless : Eb0 K mg "Endless" (CE K 12) := ⟨⟨⟨_, _, _, _, PySem.F.excBase_OverflowError, g18⟩, gl_Endless X G c, g19, g20, g21⟩⟩
  have o_Unclear := ok_Unclear_init (P := P) (w := w) (base := base) f_Unclear W_Unclear (fr_RuntimeError X G c)
  have D_Unclear : EP1 P w K mg base "Unclear" (CE K 13) ["text"] := ⟨_, _, _, _, _, _, _, _, _, _, (xb_of PySem.F.excBase_RuntimeError PySem.F.store_RuntimeError), W_Unclear.O, W_Unclear.iC, W_Unclear.tI, o_Unclear, gl_Unclear X G c, kp_Unclear, fun F G a vs ds zs es _ _ r1 _ => ⟨vs, rfl, r1⟩⟩
  have D_Unclear_text : EK1 P w K mg base "Unclear" (CE K 13) ["text"] := ⟨_, _, _, _, _, _, _, _, _, _, (xb_of PySem.F.excBase_RuntimeError PySem.F.store_RuntimeError), W_Unclear.O, W_Unclear.iC, W_Unclear.tI, o_Unclear, gl_Unclear X G c, kk_Unclear, fun F G a vs ds zs es h1 _ r1 r2 => ⟨vs ++ zs.reverse, rfl, by have e := List.length_eq_zero_iff.mp h1; subst e; exact r2.reverse⟩⟩
  have o_Needed := ok_Needed_init (P := P) (w := w) (base := base) f_Needed W_Needed (fr_RuntimeError X G c)
  have D_Needed : EP1 P w K mg base "Needed" (CE K 14) ["name", "by"] := ⟨_, _, _, _, _, _, _, _, _, _, (xb_of PySem.F.excBase_RuntimeError PySem.F.store_RuntimeError), W_Needed.O, W_Needed.iC, W_Needed.tI, o_Needed, gl_Needed X G c, kp_Needed, fun F G a vs ds zs es _ _ r1 _ => ⟨vs, rfl, r1⟩⟩
  have D_Needed_by_name : EK1 P w K mg base "Needed" (CE K 14) ["name", "by"] := ⟨_, _, _, _, _, _, _, _, _, _, (xb_of PySem.F.excBase_RuntimeError PySem.F.store_RuntimeError), W_Needed.O, W_Needed.iC, W_Needed.tI, o_Needed, gl_Needed X G c, kk_Needed, fun F G a vs ds zs es h1 _ r1 r2 => ⟨vs ++ zs.reverse, rfl, by have e := List.length_eq_zero_iff.mp h1; subst e; exact r2.reverse⟩⟩
  have o_Ring := ok_Ring_init (P := P) (w := w) (base := base) f_Ring W_Ring (fr_RuntimeError X G c)
  have D_Ring : EP1 P w K mg base "Ring" (CE K 15) ["ring"] := ⟨_, _, _, _, _, _, _, _, _, _, (xb_of PySem.F.excBase_RuntimeError PySem.F.store_RuntimeError), W_Ring.O, W_Ring.iC, W_Ring.tI, o_Ring, gl_Ring X G c, kp_Ring, fun F G a vs ds zs es _ _ r1 _ => ⟨vs, rfl, r1⟩⟩
  have D_Ring_ring : EK1 P w K mg base "Ring" (CE K 15) ["ring"] := ⟨_, _, _, _, _, _, _, _, _, _, (xb_of PySem.F.excBase_RuntimeError PySem.F.store_RuntimeError), W_Ring.O, W_Ring.iC, W_Ring.tI, o_Ring, gl_Ring X G c, kk_Ring, fun F G a vs ds zs es h1 _ r1 r2 => ⟨vs ++ zs.reverse, rfl, by have e := List.length_eq_zero_iff.mp h1; subst e; exact r2.reverse⟩⟩
  have o_Unkept := ok_Unkept_init (P := P) (w := w) (base := base) f_Unkept W_Unkept (fr_RuntimeError X G c)
  have D_Unkept : EP1 P w K mg base "Unkept" (CE K 16) ["name", "other", "text", "one", "two"] := ⟨_, _, _, _, _, _, _, _, _, _, (xb_of PySem.F.excBase_RuntimeError PySem.F.store_RuntimeError), W_Unkept.O, W_Unkept.iC, W_Unkept.tI, o_Unkept, gl_Unkept X G c, kp_Unkept, fun F G a vs ds zs es _ _ r1 _ => ⟨vs, rfl, r1⟩⟩
  have D_Unkept_two_one_text_other_name : EK1 P w K mg base "Unkept" (CE K 16) ["name", "other", "text", "one", "two"] := ⟨_, _, _, _, _, _, _, _, _, _, (xb_of PySem.F.excBase_RuntimeError PySem.F.store_RuntimeError), W_Unkept.O, W_Unkept.iC, W_Unkept.tI, o_Unkept, gl_Unkept X G c, kk_Unkept, fun F G a vs ds zs es h1 _ r1 r2 => ⟨vs ++ zs.reverse, rfl, by have e := List.length_eq_zero_iff.mp h1; subst e; exact r2.reverse⟩⟩
  have o_NoDeed := ok_NoDeed_init (P := P) (w := w) (base := base) f_NoDeed W_NoDeed (fr_NotImplementedError X G c)
  have D_NoDeed : EP1 P w K mg base "NoDeed" (CE K 17) ["at"] := ⟨_, _, _, _, _, _, _, _, _, _, (xb_of PySem.F.excBase_NotImplementedError PySem.F.store_NotImplementedError), W_NoDeed.O, W_NoDeed.iC, W_NoDeed.tI, o_NoDeed, gl_NoDeed X G c, kp_NoDeed, fun F G a vs ds zs es _ _ r1 _ => ⟨vs, rfl, r1⟩⟩
  have D_NoDeed_at : EK1 P w K mg base "NoDeed" (CE K 17) ["at"] := ⟨_, _, _, _, _, _, _, _, _, _, (xb_of PySem.F.excBase_NotImplementedError PySem.F.store_NotImplementedError), W_NoDeed.O, W_NoDeed.iC, W_NoDeed.tI, o_NoDeed, gl_NoDeed X G c, kk_NoDeed, fun F G a vs ds zs es h1 _ r1 r2 => ⟨vs ++ zs.reverse, rfl, by have e := List.length_eq_zero_iff.mp h1; subst e; exact r2.reverse⟩⟩
  have o_NoAsk := ok_NoAsk_init (P := P) (w := w) (base := base) f_NoAsk W_NoAsk (fr_Exception X G c)
  have D_NoAsk : EP1 P w K mg base "NoAsk" (CE K 18) ["row"] := ⟨_, _, _, _, _, _, _, _, _, _, (xb_of PySem.F.excBase_Exception PySem.F.store_Exception), W_NoAsk.O, W_NoAsk.iC, W_NoAsk.tI, o_NoAsk, gl_NoAsk X G c, kp_NoAsk, fun F G a vs ds zs es _ _ r1 _ => ⟨vs, rfl, r1⟩⟩
  have D_NoAsk_row : EK1 P w K mg base "NoAsk" (CE K 18) ["row"] := ⟨_, _, _, _, _, _, _, _, _, _, (xb_of PySem.F.excBase_Exception PySem.F.store_Exception), W_NoAsk.O, W_NoAsk.iC, W_NoAsk.tI, o_NoAsk, gl_NoAsk X G c, kk_NoAsk, fun F G a vs ds zs es h1 _ r1 r2 => ⟨vs ++ zs.reverse, rfl, by have e := List.length_eq_zero_iff.mp h1; subst e; exact r2.reverse⟩⟩
  have KX : KitX K (CE K) := ⟨fun i hi => match i, hi with | 0, _ => W_NoDigits.k | 1, _ => W_NoWord.k | 2, _ => W_NoText.k | 3, _ => W_NoMachine.k | 4, _ => (excKB_ok g10) | 5, _ => W_Nought.k | 6, _ => W_NoKind.k | 7, _ => W_NoThing.k | 8, _ => W_NoRow.k | 9, _ => W_NoName.k | 10, _ => W_Taken.k | 11, _ => W_TooFar.k | 12, _ => (excKB_ok g22) | 13, _ => W_Unclear.k | 14, _ => W_Needed.k | 15, _ => W_Ring.k | 16, _ => W_Unkept.k | 17, _ => W_NoDeed.k | 18, _ => W_NoAsk.k | n + 19, h => absurd h (by omega), kitOB_ok g0, kitBB_ok g1, fun i hi => match i, hi with | 0, _ => W_NoDigits.no | 1, _ => W_NoWord.no | 2, _ => W_NoText.no | 3, _ => W_NoMachine.no | 4, _ => (fun f hf => absurd hf (by simp [FX, XF])) | 5, _ => W_Nought.no | 6, _ => W_NoKind.no | 7, _ => W_NoThing.no | 8, _ => W_NoRow.no | 9, _ => W_NoName.no | 10, _ => W_Taken.no | 11, _ => W_TooFar.no | 12, _ => (fun f hf => absurd hf (by simp [FX, XF])) | 13, _ => W_Unclear.no | 14, _ => W_Needed.no | 15, _ => W_Ring.no | 16, _ => W_Unkept.no | 17, _ => W_NoDeed.no | 18, _ => W_NoAsk.no | n + 19, h => absurd h (by omega)⟩
  have D__law_first := fb_all (g := false) (x := "_law_first") (ok__law_first (P := P) (w := w) (base := base) (CE := CE K) f__law_first D_NoDigits D_NoWord D_NoText D_NoMachine D_NoRange D_Nought D_NoKind D_NoThing D_NoRow D_NoName) (gl__law_first X G c) f__law_first.kp b__law_first
  have D__law_second := fb_all (g := false) (x := "_law_second") (ok__law_second (P := P) (w := w) (base := base) (CE := CE K) f__law_second D_Taken D_TooFar D_Endless D_Unclear D_Needed D_Ring D_Unkept D_NoDeed D_NoAsk) (gl__law_second X G c) f__law_second.kp b__law_second
  have D__law_named := fb_all (g := false) (x := "_law_named") (ok__law_named (P := P) (w := w) (base := base) (CE := CE K) f__law_named D_NoDigits_at D_NoWord_field D_NoText_at D_NoMachine_field D_Nought_top D_NoKind_field D_NoThing_thing D_NoRow_at D_NoName_name D_Taken_name D_TooFar_many D_Unclear_text D_Needed_by_name D_Ring_ring D_Unkept_two_one_text_other_name D_NoDeed_at D_NoAsk_row) (gl__law_named X G c) f__law_named.kp b__law_named
  have D__law_fields := fb_all (g := false) (x := "_law_fields") (ok__law_fields (P := P) (w := w) (base := base) (CE := CE K) f__law_fields KX) (gl__law_fields X G c) f__law_fields.kp b__law_fields
  have D__law_classes := fb_all (g := false) (x := "_law_classes") (ok__law_classes (P := P) (w := w) (base := base) (CE := CE K) f__law_classes KX (fr_isinstance X G c) (gl_NoDigits X G c) (gl_NoWord X G c) (gl_NoText X G c) (gl_NoMachine X G c) (gl_NoRange X G c) (gl_Nought X G c) (gl_NoKind X G c) (gl_NoThing X G c) (gl_NoRow X G c) (gl_NoName X G c) (gl_Taken X G c) (gl_TooFar X G c) (gl_Endless X G c) (gl_Unclear X G c) (gl_Needed X G c) (gl_Ring X G c) (gl_Unkept X G c) (gl_NoDeed X G c) (gl_NoAsk X G c)) (gl__law_classes X G c) f__law_classes.kp b__law_classes
  have D__law_bases := fb_all (g := false) (x := "_law_bases") (ok__law_bases (P := P) (w := w) (base := base) (CE := CE K) f__law_bases KX (fr_isinstance X G c) (fr_ValueError X G c) (fr_ArithmeticError X G c) (fr_ZeroDivisionError X G c) (fr_TypeError X G c) (fr_LookupError X G c) (fr_KeyError X G c) (fr_IndexError X G c) (fr_OverflowError X G c) (fr_RuntimeError X G c) (fr_NotImplementedError X G c)) (gl__law_bases X G c) f__law_bases.kp b__law_bases
  have D__law_due_bases := fb_all (g := false) (x := "_law_due_bases") (ok__law_due_bases (P := P) (w := w) (base := base) f__law_due_bases (fr_range X G c)) (gl__law_due_bases X G c) f__law_due_bases.kp b__law_due_bases
  have D__law_feed : Dn P w K mg base CX0 1 "_law_feed" ["_law_script"] [] (spFeed K) := ⟨_, _, _, ok_feed f__law_feed, gl__law_feed X G c, f__law_feed.kp, b__law_feed, .nil⟩
  exact ok_law f_law sysb D__law_feed D__law_draw D__law_first D__law_second D__law_named D__law_fields D__law_classes D__law_bases D__law_due_bases (fr_range X G c) (fr_repr X G c)
end Hd

open PySem PySem.W PySem.Calls PyProof.Rows
set_option maxRecDepth 100000 in
set_option maxHeartbeats 8000000 in
theorem PySem.Challenge.cw_formatwords_k28_refusals_and_their_field_holds : PySem.Challenge.rw_formatwords_k28_refusals_and_their_field.Holds := by
  w_on; o_law
  refine HandSHeadRun.head_any (r := Hd.R) (q := view Hd.R.prog [Hd.lawAt]) (H := Hd.hk) (ob := Hd.ob) (M := 9000) (loose := Hd.loose) (d := HandSHeadRun.topDef Hd.R.prog Hd.lawAt) (kwd := []) Hd.ob_eq
    (by kernel_rfl) (fun s => by kernel_rfl) Hd.run (by kernel_rfl) (by kernel_rfl) (by kernel_rfl) (by rfl) (by first | assumption | decide +kernel) (by decide +kernel)
    ⟨rfl, rfl, rfl, rfl, rfl, by decide +kernel⟩ ?hw ?hc
  case hw => w_witness2
  case hc =>
    refine Fw.walk_g (l := PySem.Challenge.rw_formatwords_k28_refusals_and_their_field) (n := 63) (k := 13) (x := "_law_script") rfl (by decide) (by kernel_rfl) ⟨rfl, by decide, by decide⟩ ?F
    intro w mg fa h Y G hmg0
    obtain ⟨⟨K, KX, c⟩, hsy⟩ := Y
    have hmg : mg ("law" : PySem.Str) = some (.ref fa) := by
      have e : (HandSHeadRun.topDef Hd.R.prog Hd.lawAt).name = ("law" : PySem.Str) := by kernel_rfl
      rw [← e]; exact hmg0
    obtain ⟨fd, hb, hF⟩ := Hd.facts (P := (PySem.Challenge.rw_formatwords_k28_refusals_and_their_field).prog) (w := w) KX G hmg c.t.d c.more
    exact ⟨K, fd, Lw.spLaw K, KX, hb, fun H a ns hl _ hS => ⟨a, ns, rfl, fun p hp => absurd hp (by unfold Fw.Tb; exact List.not_mem_nil), hS, hl, fun _ => rfl⟩, fun base k1 k2 k3 => hF base k1 k2 (k3 (Fw.sysIn_of hsy))⟩
