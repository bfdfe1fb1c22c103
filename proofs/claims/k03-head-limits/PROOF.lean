import PyProof.Rows.All
import Wide.All
import OpenK.AllK
import Wide.FinOn
import HandS.ForMost
import HandS.Wide
import HandS.IsInst
import HandS.EndBits
import HandS.Codes
import PyProof.LongRange
import KE.KExcSuper
import HandS.ForExc
import HandS.ExcInit
import HandS.ExcField
import HandS.HeadWalk
import HandS.TryMany
import HandS.ExcIs
import HandS.HotCalls
import HandS.Style
import HandS.Lambda
import HandS.EndTab
import HandS.Nested
import HandS.ClsMeth
import KE.KSuper
import HandS.SetBool
import KE.KDictCopyH
import KE.KDictLaw
import HandS.SetFor
import HandS.More
import HandS.Star
import HandS.Deep
import HandS.StrMore
import KE.IntTextLaws
import PySem.Challenge.RW_tagblocks_k03_whole_head_limits_by_ways
set_option Elab.async false
set_option linter.all false
set_option maxRecDepth 100000
set_option maxHeartbeats 3999000
namespace Tb
open PySem PyProof.Rows L2
open PySem.W (Frag)
open C8 (pss_cut tCut)
/-! ### calls by one hypothesis a callee -/
/-- a def under its global name keeps the promise sp -/
structure HasF (P : Program) (w : World) (K : Frag) (mg : Str → Option Value) (base : Heap) (x : Str) (k : Nat) (sp : Sp) : Prop where
  ex : ∃ (f : Addr) (fd : FuncData) (ps : List Str), FnOk P w K mg base CX0 k f fd ps sp ∧ mg x = some (.ref f) ∧ PySem.W.keepIn K (.ref f) = true ∧ Binds K fd ps []
/-- so does the method m of the class that stands at C -/
structure HasM (P : Program) (w : World) (K : Frag) (mg : Str → Option Value) (base : Heap) (C : Addr) (m : Str) (k : Nat) (sp : Sp) : Prop where
  ex : ∃ (f : Addr) (fd : FuncData) (ps : List Str), FnOk P w K mg base CX0 k f fd ps sp ∧ Meth K C m f ∧ Cls K C ∧ Binds K fd ps []
/-- a class under its global name, made by its __init__ -/
structure HasC (P : Program) (w : World) (K : Frag) (mg : Str → Option Value) (base : Heap) (x : Str) (C : Addr) (k : Nat) (sp : Sp) : Prop where
  ex : ∃ (f : Addr) (fd : FuncData) (ps : List Str), FnOk P w K mg base CX0 k f fd ps sp ∧ Mk K C f ∧ mg x = some (.ref C) ∧ Binds K fd ps []
def tFn (sp : Sp) (t : TA) : TE := fun σ H Q => t σ H fun vs H1 => sp vs H1 Q E0
def tMth (C : Addr) (m : Str) (sp : Sp) (ta : TE) (t : TA) : TE := fun σ H Q => ta σ H fun x H1 => ∃ a dx fs, x = .ref a ∧ H1 a = some (.ins C dx fs) ∧ fs.lookup m = none ∧
  t σ H1 fun vs H2 => sp (x :: vs) H2 Q E0
def tMk (C : Addr) (sp : Sp) (t : TA) : TE := fun σ H Q => t σ H fun vs H1 => ∀ x dx, H1 x = none → H1 dx = none → dx ≠ x →
  sp (.ref x :: vs) (upd (upd H1 dx (.own x)) x (.ins C dx [])) (fun v H2 => v = .non ∧ Q (.ref x) H2) E0
section
variable {X : Cx} {k : Nat} {C : Addr} {sp : Sp} {x m : Str} {q1 q2 q3 : Pos} {a1 o1 : Expr} {r1 : List Expr} {ta : TE} {t : TA}
theorem pe_fn (h : HasF X.prog X.w X.K X.mg X.base x k sp) (hr : Room k X.A) (hg : Gl X x) (ha : PA X (a1 :: r1) t) (z1 : (x == ("__debug__" : Str)) = false := by decide)
    (z2 : starEach (a1 :: r1) X.env = (false, eval a1 X.env) :: starEach r1 X.env := by rfl) (z3 : (backTo q2 (starEach r1 X.env)).any (·.1) = false := by rfl) : PE X (.Call (.Name x q1) (a1 :: r1) [] q2) (tFn sp t) := by
  obtain ⟨f, fd, ps, F, hm, hk, hb⟩ := h.ex
  have r := pe_call (p := q1) (pos := q2) F hr hg hm hk hb .nil pass0 ha z1 z2 z3
  exact ⟨fun pn s σ H Q I q => r.run pn s σ H Q I (by simp only [tCall, List.append_nil]; exact q)⟩
theorem pe_mth {pl : Sem Bool} (he : PE X o1 ta) (h : HasM X.prog X.w X.K X.mg X.base C m k sp) (hr : Room k X.A) (ha : PA X (a1 :: r1) t)
    (z2 : starEach (a1 :: r1) X.env = (false, eval a1 X.env) :: starEach r1 X.env := by rfl) (z3 : (backTo q2 (starEach r1 X.env)).any (·.1) = false := by rfl)
    (z4 : eval (.Call (.Attribute o1 m q3) (a1 :: r1) [] q2) X.env = (do let ov ← eval o1 X.env; standAt q3.atName; let (f, first) ← holding [ov] (getMethod ov m pl); callWith q2 f first (backTo q2 (starEach (a1 :: r1) X.env)) (backToKw q2 (keywordEach [] X.env))) := by rfl) :
    PE X (.Call (.Attribute o1 m q3) (a1 :: r1) [] q2) (tMth C m sp ta t) := by
  obtain ⟨f, fd, ps, F, hm, hc, hb⟩ := h.ex
  have r := pe_meth (pos := q2) (apos := q3) he hc hm F hr hb .nil pass0 ha z2 z3 z4
  exact ⟨fun pn s σ H Q I q => r.run pn s σ H Q I (by simp only [tMeth, List.append_nil]; exact q)⟩
theorem pe_mth0 {pl : Sem Bool} (he : PE X o1 ta) (h : HasM X.prog X.w X.K X.mg X.base C m k sp) (hr : Room k X.A)
    (z4 : eval (.Call (.Attribute o1 m q3) [] [] q2) X.env = (do let ov ← eval o1 X.env; standAt q3.atName; let (f, first) ← holding [ov] (getMethod ov m pl); callWith q2 f first (backTo q2 (starEach [] X.env)) (backToKw q2 (keywordEach [] X.env))) := by rfl) :
    PE X (.Call (.Attribute o1 m q3) [] [] q2) (tMth C m sp ta tNil) := by
  obtain ⟨f, fd, ps, F, hm, hc, hb⟩ := h.ex
  have r := pe_meth0 (pos := q2) (apos := q3) he hc hm F hr hb .nil pass0 z4
  exact ⟨fun pn s σ H Q I q => r.run pn s σ H Q I (by simp only [tMeth, List.append_nil]; exact q)⟩
theorem pe_mk (h : HasC X.prog X.w X.K X.mg X.base x C k sp) (hr : Room (k + 1) X.A) (hg : Gl X x) (ha : PA X (a1 :: r1) t) (z1 : (x == ("__debug__" : Str)) = false := by decide)
    (z2 : starEach (a1 :: r1) X.env = (false, eval a1 X.env) :: starEach r1 X.env := by rfl) (z3 : (backTo q2 (starEach r1 X.env)).any (·.1) = false := by rfl) : PE X (.Call (.Name x q1) (a1 :: r1) [] q2) (tMk C sp t) := by
  obtain ⟨f, fd, ps, F, hM, hm, hb⟩ := h.ex
  have r := pe_make (p := q1) (pos := q2) hM F hr hg hm hb .nil pass0 ha z1 z2 z3
  exact ⟨fun pn s σ H Q I q => r.run pn s σ H Q I (by simp only [tMake, List.append_nil]; exact q)⟩
/-! ### x *= e of great ints -/
def ipIC (C : Int → Int → Prop) (f : Int → Int → Int) : TIp := fun x y H Q => ∃ i j, x = .int i ∧ y = .int j ∧ C i j ∧ Q (.int (f i j)) H
theorem ip_mulW : PIp X .Mult (ipIC CMulW fun i j => i * j) := by
  rintro pn s σ H x y v u Q I rx ry ⟨i, j, rfl, rfl, hc, q⟩
  obtain ⟨tx, rfl⟩ := rx
  obtain ⟨ty, rfl⟩ := ry
  exact imul_int (show EP X pn σ Q (.int (i * j) s.toks) { s with toks := s.toks + 1 } from ⟨.int (i * j), H, I.tok _, ⟨_, rfl⟩, q⟩) hc.ok
end
/-! ### for over range(a, b), a and b of any size -/
/-- an iterator that counts up from lo, n times, by what its two steps do to its one object -/
theorem turn_by {P : Program} {w : World} {K : Frag} {tg : Expr} {me : Addr} {lo : Int} {n : Nat} {cl : String} {at_ : Nat → Heap → Prop}
    (nocl : ["enumerate", "zip", "dict_itemiterator", "dict_reverseitemiterator", "odict_iterator", "itertools.zip_longest", "itertools.pairwise"].contains cl = false)
    (ob : ∀ j h, at_ j h → ∃ (o : Obj) (vs : Array Value), h.get? me = some o ∧ o.cls = .type cl ∧ o.data = .fields vs)
    (fr : ∀ j h h', at_ j h → (∀ o, h.get? me = some o → h'.get? me = some o) → at_ j h')
    (nx : ∀ (A : Around) (j : Nat) (s : Shared) (Q : Option Value → Shared → Prop) (E : Value → Shared → Prop), A.handled = none → j < n → at_ j s.heap →
      (∀ tk h' n', at_ (j + 1) h' → (∀ b o, b ≠ me → s.heap.get? b = some o → h'.get? b = some o) → Q (some (.int (lo + j) tk)) { s with heap := h', toks := n' }) → wpAny (model P w) A (pyNext (.ref me)) Q E s)
    (en : ∀ (A : Around) (j : Nat) (s : Shared) (Q : Option Value → Shared → Prop) (E : Value → Shared → Prop), A.handled = none → n ≤ j → at_ j s.heap →
      (∀ h', (∀ b o, b ≠ me → s.heap.get? b = some o → h'.get? b = some o) → Q none { s with heap := h' }) → wpAny (model P w) A (pyNext (.ref me)) Q E s)
    (sf : ∀ (A : Around) (j : Nat) (s : Shared) (Q : Value → Shared → Prop) (E : Value → Shared → Prop), at_ j s.heap → Q (.ref me) s → wpAny (model P w) A (pyIter (.ref me)) Q E s) :
    Turn P w K tg (Itr lo n) [me] me at_ := by
  have one : ∀ {b : Addr}, b ∈ [me] → b = me := fun h => List.mem_singleton.mp h
  refine ⟨List.mem_singleton.mpr rfl, fun j h a b hb => ?_, fun j h h' a k => fr j h h' a (k me (List.mem_singleton.mpr rfl)), ?_, ?_, fun A j s Q E a q => sf A j s Q E a q⟩
  · obtain ⟨o, vs, e, _, d⟩ := ob j h a
    rw [one hb]
    exact ⟨o, e, fun v z => by rw [d] at z; exact Data.noConfusion z⟩
  · rintro c rfl rfl rfl calm j pn s σ H E I hf a hj
    obtain ⟨k0, k1, _, k3, k4, k5⟩ := hf me (List.mem_singleton.mpr rfl)
    refine nx c.A j s _ E (I.ok.hd calm) hj a fun tk h' n' a' kept => ?_
    have J := I.turned (it := me) (h' := h') (t' := n') (fun b o ne q => kept b o ne q) k0 k1 k3 k4 k5
    obtain ⟨o, vs, e, ec, ed⟩ := ob _ _ a'
    refine ⟨_, rfl, go_of (s := { s with heap := h', toks := n' }) e ec ed nocl ⟨.int (lo + j), H, J, ⟨tk, rfl⟩, ⟨rfl, rfl⟩, a', fun b hb => (hf b hb).1⟩⟩
  · rintro c rfl rfl rfl calm j pn s σ H E I hf a hj
    obtain ⟨k0, k1, _, k3, k4, k5⟩ := hf me (List.mem_singleton.mpr rfl)
    exact en c.A j s _ E (I.ok.hd calm) hj a fun h' kept => ⟨rfl, I.turned (it := me) (t' := s.toks) (fun b o ne q => kept b o ne q) k0 k1 k3 k4 k5⟩
theorem turn_long {P : Program} {w : World} {K : Frag} {tg : Expr} (me : Addr) (lo : Int) (n : Nat) : Turn P w K tg (Itr lo n) [me] me (fun j h => PySem.IsLongIter h me (lo + (j : Nat) * 1) ((n : Int) - (j : Nat)) 1) := by
  refine turn_by (cl := "longrange_iterator") (by decide) (fun j h a => ⟨_, _, a, rfl, rfl⟩) (fun j h h' a k => k _ a) (fun A j s Q E hd hj a q => ?_) (fun A j s Q E hd hj a q => ?_) (fun A j s Q E a q => PySem.wpAny_pyIter_longiter a q)
  · refine (Walks.longrange (prog := P) (w := w) hd me lo 1 n).item j s Q E hj a fun v h' n' ⟨tk, ev⟩ a' kept => ?_
    rw [ev, Int.mul_one]
    exact q tk h' n' a' fun b o ne e => kept b o (fun z => ne (List.mem_singleton.mp z)) e
  · exact PySem.wpAny_pyNext_long_end hd a (by omega) fun h' eb => q h' fun b o ne e => eb b o ne e
section
variable {X : Cx} {tg : Expr}
/-- the range object of two ints -/
abbrev rgO (lo hi : Int) (t u v : Tok) : Obj := { cls := .type "range", data := .fields #[.int lo t, .int hi u, .int 1 v] }
theorem range_itW {pn : List (Addr × Obj)} {σ : L2.St} {H : Hp} {s : Shared} {R : It → Hp → Prop} {E : Value → Shared → Prop} {lo hi : Int} {t u v : Tok} {n' : Nat} (I : Inv X pn σ H s) (q : R (Itr lo (hi - lo).toNat) H) :
    wpAny (model X.prog X.w) X.A (pyIter (.ref s.heap.objs.size)) (PIE X pn σ tg R) E { s with heap := s.heap.push (rgO lo hi t u v), toks := n' } := by
  have J : Inv X pn σ H { s with heap := s.heap.push (rgO lo hi t u v), toks := n' } := I.kept fun _ _ e => Heap.get?_push_of_some _ e
  have size : Builtin.Range.rangeSize lo hi 1 = (((hi - lo).toNat : Nat) : Int) - ((0 : Nat) : Int) := by
    rw [rangeSize_one]
    split <;> omega
  have first : lo = lo + ((0 : Nat) : Int) * 1 := by omega
  have fresh : ∀ b ∈ [(s.heap.push (rgO lo hi t u v)).objs.size], FpOk X pn H b := fun b hb => by
    rw [List.mem_singleton.mp hb]
    exact J.fpOk (Nat.le_refl _) (J.hok.fresh (Nat.le_refl _))
  cases hs : Builtin.Range.small lo hi 1 with
  | true =>
    refine wpAny_pyIter_range (IsRange.new ..) hs ⟨_, [_], _, _, H, rfl, J.kept (t' := n') fun _ _ e => Heap.get?_push_of_some _ e, turn_range _ lo (hi - lo).toNat, ?_, fresh, q⟩
    have z : ∀ a c : Int, a = lo → c = Builtin.Range.rangeSize lo hi 1 → IsRangeIter ((s.heap.push (rgO lo hi t u v)).push { cls := .type "range_iterator", data := .fields #[rawInt lo, rawInt (Builtin.Range.rangeSize lo hi 1), rawInt 1] }) (s.heap.push (rgO lo hi t u v)).objs.size a c 1 := by
      rintro _ _ rfl rfl
      exact Heap.get?_push_size (s.heap.push (rgO _ hi t u v)) rfl
    exact z _ _ first.symm size.symm
  | false =>
    refine PySem.wpAny_pyIter_longrange (IsRange.new ..) hs ⟨_, [_], _, _, H, rfl, J.kept (t' := n') fun _ _ e => Heap.get?_push_of_some _ e, turn_long _ lo (hi - lo).toNat, ?_, fresh, q⟩
    have z : ∀ a c : Int, a = lo → c = Builtin.Range.rangeSize lo hi 1 → PySem.IsLongIter ((s.heap.push (rgO lo hi t u v)).push { cls := .type "longrange_iterator", data := .fields #[rawInt lo, rawInt (Builtin.Range.rangeSize lo hi 1), rawInt 1] }) (s.heap.push (rgO lo hi t u v)).objs.size a c 1 := by
      rintro _ _ rfl rfl
      exact Heap.get?_push_size (s.heap.push (rgO _ hi t u v)) rfl
    exact z _ _ first.symm size.symm
def iRngW (ta : TA) : TI := fun σ H R => ta σ H fun vs H1 => ∃ i j : Int, vs = [.int i, .int j] ∧ R (Itr i (j - i).toNat) H1
theorem pi_range2W {a b : Expr} {ta : TA} {q1 q2 : Pos} (hg : Gl X "range") (hm : X.mg "range" = none) (ha : PA X [a, b] ta) (z1 : starEach [a, b] X.env = [(false, eval a X.env), (false, eval b X.env)] := by rfl) (z2 : starEach [b] X.env = [(false, eval b X.env)] := by rfl) :
    PI X tg (.Call (.Name "range" q1) [a, b] [] q2) (iRngW ta) := by
  refine ⟨fun pn s σ H R I h => Call_ (ld_blt I hg hm boot_range (PyProof.Rows.callWith_type1 (thn (ha.run q2 pn s σ H _ I h) ?_) (by rw [z1, z2]) (by rw [z2]; rfl)))⟩
  rintro us s1 ⟨vs, H1, J, rel, i, j, rfl, q⟩
  cases rel with
  | cons ri rest =>
    cases rest with
    | cons rj none =>
      cases none
      obtain ⟨ti, rfl⟩ := ri
      obtain ⟨tj, rfl⟩ := rj
      exact call_range_2 (range_itW J q)
end
/-! ### the end of a law row, its loose names told -/
theorem walk_ofX {l : PySem.W.OpenLaw} {n k : Nat} {q : Program} {ls : List Str} {XP : (Str → Option Value) → Heap → Prop} {YP : World → Heap → Prop} {d : DefRec} {K : Params → Frag} {sp : Frag → Sp} {x : Str} (hn : l.most = some n) (hn2 : n ≤ sizeLine)
    (hdf : d.params.defaults = []) (hr : Room k callerA) (hY : ∀ (w : World) (h : Heap), YP w h → (K w.params).In h)
    (F : ∀ (w : World) (mg : Str → Option Value) (fa : Addr) (h : Heap), (K w.params).In h → h.Ns mainGlobals mg → XP mg h → mg d.name = some (.ref fa) →
      ∃ fd : FuncData, (∀ (s : Shared) (v : Value), BindsTo s fd ⟨[v], []⟩ [(x, v)]) ∧ ∀ base : Heap, (K w.params).In base → base.Ns mainGlobals mg → FnOk l.prog w (K w.params) mg base CX0 k fa fd [x] (sp (K w.params)))
    (hsp : ∀ (K : Frag) (H : Hp) (a : Addr) (ns : List Int), ns.length ≤ n → (∀ z ∈ ns, Builtin.Int.intBits z ≤ 1048576) → SqL K H a (ns.map V.int) → sp K [.ref a] H (fun v _ => v = .bl true) fun _ _ _ => False) :
    PySem.W.WalkO q ls XP YP l.row.toRowW d [] (fun f vs => PySem.call f vs) :=
  Att.attach_callB hn hdf fun w _ _ mg _ _ _ _ _ _ a _ ns G Y _ _ _ hmg hobj hints hlen hbits hg =>
    let ⟨_, hb, hF⟩ := F w mg _ _ (hY w _ Y) G.T.g G.X hmg
    law_call (hY w _ Y) G.T.g G.T.b G.T.builtins G.T.nolimit hg hobj hints (Nat.le_trans hlen hn2) hr hF hb (fun H _ hS => hsp (K w.params) H a ns hlen hbits hS) fun _ _ _ z => z
end Tb

set_option Elab.async false
set_option linter.all false
set_option maxRecDepth 100000
set_option maxHeartbeats 3999000
namespace Tb
open PySem PySem.Calls PyProof.Rows L2
open PySem.W (Frag)
/-! ### an own error: class X(BlockError): def __init__(self, f, ..): super().__init__('..'); self.f = f; .. -/
inductive SetsOf : List Str → List Stmt → Prop
  | nil : SetsOf [] []
  | cons {f : Str} {q1 q2 q3 q4 : Pos} {fs : List Str} {l : List Stmt} : SetsOf fs l → SetsOf (f :: fs) (.Assign [.Attribute (.Name "self" q1) f q2] (.Name f q3) q4 :: l)
/-- the text of such an __init__ -/
structure ExBody (st : Stmt) (fs : List Str) : Prop where
  body : ∃ (q0 q1 q2 q3 q4 q5 : Pos) (kd : Nat) (msg : Str) (l : List Stmt), defBody st = .Expr (.Call (.Attribute (.Call (.Name "super" q0) [] [] q1) "__init__" q2) [.Constant (.str msg) kd q3] [] q4) q5 :: l ∧ SetsOf fs l ∧ (q2.endLine == q4.line) = true
  kind : (defScope st).kind = .function
  co : (defScope st).isCoroutine = false
  gen : (defScope st).isGenerator = false
  ks : (defScope st).names.lookup ("super" : Str) = some .globalImplicit
  kc : (defScope st).names.lookup ("__class__" : Str) = some .free
  kself : (defScope st).names.lookup ("self" : Str) = some .local
  kf : ∀ f ∈ fs, (defScope st).names.lookup f = some .local
  nocell : ∀ y ∈ (defScope st).names, y.2 ≠ .cell
  head : ∃ ar : Arg, ((defArgs st).posonlyargs ++ (defArgs st).args).head? = some ar ∧ ar.arg = "self"
  nd : (("self" : Str) :: fs).Nodup
  nb : ∀ f ∈ fs, (f == ("__debug__" : Str)) = false
/-- what the top has left of the class, at C, and of its __init__, at fI -/
structure ExCls (P : Program) (K : Frag) (C fI : Addr) (qual : Str) (st : Stmt) (fs : List Str) (fd : FuncData) : Prop where
  oex : OexC K C
  iC : PySem.W.findIn K (.ref C) "__init__" = some (some (.ref fI))
  tI : PySem.W.typeIn K (.ref fI) = some (.type "function")
  fn : ∃ (oc : Value) (od : Option Addr) (kV doc pm : Value) (an : Option Addr) (cda : Addr) (ct : Value) (cc : Addr) (osl : Array (Option Value)), fd = PySem.W.ksFn "__init__" qual (defArgs st) (defBody st) (defScope st) .none kV doc pm an (.ref cda) ct cc ∧
    K.lookup fI = some ⟨oc, od, .func fd, osl⟩ ∧ PySem.W.codeIn K (.ref cda) qual = true ∧
    (∃ (cl : Value) (cld : Option Addr) (csl : Array (Option Value)), K.lookup cc = some ⟨cl, cld, .cell (some (.ref C)), csl⟩) ∧
    ∃ (cl : Value) (cld : Option Addr) (vs : Array Value) (csl : Array (Option Value)) (file : Str) (tf : Tok), K.lookup cda = some ⟨cl, cld, .fields vs, csl⟩ ∧ vs[2]? = some (.str file tf) ∧ ((P.main.file : Str) == file) = true
  sup : PySem.W.ks_superIn K C C "__init__" = some (some (.builtin "ValueError.__init__"))
  opq : PySem.W.nsIn K cStatics "thirdparty.any" = some none
  mine : PySem.W.mroIn K C (.ref C) = some true
  isV : PySem.W.subIn K (.ref C) (.type "ValueError") = some true
  no : ∀ f ∈ fs, PySem.W.findIn K (.ref C) f = some none
  top : (P.main.scope.names.lookup ("super" : Str)).isSome = false
  txt : ExBody st fs
section
variable {P : Program} {w : World} {A : Around} {E : Value → Shared → Prop} {R : Result → Shared → Prop} {K : Frag} {C fI : Addr} {qual : Str} {st : Stmt} {fs : List Str} {fd : FuncData}
/-- the built-in __init__, bound, is called -/
theorem bound_init {h : Heap} {g : Array GenState} {d : Drawn} {t : Nat} {os : OsState} {u x t0 : Addr} {rest : List Value} {Q : Value → Shared → Prop} (T : OexC K C) (X : K.In h) (hu : h.get? u = some (PySem.W.kxs_mw "ValueError.__init__" x)) (hx : h.get? x = some (HandSPX.excO C t0)) (hz : rest.length ≤ sizeLine)
    (hq : ∀ h' t1, (∀ b o, b ≠ x → h.get? b = some o → h'.get? b = some o) → h'.get? x = some (HandSPX.excO C t1) → Q .none ⟨h', g, d, t, os⟩) : wpAny (model P w) A (call (.ref u) rest) Q E ⟨h, g, d, t, os⟩ := by
  obtain ⟨nam, q, N, bs, bm, sn, sub, ab, col, dd, k0, k1, k2, k3, k5, hC, hbm⟩ := T.cls
  have FB := F.excBase_ValueError
  refine wpAny_call (codeAny_of_tree (?_ : wpAny _ A.in1 (callAny (.ref u) ⟨rest, []⟩) _ _ _))
  simp only [callAny]; refine wpAny_bind (wpAny_load hu ?_)
  simp only [PySem.W.kxs_mw, show (Value.type "method-wrapper" == Value.type "method" || Value.type "method-wrapper" == Value.type "builtin_function_or_method" || Value.type "method-wrapper" == Value.type "method-wrapper") = true by decide, if_true]
  refine PySem.W.KFB.if_so (by decide) (wpAny_bind (PySem.W.check_bound_init FB.toExcCallFacts (X _ _ hC) hx rfl (wpAny_bind (wpAny_pure (wpAny_pure ?_)))))
  exact ⟨plainId_quiet FB.init.plain _, codeAny_builtin FB.initEntry (PySem.W.exc_init_tree (cls := .ref C) (t0 := t0) (dv := none) (c2 := .none) (c3 := .none) (b4 := .bool false) hx hz fun h' k e _ => hq h' _ k e)⟩
/-- what the fields' dict says: the later one stands first -/
def RelD (ps : List (Str × Value)) (m : Str → Option Value) : Prop := ∀ y, m y = ps.lookup y
theorem look_cons (f y : Str) (v : Value) (ps : List (Str × Value)) : ((f, v) :: ps).lookup y = if y = f then some v else ps.lookup y := by
  rw [List.lookup_cons]
  by_cases h : y = f
  · subst h; simp
  · have e : (y == f) = false := by simpa using h
    rw [e, if_neg h]
theorem within_rel {ps : List (Str × Value)} {m : Str → Option Value} (r : RelD ps m) : Within m (ps.map (·.1)) := fun y hy => by
  rw [r y] at hy
  cases e : ps.lookup y with
  | none => exact absurd e hy
  | some v => exact List.mem_map.mpr ⟨(y, v), PySem.mem_of_lookup e, rfl⟩
/-- the fields behind the first, set one after the other -/
theorem ex_more {env : Env} {loc : Str → Option Value} (T : OexC K C) (hk : env.scope.kind = .function) (hself : env.kindOf "self" = some .local) {x dx t1 : Addr} (hv : loc "self" = some (.ref x)) : ∀ {gs : List Str} {l : List Stmt}, SetsOf gs l → ∀ {us : List Value} {ps : List (Str × Value)} {m0 : Str → Option Value} {s : Shared} {Q : Flow → Shared → Prop},
    us.length = gs.length → (∀ f ∈ gs, env.kindOf f = some .local ∧ (f == ("__debug__" : Str)) = false ∧ PySem.W.findIn K (.ref C) f = some none) → (∀ (j : Nat) f, gs[j]? = some f → loc f = us[j]?) → (ps.length + gs.length ≤ 900) →
    K.In s.heap → s.heap.Ns env.locals loc → s.heap.get? x = some { cls := .ref C, dict := some dx, data := .fields #[.ref t1, .none, .none, .none, .bool false, .none] } → s.heap.Ns1 dx m0 → RelD ps m0 → K.lookup dx = none → dx ≠ env.locals → dx ≠ x →
    (∀ h' tk m1, (∀ b o, b ≠ dx → s.heap.get? b = some o → h'.get? b = some o) → h'.Ns1 dx m1 → RelD ((gs.zip us).reverse ++ ps) m1 → Q .next { s with heap := h', toks := tk }) →
    wpAny (model P w) A (execs l env) Q E s := by
  intro gs l hl
  induction hl with
  | nil =>
    intro us ps m0 s Q hu hg hloc hsz X hn hx hns hr hnd hdl hdx hq
    refine wpAny_execs_nil (hq s.heap s.toks m0 (fun _ _ _ e => e) hns ?_)
    simpa using hr
  | @cons f q1 q2 q3 q4 gs l hl ih =>
    intro us ps m0 s Q hu hg hloc hsz X hn hx hns hr hnd hdl hdx hq
    obtain ⟨u, us, rfl⟩ : ∃ u r, us = u :: r := by
      cases us with
      | nil => simp at hu
      | cons u r => exact ⟨u, r, rfl⟩
    obtain ⟨kf, kd, kn⟩ := hg f List.mem_cons_self
    obtain ⟨nam, q, N, bs, bm, sn, sub, ab, col, dd, k0, k1, k2, k3, k5, hC, hbm⟩ := T.cls
    have hcl : PySem.W.clsIn K C = some { name := nam, bases := bs, mro := .ref C :: bm, ns := N, qualname := q, hasDict := true, slotNames := sn, subclasses := sub, abstract := ab, collection := col, hasDel := false } := by unfold PySem.W.clsIn; rw [hC] <;> rfl
    have lf : loc f = some u := hloc 0 f rfl
    obtain ⟨oD, _, _, hoD, _, _⟩ := hns.count (within_rel hr)
    have sz : (ps.map (·.1)).length ≤ 1000 := by
      rw [List.length_map]
      simp only [List.length_cons] at hsz
      omega
    refine wpAny_execs_cons (plainObj_wpAny_Assign_Attribute (wpAny_Name (wpAny_loadName_local hk kf hn lf (wpAny_Name (wpAny_loadName_local hk hself hn hv ?_) (by decide))) kd))
    obtain ⟨hp, g, d, t, os⟩ := s
    refine PySem.W.set_plain X (ox := { cls := .ref C, dict := some dx, data := .fields #[.ref t1, .none, .none, .none, .bool false, .none] }) (od := some oD) ⟨hx, rfl, rfl, hoD⟩ T.sa ?_
    refine PySem.OEX.osa_old X hx hns (within_rel hr) sz hcl (show HandSPX.refsVE (.ref C :: bm) = true from hbm) rfl kn fun h' tk' k hn' => ?_
    show wpAny (model P w) _ (execs _ _) _ _ _
    have kin : K.In h' := fun a o e => k a o (fun z => by rw [z, hnd] at e; cases e) (X a o e)
    have hn2 : h'.Ns env.locals loc := by
      obtain ⟨o, es, ep, e1, e2⟩ := hn
      exact ⟨o, es, ep, k _ _ hdl.symm e1, e2⟩
    refine ih (us := us) (ps := (f, u) :: ps) (by simpa using hu) (fun f' hf => hg f' (List.mem_cons_of_mem _ hf)) (fun j f' e => hloc (j + 1) f' e) (by simp only [List.length_cons] at hsz ⊢; omega) kin hn2 (k _ _ hdx.symm hx) hn' (fun y => ?_) hnd hdl hdx fun h2 tk2 m1 k2 n2 r2 => ?_
    · rw [look_cons]
      by_cases e : y = f
      · simp [e]
      · simp only [if_neg e]; exact hr y
    · refine hq h2 tk2 m1 (fun b o hb e => k2 b o hb (k b o hb e)) n2 ?_
      rw [List.zip_cons_cons, List.reverse_cons, List.append_assoc]
      exact r2
end
end Tb

set_option Elab.async false
set_option linter.all false
set_option maxRecDepth 100000
set_option maxHeartbeats 3999000
namespace Tb
open PySem PySem.Calls PyProof.Rows L2
open PySem.W (Frag)
theorem look_rev : ∀ {ps : List Str} {us : List Value} {j : Nat} {p : Str}, ps.Nodup → us.length = ps.length → ps[j]? = some p → (ps.zip us).reverse.lookup p = us[j]?
  | [], _, _, _, _, _, h => by simp at h
  | p0 :: ps, [], _, _, _, h, _ => by simp at h
  | p0 :: ps, u0 :: us, 0, p, hn, hl, h => by
    have e : p0 = p := by simpa using h
    subst e
    obtain ⟨g1, g2⟩ := List.nodup_cons.mp hn
    rw [List.zip_cons_cons, List.reverse_cons, List.lookup_append]
    have e1 : (ps.zip us).reverse.lookup p0 = none := by
      cases e : (ps.zip us).reverse.lookup p0 with
      | none => rfl
      | some v =>
        have hm := List.mem_reverse.mp (PySem.mem_of_lookup e)
        exact absurd (List.of_mem_zip hm).1 g1
    rw [e1]
    simp [List.lookup]
  | p0 :: ps, u0 :: us, j + 1, p, hn, hl, h => by
    obtain ⟨g1, g2⟩ := List.nodup_cons.mp hn
    have ih := look_rev (ps := ps) (us := us) (j := j) (p := p) g2 (by simpa using hl) (by simpa using h)
    rw [List.zip_cons_cons, List.reverse_cons, List.lookup_append, ih]
    have hj : j < us.length := by
      have := (List.getElem?_eq_some_iff.mp (by simpa using h : ps[j]? = some p)).1
      simp at hl
      omega
    simp [List.getElem?_eq_getElem hj]
theorem sup_line {q0 q1 q2 q3 q4 : Pos} {kd : Nat} {msg : Str} {env : Env} (hl : (q2.endLine == q4.line) = true) : eval (.Call (.Attribute (.Call (.Name "super" q0) [] [] q1) "__init__" q2) [.Constant (.str msg) kd q3] [] q4) env = (do
      let ov ← attributeBase (.Call (.Name "super" q0) [] [] q1) "__init__" env (eval (.Call (.Name "super" q0) [] [] q1) env)
      standAt q2.atName
      let (f, first) ← holding [ov] (getMethod ov "__init__" (plainOf (.Call (.Name "super" q0) [] [] q1) env))
      callWith q4 f first (backTo q4 (starEach [.Constant (.str msg) kd q3] env)) []) := by
  have e : ∀ ov, methodCall (.Call (.Name "super" q0) [] [] q1) "__init__" q2 q4 env ov 1 (backTo q4 (starEach [.Constant (.str msg) kd q3] env)) [] = _ := fun ov => mcall_line rfl hl
  rw [arm_eval_Call]
  show (do
    let ov ← attributeBase (.Call (.Name "super" q0) [] [] q1) "__init__" env (eval (.Call (.Name "super" q0) [] [] q1) env)
    standAt q2.atName
    methodCall (.Call (.Name "super" q0) [] [] q1) "__init__" q2 q4 env ov 1 (backTo q4 (starEach [.Constant (.str msg) kd q3] env)) []) = _
  simp only [e]
section
variable {P : Program} {w : World} {A : Around} {R : Result → Shared → Prop} {K : Frag} {C fI : Addr} {qual : Str} {st : Stmt} {fs : List Str} {fd : FuncData} {mg mb : Str → Option Value} {s : Shared}
/-- such an __init__, called upon a fresh error at x -/
theorem ex_init (T : ExCls P K C fI qual st fs fd) {x t0 : Addr} {us : List Value} {args : Args} (X : K.In s.heap) (hlim : s.heap.NoLimit) (hG : s.heap.Ns mainGlobals mg) (hm : mg "super" = none) (hB : s.heap.Ns builtinsNs mb) (hbb : mb "super" = some (.type "super"))
    (hx : s.heap.get? x = some (HandSPX.excO C t0)) (hnx : K.lookup x = none) (hroom : A.depth < recursionLimit) (hne : fs ≠ []) (hus : us.length = fs.length) (hf9 : fs.length ≤ 900) (hb : BindsTo s fd args ((("self" : Str) :: fs).zip (.ref x :: us)))
    (hq : ∀ h' tk t1 dx m1, (∀ b o, b ≠ x → s.heap.get? b = some o → h'.get? b = some o) → h'.get? x = some { cls := .ref C, dict := some dx, data := .fields #[.ref t1, .none, .none, .none, .bool false, .none] } → s.heap.objs.size ≤ dx → dx ≠ x →
      h'.Ns1 dx m1 → RelD (fs.zip us).reverse m1 → R (.ok (.ret .none)) { s with heap := h', toks := tk }) : codeAny (model P w) A (.call (.ref fI) args) R s := by
  obtain ⟨oc, od, kV, doc, pm, an, cda, ct, cc, osl, rfl, lk, hcd, ⟨cl, cld, csl, hcell⟩, cl2, cld2, vs, csl2, file, tf, hcode, hvs, hfile⟩ := T.fn
  obtain ⟨nm, q, N, bs, bm, sn, sub, ab, col, dd, k0, k1, k2, k3, k5, hC, hbm⟩ := T.oex.cls
  have hcl : PySem.W.clsIn K C = some { name := nm, bases := bs, mro := .ref C :: bm, ns := N, qualname := q, hasDict := true, slotNames := sn, subclasses := sub, abstract := ab, collection := col, hasDel := false } := by unfold PySem.W.clsIn; rw [hC] <;> rfl
  obtain ⟨q0, q1, q2, q3, q4, q5, kd, msg, l, ebody, hsets, hline⟩ := T.txt.body
  obtain ⟨ar, har, hars⟩ := T.txt.head
  have hk := T.txt.kind
  have hxs : x < s.heap.objs.size := Heap.lt_size hx
  refine PySem.ks_codeAny_call_defAt (fd := PySem.W.ksFn "__init__" qual (defArgs st) (defBody st) (defScope st) .none kV doc pm an (.ref cda) ct cc) (body := defBody st) (binds := (("self" : Str) :: fs).zip (.ref x :: us)) hroom (X _ _ lk) rfl hlim (PySem.W.codeRec_of X hcd) rfl hb T.txt.nocell (fun y hy => ?_) (fun h₁ hns kept => ?_) T.txt.co T.txt.gen T.txt.kind
  · rcases List.mem_cons.mp (List.of_mem_zip (show (y.1, y.2) ∈ _ from hy)).1 with e | e
    · rw [e]; exact T.txt.kself
    · exact T.txt.kf _ e
  have nd := T.txt.nd
  have hlen : (Value.ref x :: us).length = (("self" : Str) :: fs).length := by simp [hus]
  have vself : ((("self" : Str) :: fs).zip (.ref x :: us)).reverse.lookup ("self" : Str) = some (.ref x) := look_rev (j := 0) nd hlen rfl
  have X1 : K.In h₁ := X.keeps kept
  have hx1 := kept _ _ hx
  rw [ebody]
  refine PySem.ks_wpAt_execs_cons (PySem.ks_wpAt_Expr_any (PySem.ks_wpAt_MethodCall (PySem.ks_wpAt_super_base (f := fI) (cc := cda) T.txt.ks T.txt.kc (by decide) rfl (X1 _ _ lk) rfl har rfl (X1 _ _ hcode) rfl hvs hfile T.top ?_) (sup_line hline)) (by show ((defScope st).kind == .module && _) = false; rw [hk]; rfl) (by rfl))
  refine PySem.W.ks_loadName_global hk T.txt.ks (loadGlobal_builtin (hG.keeps kept) hm (hB.keeps kept) hbb ⟨rfl, ?_⟩)
  refine wpAny_loadName_free (c := cc) hk T.txt.kc rfl ⟨_, X1 _ _ hcell, rfl⟩ ?_
  rw [hars]
  refine wpAny_loadName_local hk T.txt.kself hns vself ?_
  have hCo := X1 _ _ hC
  refine PySem.ks_wpAny_isType_cls hCo rfl ⟨rfl, ?_⟩
  refine PySem.ks_wpAny_call_super hCo rfl hx1 rfl (fun c e => by cases e) (PySem.W.looks_mroIn X1 T.mine) (fun h2 e2 kp2 => ?_)
  have X2 : K.In h2 := X1.keeps kp2
  have hx2 := kp2 _ _ hx1
  have hsup := T.sup
  unfold PySem.W.ks_superIn at hsup
  rw [hcl, Option.bind_some] at hsup
  have hxC : x ≠ C := fun z => by rw [z, hC] at hnx; cases hnx
  have hI : PySem.W.Looks (model P w) h2 (isInstance (.ref x) (.type "ValueError")) true :=
    PySem.W.Looks.andThen (a := .ref C) (fun A Q E s k q => wpAny_typeOf_ref (k _ _ hx2) q) (PySem.W.looks_subIn X2 T.isV)
  refine PySem.W.kxs_getMethod PySem.W.kxs_ValueError e2 (PySem.W.looks_opaque X2 T.opq) (l₀ := .ref C :: bm) (fun A Q E s k q => wpAny_bind ((PySem.W.looks_clsIn X2 hcl) A _ E s k (wpAny_pure q))) rfl X2 hsup hI hxC (by decide) ?_
  -- the bound __init__ is called with the text
  refine PySem.W.kxs_callWith (i := "ValueError.__init__") (x := x) rfl ?_
  refine evalArgs_plain (spliced_cons (Constant_str (k := kd) (pos := q3) (x := msg) (spliced_nil ⟨?_, ?_⟩)))
  · exact Heap.get?_push_size h2 rfl
  · show wpAny _ _ (call (.ref h2.objs.size) [_]) _ _ _
    have kp3 : ∀ b o, h2.get? b = some o → (h2.push (PySem.W.kxs_mw "ValueError.__init__" x)).get? b = some o := fun _ _ e => Heap.get?_push_of_some _ e
    refine bound_init T.oex (X2.keeps kp3) (Heap.get?_push_size h2 rfl) (kp3 _ _ hx2) (by rw [sizeLine_eq]; show 1 ≤ 16777216; decide) fun h4 t4 k4 hx4 => ?_
    -- self.f = f, ..
    have up : ∀ b o, b ≠ x → h₁.get? b = some o → h4.get? b = some o := fun b o hb e => k4 b o hb (kp3 b o (kp2 b o e))
    have X4 : K.In h4 := fun b o e => k4 b o (fun z => by rw [z, hnx] at e; cases e) (kp3 b o (X2 b o e))
    have hLx : s.heap.objs.size ≠ x := Nat.ne_of_gt hxs
    have n4 : h4.Ns s.heap.objs.size (fun y => ((("self" : Str) :: fs).zip (.ref x :: us)).reverse.lookup y) := by
      obtain ⟨o, es, ep, e1, e2⟩ := hns
      exact ⟨o, es, ep, up _ _ hLx e1, e2⟩
    have loc : ∀ (j : Nat) f, fs[j]? = some f → ((("self" : Str) :: fs).zip (.ref x :: us)).reverse.lookup f = us[j]? := fun j f e => look_rev (j := j + 1) nd hlen e
    cases hsets with
    | nil => exact absurd rfl hne
    | @cons f p1 p2 p3 p4 gs l hl =>
      obtain ⟨u, us, rfl⟩ : ∃ u r, us = u :: r := by
        cases us with
        | nil => simp at hus
        | cons u r => exact ⟨u, r, rfl⟩
      have kf := T.txt.kf f List.mem_cons_self
      refine wpAt_of_wpAny ?_
      refine wpAny_execs_cons (plainObj_wpAny_Assign_Attribute (wpAny_Name (wpAny_loadName_local hk kf n4 (loc 0 f rfl) (wpAny_Name (wpAny_loadName_local hk T.txt.kself n4 vself ?_) (by decide))) (T.txt.nb f List.mem_cons_self)))
      refine PySem.W.set_plain X4 (ox := HandSPX.excO C t4) (od := none) ⟨hx4, rfl, rfl, trivial⟩ T.oex.sa ?_
      refine HandSPX.exc_osa X4 hx4 hcl (show HandSPX.refsVE (.ref C :: bm) = true from hbm) rfl (T.no f List.mem_cons_self) fun h5 tk5 dx k5 dn5 dne5 hx5 hn5 => ?_
      have s4 : s.heap.objs.size < h4.objs.size := by
        obtain ⟨o, es, ep, e1, e2⟩ := n4
        exact Heap.lt_size e1
      have hKdx : K.lookup dx = none := by
        cases e : K.lookup dx with
        | none => rfl
        | some o => exact absurd (Heap.lt_size (X4 _ _ e)) (Nat.not_lt.mpr dn5)
      have X5 : K.In h5 := fun b o e => k5 b o (fun z => by rw [z, hnx] at e; cases e) (X4 b o e)
      have n5 : h5.Ns s.heap.objs.size (fun y => ((("self" : Str) :: f :: gs).zip (.ref x :: u :: us)).reverse.lookup y) := by
        obtain ⟨o, es, ep, e1, e2⟩ := n4
        exact ⟨o, es, ep, k5 _ _ hLx e1, e2⟩
      show wpAny (model P w) _ (execs _ _) _ _ _
      refine ex_more (t1 := t4) (dx := dx) (x := x) T.oex (by exact hk) (by exact T.txt.kself) vself hl (us := us) (ps := [(f, u)]) (by simpa using hus) (fun g hg => ⟨by exact T.txt.kf g (List.mem_cons_of_mem _ hg), T.txt.nb g (List.mem_cons_of_mem _ hg), T.no g (List.mem_cons_of_mem _ hg)⟩) (fun j g e => loc (j + 1) g e) (by simp only [List.length_cons] at hf9 ⊢; simp; omega) X5 n5 hx5 hn5 (fun y => ?_) hKdx (Nat.ne_of_gt (Nat.lt_of_lt_of_le s4 dn5)) dne5 fun h6 tk6 m6 k6 hn6 hr6 => ?_
      · rw [look_cons]; rfl
      · refine hq h6 tk6 t4 dx m6 (fun b o hb e => ?_) (k6 _ _ dne5.symm hx5) (Nat.le_of_lt (Nat.lt_of_lt_of_le s4 dn5)) dne5 hn6 ?_
        · have hbs : b ≠ dx := Nat.ne_of_lt (Nat.lt_of_lt_of_le (Heap.lt_size e) (Nat.le_of_lt (Nat.lt_of_lt_of_le s4 dn5)))
          exact k6 b o hbs (k5 b o hb (up b o hb (kept b o e)))
        · rw [List.zip_cons_cons, List.reverse_cons]
          exact hr6
end
end Tb

set_option Elab.async false
set_option linter.all false
set_option maxRecDepth 100000
set_option maxHeartbeats 3999000
namespace Tb
open PySem PySem.Calls PyProof.Rows L2
open PySem.W (Frag)
/-- the promise of such an __init__ -/
def spEx (C : Addr) (fs : List Str) : Sp := fun vs H Q _ => ∃ (a : Addr) (ws : List V), vs = .ref a :: ws ∧ ws.length = fs.length ∧ H a = some (exo a C none) ∧
  ∀ dx, H dx = none → dx ≠ a → Q .non (upd (upd H dx (exd dx (fs.zip ws).reverse)) a (exo a C (some dx)))
theorem rel_rev : ∀ (fs : List Str) (ws : List V) (us : List Value), Vals ws us → ws.length = fs.length → ∀ (ps : List (Str × V)) (qs : List (Str × Value)), (∀ y, RelO (ps.lookup y) (qs.lookup y)) → ∀ y, RelO (((fs.zip ws).reverse ++ ps).lookup y) (((fs.zip us).reverse ++ qs).lookup y)
  | [], [], _, .nil, _, ps, qs, h, y => h y
  | f :: fs, w :: ws, _, .cons r rs, hl, ps, qs, h, y => by
    rename_i u us
    rw [List.zip_cons_cons, List.zip_cons_cons, List.reverse_cons, List.reverse_cons, List.append_assoc, List.append_assoc]
    refine rel_rev fs ws us rs (by simpa using hl) ((f, w) :: ps) ((f, u) :: qs) (fun z => ?_) y
    rw [lookup_put, look_cons]
    by_cases e : z = f
    · rw [if_pos e, if_pos e]; exact r
    · rw [if_neg e, if_neg e]; exact h z
section
variable {P : Program} {w : World} {K : Frag} {C fI : Addr} {qual : Str} {st : Stmt} {fs : List Str} {fd : FuncData} {mg : Str → Option Value} {base : Heap} {CX : CXT}
theorem ok_ex (T : ExCls P K C fI qual st fs fd) (hne : fs ≠ []) (hf9 : fs.length ≤ 900) (hm : mg "super" = none) : FnOk P w K mg base CX 1 fI fd ("self" :: fs) (spEx C fs) := by
  refine ⟨fun vs H Q E ⟨a, ws, e, hl, _⟩ => by rw [e, List.length_cons, List.length_cons, hl], fun A outer s H args us vs Q E hr e0 hb rv h => ?_⟩
  obtain ⟨a, ws, rfl, hl, ea, q⟩ := h
  cases rv with
  | @cons _ u0 _ us r0 rv =>
    obtain rfl : u0 = .ref a := r0
    obtain ⟨t0, hx⟩ := exo_at e0.hok ea
    have bk : ∀ b o, base.get? b = some o → s.heap.get? b = some o := fun b o z => (e0.bs b o z).1
    have X : K.In s.heap := fun b o z => bk b o (e0.mod.kin b o z)
    obtain ⟨mb, hB, hbb⟩ := e0.mod.blt
    have hnx : K.lookup a = none := by
      cases z : K.lookup a with
      | none => rfl
      | some o => exact absurd ((e0.bs a o (e0.mod.kin a o z)).2.symm.trans ea) (by intro y; cases y)
    have hus : us.length = fs.length := by rw [← Paired.length rv]; exact hl
    refine ex_init T (x := a) (t0 := t0) (us := us) X (e0.mod.nolimit.keeps bk) (e0.mod.glob.keeps bk) hm (hB.keeps bk) ((hbb "super" (by decide)).trans (by decide +kernel)) hx hnx (by have := hr.dp; omega) hne hus hf9 hb fun h' tk t1 dx m1 k hx' dn dne hn1 r1 => ?_
    have hnd : H dx = none := e0.hok.fresh dn
    have nd : ∀ {b : Addr} {o : Obj}, s.heap.get? b = some o → b ≠ dx := fun {b o} q => Nat.ne_of_lt (Nat.lt_of_lt_of_le (Heap.lt_size q) dn)
    have na : ∀ {b : Addr}, H b = none → b ≠ a := fun {b} n z => by rw [z, ea] at n; cases n
    refine ⟨.non, upd (upd H dx (exd dx (fs.zip ws).reverse)) a (exo a C (some dx)), rfl, e0.bare, ?_, ?_, rfl, q dx hnd dne⟩
    · exact {
        keep := fun b o z n _ _ => k b o (na n) z
        slot := fun b o z n _ _ => ⟨o.slots, k b o (na n) z⟩
        free := fun b o z n _ => by rw [upd_ne (na n), upd_ne (nd z)]; exact n
        there := fun b o z _ => by
          by_cases hb : b = a
          · exact ⟨_, by rw [hb]; exact hx'⟩
          · exact ⟨o, k b o hb z⟩
        tups := fun b xs z => by rw [upd_ne (at_ne ea z exo_tup), upd_ne (ne_of_none z hnd)]; exact z
        frzs := fun b o v z => by rw [upd_ne (at_ne ea z exo_frz), upd_ne (ne_of_none z hnd)]; exact z
        tbls := fun b ps z => ⟨#[], by rw [upd_ne (at_ne ea z exo_tbl), upd_ne (ne_of_none z hnd), z]; simp⟩ }
    · intro b o z
      by_cases hb : b = a
      · subst hb
        rw [upd_same] at z
        cases z
        exact exo_ok hx'
      · rw [upd_ne hb] at z
        by_cases hd : b = dx
        · subst hd
          rw [upd_same] at z
          cases z
          refine exd_ok hn1 fun f => ?_
          rw [r1 f]
          have := rel_rev fs ws us rv hl [] [] (fun _ => True.intro) f
          rwa [List.append_nil, List.append_nil] at this
        · rw [upd_ne hd] at z
          exact (e0.hok b o z).stay (fun c v hc y => k c v (by
              rcases hc with hc | hc
              · rw [hc]; exact hb
              · exact at_ne ea hc exo_own) y)
            (fun c hc => by rw [upd_ne (at_ne ea hc exo_own), upd_ne (ne_of_none hc hnd)]; exact hc) (fun c xs hc => by rw [upd_ne (at_ne ea hc exo_tup), upd_ne (ne_of_none hc hnd)]; exact hc)
end
/-- an own error under its global name -/
structure HasX (P : Program) (K : Frag) (mg : Str → Option Value) (x : Str) (C : Addr) (fs : List Str) : Prop where
  ex : ∃ (fI : Addr) (qual : Str) (st : Stmt) (fd : FuncData), ExCls P K C fI qual st fs fd ∧ Binds K fd ("self" :: fs) []
  at_ : mg x = some (.ref C)
  sup : mg "super" = none
  ne : fs ≠ []
  few : fs.length ≤ 900
/-- C(e, ..), to be raised -/
def tMkX (C : Addr) (fs : List Str) (ta : TA) : L2.St → Hp → XK → Prop := fun σ H Q => ta σ H fun vs H1 => vs.length = fs.length ∧ ∀ d, H1 d = none → Q (.ref C) (some d) (upd H1 d (.xd (fs.zip vs).reverse))
theorem del_upd2 {H : Hp} {a d : Addr} {o u u' : HO} (hn : H a = none) (hd : d ≠ a) {v : HO} : upd (del (upd (upd (upd H a o) d u) a v) a) d u' = upd H d u' := by
  funext b
  by_cases h1 : b = d
  · rw [h1, upd_same, upd_same]
  · rw [upd_ne h1, upd_ne h1]
    by_cases h2 : b = a
    · rw [h2, del_same, hn]
    · rw [del_ne h2, upd_ne h2, upd_ne h1, upd_ne h2]
section
variable {X : Cx} {x : Str} {C : Addr} {fs : List Str} {e : Expr} {es : List Expr} {ta : TA} {p pos : Pos}
theorem pmk_x (h : HasX X.prog X.K X.mg x C fs) (hr : Room 2 X.A) (hg : Gl X x) (ha : PA X (e :: es) ta)
    (d1 : (x == ("__debug__" : Str)) = false := by decide) (d2 : starEach (e :: es) X.env = (false, eval e X.env) :: starEach es X.env := by rfl) (d3 : (backTo pos (starEach es X.env)).any (·.1) = false := by rfl) :
    PMk X (.Call (.Name x p) (e :: es) [] pos) (tMkX C fs ta) := by
  obtain ⟨fI, qual, st, fd, T, hb⟩ := h.ex
  have ha' : PA X (e :: es) (fun σ H Q => ∃ Q0 : List V → Hp → Prop, ta σ H Q0 ∧ ∀ vs H1, Q0 vs H1 → Q vs H1) :=
    ⟨fun q pins s σ H Q I ⟨Q0, h0, up⟩ => thn (ha.run q pins s σ H _ I h0) fun us s1 ⟨vs, H1, I1, r1, z⟩ => ⟨vs, H1, I1, r1, up _ _ z⟩⟩
  have r := pmk_oex (x := x) (p := p) (pos := pos) (CX := fun _ _ _ _ _ _ => False) T.oex T.iC T.tI (ok_ex T h.ne h.few h.sup) hr hb .nil (fun _ _ _ _ _ _ _ z => z.elim) hg h.at_ ha' d1 d2 d3
  intro pins s σ H Q I q
  refine r pins s σ H Q I ⟨_, q, fun vs H1 z => ?_⟩
  obtain ⟨hl, z⟩ := z
  refine ⟨by rw [hl]; exact Nat.le_trans h.few (by decide), fun a hn => ⟨a, vs, by rw [List.append_nil], hl, upd_same, fun dx hdx dne => ⟨rfl, dx, (fs.zip vs).reverse, upd_same, ?_, ?_, ?_⟩⟩⟩
  · rw [upd_ne dne, upd_same]
  · rw [upd_ne dne] at hdx; exact hdx
  · rw [del_upd2 hn dne]
    rw [upd_ne dne] at hdx
    exact z dx hdx
end
end Tb

set_option Elab.async false
set_option linter.all false
set_option maxRecDepth 100000
set_option maxHeartbeats 3999000
namespace Tb
open PySem PySem.Calls PyProof.Rows L2
open PySem.W (Frag)
/-! ### several clauses, each with a name: except C as n: .. -/
/-- a clause: its class, its name's slot, its suite's reading -/
structure Cl where
  c : Value
  i : Nat
  ts : Addr → Value → Option Addr → TS
def endsOf (i : Nat) (D : Ends) : Ends := { nx := fun σ H => D.nx (σ.set i none) H, rt := D.rt, bk := fun σ H => D.bk (σ.set i none) H, ct := fun σ H => D.ct (σ.set i none) H }
/-- what the clauses want of an error of the body -/
def wCls (K : Frag) (Wo : WX) (D : Ends) : List Cl → WX
  | [] => Wo
  | z :: zs => fun k d σ H => ∃ b, PySem.W.exmOne K k z.c = some b ∧ (b = true → ∀ a, H a = none → z.ts a k d (endsOf z.i D) (σ.set z.i (some (.ref a))) H) ∧ (b = false → wCls K Wo D zs k d σ H)
inductive ClsOk (X : Cx) : List ExceptHandler → List Cl → Prop
  | nil : ClsOk X [] []
  | cons {x n : Str} {z : Cl} {s1 : Stmt} {su : List Stmt} {p1 p2 : Pos} {hs : List ExceptHandler} {zs : List Cl} (hc : Names X x z.c) (hi : X.N[z.i]? = some n) (hl : X.env.kindOf n = some .local)
      (hsu : ∀ (a : Addr) (oe : Obj) (k : Value) (d : Option Addr) (pn : List (Addr × Obj)), Zc k d oe → (∃ vs, oe.data = .fields vs) → PSs (X.suite a ((a, oe) :: pn)) (s1 :: su) (z.ts a k d)) (r : ClsOk X hs zs) :
      ClsOk X (.ExceptHandler (some (.Name x p1)) (some n) (s1 :: su) p2 :: hs) (z :: zs)
/-- an error that has landed in the frame -/
structure Landed (X : Cx) (pins : List (Addr × Obj)) (σ : L2.St) (H : Hp) (a : Addr) (k : Value) (d : Option Addr) (B : Heap) (sI s : Shared) : Prop where
  inv0 : Inv X pins σ H sI
  nb : ∀ b o, sI.heap.get? b = some o → b ∉ frs X.stack → B.get? b = some o
  up : sI.heap.UpToSlots s.heap
  fl : HandSPX.FlyingZ B (X.env :: X.outer) a (Zc k d) s.heap
  os : s.os = sI.os
  ag : AllBare s.gens
  na : H a = none
section
variable {X : Cx} {pins : List (Addr × Obj)} {σ : L2.St} {H : Hp} {a : Addr} {k : Value} {d : Option Addr} {B : Heap} {sI s : Shared} {Wo : WX} {D : Ends}
theorem Landed.inv (h : Landed X pins σ H a k d B sI s) : Inv X pins σ H s := h.inv0.landed h.nb h.fl.1 h.up h.os h.ag
theorem Landed.out (h : Landed X pins σ H a k d B sI s) (hf : X.env.frame = some X.env.locals) : a ≠ X.env.locals ∧ a ∉ X.fs := by
  obtain ⟨oe, vs, e1, _, e2⟩ := h.fl.there
  have no : a ∉ frs (X.env :: X.outer) := fun hm => by
    obtain ⟨_, o', e3, e4⟩ := h.fl.2.2.1.mem hm
    exact e4 _ ((Option.some.inj (e1.symm.trans e3)) ▸ e2)
  refine ⟨fun z => no (List.mem_filterMap.mpr ⟨X.env, List.mem_cons_self, by rw [hf, z]⟩), fun hm => ?_⟩
  obtain ⟨e, h1, h2⟩ := List.mem_filterMap.mp hm
  exact no (List.mem_filterMap.mpr ⟨e, List.mem_cons_of_mem _ h1, h2⟩)
theorem Landed.suite (h : Landed X pins σ H a k d B sI s) (hf : X.env.frame = some X.env.locals) : ∃ oe, Zc k d oe ∧ (∃ vs, oe.data = .fields vs) ∧ s.heap.get? a = some oe ∧ Inv (X.suite a ((a, oe) :: (X.pn ++ pins))) [] σ H s := by
  obtain ⟨oe, vs, e1, e2, e3⟩ := h.fl.there
  obtain ⟨n1, n2⟩ := h.out hf
  exact ⟨oe, e2, ⟨vs, e3⟩, e1, h.inv.suite e1 e3 h.na n1 n2⟩
/-- the name goes behind the suite -/
theorem suite_end {i : Nat} {n : Str} {pos : Pos} {q : Addr × Obj} (ok : X.Ok) (hN : X.N.Nodup) (hi : X.N[i]? = some n) (hl : X.env.kindOf n = some .local) {f : Flow} (h : SP (X.suite a (q :: (X.pn ++ pins))) [] (endsOf i D) f s) :
    wpAny (model X.prog X.w) X.A (do bindName X.env n .none; unbindBehindTheSuite X.env n pos) (fun _ s7 => SP X pins D f s7) X.xe s := by
  have key : ∀ {σ6 : L2.St} {H6 : Hp} {Q : Shared → Prop}, Inv (X.suite a (q :: (X.pn ++ pins))) [] σ6 H6 s → (∀ s7, Inv X pins (σ6.set i none) H6 s7 → Q s7) → wpAny (model X.prog X.w) X.A (do bindName X.env n .none; unbindBehindTheSuite X.env n pos) (fun _ s7 => Q s7) X.xe s :=
    fun S hq => gone_ok (S.unsuite ok) hN hi hl hq
  cases f with
  | ret u => obtain ⟨v6, σ6, H6, S, r, z⟩ := h; exact key S fun _ J => ⟨_, _, _, J, r, z⟩
  | next => obtain ⟨σ6, H6, S, z⟩ := h; exact key S fun _ J => ⟨_, _, J, z⟩
  | brk => obtain ⟨σ6, H6, S, z⟩ := h; exact key S fun _ J => ⟨_, _, J, z⟩
  | cont => obtain ⟨σ6, H6, S, z⟩ := h; exact key S fun _ J => ⟨_, _, J, z⟩
theorem handle_all (hs : X.stack = X.env :: X.outer) (hf : X.env.frame = some X.env.locals) (hN : X.N.Nodup) (tk : Takes X Wo) (L : Landed X pins σ H a k d B sI s) :
    ∀ {hds : List ExceptHandler} {zs : List Cl}, ClsOk X hds zs → wCls X.K Wo D zs k d σ H → wpAny (model X.prog X.w) X.A (handleBy (.ref a) X.env hds) (SP X pins D) X.xe s := by
  intro hds zs hk
  have ok := L.inv0.ok
  induction hk with
  | nil =>
    intro w
    refine wpAny_handleBy_nil ?_
    obtain ⟨k1, k2, k3, oe, vs, T, oT, ts', he, hz, hd, h1, hr⟩ := id L.fl
    have last : wpAny (model X.prog X.w) X.A (setFlight (.ref a) X.env.frame) (fun _ s4 => wpAny (model X.prog X.w) X.A (throw (.ref a) : Sem Flow) (SP X pins D) X.xe s4) X.xe s := by
      rw [hf]
      exact HandSPX.setFlight_upZ L.fl fun h4 hh4 up4 => wpAny_throw (tk _ _ ⟨a, B, sI, pins, σ, H, k, d, rfl, L.inv0, L.nb, L.up.trans up4, .inr (.inr (by rw [hs]; exact hh4)), L.na, L.os, L.ag, w⟩)
    unfold PySem.passOn; refine wpAny_bind (wpAny_field he hd h1 ?_); rw [if_neg (show ¬ ((Value.ref T == Value.none) = true) by simp)]
    first | exact wpAny_bind (wpAny_pure (wpAny_bind last)) | exact wpAny_bind last
  | @cons x n z s1 su p1 p2 hs2 zs2 hc hi hl hsu r ih =>
    rintro ⟨b, e1, yes, no⟩
    obtain ⟨oe, hz, hd, he, S⟩ := L.suite hf
    refine wpAny_handleBy_cons (codeAny_handlers_test ?_) (by intro y; cases y)
    have L1 : PySem.W.Looks (model X.prog X.w) s.heap (typeOf (.ref a)) k := fun A Q E s' kp q => wpAny_typeOf_ref (kp _ _ he) (by rw [hz.1]; exact q)
    have L2' := PySem.W.exm_one (M := model X.prog X.w) L.inv.kIn L1 e1
    have look : ∀ {Q : Value → Shared → Prop} {E : Value → Shared → Prop}, Q z.c s → wpAny (model X.prog X.w) (X.A.mark (some (.ref a))) (eval (.Name x p1) X.env) Q E s := fun {Q E} q => by
      obtain ⟨hg, hdb, hm | ⟨hm, hv, hn⟩⟩ := hc
      · exact ld_glob (X := X.suite a ((a, oe) :: (X.pn ++ pins))) S hg hm q hdb
      · exact ld_blt (X := X.suite a ((a, oe) :: (X.pn ++ pins))) S hg hm hv q hn hdb
    refine look (L2'.here ?_)
    cases b with
    | false => exact ih (no rfl)
    | true =>
      refine codeAny_handlers_suite_as (HandSPX.lands_againZ L.fl fun h4 fl4 up4 => ?_)
      have M : Landed X pins σ H a k d B sI { s with heap := h4 } := ⟨L.inv0, L.nb, L.up.trans up4, fl4, L.os, L.ag, L.na⟩
      obtain ⟨oe4, hz4, hd4, he4, S4⟩ := M.suite hf
      refine store_ok (X := X.suite a ((a, oe4) :: (X.pn ++ pins))) (v := .ref a) S4 hN hi (.inl hl) rfl (fun s5 S5 => ?_) (.inr hl)
      exact wpAny_mono ((hsu a oe4 k d (X.pn ++ pins) hz4 hd4).run [] s5 _ H _ S5 (yes rfl a L.na)) (fun f s6 hsp => suite_end ok hN hi hl hsp) (fun _ _ y => False.elim y)
end
section
variable {X : Cx} {body : List Stmt} {h₀ : ExceptHandler} {hds : List ExceptHandler} {zs : List Cl} {pos : Pos} {tb : WX → TS} {Wo : WX}
theorem ps_try_cls (hs : X.stack = X.env :: X.outer) (hf : X.env.frame = some X.env.locals) (hN : X.N.Nodup) (tk : Takes X Wo)
    (hb : ∀ (W : WX) (pn : List (Addr × Obj)) (xe : Value → Shared → Prop), Takes (X.tr pn xe) W → PassesOwn (model X.prog X.w) X.A X.env xe → PSs (X.tr pn xe) body (tb W)) (hh : ClsOk X (h₀ :: hds) zs) :
    PS X (.Try body (h₀ :: hds) [] [] pos) (fun D σ H => tb (wCls X.K Wo D zs) D σ H) := by
  refine ⟨fun pins s σ H D I h0 => ?_⟩
  have ok := I.ok
  have fr : X.A.frames = some (X.env :: X.outer) := by rw [ok.frames, hs]
  refine wpAny_Try_except (wpAny_mono ((hb (wCls X.K Wo D zs) (X.pn ++ pins) (fun e s₁ => wpAny (model X.prog X.w) X.A (noteFrame e X.env) (fun _ s₂ => wpAny (model X.prog X.w) X.A (setFlight e none) (fun _ s₃ => wpAny (model X.prog X.w) X.A (handleBy e X.env (h₀ :: hds)) (SP X pins D) X.xe s₃) X.xe s₂) X.xe s₁)
    (fun u s' xx => ?_) PassesOwn.looking).run [] s σ H D (I.toTry _) h0) (fun f s1 hsp => ?_) (fun e s1 he => he))
  · obtain ⟨a, B, sI, pins', σ', H', k, d, rfl, J', nb, up, sky, na, os, ag, w⟩ := xx
    have sky' : Sky B (X.env :: X.outer) a (Zc k d) X.env.locals s'.heap := by rw [← hs]; exact sky
    show wpAny (model X.prog X.w) X.A (noteFrame (.ref a) X.env) _ _ _; exact Sky.land Zc.steady fr hf sky' fun h3 fl3 up3 => handle_all (s := { s' with heap := h3 }) hs hf hN tk ⟨J'.ofTry ok, nb, up.trans up3, fl3, os, ag, na⟩ hh w
  · cases f with
    | ret u => obtain ⟨v, σ', H', J', r, q⟩ := hsp; exact ⟨v, σ', H', J'.ofTry ok, r, q⟩
    | next => obtain ⟨σ', H', J', q⟩ := hsp; exact wpAny_execs_nil ⟨σ', H', J'.ofTry ok, q⟩
    | brk => obtain ⟨σ', H', J', q⟩ := hsp; exact ⟨σ', H', J'.ofTry ok, q⟩
    | cont => obtain ⟨σ', H', J', q⟩ := hsp; exact ⟨σ', H', J'.ofTry ok, q⟩
end
end Tb

set_option Elab.async false
set_option linter.all false
set_option maxRecDepth 100000
set_option maxHeartbeats 3999000
namespace Tb
open PySem PySem.Spec PySem.Calls PyProof.Rows PySem.W L2
/-! ### isinstance of an error that has fields -/
section
variable {prog : Program} {w : World} {A : Around} {E : Value → Shared → Prop} {s : Shared} {K : Frag} {x D : Addr} {ox : Obj} {od : Option Obj}
theorem find_dataX {name : Str} {a g : Value} (h1 : (clsIn K D).isSome = true) (h2 : findIn K (.ref D) name = some (some a)) (h3 : specialIn K a "__get__" = some (some g)) (h4 : takesIn K a = some true) : findObj K D od name = some (.bind g a) := by
  obtain ⟨cd, e⟩ := Option.isSome_iff_exists.mp h1
  unfold findObj; rw [e, Option.bind_some, h2, Option.bind_some]
  simp [h3, h4]
theorem class_ofX {Q : Option Value → Shared → Prop} (T : ExcC K D) (X : K.In s.heap) (I : InstAt s.heap x ox D od) (h : Q (some (.ref D)) { s with toks := s.toks + 1 }) : wpAny (model prog w) A (getAttr? (.ref x) "__class__") Q E s := by
  have isD : (clsIn K D).isSome = true := by obtain ⟨cd, hc, _⟩ := any_some T.hd; rw [hc]; rfl
  obtain ⟨hp, g, d, t, os⟩ := s
  have l0 := I.type (M := model prog w)
  have l1 := looks_findIn (M := model prog w) X T.hg
  have l2 := looks_findIn (M := model prog w) X T.hk
  have l3 := looks_find (M := model prog w) X I (find_dataX (od := od) isD T.ha T.hn T.ht)
  have l4 : Looks (model prog w) hp (isInstance (.ref x) (.type "BaseException")) true := l0.andThen (looks_subIn X T.hs)
  have z1 : (onTheHeap (Value.ref D) && Value.builtin "BaseException.__getattribute__" == Value.builtin "object.__getattribute__") = false := by rw [show (Value.builtin "BaseException.__getattribute__" == Value.builtin "object.__getattribute__") = false by decide +kernel]; rfl
  unfold getAttr? getAttrBy? getAttrBy; refine wpAny_bind (wpAny_mkText (wpAny_bind (wpAny_attempt (wpAny_holding (wpAny_bind (l0.at (wpAny_bind (l1.at ?_))))))))
  show wpAny _ _ (if (onTheHeap (Value.ref D) && Value.builtin "BaseException.__getattribute__" == Value.builtin "object.__getattribute__") = true then _ else _) _ _ _; rw [z1]; refine if_neg (Bool.false_ne_true) ▸ ?_
  unfold getAttrByItsOwn hookBefore; refine wpAny_bind ?_; rw [if_pos (show onTheHeap (Value.ref D) = true from rfl)]
  refine l2.at (wpAny_bind (wpAny_attempt (wpAny_holding ?_)))
  unfold callGetattribute; rw [show (false && onTheHeap (Value.builtin "BaseException.__getattribute__")) = false from rfl, if_neg Bool.false_ne_true]
  unfold boundAndCalled; rw [PySem.F.excAttr_ValueError.ga.bind (.ref x)]; refine wpAny_bind (wpAny_pure ?_)
  show wpAny _ _ (call (.builtin "BaseException.__getattribute__") [.ref x, .str "__class__" t]) _ _ _; refine wpAny_call (codeAny_call_builtin PySem.F.excAttr_ValueError.ga.plain PySem.F.entry_bexc_ga (@check_slot (model prog w) _ _ ⟨hp, g, d, t + 1, os⟩ "BaseException.__getattribute__" "BaseException" "__getattribute__" (.ref x) [.str "__class__" t] [] _ (by decide +kernel) (by decide +kernel) l4 (PySem.F.args_bexc_ga (.ref x) (.str "__class__" t)) ?_))
  unfold Builtin.«object.__getattribute__»; refine wpAny_bind (wpAny_of_eq (a := ((Value.ref x : Value), [Value.str "__class__" t])) (by first | rfl | (simp only [slotArgs]; rfl)) (wpAny_bind (wpAny_pure (wpAny_bind (l0.at (wpAny_bind (l3.at ?_)))))))
  show wpAny _ _ (holding [Value.builtin "object.__class__"] (call (.builtin "getset_descriptor.__get__") [.builtin "object.__class__", .ref x, .ref D]) >>= ret) _ _ _; refine wpAny_bind (wpAny_holding (wpAny_call (class_get (s := ⟨hp, g, d, t + 1, os⟩) (ox := ox) (od := od) X I T.hm (wpAny_pure ?_))))
  show wpAny _ _ (handedOut (.ref D)) _ _ _; rw [handedOut_of (v := .ref D) rfl]
  first | exact wpAny_pure (wpAny_pure h) | exact wpAny_pure h | exact wpAny_pure (wpAny_bind (wpAny_pure (wpAny_pure h)))
theorem kitX_of (T : ExcC K D) : KitX K (.ref x) (.ref D) (fun h => InstAt h x ox D od) := by
  obtain ⟨cd, hc, _⟩ := any_some T.hd
  have at_ : ∃ c d sl, K.lookup D = some ⟨c, d, .cls cd, sl⟩ := by
    unfold clsIn at hc
    split at hc
    · rename_i c' d' cd' sl' ho
      cases hc
      exact ⟨_, _, _, ho⟩
    · cases hc
  obtain ⟨c1, d1, sl1, ho⟩ := at_
  exact {
    ty := fun _ _ _ I => I.type
    it := fun _ _ X _ A' Q' E' s' k q => by unfold isType loadHead; exact wpAny_bind (wpAny_loadPart (k _ _ (X _ _ ho)) (wpAny_pure q))
    ne := fun h tp dd its n sl X htp => Bool.eq_false_iff.mpr fun q => by
      have eD : D = tp := Value.ref.inj (beq_iff_eq.mp q)
      subst eD
      exact nomatch (X _ _ ho).symm.trans htp
    ca := fun X I k => class_ofX T X I k }
end
/-- isinstance(e, c), e the error that is pinned: cls its class, d its dict -/
def rIsX (K : Frag) (a : Addr) (cls : Value) (d : Option Addr) : List V → Hp → VK → Prop := fun xs H Q => ∃ (D dd : Addr) (c : V) (cv : Value) (b : Bool) (fs : List (Str × V)), xs = [.ref a, c] ∧ cls = .ref D ∧ d = some dd ∧ ExcC K D ∧ (∀ u, RelV c u → u = cv) ∧ H dd = some (.xd fs) ∧ kitOne K (.ref D) cv = some b ∧ Q (.bl b) H
theorem call_isX {X : Cx} {K : Frag} {a : Addr} {oe : Obj} {cls : Value} {d : Option Addr} (hK : X.K = K) (hp : (a, oe) ∈ X.pn) (hz : Zc cls d oe) (hf : ∃ vs, oe.data = .fields vs) : CallR X (.builtin "isinstance") (rIsX K a cls d) := by
  subst hK
  intro pn s σ H xs us Q I r h
  obtain ⟨D, dd, c, cv, b, fs, rfl, rfl, rfl, C, hcv, hdd, e, q⟩ := h
  obtain ⟨u1, u2, rfl, r1, r2⟩ : ∃ u1 u2, us = [u1, u2] ∧ RelV (.ref a) u1 ∧ RelV c u2 := by
    cases r with
    | cons r1 rr =>
      cases rr with
      | cons r2 rr => cases rr; exact ⟨_, _, rfl, r1, r2⟩
  obtain rfl : u1 = Value.ref a := r1
  obtain rfl := hcv _ r2
  have g1 := (I.pin (a, oe) (List.mem_append.mpr (.inl hp))).1
  have hx : ObjOk X.prog X.w H s.heap dd (.xd fs) := I.hok dd _ hdd
  obtain ⟨mA, ⟨od, es, ep, ho, _⟩, _⟩ := hx
  obtain ⟨vs, hv⟩ := hf
  have J : InstAt s.heap a oe D (some od) := ⟨g1, hz.1, by unfold notCls; rw [hv] <;> rfl, by rw [hz.2]; exact ho⟩
  exact kia_one (kitX_of C) I.kIn J e (fun z => nomatch z) fun tk => ⟨.bl b, H, I.kept (t' := tk) fun _ _ z => z, rfl, q⟩
end Tb

set_option Elab.async false
set_option linter.all false
set_option maxRecDepth 100000
set_option maxHeartbeats 3999000
namespace Tb
open PySem PySem.Spec PySem.Calls PyProof.Rows PySem.W L2
open L2H (RoomH PinOk cxH inv_startH)
/-! ### a def that is called within an except suite with the error that is held there: its promise may speak of the error's object -/
structure FnP (P : Program) (w : World) (K : Frag) (mg : Str → Option Value) (base : Heap) (k : Nat) (f : Addr) (fd : FuncData) (ps : List Str) (sp : Addr → Value → Option Addr → Sp) : Prop where
  len : ∀ a c d vs H Q E, sp a c d vs H Q E → vs.length = ps.length
  run : ∀ (a : Addr) (oe : Obj) (c : Value) (d : Option Addr) (A : Around) (l : List Env) (s : Shared) (H : Hp) (args : Args) (us : List Value) (vs : List V) (Q : VK) (E : XK), RoomH k A → Zc c d oe → (∃ vs, oe.data = .fields vs) → PinOk l H s (a, oe) → Env0 P w K mg base A l s H → BindsTo s fd args (ps.zip us) → Vals vs us → sp a c d vs H Q E → codeAny (model P w) A (.call (.ref f) args) (CR CX0 l P w H s Q E) s
theorem fnP_of {P : Program} {w : World} {K : Frag} {mg : Str → Option Value} {base : Heap} {k : Nat} {f : Addr} {fd : FuncData} {x qual : Str} {st : Stmt} {N ps : List Str} {sp : Addr → Value → Option Addr → Sp} (F : Fun K x qual st f fd) (S : FnScope N ps (defScope st)) (len : ∀ a c d vs H Q E, sp a c d vs H Q E → vs.length = ps.length)
    (walk : ∀ (cdv : Value) (A : Around) (l : List Env) (s : Shared) (H : Hp) (vs : List V) (Q : VK) (E : XK) (a : Addr) (oe : Obj) (c : Value) (d : Option Addr), Zc c d oe → (∃ vs, oe.data = .fields vs) → RoomH k (A.deeper (envOfC qual (defScope st) s.heap.objs.size f cdv)) → sp a c d vs H Q E →
      ∃ t, PSs (cxH CX0 P w K mg base N qual (defScope st) f cdv A l s H E (a, oe)) (defBody st) t ∧ t { nx := fun _ H' => Q .non H', rt := Q } (L2.start N vs) H) : FnP P w K mg base (k + 1) f fd ps sp := by
  obtain ⟨o1, d1, kV, doc, pm, an, cdv, ct, osl, rfl, lk, hcd⟩ := F.ex
  refine ⟨len, fun a oe c d A l s H args us vs Q E hr hz hf hpin e0 hb r h => ?_⟩
  have up : ∀ b o, base.get? b = some o → s.heap.get? b = some o := fun b o e => (e0.bs b o e).1
  have KX : K.In s.heap := e0.mod.kin.keeps up
  have kinds : ∀ y ∈ ps.zip us, (defScope st).names.lookup y.1 = some .local ∨ ((defScope st).names.lookup y.1 = some .cell ∧ ((cellsFrom (s.heap.objs.size + 1) (defScope st).names []).lookup y.1).isSome = true) := fun ⟨n, v⟩ hy => by
    rcases S.par n (List.of_mem_zip hy).1 with c | c
    · exact .inl c
    · exact .inr ⟨c, cellsFrom_some _ _ _ (.inl c)⟩
  refine codeAny_call_function hr.depth (KX _ _ lk) rfl S.co S.gen rfl (codeRec_of KX hcd) (hb _ _ _ _ (wpAny_newFunctionEnv_cells S.kind kinds fun env he s1 x => ?_))
  subst he
  obtain ⟨t, ht, hq⟩ := walk cdv A l s H vs Q E a oe c d hz hf (hr.deeper _) h
  have I := inv_startH (CX := CX0) (P := P) (w := w) (mg := mg) (base := base) (A := A) (H := H) (E := E) S hpin e0 (len _ _ _ _ _ _ _ h) r x
  refine ⟨(e0.mod.nolimit.keeps up).keeps x.toInCall.keep, codeAny_func (wpAny_mono (ht.run [] s1 (L2.start N vs) H _ I hq) (fun fl s' hs => ?_) fun e s' z => z)⟩
  cases fl with
  | ret u => obtain ⟨v, σ', H', J, rv, q⟩ := hs; exact ⟨v, H', J.os, J.bare, J.base, J.hok, rv, q⟩
  | next => obtain ⟨σ', H', J, q⟩ := hs; exact ⟨V.non, H', J.os, J.bare, J.base, J.hok, rfl, q⟩
  | brk => obtain ⟨_, _, _, q⟩ := hs; exact q.elim
  | cont => obtain ⟨_, _, _, q⟩ := hs; exact q.elim
theorem roomS {A : Around} {v : Option Value} {j k : Nat} (r : Room k A) (h : j ≤ k) : RoomH j (A.mark v) :=
  ⟨by have := r.dp; show A.depth + 3 * j + 5 < _; omega, by have := r.un; show A.units + 16 * j + 200 < _; omega⟩
/-- such a def under its global name -/
structure HasP (P : Program) (w : World) (K : Frag) (mg : Str → Option Value) (base : Heap) (x : Str) (k : Nat) (sp : Addr → Value → Option Addr → Sp) : Prop where
  ex : ∃ (f : Addr) (fd : FuncData) (ps : List Str), FnP P w K mg base k f fd ps sp ∧ mg x = some (.ref f) ∧ keepIn K (.ref f) = true ∧ Binds K fd ps []
section
variable {X : Cx} {x : Str} {k : Nat} {sp : Addr → Value → Option Addr → Sp} {q1 q2 : Pos} {e : Expr} {es : List Expr} {t : TA} {a : Addr} {oe : Obj} {c : Value} {d : Option Addr}
theorem pe_fnP (h : HasP X.prog X.w X.K X.mg X.base x k sp) (hr : RoomH k X.A) (hp : (a, oe) ∈ X.pn) (hz : Zc c d oe) (hf : ∃ vs, oe.data = .fields vs) (hg : Gl X x) (ha : PA X (e :: es) t) (z1 : (x == ("__debug__" : Str)) = false := by decide)
    (z2 : starEach (e :: es) X.env = (false, eval e X.env) :: starEach es X.env := by rfl) (z3 : (backTo q2 (starEach es X.env)).any (·.1) = false := by rfl) : PE X (.Call (.Name x q1) (e :: es) [] q2) (tFn (sp a c d) t) := by
  obtain ⟨f, fd, ps, F, hm, hk, hb⟩ := h.ex
  refine ⟨fun pins s σ H Q I h => wpAny_Call_Name_kw (ld_glob I hg hm (callWith_K (h₀ := X.base) I.ok.mod.kin hk (thn (ha.run q2 pins s σ H _ I h) fun us s1 ⟨vs, H1, I1, r, q⟩ => ⟨I1.kIn, ?_⟩) z2 z3) z1)⟩
  have hl : us.length = ps.length := by rw [← r.length]; exact F.len _ _ _ _ _ _ _ q
  have b := hb s1 us I1.kIn (by rw [List.append_nil]; exact hl)
  rw [List.append_nil] at b
  have P1 := I1.pin (a, oe) (List.mem_append_left _ hp)
  have hpin : PinOk X.stack H1 s1 (a, oe) := ⟨P1.1, P1.2.1, fun hm => (List.mem_cons.mp (I1.stkSub a hm)).elim P1.2.2.1 P1.2.2.2.1, P1.2.2.2.2⟩
  show wpAny _ _ (call (.ref f) us) _ _ _; refine wpAny_call (codeAny_mono (F.run a oe c d X.A X.stack s1 H1 ⟨us, []⟩ us vs Q E0 hr hz hf hpin I1.env0 b r q) fun r s' hq => ?_)
  cases r with
  | error e => exact hq.elim
  | ok fl =>
    cases fl with
    | ret u => exact I1.after hq
    | next => exact False.elim hq
    | brk => exact False.elim hq
    | cont => exact False.elim hq
end
end Tb

set_option Elab.async false
set_option linter.all false
set_option maxRecDepth 100000
set_option maxHeartbeats 3999000
namespace Tb
open PySem PySem.Calls PyProof.Rows L2
open PySem.W (Frag)
/-! ### an own error and its base, as the top has left them -/
/-- the error x at C over the base at B: all that calls, clauses, fields and isinstance ask -/
structure ErrAt (P : Program) (K : Frag) (mg : Str → Option Value) (B : Addr) (x : Str) (C : Addr) (fs : List Str) : Prop where
  has : HasX P K mg x C fs
  xf : XfC K C
  no : ∀ f ∈ fs, PySem.W.findIn K (.ref C) f = some none
  is : ExcC K C
  cls : ∃ nm q N bs sn sub ab col dd k0 k1 k2 k3 k5, K.lookup C = some (excClassObj nm q C N bs (.ref B :: HandSPX.veTail) true sn sub ab col dd k0 k1 k2 k3 k5 "ValueError.__new__")
  ty : PySem.W.typeIn K (.ref C) = some (.type "type")
/-- the base stands at B, under its name -/
structure BaseAt (K : Frag) (mg : Str → Option Value) (x : Str) (B : Addr) : Prop where
  at_ : mg x = some (.ref B)
  cls : ∃ nm q N bs sn sub ab col dd k0 k1 k2 k3 k5, K.lookup B = some (excClassObj nm q B N bs HandSPX.veTail true sn sub ab col dd k0 k1 k2 k3 k5 "ValueError.__new__")
  ini : PySem.W.findIn K (.ref B) "__init__" = some (some (.builtin "ValueError.__init__"))
  hd : PySem.W.hasDictIn K B = true
  ty : PySem.W.typeIn K (.ref B) = some (.type "type")
theorem BaseAt.sub {K : Frag} {mg : Str → Option Value} {x : Str} {B : Addr} (b : BaseAt K mg x B) : PySem.W.subIn K (.ref B) (.type "BaseException") = some true := by
  obtain ⟨nm, q, N, bs, sn, sub, ab, col, dd, k0, k1, k2, k3, k5, e⟩ := b.cls
  show PySem.W.mroIn K B _ = _
  unfold PySem.W.mroIn PySem.W.clsIn
  rw [e] <;> rfl
/-- what all the errors share -/
structure Shared0 (P : Program) (K : Frag) : Prop where
  opq : PySem.W.nsIn K cStatics "thirdparty.any" = some none
  cg : PySem.W.specialIn K (.builtin "object.__class__") "__get__" = some (some (.builtin "getset_descriptor.__get__"))
  ctk : PySem.W.takesIn K (.builtin "object.__class__") = some true
  zs : PySem.W.nsIn K mainGlobals "super" = some none
  top : (P.main.scope.names.lookup ("super" : Str)).isSome = false
inductive NoneOf (K : Frag) (C : Addr) : List Str → Prop
  | nil : NoneOf K C []
  | cons {f : Str} {fs : List Str} : PySem.W.findIn K (.ref C) f = some none → NoneOf K C fs → NoneOf K C (f :: fs)
theorem NoneOf.all {K : Frag} {C : Addr} {fs : List Str} (h : NoneOf K C fs) : ∀ f ∈ fs, PySem.W.findIn K (.ref C) f = some none := by
  induction h with
  | nil => intro f hf; cases hf
  | cons h1 _ ih =>
    intro f hf
    rcases List.mem_cons.mp hf with e | e
    · rw [e]; exact h1
    · exact ih f e
section
variable {P : Program} {K : Frag} {mg : Str → Option Value} {B C D : Addr} {x y : Str} {fs gs : List Str}
theorem sub_of {nm q : Str} {N : Addr} {bs : List Value} {sn : List Str} {sub : List Value} {ab : Bool} {col : Option Bool} {dd : Option Addr} {k0 k1 k2 k3 k5 : Option Value} (h : K.lookup C = some (excClassObj nm q C N bs (.ref B :: HandSPX.veTail) true sn sub ab col dd k0 k1 k2 k3 k5 "ValueError.__new__")) (v : Value) :
    PySem.W.subIn K (.ref C) v = some ((.ref C :: .ref B :: HandSPX.veTail).contains v) := by
  show PySem.W.mroIn K C v = _
  unfold PySem.W.mroIn PySem.W.clsIn
  rw [h] <;> rfl
theorem ErrAt.sub (h : ErrAt P K mg B x C fs) (v : Value) : PySem.W.subIn K (.ref C) v = some ((.ref C :: .ref B :: HandSPX.veTail).contains v) := by
  obtain ⟨nm, q, N, bs, sn, sub, ab, col, dd, k0, k1, k2, k3, k5, e⟩ := h.cls
  exact sub_of e v
theorem ErrAt.isCls (h : ErrAt P K mg B x C fs) : (PySem.W.clsIn K C).isSome = true := by
  obtain ⟨cd, hc, _⟩ := PySem.W.any_some h.is.hd
  rw [hc] <;> rfl
/-- an error against a clause of another, of its own, of the base -/
theorem ErrAt.exm (h : ErrAt P K mg B x C fs) (g : ErrAt P K mg B y D gs) (hb : D ≠ B) : PySem.W.exmOne K (.ref C) (.ref D) = some (decide (C = D)) := by
  refine PySem.W.exm_ref g.is.hs g.is.hd g.ty ?_
  rw [h.sub]
  congr 1
  by_cases e : C = D
  · subst e; simp
  · have e1 : (Value.ref D == Value.ref C) = false := by simpa using fun z => e z.symm
    have e2 : (Value.ref D == Value.ref B) = false := by simpa using hb
    have e3 : HandSPX.veTail.contains (Value.ref D) = false := rfl
    simp only [List.contains_cons, e1, e2, e3, decide_eq_false e, Bool.or_false]
theorem ErrAt.kit (h : ErrAt P K mg B x C fs) (g : ErrAt P K mg B y D gs) (hb : D ≠ B) : PySem.W.kitOne K (.ref C) (.ref D) = some (decide (C = D)) := by
  unfold PySem.W.kitOne
  by_cases e : C = D
  · subst e; simp
  · have e1 : (Value.ref C == Value.ref D) = false := by simpa using e
    rw [if_neg (by rw [e1]; decide)]
    show (if ((PySem.W.clsIn K D).isSome && PySem.W.typeIn K (.ref D) == some (.type "type")) = true then PySem.W.subIn K (.ref C) (.ref D) else none) = _
    rw [if_pos (by rw [g.isCls, g.ty]; rfl), h.sub]
    have e2 : (Value.ref D == Value.ref B) = false := by simpa using hb
    have e3 : HandSPX.veTail.contains (Value.ref D) = false := rfl
    have e4 : (Value.ref D == Value.ref C) = false := by simpa using fun z => e z.symm
    simp only [List.contains_cons, e4, e2, e3, decide_eq_false e, Bool.or_false]
theorem ErrAt.kitVE (h : ErrAt P K mg B x C fs) : PySem.W.kitOne K (.ref C) (.type "ValueError") = some true := by
  unfold PySem.W.kitOne
  rw [if_neg (show ¬ ((Value.ref C == Value.type "ValueError") = true) by simp)]
  show (if PySem.W.kitMeta "ValueError" = true then PySem.W.subIn K (.ref C) (.type "ValueError") else none) = _
  rw [if_pos (by decide +kernel), h.sub]
  congr 1
theorem ErrAt.exmB (h : ErrAt P K mg B x C fs) (b : BaseAt K mg y B) : PySem.W.exmOne K (.ref C) (.ref B) = some true := by
  refine PySem.W.exm_ref b.sub b.hd b.ty ?_
  rw [h.sub]
  congr 1
  simp only [List.contains_cons, BEq.rfl, Bool.true_or, Bool.or_true]
end
theorem errAt_mk {P : Program} {K : Frag} {h : Heap} {mg : Str → Option Value} {x qual : Str} {st : Stmt} {fs : List Str} {B C fI N cda cc : Addr} {nm q : Str} {bs : List Value} {sn : List Str} {sub : List Value} {ab : Bool} {col : Option Bool} {dd : Option Addr} {k0 k1 k2 k3 k5 : Option Value}
    {oc kV doc pm ct cl cl2 : Value} {od an cld cld2 : Option Addr} {osl csl csl2 : Array (Option Value)} {vs : Array Value} {file : Str} {tf : Tok} {xb : Str} (b : BaseAt K mg xb B) (S0 : Shared0 P K) (X : K.In h) (G : h.Ns mainGlobals mg)
    (aC : PySem.W.nsIn K mainGlobals x = some (some (.ref C))) (xL : K.lookup C = some (excClassObj nm q C N bs (.ref B :: HandSPX.veTail) true sn sub ab col dd k0 k1 k2 k3 k5 "ValueError.__new__"))
    (sa : PySem.W.findIn K (.ref C) "__setattr__" = some (some (.builtin "object.__setattr__"))) (ty : PySem.W.typeIn K (.ref C) = some (.type "type")) (kC : PySem.W.keepIn K (.ref C) = true)
    (iC : PySem.W.findIn K (.ref C) "__init__" = some (some (.ref fI))) (tI : PySem.W.typeIn K (.ref fI) = some (.type "function"))
    (l : K.lookup fI = some ⟨oc, od, .func (PySem.W.ksFn "__init__" qual (defArgs st) (defBody st) (defScope st) .none kV doc pm an (.ref cda) ct cc), osl⟩) (c : PySem.W.codeIn K (.ref cda) qual = true)
    (ce : K.lookup cc = some ⟨cl, cld, .cell (some (.ref C)), csl⟩) (co : K.lookup cda = some ⟨cl2, cld2, .fields vs, csl2⟩) (cv : vs[2]? = some (.str file tf)) (cf : ((P.main.file : Str) == file) = true)
    (no : NoneOf K C fs)
    (ga : PySem.W.findIn K (.ref C) "__getattribute__" = some (some (.builtin "BaseException.__getattribute__"))) (gg : PySem.W.findIn K (.ref C) "__getattr__" = some none) (hd : PySem.W.hasDictIn K C = true)
    (ca : PySem.W.findIn K (.ref C) "__class__" = some (some (.builtin "object.__class__")))
    (txt : ExBody st fs) (ne : fs ≠ []) (few : fs.length ≤ 900)
    (bi : ∀ (kV doc pm : Value) (an : Option Addr) (cdv ct : Value) (cc : Addr) (us : List Value), us.length = (("self" : Str) :: fs).length → bindArgs (PySem.W.ksFn "__init__" qual (defArgs st) (defBody st) (defScope st) .none kV doc pm an cdv ct cc) ⟨us, []⟩ = pure ((("self" : Str) :: fs).zip us)) :
    ErrAt P K mg B x C fs := by
  have sb := fun v => sub_of (B := B) xL v
  have ex : PySem.W.subIn K (.ref C) (.type "BaseException") = some true := by rw [sb]; rfl
  have no' := no.all
  have hcl : PySem.W.clsIn K C = some { name := nm, bases := bs, mro := .ref C :: .ref B :: HandSPX.veTail, ns := N, qualname := q, hasDict := true, slotNames := sn, subclasses := sub, abstract := ab, collection := col, hasDel := false } := by unfold PySem.W.clsIn; rw [xL] <;> rfl
  have su : PySem.W.ks_superIn K C C "__init__" = some (some (.builtin "ValueError.__init__")) := by
    obtain ⟨nm1, q1, N1, bs1, sn1, sub1, ab1, col1, dd1, j0, j1, j2, j3, j5, eB⟩ := b.cls
    have fB := b.ini
    have e2 : PySem.W.findIn K (.ref B) "__init__" = PySem.W.alongIn K "__init__" (.ref B :: HandSPX.veTail) := by
      show (match K.lookup B with | some ⟨_, _, .cls cd, _⟩ => PySem.W.alongIn K "__init__" cd.mro | _ => none) = _
      rw [eB] <;> rfl
    rw [e2] at fB
    unfold PySem.W.ks_superIn
    rw [hcl, Option.bind_some]
    have e3 : ((Value.ref C :: Value.ref B :: HandSPX.veTail).dropWhile (· != Value.ref C)).drop 1 = .ref B :: HandSPX.veTail := by
      (rw [List.dropWhile_cons_of_neg (by simp)]); rfl
    show PySem.W.alongIn K "__init__" (((Value.ref C :: Value.ref B :: HandSPX.veTail).dropWhile (· != Value.ref C)).drop 1) = _
    rw [e3]; exact fB
  have rv : HandSPX.refsVE (.ref B :: HandSPX.veTail) = true := by show HandSPX.refsVE HandSPX.veTail = true; decide +kernel
  have ox : OexC K C := ⟨⟨nm, q, N, bs, _, sn, sub, ab, col, dd, k0, k1, k2, k3, k5, xL, rv⟩, sa, ex, ty, kC⟩
  have me : PySem.W.mroIn K C (.ref C) = some true := (sb (.ref C)).trans (by simp only [List.contains_cons, BEq.rfl, Bool.true_or])
  have T : ExCls P K C fI qual st fs _ := ⟨ox, iC, tI, ⟨oc, od, kV, doc, pm, an, cda, ct, cc, osl, rfl, l, c, ⟨cl, cld, csl, ce⟩, cl2, cld2, vs, csl2, file, tf, co, cv, cf⟩, su, S0.opq, me, by rw [sb]; rfl, no', S0.top, txt⟩
  exact ⟨⟨⟨fI, qual, st, _, T, .all fun us hu => bi kV doc pm an (.ref cda) ct cc us hu⟩, PySem.W.mg_of X G aC, PySem.W.mg_none_of X G S0.zs, ne, few⟩, ⟨ga, gg, ex, hd⟩, no', ⟨ga, gg, ex, hd, ca, S0.cg, S0.ctk, (sb (.type "object")).trans rfl⟩, ⟨nm, q, N, bs, sn, sub, ab, col, dd, k0, k1, k2, k3, k5, xL⟩, ty⟩
/-! ### defs that may raise -/
structure HasE (P : Program) (w : World) (K : Frag) (mg : Str → Option Value) (base : Heap) (x : Str) (k : Nat) (sp : Sp) : Prop where
  ex : ∃ (f : Addr) (fd : FuncData) (ps : List Str), FnOk P w K mg base (L2.CX P w) k f fd ps sp ∧ mg x = some (.ref f) ∧ PySem.W.keepIn K (.ref f) = true ∧ Binds K fd ps []
structure HasMX (P : Program) (w : World) (K : Frag) (mg : Str → Option Value) (base : Heap) (C : Addr) (m : Str) (k : Nat) (sp : Sp) : Prop where
  ex : ∃ (f : Addr) (fd : FuncData) (ps : List Str), FnOk P w K mg base (L2.CX P w) k f fd ps sp ∧ Meth K C m f ∧ Cls K C ∧ Binds K fd ps []
structure HasCX (P : Program) (w : World) (K : Frag) (mg : Str → Option Value) (base : Heap) (x : Str) (C : Addr) (k : Nat) (sp : Sp) : Prop where
  ex : ∃ (f : Addr) (fd : FuncData) (ps : List Str), FnOk P w K mg base (L2.CX P w) k f fd ps sp ∧ Mk K C f ∧ mg x = some (.ref C) ∧ Binds K fd ps []
def tFnE (sp : Sp) (W : WX) (t : TA) : TE := fun σ H Q => t σ H fun vs H1 => sp vs H1 Q fun c d H2 => W c d σ H2
/-- the fields of the error that the suite holds -/
abbrev XfR (a : Addr) (cls : Value) (d : Option Addr) (C : Addr) (f : Str) (te : TE) : TE := tXf a cls d C f te
section
variable {X : Cx} {k : Nat} {B C : Addr} {sp : Sp} {x m : Str} {q1 q2 q3 : Pos} {a1 o1 : Expr} {r1 : List Expr} {ta : TE} {t : TA} {W : WX} {fs : List Str}
/-- called, nothing is let out -/
theorem pe_fnQ (h : HasE X.prog X.w X.K X.mg X.base x k sp) (hr : Room k X.A) (hg : Gl X x) (ha : PA X (a1 :: r1) t) (z1 : (x == ("__debug__" : Str)) = false := by decide)
    (z2 : starEach (a1 :: r1) X.env = (false, eval a1 X.env) :: starEach r1 X.env := by rfl) (z3 : (backTo q2 (starEach r1 X.env)).any (·.1) = false := by rfl) : PE X (.Call (.Name x q1) (a1 :: r1) [] q2) (tFn sp t) := by
  obtain ⟨f, fd, ps, F, hm, hk, hb⟩ := h.ex
  have r := pe_call (p := q1) (pos := q2) F hr hg hm hk hb .nil passL ha z1 z2 z3
  exact ⟨fun pn s σ H Q I q => r.run pn s σ H Q I (by simp only [tCall, List.append_nil]; exact q)⟩
/-- called, what it raises is taken -/
theorem pe_fnE (h : HasE X.prog X.w X.K X.mg X.base x k sp) (hr : Room k X.A) (tk : Takes X W) (hg : Gl X x) (ha : PA X (a1 :: r1) t) (z1 : (x == ("__debug__" : Str)) = false := by decide)
    (z2 : starEach (a1 :: r1) X.env = (false, eval a1 X.env) :: starEach r1 X.env := by rfl) (z3 : (backTo q2 (starEach r1 X.env)).any (·.1) = false := by rfl) : PE X (.Call (.Name x q1) (a1 :: r1) [] q2) (tFnE sp W t) := by
  obtain ⟨f, fd, ps, F, hm, hk, hb⟩ := h.ex
  have r := pe_callS (p := q1) (pos := q2) (E := fun σ c d H2 => W c d σ H2) F hr hg hm hk hb (fun σ => passAt tk σ) ha z1 z2 z3
  exact ⟨fun pn s σ H Q I q => r.run pn s σ H Q I q⟩
theorem pe_xfE {P : Program} {K : Frag} {mg : Str → Option Value} {a : Addr} {oe : Obj} {cls : Value} {d : Option Addr} {pn : List (Addr × Obj)} (h : ErrAt P K mg B x C fs) (hm : m ∈ fs) (hz : Zc cls d oe) (hf : ∃ vs, oe.data = .fields vs) (he : PE (X.suite a ((a, oe) :: pn)) o1 ta) (hK : X.K = K := by rfl) (hb : attributeBase o1 m X.env (eval o1 X.env) = eval o1 X.env := by rfl) :
    PE (X.suite a ((a, oe) :: pn)) (.Attribute o1 m q1) (tXf a cls d C m ta) := by
  subst hK
  exact pe_xf h.xf (h.no m hm) hz hf he hb
end
end Tb

set_option Elab.async false
set_option linter.all false
set_option maxRecDepth 100000
set_option maxHeartbeats 3999000
namespace Tb
open PySem L2
open C8 (pss_cut tCut)
open PySem.W (Frag)
/-! ### great ints -/
def Bd (n : Nat) (x : Int) : Prop := x.natAbs < 2 ^ n
theorem Bd.mul {a b : Nat} {i j : Int} (h : Bd a i) (k : Bd b j) : Bd (a + b) (i * j) := wide_lt h k
theorem Bd.mono {a b : Nat} {i : Int} (h : Bd a i) (l : a ≤ b) : Bd b i := Nat.lt_of_lt_of_le h (Nat.pow_le_pow_right (by decide) l)
theorem Bd.add {a b : Nat} {i j : Int} (h : Bd a i) (k : Bd b j) : Bd (max a b + 1) (i + j) := by
  have h' : i.natAbs < 2 ^ max a b := h.mono (Nat.le_max_left _ _)
  have k' : j.natAbs < 2 ^ max a b := k.mono (Nat.le_max_right _ _)
  have e : 2 ^ (max a b + 1) = 2 * 2 ^ max a b := by rw [Nat.pow_succ, Nat.mul_comm]
  unfold Bd
  omega
theorem Bd.neg {a : Nat} {i : Int} (h : Bd a i) : Bd a (-i) := by unfold Bd at *; omega
theorem Bd.sub {a b : Nat} {i j : Int} (h : Bd a i) (k : Bd b j) : Bd (max a b + 1) (i - j) := by
  have := h.add k.neg
  rw [Int.sub_eq_add_neg]; exact this
theorem Bd.le {a : Nat} {i j : Int} (h : Bd a j) (h0 : 0 ≤ i) (h1 : i ≤ j) : Bd a i := by unfold Bd at *; omega
theorem Bd.between {a : Nat} {i j l : Int} (h : Bd a j) (h' : Bd a l) (h0 : l ≤ i) (h1 : i ≤ j) : Bd a i := by unfold Bd at *; omega
theorem Bd.div {a : Nat} {i j : Int} (h : Bd a i) (hj : 0 < j) : Bd a (i / j) := by
  unfold Bd at *
  by_cases c : 0 ≤ i
  · have h1 : i / j ≤ i := Int.ediv_le_self _ c
    have h2 : 0 ≤ i / j := Int.ediv_nonneg c (by omega)
    omega
  · have h1 : i ≤ i / j := by
      apply Int.le_ediv_of_mul_le hj
      have : i * j ≤ i * 1 := Int.mul_le_mul_of_nonpos_left (by omega) (by omega)
      omega
    have h2 : i / j ≤ 0 := by
      apply Int.le_of_lt_add_one
      apply Int.ediv_lt_of_lt_mul hj
      omega
    omega
theorem bd_of {a : Nat} {i : Int} (n : Int) (h0 : 0 ≤ i) (h1 : i ≤ n) (h : Bd a n) : Bd a i := h.le h0 h1
theorem bd_most {i : Int} (h0 : 0 ≤ i) (h1 : i ≤ 10 ^ 60) : Bd 200 i := bd_of (10 ^ 60) h0 h1 (by unfold Bd; decide)
theorem bd_lit {a : Nat} {i : Int} (h : i.natAbs < 2 ^ a) : Bd a i := h
theorem cmul {a b : Nat} {i j : Int} (h : Bd a i) (k : Bd b j) (h0 : 0 < a := by decide) (h1 : 0 < b := by decide) (h2 : a + b ≤ 1000000 := by decide) : CMulW i j := wide_mul h k h0 h1 h2
theorem cdiv {b : Nat} {i j : Int} (h : 0 < j) (k : Bd b j) (h0 : 0 < b := by decide) (h9 : b ≤ 9000 := by decide) : CDivW i j := wide_div h k h0 h9
theorem ifD {c A B : Prop} [i : Decidable c] (h1 : c → A) (h2 : ¬ c → B) : if decide c = true then A else B := by
  by_cases h : c
  · rw [if_pos (decide_eq_true h)]; exact h1 h
  · rw [if_neg (by rw [decide_eq_false h]; decide)]; exact h2 h
theorem ifD_pos {c A B : Prop} [i : Decidable c] (h : c) (a : A) : if decide c = true then A else B := ifD (fun _ => a) fun z => absurd h z
theorem ifD_neg {c A B : Prop} [i : Decidable c] (h : ¬ c) (a : B) : if decide c = true then A else B := ifD (fun z => absurd z h) fun _ => a
theorem same_new {H H' : Hp} {p : Addr} {o : HO} (s : Same H H') (h : H' p = none) : Same H (upd H' p o) := fun c u hc => by
  rw [upd_ne (ne_of_none (s c u hc) h)]; exact s c u hc
theorem lk_ne {a k : Str} {v : V} {r : List (Str × V)} (h : (a == k) = false) : List.lookup a ((k, v) :: r) = List.lookup a r := by
  rw [List.lookup_cons, h]
theorem lk_eq {a : Str} {v : V} {r : List (Str × V)} : List.lookup a ((a, v) :: r) = some v := by
  rw [List.lookup_cons]; simp
theorem putF_ne {f k : Str} {v u : V} {r : List (Str × V)} (h : ¬ k = f) : putF f v ((k, u) :: r) = (k, u) :: putF f v r := by
  show (if k = f then _ else _) = _
  rw [if_neg h]
theorem pow_pos' (n : Nat) : (1 : Int) ≤ 2 ^ n := by
  have := Int.pow_pos (n := 2) (m := n) (by decide)
  omega
theorem bd_pow {n k : Nat} (h : n < k) : Bd k ((2 : Int) ^ n) := by
  unfold Bd
  have : ((2 : Int) ^ n).natAbs = 2 ^ n := by rw [Int.natAbs_pow]; rfl
  rw [this]
  exact Nat.pow_lt_pow_right (by decide) h
/-! ### the bag: what the script draws -/
def SameBut (p : Addr) (H H' : Hp) : Prop := ∀ b o, H b = some o → b ≠ p → H' b = some o
theorem SameBut.refl (p : Addr) (H : Hp) : SameBut p H H := fun _ _ h _ => h
theorem SameBut.trans {p : Addr} {H H1 H2 : Hp} (a : SameBut p H H1) (b : SameBut p H1 H2) : SameBut p H H2 := fun c o h n => b c o (a c o h n) n
theorem Same.but {p : Addr} {H H1 : Hp} (a : Same H H1) : SameBut p H H1 := fun c o h _ => a c o h
theorem SameBut.upd {p : Addr} {H H1 : Hp} {o : HO} (a : SameBut p H H1) : SameBut p H (upd H1 p o) := fun c u h n => by
  rw [upd_ne n]; exact a c u h n
theorem SameBut.new {p q : Addr} {H H1 : Hp} {o : HO} (a : SameBut p H H1) (hq : H q = none) : SameBut p H (L2.upd H1 q o) := fun c u h n => by
  rw [upd_ne (ne_of_none h hq)]; exact a c u h n
def bagKV (c : Addr) (ix dg ct fo : Int) : List (Key × V) := [(.inr "cells", .ref c), (.inr "at", .int ix), (.inr "digits", .int dg), (.inr "count", .int ct), (.inr "fold", .int fo)]
theorem mapK_pos {p : Key × V} {r : List (Key × V)} {k : Key} {v : V} (e : p.1 = k) : (p :: r).map (fun kv => if kv.1 = k then (kv.1, v) else kv) = (p.1, v) :: r.map (fun kv => if kv.1 = k then (kv.1, v) else kv) := by
  rw [List.map_cons, if_pos e]
theorem mapK_neg {p : Key × V} {r : List (Key × V)} {k : Key} {v : V} (e : ¬ p.1 = k) : (p :: r).map (fun kv => if kv.1 = k then (kv.1, v) else kv) = p :: r.map (fun kv => if kv.1 = k then (kv.1, v) else kv) := by
  rw [List.map_cons, if_neg e]
theorem putK_old {kvs : List (Key × V)} {k : Key} {u v : V} (h : valV kvs k = some u) : putK kvs k v = kvs.map (fun kv => if kv.1 = k then (kv.1, v) else kv) := by
  unfold putK
  rw [if_pos (by rw [valV_any, h]; rfl)]
theorem mergeK_nd : ∀ (kvs acc : List (Key × V)), ((acc ++ kvs).map (·.1)).Nodup → mergeK acc kvs = acc ++ kvs
  | [], acc, _ => by simp [mergeK]
  | (k, v) :: r, acc, h => by
    have hn : valV acc k = none := by
      cases e : valV acc k with
      | none => rfl
      | some u =>
        have hm := valV_in e
        rw [List.map_append, List.nodup_append] at h
        exact absurd rfl (h.2.2 k hm k (by simp))
    show mergeK (putK acc k v) r = _
    rw [putK_new v hn, mergeK_nd r (acc ++ [(k, v)]) (by rw [List.append_assoc]; exact h), List.append_assoc]
    rfl
section
variable {c : Addr} {ix dg ct fo v : Int} {H : Hp} {p : Addr}
theorem v_cells : valV (bagKV c ix dg ct fo) (Sum.inr "cells") = some (.ref c) := by unfold bagKV; rw [valV_pos rfl]
theorem v_at : valV (bagKV c ix dg ct fo) (Sum.inr "at") = some (.int ix) := by
  unfold bagKV; rw [valV_neg (by show ¬ (Sum.inr "cells" : Key) = (Sum.inr "at" : Key); decide +kernel), valV_pos rfl]
theorem v_digits : valV (bagKV c ix dg ct fo) (Sum.inr "digits") = some (.int dg) := by
  unfold bagKV; rw [valV_neg (by show ¬ (Sum.inr "cells" : Key) = (Sum.inr "digits" : Key); decide +kernel), valV_neg (by show ¬ (Sum.inr "at" : Key) = (Sum.inr "digits" : Key); decide +kernel), valV_pos rfl]
theorem v_count : valV (bagKV c ix dg ct fo) (Sum.inr "count") = some (.int ct) := by
  unfold bagKV; rw [valV_neg (by show ¬ (Sum.inr "cells" : Key) = (Sum.inr "count" : Key); decide +kernel), valV_neg (by show ¬ (Sum.inr "at" : Key) = (Sum.inr "count" : Key); decide +kernel), valV_neg (by show ¬ (Sum.inr "digits" : Key) = (Sum.inr "count" : Key); decide +kernel), valV_pos rfl]
theorem v_fold : valV (bagKV c ix dg ct fo) (Sum.inr "fold") = some (.int fo) := by
  unfold bagKV; rw [valV_neg (by show ¬ (Sum.inr "cells" : Key) = (Sum.inr "fold" : Key); decide +kernel), valV_neg (by show ¬ (Sum.inr "at" : Key) = (Sum.inr "fold" : Key); decide +kernel), valV_neg (by show ¬ (Sum.inr "digits" : Key) = (Sum.inr "fold" : Key); decide +kernel), valV_neg (by show ¬ (Sum.inr "count" : Key) = (Sum.inr "fold" : Key); decide +kernel), valV_pos rfl]
theorem g_cells (h : H p = some (.dK (bagKV c ix dg ct fo))) : DGet H p (.str "cells") (some (.ref c)) := .inl ⟨_, Sum.inr "cells", .inl h, rfl, v_cells.symm⟩
theorem g_at (h : H p = some (.dK (bagKV c ix dg ct fo))) : DGet H p (.str "at") (some (.int ix)) := .inl ⟨_, Sum.inr "at", .inl h, rfl, v_at.symm⟩
theorem g_digits (h : H p = some (.dK (bagKV c ix dg ct fo))) : DGet H p (.str "digits") (some (.int dg)) := .inl ⟨_, Sum.inr "digits", .inl h, rfl, v_digits.symm⟩
theorem g_count (h : H p = some (.dK (bagKV c ix dg ct fo))) : DGet H p (.str "count") (some (.int ct)) := .inl ⟨_, Sum.inr "count", .inl h, rfl, v_count.symm⟩
theorem g_fold (h : H p = some (.dK (bagKV c ix dg ct fo))) : DGet H p (.str "fold") (some (.int fo)) := .inl ⟨_, Sum.inr "fold", .inl h, rfl, v_fold.symm⟩
theorem q_at : putK (bagKV c ix dg ct fo) (Sum.inr "at") (.int v) = bagKV c v dg ct fo := by
  rw [putK_old v_at]; unfold bagKV
  rw [mapK_neg (by show ¬ (Sum.inr "cells" : Key) = (Sum.inr "at" : Key); decide +kernel), mapK_pos (k := (Sum.inr "at" : Key)) rfl, mapK_neg (by show ¬ (Sum.inr "digits" : Key) = (Sum.inr "at" : Key); decide +kernel), mapK_neg (by show ¬ (Sum.inr "count" : Key) = (Sum.inr "at" : Key); decide +kernel), mapK_neg (by show ¬ (Sum.inr "fold" : Key) = (Sum.inr "at" : Key); decide +kernel)]; rfl
theorem q_digits : putK (bagKV c ix dg ct fo) (Sum.inr "digits") (.int v) = bagKV c ix v ct fo := by
  rw [putK_old v_digits]; unfold bagKV
  rw [mapK_neg (by show ¬ (Sum.inr "cells" : Key) = (Sum.inr "digits" : Key); decide +kernel), mapK_neg (by show ¬ (Sum.inr "at" : Key) = (Sum.inr "digits" : Key); decide +kernel), mapK_pos (k := (Sum.inr "digits" : Key)) rfl, mapK_neg (by show ¬ (Sum.inr "count" : Key) = (Sum.inr "digits" : Key); decide +kernel), mapK_neg (by show ¬ (Sum.inr "fold" : Key) = (Sum.inr "digits" : Key); decide +kernel)]; rfl
theorem q_count : putK (bagKV c ix dg ct fo) (Sum.inr "count") (.int v) = bagKV c ix dg v fo := by
  rw [putK_old v_count]; unfold bagKV
  rw [mapK_neg (by show ¬ (Sum.inr "cells" : Key) = (Sum.inr "count" : Key); decide +kernel), mapK_neg (by show ¬ (Sum.inr "at" : Key) = (Sum.inr "count" : Key); decide +kernel), mapK_neg (by show ¬ (Sum.inr "digits" : Key) = (Sum.inr "count" : Key); decide +kernel), mapK_pos (k := (Sum.inr "count" : Key)) rfl, mapK_neg (by show ¬ (Sum.inr "fold" : Key) = (Sum.inr "count" : Key); decide +kernel)]; rfl
theorem q_fold : putK (bagKV c ix dg ct fo) (Sum.inr "fold") (.int v) = bagKV c ix dg ct v := by
  rw [putK_old v_fold]; unfold bagKV
  rw [mapK_neg (by show ¬ (Sum.inr "cells" : Key) = (Sum.inr "fold" : Key); decide +kernel), mapK_neg (by show ¬ (Sum.inr "at" : Key) = (Sum.inr "fold" : Key); decide +kernel), mapK_neg (by show ¬ (Sum.inr "digits" : Key) = (Sum.inr "fold" : Key); decide +kernel), mapK_neg (by show ¬ (Sum.inr "count" : Key) = (Sum.inr "fold" : Key); decide +kernel), mapK_pos (k := (Sum.inr "fold" : Key)) rfl]; rfl
theorem bag_sz : (bagKV c ix dg ct fo).length < sizeLine := by show 5 < sizeLine; decide
theorem p_at (h : H p = some (.dK (bagKV c ix dg ct fo))) : DPut H p (.str "at") (.int v) (upd H p (.dK (bagKV c v dg ct fo))) := .inl ⟨_, Sum.inr "at", h, rfl, bag_sz, by rw [q_at]⟩
theorem p_digits (h : H p = some (.dK (bagKV c ix dg ct fo))) : DPut H p (.str "digits") (.int v) (upd H p (.dK (bagKV c ix v ct fo))) := .inl ⟨_, Sum.inr "digits", h, rfl, bag_sz, by rw [q_digits]⟩
theorem p_count (h : H p = some (.dK (bagKV c ix dg ct fo))) : DPut H p (.str "count") (.int v) (upd H p (.dK (bagKV c ix dg v fo))) := .inl ⟨_, Sum.inr "count", h, rfl, bag_sz, by rw [q_count]⟩
theorem p_fold (h : H p = some (.dK (bagKV c ix dg ct fo))) : DPut H p (.str "fold") (.int v) (upd H p (.dK (bagKV c ix dg ct v))) := .inl ⟨_, Sum.inr "fold", h, rfl, bag_sz, by rw [q_fold]⟩
end
/-- a bag from which at most n were drawn -/
structure BagAt (H : Hp) (p : Addr) (n : Nat) : Prop where
  ex : ∃ (c : Addr) (ns : List Int) (ix dg ct fo : Int), H p = some (.dK (bagKV c ix dg ct fo)) ∧ H c = some (.lst (ns.map V.int)) ∧ 0 ≤ ix ∧ 0 ≤ dg ∧ 0 ≤ ct ∧ ct ≤ n ∧ 0 ≤ fo ∧ fo < 4294967296
theorem BagAt.mono {H : Hp} {p : Addr} {n k : Nat} (B : BagAt H p n) (h : n ≤ k) : BagAt H p k := by
  obtain ⟨c, ns, ix, dg, ct, fo, h1, h2, h3, h4, h5, h6, h7⟩ := B.ex
  exact ⟨c, ns, ix, dg, ct, fo, h1, h2, h3, h4, h5, by omega, h7⟩
theorem BagAt.same {H H' : Hp} {p : Addr} {n : Nat} (B : BagAt H p n) (s : Same H H') : BagAt H' p n := by
  obtain ⟨c, ns, ix, dg, ct, fo, h1, h2, h3⟩ := B.ex
  exact ⟨c, ns, ix, dg, ct, fo, s _ _ h1, s _ _ h2, h3⟩
theorem BagAt.ne_ins {H : Hp} {p q C dx : Addr} {n : Nat} {fs : List (Str × V)} (B : BagAt H p n) (h : H q = some (.ins C dx fs)) : q ≠ p := by
  obtain ⟨c, ns, ix, dg, ct, fo, h1, _⟩ := B.ex
  exact ne_of h h1 (by intro z; cases z)
theorem BagAt.ne_lst {H : Hp} {p q : Addr} {n : Nat} {xs : List V} (B : BagAt H p n) (h : H q = some (.lst xs)) : q ≠ p := by
  obtain ⟨c, ns, ix, dg, ct, fo, h1, _⟩ := B.ex
  exact ne_of h h1 (by intro z; cases z)
/-! ### promises -/
def spBag (K : Frag) : Sp := fun vs H Q _ => ∃ (a : Addr) (ns : List Int), vs = [.ref a] ∧ SqL K H a (ns.map V.int) ∧ ns.length ≤ 63 ∧ ∀ p H', H p = none → Same H H' → BagAt H' p 0 → Q (.ref p) H'
def spDraw : Sp := fun vs H Q _ => ∃ (p : Addr) (n : Nat) (lim : Int), vs = [.ref p, .int lim] ∧ BagAt H p n ∧ n < 2 ^ 40 ∧ 0 < lim ∧ Bd 5000 lim ∧ ∀ r H', 0 ≤ r → r < lim → BagAt H' p (n + 1) → SameBut p H H' → Q (.int r) H'
def spPick : Sp := fun vs H Q _ => ∃ (p a : Addr) (n : Nat) (xs : List V), vs = [.ref p, .ref a] ∧ BagAt H p n ∧ n < 2 ^ 40 ∧ H a = some (.lst xs) ∧ 0 < xs.length ∧ xs.length < 1000 ∧ ∀ v H', v ∈ xs → BagAt H' p (n + 1) → SameBut p H H' → Q v H'
/-- no name of the program hides a built-in one -/
structure Bl (mg : Str → Option Value) : Prop where
  range : mg "range" = none
  len : mg "len" = none
  int : mg "int" = none
  bool : mg "bool" = none
  min : mg "min" = none
  max : mg "max" = none
  list : mg "list" = none
  isinstance : mg "isinstance" = none
  abs : mg "abs" = none
  tuple : mg "tuple" = none
  str : mg "str" = none
  dict : mg "dict" = none
  sorted : mg "sorted" = none
  all : mg "all" = none
  any : mg "any" = none
  sum : mg "sum" = none
  set : mg "set" = none
  repr : mg "repr" = none
  enumerate : mg "enumerate" = none
  zip : mg "zip" = none
  ValueError : mg "ValueError" = none
end Tb

set_option Elab.async false
set_option linter.all false
set_option maxRecDepth 100000
set_option maxHeartbeats 3999000
namespace Tb
open PySem L2
open PySem.W (Frag)
/-! ### a def's two promises: where it answers, where it raises -/
def spOr (a b : Sp) : Sp := fun vs H Q E => a vs H Q E ∨ b vs H Q E
section
variable {P : Program} {w : World} {K : Frag} {mg : Str → Option Value} {base : Heap} {k j : Nat} {f : Addr} {fd : FuncData} {ps : List Str} {sp sq : Sp}
theorem fn_quiet (F : FnOk P w K mg base CX0 k f fd ps sp) : FnOk P w K mg base (L2.CX P w) k f fd ps sp :=
  ⟨F.len, fun A outer s H args us vs Q E hr e0 hb r h => codeAny_mono (F.run A outer s H args us vs Q E hr e0 hb r h) fun r s' z => by
    cases r with
    | error e => exact False.elim z
    | ok fl => cases fl <;> exact z⟩
theorem fn_or {CX : CXT} (F : FnOk P w K mg base CX k f fd ps sp) (G : FnOk P w K mg base CX k f fd ps sq) : FnOk P w K mg base CX k f fd ps (spOr sp sq) :=
  ⟨fun vs H Q E h => h.elim (F.len vs H Q E) (G.len vs H Q E), fun A outer s H args us vs Q E hr e0 hb r h => h.elim (fun z => F.run A outer s H args us vs Q E hr e0 hb r z) (fun z => G.run A outer s H args us vs Q E hr e0 hb r z)⟩
end
def tFnX (sp : Sp) (E : XK) (t : TA) : TE := fun σ H Q => t σ H fun vs H1 => sp vs H1 Q E
def tMthX (C : Addr) (m : Str) (sp : Sp) (E : XK) (ta : TE) (t : TA) : TE := fun σ H Q => ta σ H fun x H1 => ∃ a dx fs, x = .ref a ∧ H1 a = some (.ins C dx fs) ∧ fs.lookup m = none ∧
  t σ H1 fun vs H2 => sp (x :: vs) H2 Q E
def tMkE (C : Addr) (sp : Sp) (E : XK) (t : TA) : TE := fun σ H Q => t σ H fun vs H1 => ∀ x dx, H1 x = none → H1 dx = none → dx ≠ x →
  sp (.ref x :: vs) (upd (upd H1 dx (.own x)) x (.ins C dx [])) (fun v H2 => v = .non ∧ Q (.ref x) H2) E
section
variable {X : Cx} {k : Nat} {C : Addr} {sp : Sp} {x m : Str} {q1 q2 q3 : Pos} {a1 o1 : Expr} {r1 : List Expr} {ta : TE} {t : TA} {E : XK}
theorem pe_fnX (h : HasE X.prog X.w X.K X.mg X.base x k sp) (hr : Room k X.A) (hx : Passes (L2.CX X.prog X.w) X E) (hg : Gl X x) (ha : PA X (a1 :: r1) t) (z1 : (x == ("__debug__" : Str)) = false := by decide)
    (z2 : starEach (a1 :: r1) X.env = (false, eval a1 X.env) :: starEach r1 X.env := by rfl) (z3 : (backTo q2 (starEach r1 X.env)).any (·.1) = false := by rfl) : PE X (.Call (.Name x q1) (a1 :: r1) [] q2) (tFnX sp E t) := by
  obtain ⟨f, fd, ps, F, hm, hk, hb⟩ := h.ex
  have r := pe_call (p := q1) (pos := q2) F hr hg hm hk hb .nil hx ha z1 z2 z3
  exact ⟨fun pn s σ H Q I q => r.run pn s σ H Q I (by simp only [tCall, List.append_nil]; exact q)⟩
theorem pe_mthX {pl : Sem Bool} (he : PE X o1 ta) (h : HasMX X.prog X.w X.K X.mg X.base C m k sp) (hr : Room k X.A) (hx : Passes (L2.CX X.prog X.w) X E) (ha : PA X (a1 :: r1) t)
    (z2 : starEach (a1 :: r1) X.env = (false, eval a1 X.env) :: starEach r1 X.env := by rfl) (z3 : (backTo q2 (starEach r1 X.env)).any (·.1) = false := by rfl)
    (z4 : eval (.Call (.Attribute o1 m q3) (a1 :: r1) [] q2) X.env = (do let ov ← eval o1 X.env; standAt q3.atName; let (f, first) ← holding [ov] (getMethod ov m pl); callWith q2 f first (backTo q2 (starEach (a1 :: r1) X.env)) (backToKw q2 (keywordEach [] X.env))) := by rfl) :
    PE X (.Call (.Attribute o1 m q3) (a1 :: r1) [] q2) (tMthX C m sp E ta t) := by
  obtain ⟨f, fd, ps, F, hm, hc, hb⟩ := h.ex
  have r := pe_meth (pos := q2) (apos := q3) he hc hm F hr hb .nil hx ha z2 z3 z4
  exact ⟨fun pn s σ H Q I q => r.run pn s σ H Q I (by simp only [tMeth, List.append_nil]; exact q)⟩
theorem pe_mkX (h : HasCX X.prog X.w X.K X.mg X.base x C k sp) (hr : Room (k + 1) X.A) (hx : Passes (L2.CX X.prog X.w) X E) (hg : Gl X x) (ha : PA X (a1 :: r1) t) (z1 : (x == ("__debug__" : Str)) = false := by decide)
    (z2 : starEach (a1 :: r1) X.env = (false, eval a1 X.env) :: starEach r1 X.env := by rfl) (z3 : (backTo q2 (starEach r1 X.env)).any (·.1) = false := by rfl) : PE X (.Call (.Name x q1) (a1 :: r1) [] q2) (tMkE C sp E t) := by
  obtain ⟨f, fd, ps, F, hM, hm, hb⟩ := h.ex
  have r := pe_make (p := q1) (pos := q2) hM F hr hg hm hb .nil hx ha z1 z2 z3
  exact ⟨fun pn s σ H Q I q => r.run pn s σ H Q I (by simp only [tMake, List.append_nil]; exact q)⟩
/-- nothing comes behind st -/
theorem pss_stop {st : Stmt} {rest : List Stmt} {u : TS} (h : PS X st u) : PSs X (st :: rest) (fun D σ H => u { D with nx := fun _ _ => False } σ H) := by
  refine ⟨fun pn s σ H D I q => wpAny_execs_cons (wpAny_mono (h.run pn s σ H _ I q) (fun f s1 z => ?_) fun _ _ z => z)⟩
  cases f with
  | next => obtain ⟨_, _, _, z⟩ := z; exact z.elim
  | ret v => exact z
  | brk => exact z
  | cont => exact z
theorem op_eqDK {K : Frag} (hK : X.K = K) (hu : X.A.units + 64 < cLine) : OpR X (compareOp .Eq) (rEqD K) := by subst hK; exact op_eqD hu
theorem op_neDK {K : Frag} (hK : X.K = K) (hu : X.A.units + 64 < cLine) : OpR X (compareOp .NotEq) (rNeD K) := by subst hK; exact op_neD hu
end
end Tb

set_option Elab.async false
set_option linter.all false
set_option maxRecDepth 100000
set_option maxHeartbeats 3999000
namespace Tb
open PySem L2
open PySem.W (Frag)
open LamX (CodeO TabS Tabs ExtN TabB GivesTo)
/-! ### a def that gets a lambda and calls it within a try -/
/-- a(): tl is the lambda's reading; E, what it may raise, is wanted at all slots of the right number -/
def tAct (n : Nat) (f c' : Addr) (q : Str) (tl : XK → Hp → VK → Prop) (W : WX) : TE := fun σ H Q => ∃ E : XK, (∀ σ' : L2.St, σ'.length = n → ∀ c d H', E c d H' → W c d σ' H') ∧ σ[0]? = some (some (.ref f)) ∧ H c' = some (CodeO c' q) ∧ tl E H Q
theorem takes_len {X : Cx} {W : WX} (tk : Takes X W) : Takes X (fun c d σ H => σ.length = X.N.length → W c d σ H) := fun u s' ⟨a, B, sI, pins, σ, H, cls, d, e, I, nb, up, sky, na, os, ag, z⟩ =>
  tk u s' ⟨a, B, sI, pins, σ, H, cls, d, e, I, nb, up, sky, na, os, ag, z I.len⟩
/-- from the kit's form to ours -/
theorem gives_of {X : Cx} {Ng : List Str} {x a q : Str} {sg : Scope} {g : Addr} {cdg : Value} {bg : List Stmt} {TT : (XK → Hp → VK → Prop) → Hp → VK → Prop}
    (h : ∀ (f c' : Addr) (s : Shared) (H : Hp) (Q : VK) (tl : XK → Hp → VK → Prop),
      (∀ (W : WX) (pn : List (Addr × Obj)) (xe : Value → Shared → Prop) (p1 p2 : Pos), Takes ((cxOf CX0 X.prog X.w X.K X.mg X.base Ng x sg g cdg X.A X.stack s H E0).tr pn xe) W →
        PE ((cxOf CX0 X.prog X.w X.K X.mg X.base Ng x sg g cdg X.A X.stack s H E0).tr pn xe) (.Call (.Name a p1) [] [] p2) (tAct Ng.length f c' q tl W)) →
      H c' = some (CodeO c' q) → TT tl H Q →
      ∃ t, PSs (cxOf CX0 X.prog X.w X.K X.mg X.base Ng x sg g cdg X.A X.stack s H E0).nox bg t ∧ t { nx := fun _ H' => Q .non H', rt := Q } (L2.start Ng [.ref f]) H) :
    GivesTo X Ng x sg g cdg bg a q TT := by
  intro f c' s H Q tl act hc ht
  refine h f c' s H Q tl (fun W pn xe p1 p2 tk => ⟨fun pins s' σ H' Q' I z => ?_⟩) hc ht
  obtain ⟨E, hW, h1, h2, h3⟩ := z
  exact (act _ pn xe E p1 p2 (takes_len tk) (fun c d σ' H2 e hl => hW σ' hl c d H2 e)).run pins s' σ H' Q' I ⟨h1, h2, h3⟩
/-- x(lambda: body), x such a def: what is known of x -/
structure GivAt (K : Frag) (mg : Str → Option Value) (x a : Str) (st : Stmt) (Ng : List Str) (g : Addr) (cdg : Value) : Prop where
  hm : mg x = some (.ref g)
  hk : PySem.W.keepIn K (.ref g) = true
  ex : ∃ (oc : Value) (od : Option Addr) (kV doc pm : Value) (an : Option Addr) (ct : Value) (osl : Array (Option Value)), K.lookup g = some ⟨oc, od, .func (PySem.W.fnOf x x (defArgs st) (defBody st) (defScope st) .none kV doc pm an cdg ct), osl⟩ ∧
    L2.Binds K (PySem.W.fnOf x x (defArgs st) (defBody st) (defScope st) .none kV doc pm an cdg ct) [a] []
  hcg : PySem.W.codeIn K cdg x = true
  sc : FnScope Ng [a] (defScope st)
theorem pe_lam {X : Cx} {T : List (Addr × Str)} {TT : (XK → Hp → VK → Prop) → Hp → VK → Prop} {x a : Str} {st : Stmt} {g c P : Addr} {cdg : Value} {k : Nat} {Ng : List Str} {params : Arguments} {body : Expr} {scope : Scope} {t : XK → TE} {p lpos pos : Pos} (G : GivAt X.K X.mg x a st Ng g cdg) (hg : Gl X x) (hNg : Ng[0]? = some a) (hva : Vis (defScope st) a)
    (hG : GivesTo X Ng x (defScope st) g cdg (defBody st) a (X.env.qual ++ "<lambda>") TT) (TB : TabB X.base X.mg c P) (hcode : X.env.code = .ref c) (hmT : (P, X.env.qual ++ "<lambda>") ∈ T) (hu : ∀ p ∈ T, p.1 = P → p.2 = X.env.qual ++ "<lambda>") (hr : Room (k + 2) X.A) (L : LamX.LamS X.env.scope scope) (hdef : defaultsOf params X.env = ([], []))
    (hbind : ∀ (q : Str) (cl : List (Str × Addr)) (pm cv ctv : Value), bindArgs (PySem.W.kla_fn "<lambda>" q params body scope cl pm cv ctv) ⟨[], []⟩ = pure [])
    (hbody : ∀ (A : Around) (outer : List Env) (s : Shared) (H : Hp) (E : XK) (f c' : Addr), Room k (A.deeper (LamX.lamEnv X scope s.heap.objs.size f c')) → PE (LamX.lamCx X A outer s H E scope f c') body (t E))
    (z1 : (x == ("__debug__" : Str)) = false := by decide) (z2 : (a == ("__debug__" : Str)) = false := by decide) (z3 : (a == ("__classdict__" : Str)) = false := by decide) :
    PE X (.Call (.Name x p) [.Lambda params body scope lpos] [] pos) (LamX.tLam T TT t) := by
  obtain ⟨oc, od, kV, doc, pm, an, ct, osl, lk, hb⟩ := G.ex
  exact LamX.pe_lamcall hg G.hm G.hk lk G.hcg hb G.sc hNg hva hG TB hcode hmT hu hr L hdef hbind hbody z1 z2 z3
end Tb

set_option Elab.async false
set_option linter.all false
set_option maxRecDepth 100000
set_option maxHeartbeats 3999000
namespace Tb
open PySem PySem.Spec PyProof.Rows L2 LamX NdefX
open PySem.W (Frag)
/-! ### cells that a callee may know of: locked while it runs, unknown to their own frame -/
abbrev Cells := List (Addr × Obj)
def lk0 (o : Obj) : HO := .frz o (.own 0)
def addC (H : Hp) (cs : Cells) : Hp := fun b => match cs.lookup b with
  | some o => some (lk0 o)
  | none => H b
def delC (H : Hp) (cs : Cells) : Hp := fun b => match cs.lookup b with
  | some _ => none
  | none => H b
section
variable {P : Program} {w : World} {K : Frag} {mg : Str → Option Value} {base : Heap} {A : Around} {outer : List Env} {s : Shared} {H : Hp} {h : Heap} {cs : Cells} {b : Addr} {o : Obj}
theorem addC_in (e : cs.lookup b = some o) : addC H cs b = some (lk0 o) := by unfold addC; rw [e]
theorem addC_out (e : cs.lookup b = none) : addC H cs b = H b := by unfold addC; rw [e]
theorem delC_in (e : cs.lookup b = some o) : delC H cs b = none := by unfold delC; rw [e]
theorem delC_out (e : cs.lookup b = none) : delC H cs b = H b := by unfold delC; rw [e]
/-- they stand there, unknown -/
def CsIn (cs : Cells) (H : Hp) (h : Heap) : Prop := ∀ b o, cs.lookup b = some o → H b = none ∧ h.get? b = some o
/-- they are known -/
def CsFz (cs : Cells) (H : Hp) : Prop := ∀ b o, cs.lookup b = some o → H b = some (lk0 o)
/-- they are unknown -/
def CsNo (cs : Cells) (H : Hp) : Prop := ∀ b o, cs.lookup b = some o → H b = none
theorem CsIn.out {u : HO} (c : CsIn cs H h) (e : H b = some u) : cs.lookup b = none := by
  cases q : cs.lookup b with
  | none => rfl
  | some o => rw [(c b o q).1] at e; cases e
theorem CsFz.out (c : CsFz cs H) (e : H b = none) : cs.lookup b = none := by
  cases q : cs.lookup b with
  | none => rfl
  | some o => rw [c b o q] at e; cases e
theorem CsFz.out' {u : HO} (c : CsFz cs H) (e : H b = some u) (n : ∀ o, u ≠ lk0 o) : cs.lookup b = none := by
  cases q : cs.lookup b with
  | none => rfl
  | some o => rw [c b o q] at e; cases e; exact absurd rfl (n o)
theorem hok_add (ok : HOk P w H h) (c : CsIn cs H h) : HOk P w (addC H cs) h := fun a o e => by
  cases q : cs.lookup a with
  | some o' =>
    rw [addC_in q] at e
    cases e
    exact ⟨(c a o' q).2, o', (c a o' q).2⟩
  | none =>
    rw [addC_out q] at e
    exact (ok a o e).stay (fun _ _ _ z => z) (fun b z => by rw [addC_out (c.out z)]; exact z) (fun b xs z => by rw [addC_out (c.out z)]; exact z)
theorem hok_del (ok : HOk P w H h) (c : CsFz cs H) : HOk P w (delC H cs) h := fun a o e => by
  cases q : cs.lookup a with
  | some o' => rw [delC_in q] at e; cases e
  | none =>
    rw [delC_out q] at e
    exact (ok a o e).stay (fun _ _ _ z => z) (fun b z => by rw [delC_out (c.out' z fun o y => by cases y)]; exact z) (fun b xs z => by rw [delC_out (c.out' z fun o y => by cases y)]; exact z)
theorem CsFz.at (c : CsFz cs H) (ok : HOk P w H h) (q : cs.lookup b = some o) : h.get? b = some o := (ok b _ (c b o q)).1
theorem env_add (e0 : Env0 P w K mg base A outer s H) (c : CsIn cs H s.heap) (nb : ∀ b o, cs.lookup b = some o → base.get? b = none) (nf : ∀ b ∈ frs outer, cs.lookup b = none) : Env0 P w K mg base A outer s (addC H cs) :=
  ⟨e0.frames, e0.mod, fun b o z => ⟨(e0.bs b o z).1, by
    have q : cs.lookup b = none := by
      cases q : cs.lookup b with
      | none => rfl
      | some o' => rw [nb b o' q] at z; cases z
    rw [addC_out q]; exact (e0.bs b o z).2⟩, e0.bsz, e0.funs, fun b z => by rw [addC_out (nf b z)]; exact e0.frf b z, hok_add e0.hok c, e0.bare⟩
theorem env_del (e0 : Env0 P w K mg base A outer s H) (c : CsFz cs H) : Env0 P w K mg base A outer s (delC H cs) :=
  ⟨e0.frames, e0.mod, fun b o z => ⟨(e0.bs b o z).1, by rw [delC_out (c.out (e0.bs b o z).2)]; exact (e0.bs b o z).2⟩, e0.bsz, e0.funs, fun b z => by rw [delC_out (c.out (e0.frf b z))]; exact e0.frf b z, hok_del e0.hok c, e0.bare⟩
variable {fs : List Addr} {H' : Hp} {h' B : Heap}
theorem un_add (c : CsIn cs H h) (un : Un fs [] (addC H cs) H' h h') (ok : HOk P w H' h') : CsFz cs H' ∧ Un fs [] H (delC H' cs) h h' := by
  have fz : CsFz cs H' := fun b o q => un.frzs b o _ (addC_in q)
  refine ⟨fz, ?_⟩
  have at_ : ∀ b o, h.get? b = some o → H b = none → h'.get? b = some o ∨ cs.lookup b = none := fun b o z n => by
    cases q : cs.lookup b with
    | none => exact .inr rfl
    | some o' =>
      have := (c b o' q).2
      rw [z] at this; cases this
      exact .inl (fz.at ok q)
  exact {
    keep := fun b o z n hf hx => (at_ b o z n).elim id fun q => un.keep b o z (by rw [addC_out q]; exact n) hf hx
    slot := fun b o z n hf hx => (at_ b o z n).elim (fun e => ⟨o.slots, e⟩) fun q => un.slot b o z (by rw [addC_out q]; exact n) hf hx
    free := fun b o z n hx => by
      cases q : cs.lookup b with
      | some o' => exact delC_in q
      | none => rw [delC_out q]; exact un.free b o z (by rw [addC_out q]; exact n) hx
    there := un.there
    tups := fun b xs z => by
      have q := c.out z
      rw [delC_out q]; exact un.tups b xs (by rw [addC_out q]; exact z)
    frzs := fun b o u z => by
      have q := c.out z
      rw [delC_out q]; exact un.frzs b o u (by rw [addC_out q]; exact z)
    tbls := fun b ps z => by
      have q := c.out z
      rw [delC_out q]; exact un.tbls b ps (by rw [addC_out q]; exact z) }
theorem ub_add (c : CsIn cs H h) (un : UB fs (addC H cs) H' h B h') (ok : HOk P w H' B) : CsFz cs H' ∧ UB fs H (delC H' cs) h B h' := by
  have fz : CsFz cs H' := fun b o q => un.frzs b o _ (addC_in q)
  refine ⟨fz, ?_⟩
  exact {
    keep := fun b o z n hf => by
      cases q : cs.lookup b with
      | none => exact un.keep b o z (by rw [addC_out q]; exact n) hf
      | some o' =>
        have := (c b o' q).2
        rw [z] at this; cases this
        exact fz.at ok q
    slot := un.slot
    free := fun b o z n => by
      cases q : cs.lookup b with
      | some o' => exact delC_in q
      | none => rw [delC_out q]; exact un.free b o z (by rw [addC_out q]; exact n)
    there := un.there
    tups := fun b xs z => by
      have q := c.out z
      rw [delC_out q]; exact un.tups b xs (by rw [addC_out q]; exact z)
    frzs := fun b o u z => by
      have q := c.out z
      rw [delC_out q]; exact un.frzs b o u (by rw [addC_out q]; exact z)
    tbls := fun b ps z => by
      have q := c.out z
      rw [delC_out q]; exact un.tbls b ps (by rw [addC_out q]; exact z) }
/-- a callee's end, the cells known to it -/
theorem cr_add {Q : VK} {E : XK} {r : Result} {s' : Shared} (c : CsIn cs H s.heap) (x : CR (L2.CX P w) outer P w (addC H cs) s (fun v H' => CsFz cs H' → Q v (delC H' cs)) (fun k d H' => CsFz cs H' → E k d (delC H' cs)) r s') : CR (L2.CX P w) outer P w H s Q E r s' := by
  cases r with
  | error e =>
    obtain ⟨a, B, H', cls, d, eu, fly, ok, ub, na, os, ag, z⟩ := (show L2.CX P w outer (addC H cs) s _ e s' from x)
    obtain ⟨fz, ub'⟩ := ub_add c ub ok
    exact ⟨a, B, delC H' cs, cls, d, eu, fly, hok_del ok fz, ub', by rw [delC_out (fz.out na)]; exact na, os, ag, z fz⟩
  | ok fl =>
    cases fl with
    | ret u =>
      obtain ⟨v, H', os, bare, un, ok, rv, q⟩ := (show CE outer P w (addC H cs) s _ u s' from x)
      obtain ⟨fz, un'⟩ := un_add c un ok
      exact ⟨v, delC H' cs, os, bare, un', hok_del ok fz, rv, q fz⟩
    | next => exact x
    | brk => exact x
    | cont => exact x
theorem un_del (c : CsFz cs H) (nf : ∀ b o, cs.lookup b = some o → b ∉ fs) (ok : HOk P w H h) (un : Un fs [] (delC H cs) H' h h') : CsIn cs H' h' ∧ Un fs [] H (addC H' cs) h h' := by
  have ci : CsIn cs H' h' := fun b o q => ⟨un.free b o (c.at ok q) (delC_in q) (by simp), un.keep b o (c.at ok q) (delC_in q) (nf b o q) (by simp)⟩
  refine ⟨ci, ?_⟩
  exact {
    keep := fun b o z n hf hx => un.keep b o z (by rw [delC_out (c.out n)]; exact n) hf hx
    slot := fun b o z n hf hx => un.slot b o z (by rw [delC_out (c.out n)]; exact n) hf hx
    free := fun b o z n hx => by rw [addC_out (c.out n)]; exact un.free b o z (by rw [delC_out (c.out n)]; exact n) hx
    there := un.there
    tups := fun b xs z => by
      have q := c.out' z fun o y => by cases y
      rw [addC_out q]; exact un.tups b xs (by rw [delC_out q]; exact z)
    frzs := fun b o u z => by
      cases q : cs.lookup b with
      | some o' => rw [c b o' q] at z; cases z; exact addC_in q
      | none => rw [addC_out q]; exact un.frzs b o u (by rw [delC_out q]; exact z)
    tbls := fun b ps z => by
      have q := c.out' z fun o y => by cases y
      rw [addC_out q]; exact un.tbls b ps (by rw [delC_out q]; exact z) }
theorem ub_del (c : CsFz cs H) (nf : ∀ b o, cs.lookup b = some o → b ∉ fs) (ok : HOk P w H h) (un : UB fs (delC H cs) H' h B h') : CsIn cs H' B ∧ UB fs H (addC H' cs) h B h' := by
  have ci : CsIn cs H' B := fun b o q => ⟨un.free b o (c.at ok q) (delC_in q), un.keep b o (c.at ok q) (delC_in q) (nf b o q)⟩
  refine ⟨ci, ?_⟩
  exact {
    keep := fun b o z n hf => un.keep b o z (by rw [delC_out (c.out n)]; exact n) hf
    slot := un.slot
    free := fun b o z n => by rw [addC_out (c.out n)]; exact un.free b o z (by rw [delC_out (c.out n)]; exact n)
    there := un.there
    tups := fun b xs z => by
      have q := c.out' z fun o y => by cases y
      rw [addC_out q]; exact un.tups b xs (by rw [delC_out q]; exact z)
    frzs := fun b o u z => by
      cases q : cs.lookup b with
      | some o' => rw [c b o' q] at z; cases z; exact addC_in q
      | none => rw [addC_out q]; exact un.frzs b o u (by rw [delC_out q]; exact z)
    tbls := fun b ps z => by
      have q := c.out' z fun o y => by cases y
      rw [addC_out q]; exact un.tbls b ps (by rw [delC_out q]; exact z) }
/-- the other way: what runs does not know of them -/
theorem cr_del {Q : VK} {E : XK} {r : Result} {s' : Shared} (e0 : Env0 P w K mg base A outer s H) (c : CsFz cs H) (x : CR (L2.CX P w) outer P w (delC H cs) s (fun v H' => CsNo cs H' → Q v (addC H' cs)) (fun k d H' => CsNo cs H' → E k d (addC H' cs)) r s') : CR (L2.CX P w) outer P w H s Q E r s' := by
  have nf : ∀ b o, cs.lookup b = some o → b ∉ frs outer := fun b o q z => by
    have := e0.frf b z
    rw [c b o q] at this; cases this
  cases r with
  | error e =>
    obtain ⟨a, B, H', cls, d, eu, fly, ok, ub, na, os, ag, z⟩ := (show L2.CX P w outer (delC H cs) s _ e s' from x)
    obtain ⟨ci, ub'⟩ := ub_del c nf e0.hok ub
    have qa : cs.lookup a = none := by
      cases q : cs.lookup a with
      | none => rfl
      | some o => have := (ci a o q).2; rw [fly.2.1] at this; cases this
    exact ⟨a, B, addC H' cs, cls, d, eu, fly, hok_add ok ci, ub', by rw [addC_out qa]; exact na, os, ag, z fun b o q => (ci b o q).1⟩
  | ok fl =>
    cases fl with
    | ret u =>
      obtain ⟨v, H', os, bare, un, ok, rv, q⟩ := (show CE outer P w (delC H cs) s _ u s' from x)
      obtain ⟨ci, un'⟩ := un_del c nf e0.hok un
      exact ⟨v, addC H' cs, os, bare, un', hok_add ok ci, rv, q fun b o z => (ci b o z).1⟩
    | next => exact x
    | brk => exact x
    | cont => exact x
end
/-! ### a function value that keeps a promise wherever its guard holds -/
structure ClosOk (P : Program) (w : World) (K : Frag) (mg : Str → Option Value) (base : Heap) (k : Nat) (f : Addr) (G : Hp → Prop) (sp : Sp) : Prop where
  fn : ∀ H h, HOk P w H h → G H → PySem.W.FnAt f h
  run : ∀ (A : Around) (outer : List Env) (s : Shared) (H : Hp) (us : List Value) (vs : List V) (Q : VK) (E : XK), Room k A → Env0 P w K mg base A outer s H → G H → Vals vs us → sp vs H Q E →
    codeAny (model P w) A (.call (.ref f) ⟨us, []⟩) (CR (L2.CX P w) outer P w H s Q E) s
section
variable {P : Program} {w : World} {K : Frag} {mg : Str → Option Value} {base : Heap} {k j : Nat} {f : Addr} {G G' : Hp → Prop} {sp sp' : Sp}
theorem ClosOk.mono (o : ClosOk P w K mg base j f G sp) (h : j ≤ k) : ClosOk P w K mg base k f G sp := ⟨o.fn, fun A outer s H us vs Q E hr => o.run A outer s H us vs Q E (hr.mono h)⟩
theorem ClosOk.imp (o : ClosOk P w K mg base k f G sp) (h : ∀ vs H Q E, sp' vs H Q E → sp vs H Q E) : ClosOk P w K mg base k f G sp' := ⟨o.fn, fun A outer s H us vs Q E hr e0 g r z => o.run A outer s H us vs Q E hr e0 g r (h _ _ _ _ z)⟩
theorem ClosOk.guard (o : ClosOk P w K mg base k f G sp) (h : ∀ H, G' H → G H) : ClosOk P w K mg base k f G' sp := ⟨fun H hp ok g => o.fn H hp ok (h H g), fun A outer s H us vs Q E hr e0 g r z => o.run A outer s H us vs Q E hr e0 (h H g) r z⟩
end
theorem method_fld {P : Program} {w : World} {A : Around} {E : Value → Shared → Prop} {s : Shared} {K : Frag} {x dx C : Addr} {mA : Str → Option Value} {name : Str} {v : Value} {pl : Sem Bool} {Q : Value × List Value → Shared → Prop} (X : K.In s.heap) (I : ObjM s.heap x dx C mA) (hg : PySem.W.plainGet K C name = true) (hh : PySem.W.hasDictIn K C = true)
    (ha : PySem.W.findIn K (.ref C) name = some none) (hv : mA name = some v) (hv' : PySem.W.handedIn v = true) (h : Q (v, []) { s with toks := s.toks + 1 }) : wpAny (model P w) A (getMethod (.ref x) name pl) Q E s := by
  obtain ⟨od, J, hl⟩ := I.look
  have hcan := PySem.F.canon_object_ga
  unfold getMethod specialOf
  refine wpAny_bind (wpAny_bind (J.type.here ((PySem.W.looks_findIn X (PySem.W.plainGet_of hg).1).here ?_)))
  dsimp only
  rw [hcan, if_neg (by decide)]
  refine wpAny_bind (wpAny_bind (J.type.here ((PySem.W.looks_findIn X (PySem.W.plainGet_of hg).2).here ?_)))
  refine wpAny_bind (wpAny_bind (J.type.here ((PySem.W.looks_findIn X ha).here ?_)))
  exact wpAny_bind (get_map X I hg hh ha hv hv' (wpAny_pure h))
section
variable {X : Cx} {K : Frag} {e o1 : Expr} {es : List Expr} {m : Str} {q2 q3 : Pos} {ta : TE} {t : TA} {k : Nat} {E : XK}
/-- o.f(e, ..), f a field that holds a function -/
def tFCall (P : Program) (w : World) (K : Frag) (mg : Str → Option Value) (base : Heap) (k : Nat) (m : Str) (E : XK) (ta : TE) (t : TA) : TE := fun σ H Q => ta σ H fun x H1 => ∃ a C dx fs f, x = .ref a ∧ H1 a = some (.ins C dx fs) ∧ Cls K C ∧ NoAttr K C m ∧ fs.lookup m = some (.ref f) ∧
  ∃ (G : Hp → Prop) (sp : Sp), ClosOk P w K mg base k f G sp ∧ G H1 ∧ t σ H1 fun vs H2 => G H2 ∧ sp vs H2 Q E
theorem run_clo {pins : List (Addr × Obj)} {σ : L2.St} {H : Hp} {s : Shared} {Q : VK} {f : Addr} {us : List Value} {vs : List V} {G : Hp → Prop} {sp : Sp} (F : ClosOk X.prog X.w X.K X.mg X.base k f G sp) (hr : Room k X.A) (hx : Passes (L2.CX X.prog X.w) X E) (I : Inv X pins σ H s) (g : G H) (r : Vals vs us) (q : sp vs H Q E) :
    wpAny (model X.prog X.w) X.A (call (.ref f) us) (EP X pins σ Q) X.xe s := by
  refine wpAny_call (codeAny_mono (F.run X.A X.stack s H us vs Q E hr I.env0 g r q) fun r s' hq => ?_)
  cases r with
  | error e => exact hx pins σ H s e s' I hq
  | ok fl =>
    cases fl with
    | ret u => exact I.after hq
    | next => exact False.elim hq
    | brk => exact False.elim hq
    | cont => exact False.elim hq
theorem pe_fcall {P : Program} {w : World} {mg : Str → Option Value} {base : Heap} (hP : X.prog = P) (hw : X.w = w) (hK : X.K = K) (hmg : X.mg = mg) (hba : X.base = base) {pl : Sem Bool} (he : PE X o1 ta) (hr : Room k X.A) (hx : Passes (L2.CX X.prog X.w) X E) (ha : PA X (e :: es) t)
    (z2 : starEach (e :: es) X.env = (false, eval e X.env) :: starEach es X.env := by rfl) (z3 : (backTo q2 (starEach es X.env)).any (·.1) = false := by rfl)
    (z4 : eval (.Call (.Attribute o1 m q3) (e :: es) [] q2) X.env = (do let ov ← eval o1 X.env; standAt q3.atName; let (f, first) ← holding [ov] (getMethod ov m pl); callWith q2 f first (backTo q2 (starEach (e :: es) X.env)) (backToKw q2 (keywordEach [] X.env))) := by rfl) :
    PE X (.Call (.Attribute o1 m q3) (e :: es) [] q2) (tFCall P w K mg base k m E ta t) := by
  subst hP hw hK hmg hba
  refine ⟨fun pins s σ H Q I h => ?_⟩
  refine PySem.W.methodCall_KW (pl := pl) (thn (he.run pins s σ H _ I h) fun u s1 ⟨x, H1, I1, rx, a, C, dx, fs, f, ex, ea, c, na, l, G, sp, F, g, q⟩ => ?_) z4
  subst ex
  obtain rfl : u = Value.ref a := rx
  obtain ⟨mA, O, r, _, _, _⟩ := ins_get I1.hok ea
  obtain ⟨u, hu, ru⟩ := RelO.some_of (v := .ref f) (o := mA m) (by rw [← l]; exact r m)
  obtain rfl : u = Value.ref f := ru
  refine method_fld I1.kIn O (c.get m) c.hd na hu rfl ?_
  have I1' := I1.tok (s1.toks + 1)
  refine PySem.W.callWith_F (first := []) (F.fn H1 _ I1.hok g) (thn (ha.run q2 pins _ σ H1 _ I1' q) fun us s2 ⟨vs, H2, I2, r, g2, q2⟩ => ⟨F.fn H2 _ I2.hok g2, ?_⟩) z2 z3
  exact run_clo F hr hx I2 g2 r q2
end
end Tb

set_option Elab.async false
set_option linter.all false
set_option maxRecDepth 100000
set_option maxHeartbeats 3999000
namespace Tb
open PySem PySem.Spec PyProof.Rows L2 LamX NdefX
open PySem.W (Frag)
/-! ### a lambda with parameters, as a value -/
abbrev lamO (q : Str) (params : Arguments) (body : Expr) (scope : Scope) (cl : List (Str × Addr)) (pm : Value) (c : Addr) (ctv : Value) : Obj := PySem.W.kla_obj "<lambda>" q params body scope cl pm c ctv
theorem lk0_ne {o : Obj} (ps : Array Value) : lk0 o ≠ .tbl ps := fun z => by cases z
section
variable {X : Cx} {pins : List (Addr × Obj)} {σ : L2.St} {H : Hp} {s : Shared}
theorem inv_lk {o : Obj} {t' : Nat} (I : Inv X pins σ H s) (hf : o.isFreed = false := by rfl) : Inv X pins σ (upd H s.heap.objs.size (lk0 o)) { s with heap := s.heap.push o, toks := t' } := by
  have e : (s.heap.push o).get? s.heap.objs.size = some o := Heap.get?_push_size _ hf
  exact I.laid (a := s.heap.objs.size) (fun b u e => Heap.get?_push_of_some _ e) (Nat.le_refl _) ⟨e, o, e⟩
theorem lam_makeV {T : List (Addr × Str)} {c P : Addr} {params : Arguments} {body : Expr} {scope : Scope} {pos : Pos} {E : Value → Shared → Prop} {Q : Value → Shared → Prop} (I : Inv X pins σ H s) (TB : TabB X.base X.mg c P) (hcode : X.env.code = .ref c)
    (hm : (P, X.env.qual ++ "<lambda>") ∈ T) (hu : ∀ p ∈ T, p.1 = P → p.2 = X.env.qual ++ "<lambda>") (hT : Tabs T H) (hdef : defaultsOf params X.env = ([], [])) (hfree : ∀ y ∈ scope.names, y.2 = .free → ∃ c, X.env.cells.lookup y.1 = some c)
    (h : ∀ (f c' : Addr) (pm ctv : Value) (H1 : Hp) (s' : Shared), Inv X pins σ H1 s' → ExtN H H1 → (∀ b, H1 b = Option.none → H b = Option.none) → Tabs T H1 → H f = none →
      H1 f = some (lk0 (lamO (X.env.qual ++ "<lambda>") params body scope (cloFrom X.env.cells scope.names []) pm c' ctv)) → H1 c' = some (CodeO c' (X.env.qual ++ "<lambda>")) → Q (.ref f) s') :
    wpAny (model X.prog X.w) X.A (eval (.Lambda params body scope pos) X.env) Q E s := by
  obtain ⟨ps, hP, ht, ha⟩ := hT _ hm
  refine PySem.W.kla_eval hdef ?_
  have bP : s.heap.BuiltinsAt X.mg P := TB.bm.keeps I.bk
  have hP' : s.heap.get? P = some { cls := .none, data := .fields ps } := I.hok P _ hP
  cases hc : codeAmong pos ps.toList with
  | none =>
    refine PySem.W.kla_makeFunction (mg := X.mg) (c := c) (P := P) (ps := ps) (closure_ok hfree) I.ok.glob (I.mod.glob.keeps I.bk) hcode (TB.code.keeps I.bk) hP' ht hc TB.gP bP fun c' ctv h' tk hx hge hlt hrec htb => ?_
    obtain ⟨c2, oc, vs, t, e2, hoc, hd, hv⟩ := hrec
    cases e2
    have nC : H c' = none := I.hok.fresh hge
    have I1 := inv_table (t' := tk) (more := #[rawInt pos.line, rawInt pos.col, .ref c']) (h' := h') I hP (fun b o hb e => hx b o hb e) htb hge ⟨oc, vs, t, hoc, hd, hv⟩
    have hE : ExtN H (upd (upd H P (.tbl (ps ++ #[rawInt pos.line, rawInt pos.col, .ref c']))) c' (CodeO c' (X.env.qual ++ "<lambda>"))) := fun b o e n => by
      rw [upd_ne (ne_of_none e nC), upd_ne (fun z => n ps (Option.some.inj (e.symm.trans (by rw [z]; exact hP))))]
      exact e
    have eL : (ps ++ #[rawInt pos.line, rawInt pos.col, .ref c']).toList = ps.toList ++ [rawInt pos.line, rawInt pos.col, .ref c'] := by simp
    have T1 : Tabs T (upd (upd H P (.tbl (ps ++ #[rawInt pos.line, rawInt pos.col, .ref c']))) c' (CodeO c' (X.env.qual ++ "<lambda>"))) := fun p hp => by
      by_cases hb : p.1 = P
      · rw [hu p hp hb, hb]
        refine ⟨_, by rw [upd_ne (ne_of_none hP nC), upd_same], by rw [eL]; exact PySem.TriplesOk_snoc _ _ _ _ ht, fun p' cv hcv => ?_⟩
        rw [eL] at hcv
        rcases among_app _ ht hcv with z | z
        · obtain ⟨c0, e1, e2⟩ := ha p' cv z
          exact ⟨c0, e1, hE _ _ e2 codeO_ne⟩
        · exact ⟨c', z, upd_same⟩
      · obtain ⟨ps', a1, a2, a3⟩ := hT p hp
        refine ⟨ps', by rw [upd_ne (ne_of_none a1 nC), upd_ne hb]; exact a1, a2, fun p' cv hcv => ?_⟩
        obtain ⟨c0, e1, e2⟩ := a3 p' cv hcv
        exact ⟨c0, e1, hE _ _ e2 codeO_ne⟩
    have nF := I1.hok.fresh (Nat.le_refl _)
    have I2 := inv_lk (o := lamO (X.env.qual ++ "<lambda>") params body scope (cloFrom X.env.cells scope.names []) ((X.mg "__name__").getD .none) c' ctv) (t' := tk) I1
    refine h h'.objs.size c' _ _ _ _ I2 (fun b o e n => ?_) (fun b e => upd_none (upd_none (upd_none e))) (T1.ext fun b o e => ?_) (I.hok.fresh (Nat.le_trans hge (Nat.le_of_lt hlt))) upd_same ?_
    · have e1 := hE b o e n
      exact (upd_ne (ne_of_none e1 nF)).trans e1
    · exact (upd_ne (ne_of_none e nF)).trans e
    · exact (upd_ne (Nat.ne_of_lt hlt)).trans upd_same
  | some cv =>
    obtain ⟨c', e, hco⟩ := ha pos cv hc
    subst e
    refine PySem.W.kla_makeFunctionHit (mg := X.mg) (c := c) (P := P) (ps := ps) (closure_ok hfree) I.ok.glob (I.mod.glob.keeps I.bk) hcode (TB.code.keeps I.bk) hP' ht hc bP fun ctv h' tk hx hsz => ?_
    have I1 : Inv X pins σ H { s with heap := h', toks := tk } := I.kept hx
    have nF : H h'.objs.size = none := I1.hok.fresh (Nat.le_refl _)
    have I2 := inv_lk (o := lamO (X.env.qual ++ "<lambda>") params body scope (cloFrom X.env.cells scope.names []) ((X.mg "__name__").getD .none) c' ctv) (t' := tk) I1
    refine h h'.objs.size c' _ _ _ _ I2 (fun b o e n => ?_) (fun b e => upd_none e) (hT.ext fun b o e => ?_) nF upd_same ?_
    · exact (upd_ne (ne_of_none e nF)).trans e
    · exact (upd_ne (ne_of_none e nF)).trans e
    · exact (upd_ne (ne_of_none hco nF)).trans hco
end
/-- a lambda's reading: the function object is new and locked -/
def tLamV (T : List (Addr × Str)) (q : Str) (params : Arguments) (body : Expr) (scope : Scope) (cl : List (Str × Addr)) : TE := fun σ H Q => Tabs T H ∧ ∀ (f c' : Addr) (pm ctv : Value) (H1 : Hp), ExtN H H1 → (∀ b, H1 b = Option.none → H b = Option.none) → Tabs T H1 → H f = none →
  H1 f = some (lk0 (lamO q params body scope cl pm c' ctv)) → H1 c' = some (CodeO c' q) → Q (.ref f) H1
theorem pe_lambda {X : Cx} {T : List (Addr × Str)} {c P : Addr} {params : Arguments} {body : Expr} {scope : Scope} {pos : Pos} (TB : TabB X.base X.mg c P) (hcode : X.env.code = .ref c)
    (hm : (P, X.env.qual ++ "<lambda>") ∈ T) (hu : ∀ p ∈ T, p.1 = P → p.2 = X.env.qual ++ "<lambda>") (hdef : defaultsOf params X.env = ([], [])) (hfree : ∀ y ∈ scope.names, y.2 = .free → X.env.scope.names.lookup y.1 = some .cell ∨ X.env.scope.names.lookup y.1 = some .free) :
    PE X (.Lambda params body scope pos) (tLamV T (X.env.qual ++ "<lambda>") params body scope (cloFrom X.env.cells scope.names [])) := by
  refine ⟨fun pins s σ H Q I h => ?_⟩
  obtain ⟨hT, h⟩ := h
  exact lam_makeV I TB hcode hm hu hT hdef (fun y hy e => (hfree y hy e).elim (fun z => I.ok.has _ (.inl z)) fun z => I.ok.has _ (.inr z)) fun f c' pm ctv H1 s' I1 a b c d e g => ⟨.ref f, H1, I1, rfl, h f c' pm ctv H1 a b c d e g⟩
/-! ### its promise, by its body -/
/-- what the captured cells hold, by the locked cells -/
structure CloC (cl : List (Str × Addr)) (fr : List Str) (ws : List (Option V)) (cs : Cells) : Prop where
  len : ws.length = fr.length
  all : ∀ y c, cl.lookup y = some c → ∃ o v, cs.lookup c = some o ∧ o.data = .cell v
  inj : ∀ x y c, cl.lookup x = some c → cl.lookup y = some c → x = y
  has : ∀ (i : Nat) (y : Str), fr[i]? = some y → ∃ c, cl.lookup y = some c ∧ ∀ v, ws[i]? = some (some v) → ∃ o u, cs.lookup c = some o ∧ L2.RelV v u ∧ o.data = .cell (some u)
def lamG (f : Addr) (q : Str) (params : Arguments) (body : Expr) (scope : Scope) (cl : List (Str × Addr)) (pm : Value) (c : Addr) (ctv : Value) (cs : Cells) (H : Hp) : Prop := H f = some (lk0 (lamO q params body scope cl pm c ctv)) ∧ H c = some (CodeO c q) ∧ CsFz cs H
theorem clo_lam {P : Program} {w : World} {K : Frag} {mg : Str → Option Value} {base : Heap} {k : Nat} {f : Addr} {N ps fr : List Str} {q : Str} {params : Arguments} {body : Expr} {scope : Scope} {cl : List (Str × Addr)} {pm ctv : Value} {c : Addr} {cs : Cells} {ws : List (Option V)} {sp : Sp}
    (S : NScope N ps fr scope) (hb : ∀ us : List Value, us.length = ps.length → bindArgs (PySem.W.kla_fn "<lambda>" q params body scope cl pm (.ref c) ctv) ⟨us, []⟩ = pure (ps.zip us)) (C : CloC cl fr ws cs) (len : ∀ vs H Q E, sp vs H Q E → vs.length = ps.length)
    (hbody : ∀ (A : Around) (outer : List Env) (s : Shared) (H : Hp) (vs : List V) (Q : VK) (E : XK), Room k (A.deeper (envF ⟨"<lambda>", q, params, [], scope, cl, c⟩ f s.heap.objs.size)) → lamG f q params body scope cl pm c ctv cs H → sp vs H Q E →
      ∃ (t : TE), PE (ncx (L2.CX P w) P w K mg base N ⟨"<lambda>", q, params, [], scope, cl, c⟩ f A outer s (delC H cs) (fun k d H' => CsNo cs H' → E k d (addC H' cs))) body t ∧ t (startF N vs ws) (delC H cs) (fun v H' => CsNo cs H' → Q v (addC H' cs))) :
    ClosOk P w K mg base (k + 1) f (lamG f q params body scope cl pm c ctv cs) sp := by
  refine ⟨fun H h ok g => ⟨_, _, _, _, (ok f _ g.1).1⟩, fun A outer s H us vs Q E hr e0 g r hsp => ?_⟩
  have hl := len _ _ _ _ hsp
  have lim : s.heap.NoLimit := e0.mod.nolimit.keeps fun b o e => (e0.bs b o e).1
  obtain ⟨g1, g2, g3⟩ := g
  have ho : s.heap.get? f = some (lamO q params body scope cl pm c ctv) := (e0.hok f _ g1).1
  refine codeAny_mono ?_ fun r s' z => cr_del (cs := cs) e0 g3 z
  refine PySem.W.kla_callFunE hr.depth ho rfl S.co S.gen rfl (codeO_at e0.hok g2) ?_
  rw [hb us (by rw [← r.length]; exact hl)]
  refine wpAny_pure (wpAny_newFunctionEnv S.nocell (fun ⟨n, _⟩ hy => S.par n (List.of_mem_zip hy).1) (fun h₁ hns hsb => ⟨lim.fresh _ hsb, ?_⟩) S.kind)
  show codeAny _ _ (.expr body (envF ⟨"<lambda>", q, params, [], scope, cl, c⟩ f s.heap.objs.size)) _ _
  have kp : ∀ b o, s.heap.get? b = some o → h₁.get? b = some o := fun b o e => hsb.extBut b o (Nat.ne_of_lt (Heap.lt_size e)) (Heap.get?_push_of_some _ e)
  obtain ⟨t, ht, hq⟩ := hbody A outer s H vs Q E (hr.deeper _) ⟨g1, g2, g3⟩ hsp
  have CA : CellsAt cl fr ws s.heap (delC H cs) := ⟨C.len, fun y a e => by
      obtain ⟨o, v, e1, e2⟩ := C.all y a e
      exact ⟨delC_in e1, v, o, g3.at e0.hok e1, e2⟩, C.inj, fun i y e => by
      obtain ⟨a, h1, h2⟩ := C.has i y e
      refine ⟨a, h1, fun v hv => ?_⟩
      obtain ⟨o, u, e1, e2, e3⟩ := h2 v hv
      exact ⟨u, e2, o, g3.at e0.hok e1, e3⟩⟩
  have I := inv_startN (CX := L2.CX P w) (f := f) (E := fun k d H' => CsNo cs H' → E k d (addC H' cs)) (tk := s.toks + (ps.zip us).length) (F := ⟨"<lambda>", q, params, [], scope, cl, c⟩) S hr.hd (env_del e0 g3) hl r CA hns kp
  refine PySem.W.kla_codeExpr (wpAny_mono (ht.run [] _ _ _ _ I hq) (fun v s' hs => ?_) fun e s' hs => hs)
  obtain ⟨w', H', J', rv, z⟩ := hs
  exact ⟨w', H', J'.os, J'.bare, J'.base, J'.hok, rv, z⟩
theorem lookA : ∀ {l : Cells} {b : Addr} {o : Obj}, l.lookup b = some o → (b, o) ∈ l
  | [], _, _, h => by cases h
  | (a, u) :: l, b, o, h => by
    rw [List.lookup_cons] at h
    by_cases e : b = a
    · subst e; simp at h; subst h; exact List.mem_cons_self
    · have e' : (b == a) = false := by simpa using e
      rw [e'] at h
      exact List.mem_cons_of_mem _ (lookA h)
theorem memA : ∀ {l : Cells} {b : Addr} {o : Obj}, (b, o) ∈ l → ∃ o', l.lookup b = some o'
  | [], _, _, h => by cases h
  | (a, u) :: l, b, o, h => by
    rw [List.lookup_cons]
    by_cases e : b = a
    · subst e; exact ⟨u, by simp⟩
    · have e' : (b == a) = false := by simpa using e
      rw [e']
      rcases List.mem_cons.mp h with z | z
      · cases z; exact absurd rfl e
      · exact memA z
/-! ### the maker calls a def that gets such functions -/
/-- the locked cells tell what the frame's names hold -/
structure CsOf (cells : List (Str × Addr)) (N : List Str) (sc : Scope) (σ : L2.St) (cs : Cells) : Prop where
  all : ∀ y c, cells.lookup y = some c → ∃ o v, cs.lookup c = some o ∧ o.data = .cell v
  inj : ∀ x y c, cells.lookup x = some c → cells.lookup y = some c → x = y
  has : ∀ (j : Nat) (y : Str) (v : V), N[j]? = some y → sc.names.lookup y = some .cell → σ[j]? = some (some v) → ∃ c o u, cells.lookup y = some c ∧ cs.lookup c = some o ∧ L2.RelV v u ∧ o.data = .cell (some u)
def tFnC (cells : List (Str × Addr)) (N : List Str) (sc : Scope) (sp : Sp) (E : XK) (t : TA) : TE := fun σ H Q => t σ H fun vs H1 => ∀ cs : Cells, CsOf cells N sc σ cs → CsNo cs H1 → sp vs (addC H1 cs) (fun v H' => CsFz cs H' → Q v (delC H' cs)) (fun k d H' => CsFz cs H' → E k d (delC H' cs))
section
variable {X : Cx} {k : Nat} {sp : Sp} {x : Str} {q1 q2 : Pos} {a1 : Expr} {r1 : List Expr} {t : TA} {E : XK}
theorem Inv.cells {pins : List (Addr × Obj)} {σ : L2.St} {H : Hp} {s : Shared} (I : Inv X pins σ H s) (hfn : ∀ y, X.fn y = true) : ∃ cs : Cells, CsOf X.env.cells X.N X.env.scope σ cs ∧ CsIn cs H s.heap ∧ (∀ b o, cs.lookup b = some o → X.base.get? b = none) ∧ ∀ b ∈ frs X.stack, cs.lookup b = none := by
  let cs : Cells := (X.env.cells.map (·.1)).filterMap fun y => (X.env.cells.lookup y).bind fun c => (s.heap.get? c).map fun o => (c, o)
  have h1 : ∀ b o, cs.lookup b = some o → s.heap.get? b = some o ∧ ∃ y, X.env.cells.lookup y = some b := fun b o e => by
    obtain ⟨y, hy, z⟩ := List.mem_filterMap.mp (lookA e)
    cases hc : X.env.cells.lookup y with
    | none => rw [hc] at z; cases z
    | some c =>
      rw [hc] at z
      have z : (s.heap.get? c).map (fun o => (c, o)) = some (b, o) := z
      cases ho : s.heap.get? c with
      | none => rw [ho] at z; cases z
      | some o' => rw [ho] at z; cases z; exact ⟨ho, y, hc⟩
  have h2 : ∀ y c, X.env.cells.lookup y = some c → ∀ o, s.heap.get? c = some o → cs.lookup c = some o := fun y c e o ho => by
    have hm : (c, o) ∈ cs := List.mem_filterMap.mpr ⟨y, List.mem_map.mpr ⟨(y, c), PySem.mem_of_lookup e, rfl⟩, by rw [e]; show (s.heap.get? c).map _ = _; rw [ho]; rfl⟩
    obtain ⟨o', e'⟩ := memA hm
    have := (h1 c o' e').1
    rw [ho] at this; cases this; exact e'
  have ge : ∀ b o, cs.lookup b = some o → X.s_0.heap.objs.size ≤ b := fun b o e => by
    obtain ⟨_, y, hy⟩ := h1 b o e
    exact I.ok.cab y b (hfn y) hy
  refine ⟨cs, ⟨fun y c e => ?_, I.ok.inj, fun j y v hj hk hs => ?_⟩, fun b o e => ?_, fun b o e => ?_, fun b hb => ?_⟩
  · obtain ⟨v, o, ho, hd⟩ := I.cell y c e
    exact ⟨o, v, h2 y c e o ho, hd⟩
  · obtain ⟨m, hn, hl⟩ := I.loc
    obtain ⟨u, r, l⟩ := hl j y v hj hs (.inr (.inl hk))
    rcases l with ⟨z, _⟩ | ⟨_, c, hc, o, ho, hd⟩
    · have z' : X.env.scope.names.lookup y = some .local := z
      rw [hk] at z'; cases z'
    · exact ⟨c, o, u, hc, h2 y c hc o ho, r, hd⟩
  · obtain ⟨ho, y, hy⟩ := h1 b o e
    exact ⟨I.freeC y b hy, ho⟩
  · exact Heap.get?_none_of_le (Nat.le_trans I.ok.bsz (ge b o e))
  · cases e : cs.lookup b with
    | none => rfl
    | some o =>
      obtain ⟨ho, y, hy⟩ := h1 b o e
      rcases List.mem_cons.mp (I.stkSub b hb) with z | z
      · exact absurd z (I.cne y b hy)
      · obtain ⟨_, o', ho', _⟩ := I.ok.funs.mem z
        exact absurd (Heap.lt_size ho') (Nat.not_lt.mpr (ge b o e))
theorem pe_fnC (h : HasE X.prog X.w X.K X.mg X.base x k sp) (hfn : ∀ y, X.fn y = true) (hr : Room k X.A) (hx : Passes (L2.CX X.prog X.w) X E) (hg : Gl X x) (ha : PA X (a1 :: r1) t) (z1 : (x == ("__debug__" : Str)) = false := by decide)
    (z2 : starEach (a1 :: r1) X.env = (false, eval a1 X.env) :: starEach r1 X.env := by rfl) (z3 : (backTo q2 (starEach r1 X.env)).any (·.1) = false := by rfl) : PE X (.Call (.Name x q1) (a1 :: r1) [] q2) (tFnC X.env.cells X.N X.env.scope sp E t) := by
  obtain ⟨f, fd, ps, F, hm, hk, hb⟩ := h.ex
  refine ⟨fun pins s σ H Q I h => ?_⟩
  refine wpAny_Call_Name_kw (ld_glob I hg hm ?_ z1)
  refine PySem.W.callWith_K (h₀ := X.base) I.ok.mod.kin hk (thn (ha.run q2 pins s σ H _ I h) fun us s1 ⟨vs, H1, I1, r, q⟩ => ⟨I1.kIn, ?_⟩) z2 z3
  obtain ⟨cs, c1, c2, c3, c4⟩ := Inv.cells I1 hfn
  have q := q cs c1 fun b o e => (c2 b o e).1
  have hl : (us ++ []).length = ps.length := by rw [List.append_nil, ← r.length]; exact F.len _ _ _ _ q
  have hb' := hb s1 us I1.kIn hl
  rw [List.append_nil] at hb'
  refine wpAny_call (codeAny_mono (F.run X.A X.stack s1 (addC H1 cs) ⟨us, []⟩ us vs _ _ hr (env_add I1.env0 c2 c3 c4) hb' r q) fun r s' hq => ?_)
  have hq' := cr_add c2 hq
  cases r with
  | error e => exact hx pins σ H1 s1 e s' I1 hq'
  | ok fl =>
    cases fl with
    | ret u => exact I1.after hq'
    | next => exact False.elim hq'
    | brk => exact False.elim hq'
    | cont => exact False.elim hq'
end
end Tb

set_option Elab.async false
set_option linter.all false
set_option maxRecDepth 100000
set_option maxHeartbeats 3999000
namespace Tb
open PySem PySem.Spec PySem.Calls PyProof.Rows L2 LamX NdefX
open PySem.W (Frag)
/-! ### an __init__ that begins with super().__init__(..), the base's an own def -/
theorem sup_args {q0 q1 q2 q4 : Pos} {e : Expr} {es : List Expr} {env : Env} (hf : methodCallForm (e :: es).length (backTo q4 (starEach (e :: es) env)) [] = true) (hl : (q2.endLine == q4.line) = true) : eval (.Call (.Attribute (.Call (.Name "super" q0) [] [] q1) "__init__" q2) (e :: es) [] q4) env = (do
      let ov ← attributeBase (.Call (.Name "super" q0) [] [] q1) "__init__" env (eval (.Call (.Name "super" q0) [] [] q1) env)
      standAt q2.atName
      let (f, first) ← holding [ov] (getMethod ov "__init__" (plainOf (.Call (.Name "super" q0) [] [] q1) env))
      callWith q4 f first (backTo q4 (starEach (e :: es) env)) []) := by
  have e' : ∀ ov, methodCall (.Call (.Name "super" q0) [] [] q1) "__init__" q2 q4 env ov (e :: es).length (backTo q4 (starEach (e :: es) env)) [] = _ := fun ov => mcall_line hf hl
  rw [arm_eval_Call]
  show (do
    let ov ← attributeBase (.Call (.Name "super" q0) [] [] q1) "__init__" env (eval (.Call (.Name "super" q0) [] [] q1) env)
    standAt q2.atName
    methodCall (.Call (.Name "super" q0) [] [] q1) "__init__" q2 q4 env ov (e :: es).length (backTo q4 (starEach (e :: es) env)) []) = _
  simp only [e']
structure SupFn (P : Program) (K : Frag) (C fI fB : Addr) (qual : Str) (st : Stmt) (fd : FuncData) (cc cda : Addr) : Prop where
  fn : ∃ (oc : Value) (od : Option Addr) (kV doc pm : Value) (an : Option Addr) (ct : Value) (osl : Array (Option Value)), fd = PySem.W.ksFn "__init__" qual (defArgs st) (defBody st) (defScope st) .none kV doc pm an (.ref cda) ct cc ∧
    K.lookup fI = some ⟨oc, od, .func fd, osl⟩ ∧ PySem.W.codeIn K (.ref cda) qual = true ∧
    (∃ (cl : Value) (cld : Option Addr) (csl : Array (Option Value)), K.lookup cc = some ⟨cl, cld, .cell (some (.ref C)), csl⟩) ∧
    ∃ (cl : Value) (cld : Option Addr) (vs : Array Value) (csl : Array (Option Value)) (file : Str) (tf : Tok), K.lookup cda = some ⟨cl, cld, .fields vs, csl⟩ ∧ vs[2]? = some (.str file tf) ∧ ((P.main.file : Str) == file) = true
  cls : ∃ cd, PySem.W.clsIn K C = some cd
  sup : PySem.W.ks_superIn K C C "__init__" = some (some (.ref fB))
  tB : PySem.W.typeIn K (.ref fB) = some (.type "function")
  fB : PySem.W.fnIn K fB = true
  opq : PySem.W.nsIn K cStatics "thirdparty.any" = some none
  mine : PySem.W.mroIn K C (.ref C) = some true
  top : (P.main.scope.names.lookup ("super" : Str)).isSome = false
/-- the text -/
structure SupTxt (st : Stmt) (N ps : List Str) (e : Expr) (es : List Expr) (rest : List Stmt) : Prop where
  body : ∃ (q0 q1 q2 q4 q5 : Pos), defBody st = .Expr (.Call (.Attribute (.Call (.Name "super" q0) [] [] q1) "__init__" q2) (e :: es) [] q4) q5 :: rest ∧ (q2.endLine == q4.line) = true
  sc : NScope N ps ["__class__"] (defScope st)
  ks : (defScope st).names.lookup ("super" : Str) = some .globalImplicit
  head : ∃ ar : Arg, ((defArgs st).posonlyargs ++ (defArgs st).args).head? = some ar ∧ ar.arg = "self"
  self0 : ps[0]? = some ("self" : Str)
  few : (e :: es).length ≤ 20
abbrev supNF (qual : Str) (st : Stmt) (cc cda : Addr) : NF := ⟨"__init__", qual, defArgs st, defBody st, defScope st, [("__class__", cc)], cda⟩
theorem ok_super {P : Program} {w : World} {K : Frag} {mg : Str → Option Value} {base : Heap} {k : Nat} {C fI fB cc cda : Addr} {qual : Str} {st : Stmt} {fd fdB : FuncData} {N ps psB : List Str} {e : Expr} {es : List Expr} {rest : List Stmt} {sp spB : Sp}
    (T : SupFn P K C fI fB qual st fd cc cda) (S : SupTxt st N ps e es rest) (hm : mg "super" = none) (FB : FnOk P w K mg base (L2.CX P w) k fB fdB psB spB) (hbB : Binds K fdB psB []) (len : ∀ vs H Q E, sp vs H Q E → vs.length = ps.length)
    (hform : ∀ env q4, methodCallForm (e :: es).length (backTo q4 (starEach (e :: es) env)) [] = true) (hst : ∀ env, starEach (e :: es) env = (false, eval e env) :: starEach es env) (hpl : ∀ env q4, (backTo q4 (starEach es env)).any (·.1) = false)
    (hsw : ∀ env q0 q1 q2 q4 l, swapsWith (.Call (.Attribute (.Call (.Name "super" q0) [] [] q1) "__init__" q2) (e :: es) [] q4) none l env = pure false)
    (hbody : ∀ (A : Around) (outer : List Env) (s : Shared) (H : Hp) (vs : List V) (Q : VK) (E : XK), Room k (A.deeper (envF (supNF qual st cc cda) fI s.heap.objs.size)) → sp vs H Q E →
      ∃ (x : Addr) (us : List V) (tA : TA) (tR : TS), vs = .ref x :: us ∧ (∃ dx fs, H x = some (.ins C dx fs)) ∧ PA (ncx (L2.CX P w) P w K mg base N (supNF qual st cc cda) fI A outer s H E) (e :: es) tA ∧ PSs (ncx (L2.CX P w) P w K mg base N (supNF qual st cc cda) fI A outer s H E) rest tR ∧
        tA (startF N vs [none]) H fun ws H1 => spB (.ref x :: ws) H1 (fun _ H2 => tR { nx := fun _ H' => Q .non H', rt := Q } (startF N vs [none]) H2) E) :
    FnOk P w K mg base (L2.CX P w) (k + 1) fI fd ps sp := by
  obtain ⟨oc, od, kV, doc, pm, an, ct, osl, rfl, lk, hcd, ⟨cl, cld, csl, hcell⟩, cl2, cld2, vs2, csl2, file, tf, hcode, hvs, hfile⟩ := T.fn
  obtain ⟨cd, hcl⟩ := T.cls
  obtain ⟨q0, q1, q2, q4, q5, ebody, hline⟩ := S.body
  obtain ⟨ar, har, hars⟩ := S.head
  refine ⟨len, fun A outer s H args us vs Q E hr e0 hb r hsp => ?_⟩
  have hl := len _ _ _ _ hsp
  have bk : ∀ b o, base.get? b = some o → s.heap.get? b = some o := fun b o z => (e0.bs b o z).1
  have X0 : K.In s.heap := fun b o z => bk b o (e0.mod.kin b o z)
  have lim : s.heap.NoLimit := e0.mod.nolimit.keeps bk
  obtain ⟨mb, hB, hbb⟩ := e0.mod.blt
  have hk := S.sc.kind
  have kc : (defScope st).names.lookup ("__class__" : Str) = some .free := S.sc.frk _ (by simp)
  have kself : (defScope st).names.lookup ("self" : Str) = some .local := S.sc.par _ (List.mem_of_getElem? S.self0)
  have ndP : ps.Nodup := by
    have q := S.sc.nd.sublist (List.take_sublist (ps.length + 1) N)
    have p : N.take (ps.length + 1) = ps ++ [("__class__" : Str)] := S.sc.pre
    rw [p] at q
    exact (List.nodup_append.mp q).1
  refine PySem.ks_codeAny_call_defAt (fd := PySem.W.ksFn "__init__" qual (defArgs st) (defBody st) (defScope st) .none kV doc pm an (.ref cda) ct cc) (body := defBody st) (binds := ps.zip us) hr.depth (X0 _ _ lk) rfl lim (PySem.W.codeRec_of X0 hcd) rfl hb S.sc.nocell (fun y hy => S.sc.par _ (List.of_mem_zip (show (y.1, y.2) ∈ _ from hy)).1) (fun h₁ hns kept => ?_) S.sc.co S.sc.gen S.sc.kind
  obtain ⟨x, ws, tA, tR, evs, ⟨dx, fs, hHx⟩, hA, hR, hq⟩ := hbody A outer s H vs Q E (hr.deeper _) hsp
  have CA : CellsAt [("__class__", cc)] ["__class__"] [none] s.heap H := by
    refine ⟨rfl, fun y c z => ?_, fun y z c h1 h2 => ?_, fun i y hi => ?_⟩
    · have ec : y = ("__class__" : Str) ∧ c = cc := by
        rw [List.lookup_cons] at z
        by_cases q : y = "__class__"
        · subst q; simp at z; exact ⟨rfl, z.symm⟩
        · have q' : (y == ("__class__" : Str)) = false := by simpa using q
          rw [q'] at z; cases z
      rw [ec.2]
      exact ⟨(e0.bs cc _ (e0.mod.kin cc _ hcell)).2, _, _, X0 _ _ hcell, rfl⟩
    · have one : ∀ y c, [(("__class__" : Str), cc)].lookup y = some c → y = ("__class__" : Str) := fun y c z => by
        rw [List.lookup_cons] at z
        by_cases q : y = "__class__"
        · exact q
        · have q' : (y == ("__class__" : Str)) = false := by simpa using q
          rw [q'] at z; cases z
      rw [one y c h1, one z c h2]
    · cases i with
      | zero =>
        simp at hi; subst hi
        exact ⟨cc, by simp, fun v hv => by simp at hv⟩
      | succ i => simp at hi
  have I := inv_startN (CX := L2.CX P w) (P := P) (w := w) (K := K) (mg := mg) (base := base) (f := fI) (A := A) (outer := outer) (E := E) (tk := s.toks + (ps.zip us).length) (F := supNF qual st cc cda) S.sc hr.hd e0 hl r CA hns kept
  have hself : (ps.zip us).reverse.lookup ("self" : Str) = some (.ref x) := by
    cases r with
    | nil => cases evs
    | @cons v u vs' us' r0 r1 =>
      cases evs
      obtain rfl : u = .ref x := r0
      exact zip_look ndP S.self0 rfl
  have fin : ∀ {σ' : L2.St} {H' : Hp} {v : V} {u : Value} {s' : Shared}, Inv (ncx (L2.CX P w) P w K mg base N (supNF qual st cc cda) fI A outer s H E) [] σ' H' s' → L2.RelV v u → Q v H' → CE outer P w H s Q u s' :=
    fun {σ' H' v u s'} J rv q => ⟨v, H', J.os, J.bare, J.base, J.hok, rv, q⟩
  rw [ebody]
  have X1 : K.In h₁ := X0.keeps kept
  refine PySem.ks_wpAt_execs_cons (PySem.ks_wpAt_Expr_any (PySem.ks_wpAt_MethodCall (PySem.ks_wpAt_super_base (f := fI) (cc := cda) S.ks kc (by decide) rfl (X1 _ _ lk) rfl har rfl (X1 _ _ hcode) rfl hvs hfile T.top ?_) (sup_args (hform _ _) hline)) (by show ((defScope st).kind == .module && _) = false; rw [hk]; rfl) (hsw _ _ _ _ _ _))
  have hG : s.heap.Ns mainGlobals mg := e0.mod.glob.keeps bk
  refine PySem.W.ks_loadName_global hk S.ks (loadGlobal_builtin (hG.keeps kept) hm ((hB.keeps bk).keeps kept) ((hbb "super" (by decide)).trans (by decide +kernel)) ⟨rfl, ?_⟩)
  refine wpAny_loadName_free (c := cc) hk kc rfl ⟨_, X1 _ _ hcell, rfl⟩ ?_
  rw [hars]
  refine wpAny_loadName_local hk kself hns hself ?_
  obtain ⟨oD, hD1, hD2⟩ : ∃ oD, K.lookup C = some oD ∧ oD.data = .cls cd := by
    have hcl' := hcl
    unfold PySem.W.clsIn at hcl'
    split at hcl'
    · rename_i c d cd' sl ho
      cases hcl'
      exact ⟨_, ho, rfl⟩
    · cases hcl'
  refine PySem.ks_wpAny_isType_cls (X1 _ _ hD1) hD2 ⟨rfl, ?_⟩
  obtain ⟨mA, O, _, _, _, _⟩ := ins_get I.hok hHx
  refine PySem.ks_wpAny_call_super (X1 _ _ hD1) hD2 O.obj rfl (fun c e => by cases e) (PySem.W.looks_mroIn X1 T.mine) (fun h2 e2 kp2 => ?_)
  have I2 := I.kept (t' := s.toks + (ps.zip us).length) kp2
  have X2 : K.In h2 := X1.keeps kp2
  have hsup := T.sup
  unfold PySem.W.ks_superIn at hsup
  rw [hcl, Option.bind_some] at hsup
  have hxC : x ≠ C := fun z => by
    have := (e0.bs C _ (e0.mod.kin C _ hD1)).2
    rw [← z, hHx] at this; cases this
  obtain ⟨of, hof, hofc⟩ : ∃ of, h2.get? fB = some of ∧ of.cls = .type "function" := by
    have ht' : (K.lookup fB).map (·.cls) = some (.type "function") := T.tB
    cases z : K.lookup fB with
    | none => rw [z] at ht'; cases ht'
    | some of => rw [z] at ht'; exact ⟨of, X2 _ _ z, Option.some.inj ht'⟩
  refine PySem.ks_wpAny_getMethod_super e2 (PySem.W.looks_opaque X2 T.opq) (l₀ := cd.mro) (fun A Q E s k q => wpAny_bind ((PySem.W.looks_clsIn X2 hcl) A _ E s k (wpAny_pure q))) rfl X2 hsup hof hofc hxC (by decide) ?_
  have I3 := ClX.met_new (g := fB) (C := x) I2
  have tk : Takes (ncx (L2.CX P w) P w K mg base N (supNF qual st cc cda) fI A outer s H E) (fun cls d _ H => E cls d H) := takes_of rfl rfl rfl rfl
  refine ClX.callwith_cm (X := ncx (L2.CX P w) P w K mg base N (supNF qual st cc cda) fI A outer s H E) I3 (ClX.base_none I2 (Nat.le_refl _)) T.fB (thn (hA.run q4 _ _ _ _ _ I3 hq) fun us4 s4 ⟨vs4, H4, I4, r4, q⟩ => ⟨⟨ClX.pin_at I4, I4.kIn⟩, ?_⟩) (hst _) (hpl _ _)
  have FR : FnR P w K mg base (L2.CX P w) k fB spB := (FB.raw hbB .nil).imp fun vs H Q E z => by rw [List.append_nil]; exact z
  refine thn (ClX.run_cm (X := ncx (L2.CX P w) P w K mg base N (supNF qual st cc cda) fI A outer s H E) FR (hr.deeper _) (passes_call tk fun _ _ _ _ z => z) I4 r4 q) fun v5 s5 ⟨v, H5, I5, r5, q5⟩ => ?_
  refine wpAt_of_wpAny ?_
  refine wpAny_mono (hR.run [] s5 _ H5 _ I5 q5) (fun fl s' hs => ?_) fun e s' hs => hs
  cases fl with
  | ret u =>
    obtain ⟨v, σ', H', J, rv, q⟩ := hs
    exact fin J rv q
  | next =>
    obtain ⟨σ', H', J, q⟩ := hs
    exact fin (v := V.non) (u := Value.none) J rfl q
  | brk =>
    obtain ⟨_, _, _, q⟩ := hs
    exact False.elim q
  | cont =>
    obtain ⟨_, _, _, q⟩ := hs
    exact False.elim q
end Tb

set_option Elab.async false
set_option linter.all false
set_option maxRecDepth 100000
set_option maxHeartbeats 3999000
namespace Tb
open PySem PySem.Spec PyProof.Rows L2
/-! ### a dict with the keys True and False -/
def BD (P : Program) (w : World) (a : Addr) (vT vF : V) : HO := .ext fun h => ∃ uT uF, RelV vT uT ∧ RelV vF uF ∧ (a == sysModules) = false ∧ h.DictOf (PpSet.boolK P w) a [(true, uT), (false, uF)]
theorem bd_ok {P : Program} {w : World} {H : Hp} {h : Heap} {a : Addr} {vT vF : V} {uT uF : Value} (rT : RelV vT uT) (rF : RelV vF uF) (hs : (a == sysModules) = false) (d : h.DictOf (PpSet.boolK P w) a [(true, uT), (false, uF)]) : ObjOk P w H h a (BD P w a vT vF) := by
  refine ⟨⟨uT, uF, rT, rF, hs, d⟩, ?_, ?_⟩
  · obtain ⟨o, es, ep, e, _⟩ := d; exact ⟨o, e⟩
  · rintro h1 h2 ⟨uT, uF, rT, rF, hs, o, es, ep, e, r⟩ k
    exact ⟨uT, uF, rT, rF, hs, o, es, ep, k o e, r⟩
theorem bd_at {P : Program} {w : World} {H : Hp} {h : Heap} {a : Addr} {vT vF : V} (ok : HOk P w H h) (e : H a = some (BD P w a vT vF)) : ∃ uT uF, RelV vT uT ∧ RelV vF uF ∧ (a == sysModules) = false ∧ h.DictOf (PpSet.boolK P w) a [(true, uT), (false, uF)] := (ok a _ e).1
def tBDisp (P : Program) (w : World) (trs : List (TE × TE)) : TE := fun σ H Q => ∀ p, H p = none → tPairs trs σ (upd H p (.dK [])) fun ps H2 => H2 p = some (.dK []) ∧ ∃ vT vF, ps = [(.bl true, vT), (.bl false, vF)] ∧ Q (.ref p) (upd H2 p (BD P w p vT vF))
def tBGet (P : Program) (w : World) (td ty : TE) : TE := fun σ H Q => td σ H fun x H1 => ty σ H1 fun y H2 => ∃ a vT vF b, x = .ref a ∧ H2 a = some (BD P w a vT vF) ∧ y = .bl b ∧ Q (cond b vT vF) H2
def sBPut (P : Program) (w : World) (td ty tv : TE) : TS := fun D σ H => tv σ H fun v H1 => td σ H1 fun x H2 => ty σ H2 fun y H3 => ∃ a vT vF b, x = .ref a ∧ y = .bl b ∧ H3 a = some (BD P w a vT vF) ∧ D.nx σ (upd H3 a (BD P w a (cond b v vT) (cond b vF v)))
theorem pe_fldK {X : Cx} {K : PySem.W.Frag} {e : Expr} {f : Str} {pos : Pos} {ta : TE} (hK : X.K = K) (he : PE X e ta) (hb : attributeBase e f X.env (eval e X.env) = eval e X.env) : PE X (.Attribute e f pos) (tFld K ta f) := by
  subst hK; exact pe_fld he hb
theorem ix_listK {X : Cx} {K : PySem.W.Frag} (hK : X.K = K) : IxR X (rIxL K) := by
  subst hK; exact ix_list
section
variable {X : Cx} {P : Program} {w : World} {o i value : Expr} {pos pos' : Pos} {td ty tv : TE}
theorem pe_bdisp (hP : X.prog = P) (hw : X.w = w) {keys : List (Option Expr)} {values : List Expr} {trs : List (TE × TE)} (h : PPs X pos keys values trs) (hall : keys.all (·.isSome) = true) (hl : keys.length = values.length) (h0 : keys ≠ [])
    (h15 : keys.length ≤ 15) : PE X (.Dict keys values pos) (tBDisp P w trs) := by
  subst hP hw
  refine ⟨fun pn s σ H Q I q => ?_⟩
  have hn := I.hok.fresh (Nat.le_refl s.heap.objs.size)
  have I1 := I.laid (a := s.heap.objs.size) (o := .dK []) (h' := s.heap.push { cls := .type "dict", data := .dict #[] }) (t' := s.toks) (fun _ _ q => Heap.get?_push_of_some _ q) (Nat.le_refl _) (dk_empty s.heap I.big)
  refine wpAny_Dict_walk (knd := PpSet.boolK X.prog X.w) hall hl h0 h15 (thn (h.run pn _ σ _ _ I1 (q _ hn)) fun ws s2 ⟨ps, H2, I2, rel, e, vT, vF, ep, q2⟩ => ?_)
  subst ep
  cases rel with
  | @cons a b as bs h1 t =>
    cases t with
    | @cons a2 b2 as2 bs2 h2 t2 =>
      cases t2
      obtain ⟨b1, b2'⟩ := b
      obtain ⟨c1, c2'⟩ := b2
      obtain ⟨r1, r2⟩ := h1
      obtain ⟨r3, r4⟩ := h2
      obtain rfl : b1 = Value.bool true := r1
      obtain rfl : c1 = Value.bool false := r3
      obtain ⟨z, hd, vs0, r0, dd⟩ := dk_of I2.hok e
      cases r0
      obtain ⟨oo, es, ep, g1, g2, g3, g4, g5, g6⟩ := dd
      have es0 : es.toList = [] := by
        cases hh : es.toList with
        | nil => rfl
        | cons x xs => rw [hh] at g5; cases g5
      have es1 : es = #[] := by cases es; simp at es0; rw [es0]
      refine ⟨[(true, b2'), (false, c2')], ⟨PpSet.boolK_is _ _ _, rfl, PpSet.boolK_is _ _ _, rfl, trivial⟩, ⟨oo, es, ep, g1, g2, g3, ?_, ?_, List.nodup_nil⟩, fun h' dd' hs => ⟨.ref s.heap.objs.size, _, ?_, rfl, q2⟩⟩
      · subst es1; intro e he; simp at he
      · subst es1; exact .nil
      · have he : ∃ q, h'.get? s.heap.objs.size = some q := let ⟨q, _, _, hq, _⟩ := dd'; ⟨q, hq⟩
        exact d_write I2 (by rw [e]; exact True.intro) hs he (bd_ok r2 r4 hd dd')
theorem pe_bget (hP : X.prog = P) (hw : X.w = w) (ho : PE X o td) (hi : PE X i ty) (hs : NoSl i) : PE X (.Subscript o i pos) (tBGet P w td ty) := by
  subst hP hw
  refine ⟨fun pn s σ H Q I h => ?_⟩
  refine subD_of PySem.F.slot_dict_getitem.lookup hs (thn (ho.run pn s σ H _ I h) fun u s1 ⟨x, H1, I1, rx, q1⟩ => thn (hi.run pn s1 σ H1 _ I1 q1) fun iv s2 ⟨y, H2, I2, ry, a, vT, vF, b, ex, g, ey, q2⟩ => ?_)
  subst ex ey
  obtain rfl : u = Value.ref a := rx
  obtain rfl : iv = Value.bool b := ry
  obtain ⟨uT, uF, rT, rF, _, dd⟩ := bd_at I2.hok g
  refine ⟨dd.typeIs, wpAny_getItem_of (k := b) (v := cond b uT uF) (PpSet.boolK_is _ _ _) dd.mapOf (by cases b <;> rfl) ⟨_, H2, I2.tok _, ?_, q2⟩⟩
  cases b
  · exact rF
  · exact rT
theorem ps_bput (hP : X.prog = P) (hw : X.w = w) (ho : PE X o td) (hi : PE X i ty) (hv : PE X value tv) (hs : swapsWith value (some (.Subscript o i pos')) pos.line X.env = pure false) : PS X (.Assign [.Subscript o i pos'] value pos) (sBPut P w td ty tv) := by
  subst hP hw
  refine ⟨fun pn s σ H D I h => ?_⟩
  refine wpAny_Assign_Subscript (thn (hv.run pn s σ H _ I h) fun r s1 ⟨v, H1, I1, rv, q1⟩ => thn (ho.run pn s1 σ H1 _ I1 q1) fun u s2 ⟨x, H2, I2, rx, q2⟩ => thn (hi.run pn s2 σ H2 _ I2 q2) fun iv s3 ⟨y, H3, I3, ry, a, vT, vF, b, ex, ey, g, q3⟩ => ?_) hs
  subst ex ey
  obtain rfl : u = Value.ref a := rx
  obtain rfl : iv = Value.bool b := ry
  obtain ⟨uT, uF, rT, rF, hd, dd⟩ := bd_at I3.hok g
  refine wpAny_setItem_pairs (k := b) (hsz := by show 2 ≤ sizeLine; decide) (PpSet.boolK_is _ _ _) dd fun h' dd' hs => ⟨σ, _, ?_, q3⟩
  have he : ∃ q, h'.get? a = some q := let ⟨q, _, _, hq, _⟩ := dd'; ⟨q, hq⟩
  refine d_write I3 (by rw [g]; exact True.intro) hs he (bd_ok (uT := cond b r uT) (uF := cond b uF r) ?_ ?_ hd ?_)
  · cases b
    · exact rT
    · exact rv
  · cases b
    · exact rv
    · exact rF
  · cases b <;> exact dd'
end
end Tb

set_option Elab.async false
set_option linter.all false
set_option maxRecDepth 100000
set_option maxHeartbeats 3999000
namespace Tb
open PySem PySem.Spec PyProof.Rows L2
/-! ### a dict whose keys are None and texts -/
def lfV : V → Option Leaf
  | .non => some .none
  | .str x => some (.text x)
  | _ => none
theorem lf_is {P : Program} {w : World} {v : V} {u : Value} {k : Leaf} (r : RelV v u) (e : lfV v = some k) : (leafKind P w).is k u = true := by
  cases v with
  | non => cases e; cases (show u = Value.none from r); rfl
  | str x => cases e; obtain ⟨t, rfl⟩ := (show ∃ t, u = Value.str x t from r); exact (by simp [leafKind, Leaf.isOf, Value.isStrOf])
  | _ => cases e
def LD (P : Program) (w : World) (a : Addr) (g : Leaf → Option V) (n : Nat) : HO := .ext fun h => ∃ vs : List (Leaf × Value), vs.length ≤ n ∧ (a == sysModules) = false ∧ h.DictOf (leafKind P w) a vs ∧ ∀ k, RelO (g k) (valueAt vs k)
theorem ld_ok {P : Program} {w : World} {H : Hp} {h : Heap} {a : Addr} {g : Leaf → Option V} {n : Nat} {vs : List (Leaf × Value)} (hn : vs.length ≤ n) (hs : (a == sysModules) = false) (d : h.DictOf (leafKind P w) a vs) (r : ∀ k, RelO (g k) (valueAt vs k)) : ObjOk P w H h a (LD P w a g n) := by
  refine ⟨⟨vs, hn, hs, d, r⟩, ?_, ?_⟩
  · obtain ⟨o, es, ep, e, _⟩ := d; exact ⟨o, e⟩
  · rintro h1 h2 ⟨vs, hn, hs, ⟨o, es, ep, e, r1⟩, r⟩ k
    exact ⟨vs, hn, hs, ⟨o, es, ep, k o e, r1⟩, r⟩
theorem ld_at {P : Program} {w : World} {H : Hp} {h : Heap} {a : Addr} {g : Leaf → Option V} {n : Nat} (ok : HOk P w H h) (e : H a = some (LD P w a g n)) : ∃ vs : List (Leaf × Value), vs.length ≤ n ∧ (a == sysModules) = false ∧ h.DictOf (leafKind P w) a vs ∧ ∀ k, RelO (g k) (valueAt vs k) := (ok a _ e).1
def tLDisp (P : Program) (w : World) (trs : List (TE × TE)) : TE := fun σ H Q => ∀ p, H p = none → tPairs trs σ (upd H p (.dK [])) fun ps H2 => H2 p = some (.dK []) ∧ ∃ v, ps = [(.non, v)] ∧ Q (.ref p) (upd H2 p (LD P w p (fun k => if k = .none then some v else none) 1))
def tLGet (P : Program) (w : World) (td ty tx : TE) : TE := fun σ H Q => td σ H fun x H1 => ∃ a g n, x = .ref a ∧ H1 a = some (LD P w a g n) ∧ ty σ H1 fun y H2 => tx σ H2 fun z H3 => H3 a = some (LD P w a g n) ∧ ∃ k, lfV y = some k ∧ Q ((g k).getD z) H3
def sLPut (P : Program) (w : World) (td ty tv : TE) : TS := fun D σ H => tv σ H fun v H1 => td σ H1 fun x H2 => ty σ H2 fun y H3 => ∃ a g n k, x = .ref a ∧ lfV y = some k ∧ H3 a = some (LD P w a g n) ∧ n ≤ sizeLine ∧ D.nx σ (upd H3 a (LD P w a (fun k' => if k' = k then some v else g k') (n + 1)))
section
variable {X : Cx} {P : Program} {w : World} {o i value e f : Expr} {pos pos' apos cpos : Pos} {td ty tv tx : TE}
theorem pe_ldisp (hP : X.prog = P) (hw : X.w = w) {keys : List (Option Expr)} {values : List Expr} {trs : List (TE × TE)} (h : PPs X pos keys values trs) (hall : keys.all (·.isSome) = true) (hl : keys.length = values.length) (h0 : keys ≠ [])
    (h15 : keys.length ≤ 15) : PE X (.Dict keys values pos) (tLDisp P w trs) := by
  subst hP hw
  refine ⟨fun pn s σ H Q I q => ?_⟩
  have hn := I.hok.fresh (Nat.le_refl s.heap.objs.size)
  have I1 := I.laid (a := s.heap.objs.size) (o := .dK []) (h' := s.heap.push { cls := .type "dict", data := .dict #[] }) (t' := s.toks) (fun _ _ q => Heap.get?_push_of_some _ q) (Nat.le_refl _) (dk_empty s.heap I.big)
  refine wpAny_Dict_walk (knd := leafKind X.prog X.w) hall hl h0 h15 (thn (h.run pn _ σ _ _ I1 (q _ hn)) fun ws s2 ⟨ps, H2, I2, rel, e, v, ep, q2⟩ => ?_)
  subst ep
  cases rel with
  | @cons a b as bs h1 t =>
    cases t
    obtain ⟨b1, b2'⟩ := b
    obtain ⟨r1, r2⟩ := h1
    obtain rfl : b1 = Value.none := r1
    obtain ⟨z, hd, vs0, r0, dd⟩ := dk_of I2.hok e
    cases r0
    obtain ⟨oo, es, ep, g1, g2, g3, g4, g5, g6⟩ := dd
    have es0 : es.toList = [] := by
      cases hh : es.toList with
      | nil => rfl
      | cons x xs => rw [hh] at g5; cases g5
    have es1 : es = #[] := by cases es; simp at es0; rw [es0]
    refine ⟨[(Leaf.none, b2')], ⟨rfl, rfl, trivial⟩, ⟨oo, es, ep, g1, g2, g3, ?_, ?_, List.nodup_nil⟩, fun h' dd' hs => ⟨.ref s.heap.objs.size, _, ?_, rfl, q2⟩⟩
    · subst es1; intro e he; simp at he
    · subst es1; exact .nil
    · have he : ∃ q, h'.get? s.heap.objs.size = some q := let ⟨q, _, _, hq, _⟩ := dd'; ⟨q, hq⟩
      refine d_write I2 (by rw [e]; exact True.intro) hs he (ld_ok (vs := [(Leaf.none, b2')]) (Nat.le_refl _) hd dd' fun k => ?_)
      by_cases c : k = .none
      · subst c; exact r2
      · have : valueAt [(Leaf.none, b2')] k = none := by
          have := valueAt_stored ([] : List (Leaf × Value)) .none b2' k
          rw [if_neg c] at this
          exact this
        rw [this, if_neg c]; exact trivial
theorem pe_lget (hP : X.prog = P) (hw : X.w = w) (ho : PE X o td) (he : PE X e ty) (hf : PE X f tx) (m : M2 X o "get" apos e f cpos) : PE X (.Call (.Attribute o "get" apos) [e, f] [] cpos) (tLGet P w td ty tx) := by
  subst hP hw
  refine ⟨fun pins s σ H Q I h => ?_⟩
  refine wpAny_Call_method m.base m.few m.line PySem.F.plainAttrs_dict PySem.F.slot_dict_get PySem.F.type_dict_get (thn (ho.run pins s σ H _ I h) fun u s1 ⟨x, H1, I1, rx, a, g, n, ex, d, q1⟩ => ?_)
  subst ex
  obtain rfl : u = Value.ref a := rx
  obtain ⟨vs, _, hsys, dd, _⟩ := ld_at I1.hok d
  refine ⟨dd.typeIs, fun b q => ?_, ?_⟩
  · cases q
    obtain ⟨ob, _, _, h1, h2, _⟩ := dd
    exact ⟨ob, h1, h2.2.1⟩
  rw [m.trees]
  refine Calls.callWith_builtin rfl (Calls.evalArgs_plain (Calls.spliced_cons (thn (he.run pins s1 σ H1 _ I1 q1) fun iv s2 ⟨y, H2, I2, ry, q2⟩ =>
    Calls.spliced_cons (thn (hf.run pins s2 σ H2 _ I2 q2) fun fv s3 ⟨z, H3, I3, rz, d3, k, ek, q3⟩ => Calls.spliced_nil ?_))))
  obtain ⟨vs, _, hsys, dd, rel⟩ := ld_at I3.hok d3
  refine call_meetsIn PySem.F.slot_dict_get dd.typeIs PySem.F.entry_dict_get (PySem.F.args_dict_get_3 _ _ _) (meets_dict_get_default (leafKind X.prog X.w) a (lf_is ry ek) hsys fv) ⟨_, dd.mapOf, ⟨_, H3, I3.tok _, ?_, q3⟩⟩
  have := rel k
  cases hg : g k with
  | none => rw [hg] at this; rw [RelO.none_of this]; exact rz
  | some v => rw [hg] at this; obtain ⟨u, hu, ru⟩ := RelO.some_of this; rw [hu]; exact ru
theorem ps_lput (hP : X.prog = P) (hw : X.w = w) (ho : PE X o td) (hi : PE X i ty) (hv : PE X value tv) (hs : swapsWith value (some (.Subscript o i pos')) pos.line X.env = pure false) : PS X (.Assign [.Subscript o i pos'] value pos) (sLPut P w td ty tv) := by
  subst hP hw
  refine ⟨fun pn s σ H D I h => ?_⟩
  refine wpAny_Assign_Subscript (thn (hv.run pn s σ H _ I h) fun r s1 ⟨v, H1, I1, rv, q1⟩ => thn (ho.run pn s1 σ H1 _ I1 q1) fun u s2 ⟨x, H2, I2, rx, q2⟩ => thn (hi.run pn s2 σ H2 _ I2 q2) fun iv s3 ⟨y, H3, I3, ry, a, g, n, k, ex, ek, d, hn, q3⟩ => ?_) hs
  subst ex
  obtain rfl : u = Value.ref a := rx
  obtain ⟨vs, hvs, hd, dd, rel⟩ := ld_at I3.hok d
  refine wpAny_setItem_pairs (k := k) (hsz := Nat.le_trans hvs hn) (lf_is ry ek) dd fun h' dd' hs => ⟨σ, _, ?_, q3⟩
  have he : ∃ q, h'.get? a = some q := let ⟨q, _, _, hq, _⟩ := dd'; ⟨q, hq⟩
  refine d_write I3 (by rw [d]; exact True.intro) hs he (ld_ok (Nat.le_trans (stored_length_le vs k r) (Nat.succ_le_succ hvs)) hd dd' fun k' => ?_)
  rw [valueAt_stored]
  by_cases c : k' = k
  · rw [if_pos c, if_pos c]; exact rv
  · rw [if_neg c, if_neg c]; exact rel k'
end
end Tb

set_option Elab.async false
set_option linter.all false
set_option maxRecDepth 100000
set_option maxHeartbeats 3999000
namespace Tb
open PySem PySem.Spec PyProof.Rows L2
open PySem.W (Frag)
section
variable {X : Cx}
/-! ### None in t, t a tuple whose items are None or tuples -/
/-- None, or a tuple that is known -/
def noT (H : Hp) : V → Prop
  | .non => True
  | .ref p => ∃ xs, H p = some (.tup xs)
  | _ => False
def isNo : V → Bool
  | .non => true
  | _ => false
def isNoU : Value → Bool
  | .none => true
  | _ => false
theorem isNo_of {y : V} {u : Value} (r : RelV y u) : isNoU u = isNo y := by
  cases y with
  | non => cases r; rfl
  | bl b => cases r; rfl
  | int i => obtain ⟨t, rfl⟩ := r; rfl
  | str z => obtain ⟨t, rfl⟩ := r; rfl
  | byt z => obtain ⟨t, rfl⟩ := r; rfl
  | flt z => obtain ⟨t, rfl⟩ := r; rfl
  | ref a => cases r; rfl
  | ty n => cases r; rfl
theorem any_no : ∀ {xs : List V} {us : List Value}, Vals xs us → us.any isNoU = xs.any isNo
  | _, _, .nil => rfl
  | y :: xs, u :: us, .cons r t => by rw [List.any_cons, List.any_cons, isNo_of r, any_no t]
theorem mem_noT {pins : List (Addr × Obj)} {s : Shared} {σ : L2.St} {H : Hp} (I : Inv X pins σ H s) {A : Around} (hu : A.units < cLine) : ∀ {xs : List V} {us : List Value}, Vals xs us → (∀ y ∈ xs, noT H y) → ∀ u ∈ us, SeqAt.EqAt A s u .none (isNoU u)
  | _, _, .nil, _ => fun u hu => by cases hu
  | y :: xs, u :: us, .cons r t, f => fun u' hu' => by
    rcases List.mem_cons.mp hu' with rfl | hu'
    · have fy := f y List.mem_cons_self
      cases y with
      | non => cases r; exact SeqAt.EqAt.same _
      | ref p =>
        cases r
        obtain ⟨xs, hp⟩ := fy
        obtain ⟨its, r, pl, hz⟩ := I.tuple (a := p) (xs := xs) (.inl (.inl hp))
        exact SeqAt.EqAt.tuple_none pl hu
      | _ => exact fy.elim
    · exact mem_noT I hu t (fun y hy => f y (List.mem_cons_of_mem _ hy)) u' hu'
def rInN (K : Frag) : R2 := fun x y H Q => ∃ p xs, x = .non ∧ y = .ref p ∧ SqT K H p xs ∧ (∀ y ∈ xs, noT H y) ∧ Q (.bl (xs.any isNo)) H
theorem op_inN (hu : X.A.units + 1 < cLine) : OpR X (compareOp .In) (rInN X.K) := by
  intro pins s σ H x y v u Q I rx ry h
  obtain ⟨p, xs, rfl, rfl, hq, fs, q⟩ := h
  cases ry
  cases rx
  obtain ⟨its, r, pl, hz⟩ := I.tuple hq
  refine SeqAt.in_tupleAt isNoU pl (fun w hw => ?_) ⟨.bl _, H, I, rfl, ?_⟩
  · exact mem_noT I (by first | exact hu | (show X.A.units + 1 < cLine; exact hu) | omega) r fs w (by simpa using hw)
  · rw [show its.toArray.any isNoU = its.any isNoU by simp, any_no r]
    exact q
/-! ### xs.count(y) of flat items -/
def rCntF (K : Frag) : V → List V → Hp → VK → Prop := fun x xs H Q => ∃ (p : Addr) (ys : List V) (y : V), x = .ref p ∧ xs = [y] ∧ SqL K H p ys ∧ flatV y = true ∧ ys.all flatV = true ∧ Q (.int (ys.countP (fun z => eqV z y) : Nat)) H
theorem count_eqU {x : V} : ∀ {xs : List V} {us : List Value}, Vals xs us → xs.all flatV = true → us.countP (eqU x) = xs.countP fun y => eqV y x
  | _, _, .nil, _ => rfl
  | y :: xs, u :: us, .cons r t, f => by
    rw [List.all_cons, Bool.and_eq_true] at f
    rw [List.countP_cons, List.countP_cons, eqU_of r f.1, count_eqU t f.2]
theorem mt_lcountF : MtR X "list.count" (rCntF X.K) := by
  intro pins s σ H x xs v us Q I rx rxs h
  obtain ⟨p, ys, y, rfl, rfl, hs, fy, fs, q⟩ := h
  cases rx
  obtain ⟨u, rfl, ru⟩ := rxs.one
  obtain ⟨its, rv, ⟨⟨cls, dd, data, sl⟩, n, ho, hc, hdn, hd⟩, hlen⟩ := I.list hs
  simp only at hc hd
  subst hc hd
  refine call_meets PySem.F.slot_list_count ⟨_, ho, rfl⟩ PySem.F.entry_list_count (PySem.F.args_list_count_2 _ _)
    (SeqAt.list_countAt p its.toArray n dd sl u (eqU y)) ⟨ho, fun z hz => mem_eqAt ru fy rv fs z (by simpa using hz), ?_⟩
  have ec : its.toArray.toList.countP (eqU y) = ys.countP (fun z => eqV z y) := by
    show its.countP (eqU y) = _
    exact count_eqU rv fs
  rw [ec]
  exact ⟨.int _, H, I.tok _, ⟨_, rfl⟩, q⟩
/-! ### D.get(k, x), D a dict of the top with text keys -/
def tKGet (K : Frag) (w : World) (td ty tx : TE) : TE := fun σ H Q => td σ H fun x H1 => ∃ d es n, x = .ref d ∧ KDict K w d es n ∧ ty σ H1 fun y H2 => tx σ H2 fun z H3 => ∃ (k : Str) (r : Option Value) (v : V), y = .str k ∧ PySem.W.nsIn K d k = some r ∧ (∀ u, r = some u → RelV v u) ∧ Q (if r.isSome then v else z) H3
theorem pe_kget {o e f : Expr} {apos cpos : Pos} {td ty tx : TE} (ho : PE X o td) (he : PE X e ty) (hf : PE X f tx) (m : M2 X o "get" apos e f cpos) : PE X (.Call (.Attribute o "get" apos) [e, f] [] cpos) (tKGet X.K X.w td ty tx) := by
  refine ⟨fun pins s σ H Q I h => ?_⟩
  refine wpAny_Call_method m.base m.few m.line PySem.F.plainAttrs_dict PySem.F.slot_dict_get PySem.F.type_dict_get (thn (ho.run pins s σ H _ I h) fun u s1 ⟨x, H1, I1, rx, d, es, n, ex, D, q1⟩ => ?_)
  subst ex
  obtain rfl : u = Value.ref d := rx
  have mo := PySem.W.mapOf_K (prog := X.prog) (w := X.w) I1.kIn D.at_ D.lit
  refine ⟨mo.typeIs, fun b q => ?_, ?_⟩
  · cases q
    exact ⟨_, I1.kIn _ _ D.at_, rfl⟩
  rw [m.trees]
  refine Calls.callWith_builtin rfl (Calls.evalArgs_plain (Calls.spliced_cons (thn (he.run pins s1 σ H1 _ I1 q1) fun iv s2 ⟨y, H2, I2, ry, q2⟩ =>
    Calls.spliced_cons (thn (hf.run pins s2 σ H2 _ I2 q2) fun fv s3 ⟨z, H3, I3, rz, k, r, v, ek, en, hv, q3⟩ => Calls.spliced_nil ?_))))
  subst ek
  obtain ⟨t, rfl⟩ := ry
  have mo := PySem.W.mapOf_K (prog := X.prog) (w := X.w) I3.kIn D.at_ D.lit
  have hsys := D.low
  refine call_meetsIn PySem.F.slot_dict_get mo.typeIs PySem.F.entry_dict_get (PySem.F.args_dict_get_3 _ _ _) (meets_dict_get_default (strKind X.prog X.w) d (PySem.strKind_is X.prog X.w k t) hsys fv) ⟨_, mo, ⟨_, H3, I3.tok _, ?_, q3⟩⟩
  rw [PySem.W.find_K D.at_ en]
  cases r with
  | none => exact rz
  | some u => exact hv u rfl
end
end Tb

set_option Elab.async false
set_option linter.all false
set_option maxRecDepth 100000
set_option maxHeartbeats 3999000
namespace Tb
open PySem PySem.Spec PyProof.Rows L2
open PySem.W (Frag)
open StX (pa_star tStar)
/-! ### rules whose reading names K itself (for a comprehension's block) -/
section
variable {X : Cx} {K : Frag} {e : Expr} {es : List Expr} {p pos : Pos} {te : TE} {t : TA}
theorem pa_starK (hK : X.K = K) (he : PE X e te) (hr : PA X es t) (hs : starEach (.Starred e p :: es) X.env = (true, eval e X.env) :: starEach es X.env := by rfl) : PA X (.Starred e p :: es) (tStar K te t) := by
  subst hK; exact pa_star he hr hs
theorem op_in_seqK (hK : X.K = K) : OpR X (compareOp .In) (rIn K false) := by subst hK; exact op_in_seq
theorem op_notIn_seqK (hK : X.K = K) : OpR X (compareOp .NotIn) (rIn K true) := by subst hK; exact op_notIn_seq
theorem ix_tupK (hK : X.K = K) : IxR X (rIxT K) := by subst hK; exact ix_tup
theorem sl_listK (hK : X.K = K) : SlR X (rSlL K) := by subst hK; exact sl_list
theorem sl_tupK (hK : X.K = K) : SlR X (rSlT K) := by subst hK; exact sl_tup
theorem op_catTK (hK : X.K = K) : OpR X (binaryOp .Add) (rCatT K) := by subst hK; exact op_catT
theorem pg_tupK {es : List Expr} {k : Nat} {t : TGs} {n : Nat} (hK : X.K = K) (hc : X.calm = true) (h : PGs X es t)
    (hn : (assignEach es X.env).length = n := by rfl) (hst : (assignEach es X.env).findIdx? (·.1) = none := by rfl) : PG X (.Tuple es k pos) (gTup K n t) := by
  subst hK; exact pg_tup hc h hn hst
theorem passF {P : Program} {w : World} : Passes (L2.CX P w) X (fun _ _ _ => False) := fun _ _ _ _ _ _ _ h => by
  obtain ⟨_, _, _, _, _, _, _, _, _, _, _, _, z⟩ := h
  exact z.elim
end
/-! ### what stays: all but the object at a -/
def But (a : Addr) (H H' : Hp) : Prop := ∀ c u, H c = some u → c ≠ a → H' c = some u
/-- tuples stay -/
def TupX (H H' : Hp) : Prop := ∀ c xs, H c = some (.tup xs) → H' c = some (.tup xs)
theorem But.refl {a : Addr} {H : Hp} : But a H H := fun _ _ h _ => h
theorem But.trans {a : Addr} {H H1 H2 : Hp} (x : But a H H1) (y : But a H1 H2) : But a H H2 := fun c u h n => y c u (x c u h n) n
theorem But.same {a : Addr} {H H1 H2 : Hp} (x : But a H H1) (y : Same H1 H2) : But a H H2 := fun c u h n => y c u (x c u h n)
theorem But.new {a p : Addr} {H H1 : Hp} {o : HO} (x : But a H H1) (hp : H1 p = none) : But a H (upd H1 p o) := fun c u h n => by
  have := x c u h n
  rw [upd_ne (ne_of_none this hp)]; exact this
theorem But.put {a : Addr} {H H1 : Hp} {o : HO} (x : But a H H1) : But a H (upd H1 a o) := fun c u h n => by
  rw [upd_ne n]; exact x c u h n
theorem But.tup {a C dx : Addr} {fs : List (Str × V)} {H H1 : Hp} (x : But a H H1) (ha : H a = some (.ins C dx fs)) : TupX H H1 := fun c xs h => x c _ h (fun e => by rw [e, ha] at h; cases h)
theorem TupX.refl {H : Hp} : TupX H H := fun _ _ h => h
theorem TupX.trans {H H1 H2 : Hp} (x : TupX H H1) (y : TupX H1 H2) : TupX H H2 := fun c xs h => y c xs (x c xs h)
theorem TupX.of {H H1 : Hp} (x : Same H H1) : TupX H H1 := fun c xs h => x c _ h
theorem TupX.new {p : Addr} {H H1 : Hp} {o : HO} (x : TupX H H1) (hp : H1 p = none) : TupX H (upd H1 p o) := fun c xs h => by
  have := x c xs h
  rw [upd_ne (ne_of_none this hp)]; exact this
end Tb

set_option Elab.async false
set_option linter.all false
set_option maxRecDepth 100000
set_option maxHeartbeats 3999000
namespace Tb
open PySem PySem.Spec PyProof.Rows L2
open PySem.W (Frag)
def topS (i : Nat) : Stmt := PySem.Challenge.pw_tagblocks_k03_whole_head_limits_by_ways.main.body.getD i (.Pass ⟨0, 0, 0, 0⟩)
abbrev s_BadKind : Stmt := inClass (topS 2) 0
theorem eb_BadKind : ExBody s_BadKind ["kind"] := ⟨⟨_, _, _, _, _, _, _, _, _, rfl, (.cons .nil), rfl⟩, rfl, rfl, rfl, rfl, rfl, rfl, by decide +kernel, by decide +kernel, ⟨_, rfl, rfl⟩, by decide +kernel, by decide +kernel⟩
abbrev s_BadLine : Stmt := inClass (topS 3) 0
theorem eb_BadLine : ExBody s_BadLine ["line"] := ⟨⟨_, _, _, _, _, _, _, _, _, rfl, (.cons .nil), rfl⟩, rfl, rfl, rfl, rfl, rfl, rfl, by decide +kernel, by decide +kernel, ⟨_, rfl, rfl⟩, by decide +kernel, by decide +kernel⟩
abbrev s_Refused : Stmt := inClass (topS 4) 0
theorem eb_Refused : ExBody s_Refused ["line"] := ⟨⟨_, _, _, _, _, _, _, _, _, rfl, (.cons .nil), rfl⟩, rfl, rfl, rfl, rfl, rfl, rfl, by decide +kernel, by decide +kernel, ⟨_, rfl, rfl⟩, by decide +kernel, by decide +kernel⟩
abbrev s_TooMany : Stmt := inClass (topS 5) 0
theorem eb_TooMany : ExBody s_TooMany ["what", "many", "most"] := ⟨⟨_, _, _, _, _, _, _, _, _, rfl, (.cons (.cons (.cons .nil))), rfl⟩, rfl, rfl, rfl, rfl, rfl, rfl, by decide +kernel, by decide +kernel, ⟨_, rfl, rfl⟩, by decide +kernel, by decide +kernel⟩
abbrev s_told_number : Stmt := topS 10
abbrev nm_told_number : List Str := ["word"]
theorem sc_told_number : FnScope nm_told_number ["word"] (defScope s_told_number) := ⟨rfl, rfl, rfl, by decide +kernel, rfl, by decide +kernel, by decide +kernel⟩
abbrev s_told_atom : Stmt := topS 11
abbrev nm_told_atom : List Str := ["word", "names", "number"]
theorem sc_told_atom : FnScope nm_told_atom ["word", "names"] (defScope s_told_atom) := ⟨rfl, rfl, rfl, by decide +kernel, rfl, by decide +kernel, by decide +kernel⟩
abbrev s_told_sum : Stmt := topS 12
abbrev nm_told_sum : List Str := ["words", "names", "found", "seen", "place", "word", "atom"]
theorem sc_told_sum : FnScope nm_told_sum ["words", "names"] (defScope s_told_sum) := ⟨rfl, rfl, rfl, by decide +kernel, rfl, by decide +kernel, by decide +kernel⟩
abbrev s_told_part : Stmt := topS 13
abbrev nm_told_part : List Str := ["text", "names", "others", "wanted", "told", "words", "one", "other"]
theorem sc_told_part : FnScope nm_told_part ["text", "names", "others"] (defScope s_told_part) := ⟨rfl, rfl, rfl, by decide +kernel, rfl, by decide +kernel, by decide +kernel⟩
abbrev s_Reader_init : Stmt := inClass (topS 14) 0
abbrev nm_Reader_init : List Str := ["self", "lines", "row_of", "part_of"]
theorem sc_Reader_init : FnScope nm_Reader_init ["self", "lines", "row_of", "part_of"] (defScope s_Reader_init) := ⟨rfl, rfl, rfl, by decide +kernel, rfl, by decide +kernel, by decide +kernel⟩
abbrev s_Reader_read_block : Stmt := inClass (topS 14) 1
abbrev nm_Reader_read_block : List Str := ["self", "is_inner", "rows", "text"]
theorem sc_Reader_read_block : FnScope nm_Reader_read_block ["self", "is_inner"] (defScope s_Reader_read_block) := ⟨rfl, rfl, rfl, by decide +kernel, rfl, by decide +kernel, by decide +kernel⟩
abbrev s_Reader_read_if : Stmt := inClass (topS 14) 2
abbrev nm_Reader_read_if : List Str := ["self", "text", "line", "parts", "part", "rows", "word", "others"]
theorem sc_Reader_read_if : FnScope nm_Reader_read_if ["self", "text"] (defScope s_Reader_read_if) := ⟨rfl, rfl, rfl, by decide +kernel, rfl, by decide +kernel, by decide +kernel⟩
abbrev s_read_rows : Stmt := topS 15
abbrev nm_read_rows : List Str := ["lines", "row_of", "part_of", "most_ifs", "reader", "rows", "word"]
theorem sc_read_rows : FnScope nm_read_rows ["lines", "row_of", "part_of", "most_ifs"] (defScope s_read_rows) := ⟨rfl, rfl, rfl, by decide +kernel, rfl, by decide +kernel, by decide +kernel⟩
abbrev s_all_ways : Stmt := topS 16
abbrev nm_all_ways : List Str := ["rows", "ends", "found", "row", "later", "way", "has_ended", "block", "more", "ended"]
theorem sc_all_ways : FnScope nm_all_ways ["rows", "ends"] (defScope s_all_ways) := ⟨rfl, rfl, rfl, by decide +kernel, rfl, by decide +kernel, by decide +kernel⟩
abbrev s_CodeText_init : Stmt := inClass (topS 17) 0
abbrev nm_CodeText_init : List Str := ["self", "part", "kind", "kinds", "text", "most_lines"]
theorem sc_CodeText_init : FnScope nm_CodeText_init ["self", "part", "kind", "kinds", "text", "most_lines"] (defScope s_CodeText_init) := ⟨rfl, rfl, rfl, by decide +kernel, rfl, by decide +kernel, by decide +kernel⟩
abbrev s_CodeText_same : Stmt := inClass (topS 17) 1
abbrev nm_CodeText_same : List Str := ["self"]
theorem sc_CodeText_same : FnScope nm_CodeText_same ["self"] (defScope s_CodeText_same) := ⟨rfl, rfl, rfl, by decide +kernel, rfl, by decide +kernel, by decide +kernel⟩
abbrev s_CodeText_len : Stmt := inClass (topS 17) 2
abbrev nm_CodeText_len : List Str := ["self"]
theorem sc_CodeText_len : FnScope nm_CodeText_len ["self"] (defScope s_CodeText_len) := ⟨rfl, rfl, rfl, by decide +kernel, rfl, by decide +kernel, by decide +kernel⟩
abbrev s_CodeText_iter : Stmt := inClass (topS 17) 3
abbrev nm_CodeText_iter : List Str := ["self"]
theorem sc_CodeText_iter : FnScope nm_CodeText_iter ["self"] (defScope s_CodeText_iter) := ⟨rfl, rfl, rfl, by decide +kernel, rfl, by decide +kernel, by decide +kernel⟩
abbrev s_CodeText_getitem : Stmt := inClass (topS 17) 4
abbrev nm_CodeText_getitem : List Str := ["self", "k"]
theorem sc_CodeText_getitem : FnScope nm_CodeText_getitem ["self", "k"] (defScope s_CodeText_getitem) := ⟨rfl, rfl, rfl, by decide +kernel, rfl, by decide +kernel, by decide +kernel⟩
abbrev s_CodeText_eq : Stmt := inClass (topS 17) 5
abbrev nm_CodeText_eq : List Str := ["self", "other"]
theorem sc_CodeText_eq : FnScope nm_CodeText_eq ["self", "other"] (defScope s_CodeText_eq) := ⟨rfl, rfl, rfl, by decide +kernel, rfl, by decide +kernel, by decide +kernel⟩
abbrev s_given_names : Stmt := topS 28
abbrev nm_given_names : List Str := ["kind"]
theorem sc_given_names : FnScope nm_given_names ["kind"] (defScope s_given_names) := ⟨rfl, rfl, rfl, by decide +kernel, rfl, by decide +kernel, by decide +kernel⟩
abbrev s_told_name : Stmt := topS 29
abbrev nm_told_name : List Str := ["kind"]
theorem sc_told_name : FnScope nm_told_name ["kind"] (defScope s_told_name) := ⟨rfl, rfl, rfl, by decide +kernel, rfl, by decide +kernel, by decide +kernel⟩
abbrev s_run_of : Stmt := topS 30
abbrev nm_run_of : List Str := ["number", "low", "rest", "high"]
theorem sc_run_of : FnScope nm_run_of ["number"] (defScope s_run_of) := ⟨rfl, rfl, rfl, by decide +kernel, rfl, by decide +kernel, by decide +kernel⟩
abbrev s_row_of : Stmt := topS 31
abbrev nm_row_of : List Str := ["kind", "text", "line", "words", "sign", "number", "sum_words", "names", "found"]
theorem sc_row_of : FnScope nm_row_of ["kind", "text", "line"] (defScope s_row_of) := ⟨rfl, rfl, rfl, by decide +kernel, rfl, by decide +kernel, by decide +kernel⟩
abbrev s_read_head : Stmt := topS 32
abbrev nm_read_head : List Str := ["kind", "lines", "most_ifs", "names", "row", "part", "rows", "late", "way", "has_ended", "settings", "name", "line"]
theorem sc_read_head : FnScope nm_read_head ["kind", "lines", "most_ifs"] (defScope s_read_head) := ⟨rfl, rfl, rfl, by decide +kernel, rfl, by decide +kernel, by decide +kernel⟩
abbrev s_Lbag : Stmt := topS 39
abbrev nm_Lbag : List Str := ["_law_script", "_law_fold", "_law_cell"]
theorem sc_Lbag : FnScope nm_Lbag ["_law_script"] (defScope s_Lbag) := ⟨rfl, rfl, rfl, by decide +kernel, rfl, by decide +kernel, by decide +kernel⟩
abbrev s_Ldraw : Stmt := topS 40
abbrev nm_Ldraw : List Str := ["_law_bag_here", "_law_limit", "_law_cell", "_law_digit", "_law_base", "_law_found"]
theorem sc_Ldraw : FnScope nm_Ldraw ["_law_bag_here", "_law_limit"] (defScope s_Ldraw) := ⟨rfl, rfl, rfl, by decide +kernel, rfl, by decide +kernel, by decide +kernel⟩
abbrev s_Llines : Stmt := topS 41
abbrev nm_Llines : List Str := ["_law_bag_here", "_law_goal", "_law_deep", "_law_left", "_law_found", "_law_turn", "_law_pick", "_law_test", "_law_sign", "_law_one", "_law_two"]
theorem sc_Llines : FnScope nm_Llines ["_law_bag_here", "_law_goal", "_law_deep", "_law_left"] (defScope s_Llines) := ⟨rfl, rfl, rfl, by decide +kernel, rfl, by decide +kernel, by decide +kernel⟩
abbrev s_Lblock : Stmt := topS 42
abbrev nm_Lblock : List Str := ["_law_lines_here", "_law_at", "_law_deep", "_law_other", "_law_k", "_law_piece"]
theorem sc_Lblock : FnScope nm_Lblock ["_law_lines_here", "_law_at"] (defScope s_Lblock) := ⟨rfl, rfl, rfl, by decide +kernel, rfl, by decide +kernel, by decide +kernel⟩
abbrev s_Lways : Stmt := topS 43
abbrev nm_Lways : List Str := ["_law_lines_here", "_law_first", "_law_last", "_law_found", "_law_line", "_law_tails", "_law_end", "_law_other", "_law_begin", "_law_way", "_law_longer", "_law_tail"]
theorem sc_Lways : FnScope nm_Lways ["_law_lines_here", "_law_first", "_law_last"] (defScope s_Lways) := ⟨rfl, rfl, rfl, by decide +kernel, rfl, by decide +kernel, by decide +kernel⟩
abbrev s_Lfaults : Stmt := topS 44
abbrev nm_Lfaults : List Str := ["_law_lines_here", "_law_told", "_law_found", "_law_signs", "_law_seen", "_law_line", "_law_words", "_law_with_sign"]
theorem sc_Lfaults : FnScope nm_Lfaults ["_law_lines_here", "_law_told"] (defScope s_Lfaults) := ⟨rfl, rfl, rfl, by decide +kernel, rfl, by decide +kernel, by decide +kernel⟩
abbrev s_law : Stmt := topS 45
abbrev nm_law : List Str := ["_law_script", "_law_bag_here", "_law_kinds", "_law_turn", "_law_kind", "_law_goal", "_law_lines_here", "_law_line", "_law_faults_here", "_law_found", "_law_told", "e"]
theorem sc_law : FnScope nm_law ["_law_script"] (defScope s_law) := ⟨rfl, rfl, rfl, by decide +kernel, rfl, by decide +kernel, by decide +kernel⟩
end Tb

set_option Elab.async false
set_option linter.all false
set_option maxRecDepth 100000
set_option maxHeartbeats 3999000
namespace Tb
open PySem PySem.Spec PyProof.Rows L2 NumText
open PySem.W (Frag)
open StX (pa_star tStar)
/-! ### what the top has left -/
structure GA where
  regs : Addr
  given : Addr
  told : Addr
  moves : Addr
  masks : Addr
  kinds : Addr
  gMake : Addr
  gRound : Addr
def kinds9 : List Str := ["make", "size", "used", "ahead", "use", "free", "meet", "part", "round"]
def toldOpt (k : Str) : Option Str := if k = "size" then some "size" else if k = "used" then some "used" else if k = "ahead" then some "ahead" else if k = "round" then some "size" else none
def toldName (k : Str) : Str := (toldOpt k).getD "word"
def givenNames (k : Str) : List Str := if k = "make" then ["size", "used", "ahead"] else if k = "round" then ["n"] else ["word"]
structure Glob (K : Frag) (w : World) (mg : Str → Option Value) (tk : Nat → Tok) (g : GA) : Prop where
  figures : mg "MOST_FIGURES" = some (.int 30 (tk 0))
  terms : mg "MOST_TERMS" = some (.int 4 (tk 1))
  parts : mg "MOST_PARTS" = some (.int 4 (tk 2))
  move : mg "MOST_MOVE" = some (.int 63 (tk 3))
  bits : mg "MOST_BITS" = some (.int 64 (tk 4))
  signs : mg "MOST_SIGNS" = some (.int 6 (tk 5))
  settings : mg "MOST_SETTINGS" = some (.int 3 (tk 6))
  lines : mg "MOST_LINES" = some (.int 20 (tk 7))
  ifs : mg "MOST_IFS" = some (.int 4 (tk 8))
  regs : mg "REGISTERS" = some (.ref g.regs)
  given : mg "GIVEN" = some (.ref g.given)
  told : mg "TOLD" = some (.ref g.told)
  moves : mg "MOVES" = some (.ref g.moves)
  masks : mg "MASKS" = some (.ref g.masks)
  kinds : mg "KINDS" = some (.ref g.kinds)
  regsT : ∀ H, SqT K H g.regs [.str "a", .str "b", .str "c"]
  movesT : ∀ H, SqT K H g.moves [.str "<<", .str ">>"]
  masksT : ∀ H, SqT K H g.masks [.str "&", .str "&~", .str "|", .str "^"]
  kindsT : ∀ H, SqT K H g.kinds (kinds9.map V.str)
  givenK : ∃ es n, KDict K w g.given es n
  toldK : ∃ es n, KDict K w g.told es n
  givenAt : ∀ k ∈ kinds9, PySem.W.nsIn K g.given k = some (if k = "make" then some (.ref g.gMake) else if k = "round" then some (.ref g.gRound) else none)
  gMakeT : ∀ H, SqT K H g.gMake [.str "size", .str "used", .str "ahead"]
  gRoundT : ∀ H, SqT K H g.gRound [.str "n"]
  toldAt : ∀ k ∈ kinds9, ∃ r, PySem.W.nsIn K g.told k = some r ∧ match toldOpt k with
    | none => r = none
    | some x => ∃ t, r = some (.str x t)
theorem sqT_same {K : Frag} {H H' : Hp} {a : Addr} {xs : List V} (s : Same H H') (h : SqT K H a xs) : SqT K H' a xs := by
  rcases h with (h | ⟨o, h⟩) | h
  · exact .inl (.inl (s _ _ h))
  · exact .inl (.inr ⟨o, s _ _ h⟩)
  · exact .inr h
/-! ### numbers -/
def isNum (x : Str) : Bool := Txt.isascii x && Txt.isdigit x && decide (x.length ≤ 30) && !(decide (1 < x.length) && (x.cps.getD 0 0 == 48))
def toldNumber (x : Str) : Option Int := if isNum x then some ((digitsVal x.cps.toList : Nat) : Int) else none
theorem ascii_digit : ∀ c : Nat, c < 128 → Unicode.isDigit c = true → 48 ≤ c ∧ c ≤ 57 := by decide +kernel
theorem digits_all {x : Str} (h1 : Txt.isascii x = true) (h2 : Txt.isdigit x = true) : AllDigits x.cps.toList ∧ x.cps.toList ≠ [] := by
  unfold Txt.isascii at h1
  unfold Txt.isdigit at h2
  rw [Bool.and_eq_true] at h2
  refine ⟨fun c hc => ascii_digit c ?_ ?_, fun z => ?_⟩
  · have := Array.all_eq_true_iff_forall_mem.mp h1 c (by simpa using hc)
    simpa using this
  · exact Array.all_eq_true_iff_forall_mem.mp h2.2 c (by simpa using hc)
  · have hl : x.cps.toList.length = x.length := Array.length_toList
    rw [z] at hl
    have h3 : 0 < x.length := by simpa using h2.1
    rw [← hl] at h3
    exact absurd h3 (by simp)
def optI : Option Int → V
  | none => .non
  | some n => .int n
def spNumber : Sp := fun vs H Q _ => ∃ x : Str, vs = [.str x] ∧ x.length ≤ sizeLine ∧ Q (optI (toldNumber x)) H
section
variable {P : Program} {w : World} {K : Frag} {mg : Str → Option Value} {base : Heap} {tk : Nat → Tok} {g : GA}
theorem ok_told_number {f : Addr} {fd : FuncData} (F : Fun K "told_number" "told_number" s_told_number f fd) (T : Bl mg) (G : Glob K w mg tk g) : FnOk P w K mg base CX0 1 f fd ["word"] spNumber := by
  refine F.ok sc_told_number (fun vs H Q E h => ?_) (fun cdv A outer s H vs Q E hr h => ?_)
  · obtain ⟨x, rfl, _⟩ := h; rfl
  · obtain ⟨x, rfl, hl, k⟩ := h
    refine ⟨_, (pss_cons (ps_if (PW.pt (pw_or (pt_not (pt_val (pe_m0 PySem.F.slot_str_isascii PySem.F.type_str_isascii mt_isascii (pv 0)))) (pw_or (pt_not (pt_val (pe_m0 PySem.F.slot_str_isdigit PySem.F.type_str_isdigit mt_isdigit (pv 0)))) (pw_or (pt_cmpR op_gt (pe_callB call_len_str (by rfl) T.len PySem.boot_len (pa_cons (pv 0) pa_nil)) (pe_glob (v := .int _) (by rfl) G.figures ⟨_, rfl⟩) (nomark _)) (pw_or1 (PW.pt (pw_and (pt_cmpR op_gt (pe_callB call_len_str (by rfl) T.len PySem.boot_len (pa_cons (pv 0) pa_nil)) pe_int (nomark _)) (pw_and1 (pt_cmpR op_eq (pe_ix ix_str (pv 0) pe_int (fun _ _ => rfl)) pe_str (nomark _))))))))))
        (pss_one (ps_ret pe_non))
        pss_nil)
      (pss_one (ps_ret (pe_callTy call_int_str (by rfl) T.int PyProof.Rows.boot_int (pa_cons (pv 0) pa_nil))))), ?_⟩
    refine ⟨_, rfl, ⟨_, rfl⟩, _, rfl, rfl, trivial, _, rfl, ?_⟩
    have no : isNum x = false → Q .non H := fun z => by
      have := k
      unfold toldNumber at this
      rw [z] at this; exact this
    cases h1 : Txt.isascii x
    · exact iteT (no (by unfold isNum; rw [h1]; rfl))
    · refine iteF ⟨_, rfl, ⟨_, rfl⟩, _, rfl, rfl, trivial, _, rfl, ?_⟩
      cases h2 : Txt.isdigit x
      · exact iteT (no (by unfold isNum; rw [h2, Bool.and_false]; rfl))
      · refine iteF ⟨_, rfl, _, rfl, hl, _, _, rfl, rfl, _, rfl, ?_⟩
        by_cases h3 : (30 : Int) < x.length
        · rw [decide_eq_true h3]
          exact iteT (no (by unfold isNum; rw [decide_eq_false (by omega : ¬ x.length ≤ 30), Bool.and_false]; rfl))
        · rw [decide_eq_false h3]
          obtain ⟨ad, ne⟩ := digits_all h1 h2
          have hlen : x.cps.toList.length = x.length := Array.length_toList
          have fin : isNum x = true → Q (.int ((digitsVal x.cps.toList : Nat) : Int)) H := fun z => by
            have := k
            unfold toldNumber at this
            rw [z] at this; exact this
          have last : isNum x = true → ∃ a n, [V.str x] = [V.str a] ∧ intText? a = some n ∧ a.length ≤ 640 ∧ Q (.int n) H := fun z => ⟨_, _, rfl, intText_digits ad ne (by omega), by omega, fin z⟩
          refine iteF ⟨_, rfl, _, rfl, hl, _, _, rfl, rfl, _, rfl, ?_⟩
          by_cases h4 : (1 : Int) < x.length
          · rw [decide_eq_true h4]
            obtain ⟨c, r, ec⟩ : ∃ c r, x.cps.toList = c :: r := by
              cases e : x.cps.toList with
              | nil => exact absurd e ne
              | cons c r => exact ⟨c, r, rfl⟩
            have hc : x.cps.getD 0 0 = c := by
              have : x.cps.toList[0]? = some c := by rw [ec]; rfl
              have h5 : x.cps[0]? = some c := by simpa using this
              rw [Array.getD_eq_getD_getElem?, h5]; rfl
            refine iteT ⟨_, rfl, _, _, c, rfl, rfl, hl, atI_nat (j := 0) (by rw [ec]; rfl), rfl, _, rfl, ?_⟩
            by_cases h6 : c = 48
            · rw [decide_eq_true (by rw [h6]; rfl)]
              exact iteT (no (by unfold isNum; rw [hc, h6, decide_eq_true (by omega : 1 < x.length)]; simp))
            · rw [decide_eq_false (fun z => h6 (by
                have := V.str.inj z
                have h7 : (⟨#[c]⟩ : Str) = ⟨#[48]⟩ := this
                injection h7 with h8
                simpa using h8))]
              refine iteF ⟨_, rfl, last ?_⟩
              unfold isNum
              rw [h1, h2, hc, decide_eq_true (by omega : x.length ≤ 30), beq_eq_false_iff_ne.mpr h6]; simp
          · rw [decide_eq_false h4]
            refine iteF (iteF ⟨_, rfl, last ?_⟩)
            unfold isNum
            rw [h1, h2, decide_eq_true (by omega : x.length ≤ 30), decide_eq_false (by omega : ¬ 1 < x.length)]; rfl
end
end Tb

set_option Elab.async false
set_option linter.all false
set_option maxRecDepth 100000
set_option maxHeartbeats 3999000
namespace Tb
open PySem PySem.Spec PyProof.Rows L2 NumText
open PySem.W (Frag)
open StX (pa_star tStar)
theorem inV_str (x : Str) (ns : List Str) : inV (.str x) (ns.map V.str) = decide (x ∈ ns) := by
  unfold inV
  rw [List.any_map]
  by_cases h : x ∈ ns
  · rw [decide_eq_true h, List.any_eq_true]
    exact ⟨x, h, by simp [eqV]⟩
  · rw [decide_eq_false h, List.any_eq_false]
    intro y hy
    have : ¬ y = x := fun e => h (e ▸ hy)
    simpa [eqV] using this
theorem flat_strs (ns : List Str) : (ns.map V.str).all flatV = true := by
  rw [List.all_map, List.all_eq_true]; intro x _; rfl
theorem tAnd_by {ta tb : TT} {σ : L2.St} {H : Hp} {Q : Bool → Hp → Prop} (c1 c2 : Bool) (h1 : ∀ Q' : Bool → Hp → Prop, Q' c1 H → ta σ H Q') (h2 : c1 = true → ∀ Q' : Bool → Hp → Prop, Q' c2 H → tb σ H Q') (q : Q (c1 && c2) H) : tAnd ta tb σ H Q := by
  refine h1 _ ?_
  cases c1
  · exact iteF q
  · exact iteT (h2 rfl _ q)
theorem tOr_by {ta tb : TT} {σ : L2.St} {H : Hp} {Q : Bool → Hp → Prop} (c1 c2 : Bool) (h1 : ∀ Q' : Bool → Hp → Prop, Q' c1 H → ta σ H Q') (h2 : c1 = false → ∀ Q' : Bool → Hp → Prop, Q' c2 H → tb σ H Q') (q : Q (c1 || c2) H) : tOr ta tb σ H Q := by
  refine h1 _ ?_
  cases c1
  · exact iteF (h2 rfl _ q)
  · exact iteT q
def Mo (t : TT) : Prop := ∀ (σ : L2.St) (H : Hp) (Q Q' : Bool → Hp → Prop), (∀ b H1, Q b H1 → Q' b H1) → t σ H Q → t σ H Q'
theorem Mo.and {ta tb : TT} (a : Mo ta) (b : Mo tb) : Mo (tAnd ta tb) := fun σ H Q Q' h x => by
  refine a σ H _ _ (fun c H1 y => ?_) x
  cases c
  · exact iteF (h _ _ (by simpa using y))
  · exact iteT (b _ _ _ _ h (by simpa using y))
def optS : Option Str → V
  | none => .non
  | some x => .str x
def toldAtom (x : Str) (ns : List Str) : Option (Int × Option Str) := if x ∈ ns then some (1, some x) else (toldNumber x).map fun n => (n, none)
def AtomK : Option (Int × Option Str) → Hp → VK → Prop
  | none, H, Q => Q .non H
  | some (n, o), H, Q => ∀ p, H p = none → Q (.ref p) (upd H p (.tup [.int n, optS o]))
def spAtom (K : Frag) : Sp := fun vs H Q _ => ∃ (x : Str) (nm : Addr) (ns : List Str), vs = [.str x, .ref nm] ∧ SqT K H nm (ns.map V.str) ∧ x.length ≤ sizeLine ∧ AtomK (toldAtom x ns) H Q
def spGiven (K : Frag) : Sp := fun vs H Q _ => ∃ k : Str, vs = [.str k] ∧ k ∈ kinds9 ∧ ∀ p H', Same H H' → SqT K H' p ((givenNames k).map V.str) → Q (.ref p) H'
def spToldName : Sp := fun vs H Q _ => ∃ k : Str, vs = [.str k] ∧ k ∈ kinds9 ∧ Q (.str (toldName k)) H
/-! ### runs of bits -/
def s0 : Nat → Nat → Nat → Nat × Nat
  | 0, l, n => (l, n)
  | f + 1, l, n => if 0 < n ∧ n % 2 = 0 then s0 f (l + 1) (n / 2) else (l, n)
def s1 : Nat → Nat → Nat → Nat × Nat
  | 0, l, n => (l, n)
  | f + 1, l, n => if n % 2 = 1 then s1 f (l + 1) (n / 2) else (l, n)
def runOf (n : Nat) : Option (Nat × Nat) := if (s1 (s0 n 0 n).2 (s0 n 0 n).1 (s0 n 0 n).2).2 = 0 ∧ (s0 n 0 n).1 < (s1 (s0 n 0 n).2 (s0 n 0 n).1 (s0 n 0 n).2).1 ∧ (s1 (s0 n 0 n).2 (s0 n 0 n).1 (s0 n 0 n).2).1 ≤ 64 then some ((s0 n 0 n).1, (s1 (s0 n 0 n).2 (s0 n 0 n).1 (s0 n 0 n).2).1) else none
theorem s0_stop {f l n : Nat} (h : ¬ (0 < n ∧ n % 2 = 0)) : s0 f l n = (l, n) := by
  cases f with
  | zero => rfl
  | succ f => unfold s0; rw [if_neg h]
theorem s1_stop {f l n : Nat} (h : ¬ n % 2 = 1) : s1 f l n = (l, n) := by
  cases f with
  | zero => rfl
  | succ f => unfold s1; rw [if_neg h]
def RunK : Option (Nat × Nat) → Hp → VK → Prop
  | none, H, Q => Q .non H
  | some (l, h), H, Q => ∀ p, H p = none → Q (.ref p) (upd H p (.tup [.int l, .int h]))
def spRun : Sp := fun vs H Q _ => ∃ n : Nat, vs = [.int n] ∧ RunK (runOf n) H Q
section
variable {P : Program} {w : World} {K : Frag} {mg : Str → Option Value} {base : Heap} {tk : Nat → Tok} {g : GA}
theorem ok_told_atom {f : Addr} {fd : FuncData} (F : Fun K "told_atom" "told_atom" s_told_atom f fd) (htold_number : HasF P w K mg base "told_number" 1 spNumber) : FnOk P w K mg base CX0 2 f fd ["word", "names"] (spAtom K) := by
  refine F.ok sc_told_atom (fun vs H Q E h => ?_) (fun cdv A outer s H vs Q E hr h => ?_)
  · obtain ⟨x, nm, ns, rfl, _⟩ := h; rfl
  · obtain ⟨x, nm, ns, rfl, hS, hl, k⟩ := h
    refine ⟨_, (pss_cons (ps_if (pt_cmpR op_in_seq (pv 0) (pv 1) (by first | rfl | exact nomark _))
        (pss_one (ps_ret (pe_tup (pa_cons pe_int (pa_cons (pv 0) pa_nil)))))
        pss_nil)
      (pss_cons (ps_set (i := 2) sc_told_atom.nd rfl (by first | exact Or.inl rfl | exact Or.inr rfl) (pe_fn htold_number (hr.mono (by first | decide | omega)) rfl (pa_cons (pv 0) pa_nil)))
      (pss_one (ps_ret (pe_ifExp (pt_cmpR op_isN (pv 2) pe_non (nomark _)) pe_non (pe_tup (pa_cons (pv 2) (pa_cons pe_non pa_nil)))))))), ?_⟩
    refine ⟨_, rfl, _, rfl, nm, _, rfl, .inr hS, rfl, flat_strs ns, _, rfl, ?_⟩
    show if inV (.str x) (ns.map V.str) = true then _ else _
    rw [inV_str]
    unfold toldAtom at k
    by_cases h1 : x ∈ ns
    · rw [if_pos h1] at k
      rw [decide_eq_true h1]
      exact iteT ⟨_, rfl, (by show 2 ≤ sizeLine; decide), fun p hp => k p hp⟩
    · rw [if_neg h1] at k
      rw [decide_eq_false h1]
      refine iteF ⟨_, rfl, x, rfl, hl, _, rfl, rfl, _, rfl, ?_⟩
      cases h2 : toldNumber x with
      | none =>
        rw [h2] at k
        rw [decide_eq_true (show optI none = V.non from rfl)]
        exact iteT k
      | some n =>
        rw [h2] at k
        rw [decide_eq_false (show ¬ optI (some n) = V.non from fun z => nomatch z)]
        exact iteF ⟨_, rfl, (by show 2 ≤ sizeLine; decide), fun p hp => k p hp⟩
theorem ok_given {f : Addr} {fd : FuncData} (F : Fun K "given_names" "given_names" s_given_names f fd) (G : Glob K w mg tk g) : FnOk P w K mg base CX0 1 f fd ["kind"] (spGiven K) := by
  refine F.ok sc_given_names (fun vs H Q E h => ?_) (fun cdv A outer s H vs Q E hr h => ?_)
  · obtain ⟨x, rfl, _⟩ := h; rfl
  · obtain ⟨x, rfl, hx, k⟩ := h
    refine ⟨_, (pss_one (ps_ret (pe_kget (pe_glob (v := .ref _) (by rfl) G.given rfl) (pv 0) (pe_tup (pa_cons pe_str pa_nil)) ⟨by rfl, by rfl, by rfl, by rfl⟩))), ?_⟩
    obtain ⟨es, n, D⟩ := G.givenK
    have ga := G.givenAt x hx
    by_cases h1 : x = "make"
    · rw [if_pos h1] at ga
      refine ⟨_, es, n, rfl, D, _, rfl, (by show 1 ≤ sizeLine; decide), fun p hp => ⟨x, _, .ref g.gMake, rfl, ga, (fun u e => by cases e; rfl), ?_⟩⟩
      exact k _ _ (same_new (Same.refl H) hp) (by unfold givenNames; rw [if_pos h1]; exact G.gMakeT _)
    · rw [if_neg h1] at ga
      by_cases h2 : x = "round"
      · rw [if_pos h2] at ga
        refine ⟨_, es, n, rfl, D, _, rfl, (by show 1 ≤ sizeLine; decide), fun p hp => ⟨x, _, .ref g.gRound, rfl, ga, (fun u e => by cases e; rfl), ?_⟩⟩
        exact k _ _ (same_new (Same.refl H) hp) (by unfold givenNames; rw [if_neg h1, if_pos h2]; exact G.gRoundT _)
      · rw [if_neg h2] at ga
        refine ⟨_, es, n, rfl, D, _, rfl, (by show 1 ≤ sizeLine; decide), fun p hp => ⟨x, _, .non, rfl, ga, (fun u e => by cases e), ?_⟩⟩
        exact k _ _ (same_new (Same.refl H) hp) (by unfold givenNames; rw [if_neg h1, if_neg h2]; exact .inl (.inl upd_same))
theorem ok_told_name {f : Addr} {fd : FuncData} (F : Fun K "told_name" "told_name" s_told_name f fd) (G : Glob K w mg tk g) : FnOk P w K mg base CX0 1 f fd ["kind"] spToldName := by
  refine F.ok sc_told_name (fun vs H Q E h => ?_) (fun cdv A outer s H vs Q E hr h => ?_)
  · obtain ⟨x, rfl, _⟩ := h; rfl
  · obtain ⟨x, rfl, hx, k⟩ := h
    refine ⟨_, (pss_one (ps_ret (pe_kget (pe_glob (v := .ref _) (by rfl) G.told rfl) (pv 0) pe_str ⟨by rfl, by rfl, by rfl, by rfl⟩))), ?_⟩
    obtain ⟨es, n, D⟩ := G.toldK
    obtain ⟨r, e1, e2⟩ := G.toldAt x hx
    cases h1 : toldOpt x with
    | none =>
      rw [h1] at e2
      have e2 : r = none := e2
      subst e2
      refine ⟨_, es, n, rfl, D, _, rfl, x, _, .non, rfl, e1, (fun u e => by cases e), ?_⟩
      unfold toldName at k; rw [h1] at k; exact k
    | some y =>
      rw [h1] at e2
      obtain ⟨t, e2⟩ := e2
      subst e2
      refine ⟨_, es, n, rfl, D, _, rfl, x, _, .str y, rfl, e1, (fun u e => by cases e; exact ⟨_, rfl⟩), ?_⟩
      unfold toldName at k; rw [h1] at k; exact k
theorem ok_run_of {f : Addr} {fd : FuncData} (F : Fun K "run_of" "run_of" s_run_of f fd) (G : Glob K w mg tk g) : FnOk P w K mg base CX0 1 f fd ["number"] spRun := by
  refine F.ok sc_run_of (fun vs H Q E h => ?_) (fun cdv A outer s H vs Q E hr h => ?_)
  · obtain ⟨x, rfl, _⟩ := h; rfl
  · obtain ⟨n, rfl, k⟩ := h
    refine ⟨_, (pss_cons (ps_par (i := 1) (j := 2) (by rfl) sc_run_of.nd rfl rfl (by decide) rfl rfl (pa_cons pe_int (pa_cons (pv 0) pa_nil)) (by rfl))
      (pss_cons (ps_while PassesOwn.never (PW.pt (pw_and (pt_cmpR op_gt (pv 2) pe_int (nomark _)) (pw_and1 (pt_cmpR op_eq (pe_op op_mod (pv 2) pe_int) pe_int (nomark _)))))
        (pss_one (ps_par (i := 1) (j := 2) (by rfl) sc_run_of.nd rfl rfl (by decide) rfl rfl (pa_cons (pe_op op_add (pv 1) pe_int) (pa_cons (pe_op op_fdivW (pv 2) pe_int) pa_nil)) (by rfl))))
      (pss_cons (ps_set (i := 3) sc_run_of.nd rfl (by first | exact Or.inl rfl | exact Or.inr rfl) (pv 1))
      (pss_cons (ps_while PassesOwn.never (pt_cmpR op_eq (pe_op op_mod (pv 2) pe_int) pe_int (nomark _))
        (pss_one (ps_par (i := 3) (j := 2) (by rfl) sc_run_of.nd rfl rfl (by decide) rfl rfl (pa_cons (pe_op op_add (pv 3) pe_int) (pa_cons (pe_op op_fdivW (pv 2) pe_int) pa_nil)) (by rfl))))
      (pss_one (ps_ret (pe_ifExp (PW.pt (pw_and (pt_cmpR op_eq (pv 2) pe_int (nomark _)) (pw_and1 (pt_chain op_lt op_le (pv 1) (pv 3) (pe_glob (v := .int _) (by rfl) G.bits ⟨_, rfl⟩))))) (pe_tup (pa_cons (pv 1) (pa_cons (pv 3) pa_nil))) pe_non))))))), ?_⟩
    have c2 : ∀ i : Int, CDivW i 2 := fun i => cdiv (b := 64) (by decide) (by unfold Bd; decide)
    refine ⟨_, rfl, _, _, rfl, ?_⟩
    refine while_by (fun σ H' => ∃ (l r : Nat) (v3 : Option V), H' = H ∧ σ = [some (.int n), some (.int l), some (.int r), v3] ∧ ∃ ff, r ≤ ff ∧ s0 ff l r = s0 n 0 n) (fun σ _ => match σ with | [_, _, some (.int r), _] => r.toNat | _ => 0) ⟨0, n, none, rfl, rfl, n, Nat.le_refl _, rfl⟩ ?_ ?_
    · rintro σ H' ⟨l, r, v3, rfl, rfl, ff, hf, e⟩
      refine tAnd_by (decide ((0 : Int) < r)) (decide (V.int ((r : Int) % 2) = V.int 0)) (fun Q' q => ⟨_, rfl, _, _, rfl, rfl, _, rfl, q⟩) (fun _ Q' q => ⟨_, rfl, _, _, rfl, rfl, (by show (0 : Int) < 2; decide), rfl, _, rfl, q⟩) ?_
      by_cases hst : 0 < r ∧ r % 2 = 0
      · rw [decide_eq_true (by omega : (0 : Int) < r), decide_eq_true (by congr 1; omega : V.int ((r : Int) % 2) = V.int 0)]
        refine iteT ⟨_, rfl, _, _, rfl, rfl, _, rfl, _, _, rfl, rfl, c2 _, _, _, rfl, ⟨l + 1, r / 2, v3, rfl, ?_, ff - 1, by omega, ?_⟩, ?_⟩
        · show [some (V.int n), some (V.int ((l : Int) + 1)), some (V.int ((r : Int) / 2)), v3] = _
          congr 3
        · rw [← e]
          obtain ⟨f', rfl⟩ : ∃ f', ff = f' + 1 := ⟨ff - 1, by omega⟩
          rw [show s0 (f' + 1) l r = s0 f' (l + 1) (r / 2) from by conv => lhs; unfold s0; rw [if_pos hst]]
          rfl
        · show ((r : Int) / 2).toNat < (r : Int).toNat
          omega
      · -- the second loop
        have ec : (decide ((0 : Int) < r) && decide (V.int ((r : Int) % 2) = V.int 0)) = false := by
          by_cases h1 : (0 : Int) < r
          · rw [decide_eq_false (fun z => hst ⟨by omega, by have := V.int.inj z; omega⟩ : ¬ V.int ((r : Int) % 2) = V.int 0), Bool.and_false]
          · rw [decide_eq_false h1]; rfl
        rw [ec]
        refine iteF ?_
        have e0 : s0 n 0 n = (l, r) := by rw [← e]; exact s0_stop hst
        refine ⟨_, rfl, ?_⟩
        refine while_by (fun σ H'' => ∃ (h r2 : Nat), H'' = H' ∧ σ = [some (.int n), some (.int l), some (.int r2), some (.int h)] ∧ ∃ ff, r2 ≤ ff ∧ s1 ff h r2 = s1 r l r) (fun σ _ => match σ with | [_, _, some (.int r), _] => r.toNat | _ => 0) ⟨l, r, rfl, rfl, r, Nat.le_refl _, rfl⟩ ?_ ?_
        · rintro σ H'' ⟨h, r2, rfl, rfl, fg, hg, eg⟩
          refine ⟨_, rfl, _, _, rfl, rfl, (by show (0 : Int) < 2; decide), rfl, _, rfl, ?_⟩
          by_cases h2 : r2 % 2 = 1
          · rw [decide_eq_true (by congr 1; omega : V.int ((r2 : Int) % 2) = V.int 1)]
            refine iteT ⟨_, rfl, _, _, rfl, rfl, _, rfl, _, _, rfl, rfl, c2 _, _, _, rfl, ⟨h + 1, r2 / 2, rfl, ?_, fg - 1, by omega, ?_⟩, ?_⟩
            · show [some (V.int n), some (V.int l), some (V.int ((r2 : Int) / 2)), some (V.int ((h : Int) + 1))] = _
              congr 3
            · rw [← eg]
              obtain ⟨f', rfl⟩ : ∃ f', fg = f' + 1 := ⟨fg - 1, by omega⟩
              rw [show s1 (f' + 1) h r2 = s1 f' (h + 1) (r2 / 2) from by conv => lhs; unfold s1; rw [if_pos h2]]
              rfl
            · show ((r2 : Int) / 2).toNat < (r2 : Int).toNat
              omega
          · rw [decide_eq_false (fun z => h2 (by have := V.int.inj z; omega))]
            have e1 : s1 r l r = (h, r2) := by rw [← eg]; exact s1_stop h2
            have er : runOf n = if r2 = 0 ∧ l < h ∧ h ≤ 64 then some (l, h) else none := by
              unfold runOf; rw [e0]; dsimp only; rw [e1]
            rw [er] at k
            refine iteF ⟨_, rfl, rfl, _, rfl, ?_⟩
            by_cases h3 : r2 = 0
            · rw [decide_eq_true (by rw [h3]; rfl)]
              refine iteT ⟨_, rfl, _, rfl, _, _, rfl, rfl, _, rfl, ?_⟩
              by_cases h4 : l < h
              · rw [decide_eq_true (by omega : (l : Int) < h)]
                refine iteT ⟨_, _, rfl, rfl, _, rfl, ?_⟩
                by_cases h5 : h ≤ 64
                · rw [decide_eq_true (by omega : (h : Int) ≤ 64)]
                  rw [if_pos ⟨h3, h4, h5⟩] at k
                  exact iteT ⟨_, rfl, _, rfl, (by show 2 ≤ sizeLine; decide), fun p hp => k p hp⟩
                · rw [decide_eq_false (by omega : ¬ (h : Int) ≤ 64)]
                  rw [if_neg (by omega)] at k
                  exact iteF k
              · rw [decide_eq_false (by omega : ¬ (l : Int) < h)]
                rw [if_neg (by omega)] at k
                exact iteF ⟨_, rfl, iteF k⟩
            · rw [decide_eq_false (fun z => h3 (by have := V.int.inj z; omega))]
              rw [if_neg (by omega)] at k
              exact iteF (iteF k)
        · rintro σ H Q Q' hQ ⟨a, b, c, d, e, f, i, j, k, l, m⟩
          exact ⟨a, b, c, d, e, f, i, j, k, l, hQ _ _ m⟩
    · refine Mo.and ?_ ?_
      · rintro σ H Q Q' hQ ⟨a, b, c, d, e, f, i, j, m⟩
        exact ⟨a, b, c, d, e, f, i, j, hQ _ _ m⟩
      · rintro σ H Q Q' hQ ⟨a, b, c, d, e, f, i, j, k, l, m⟩
        exact ⟨a, b, c, d, e, f, i, j, k, l, hQ _ _ m⟩
end
end Tb

set_option Elab.async false
set_option linter.all false
set_option maxRecDepth 100000
set_option maxHeartbeats 3999000
namespace Tb
open PySem PySem.Spec PyProof.Rows L2 NumText
open PySem.W (Frag)
open StX (pa_star tStar)
theorem for_enum {K : Frag} {a : Addr} {xs : List V} {g : TG} {tb : TS} {D : Ends} {σ : L2.St} {H : Hp} (Pv : Nat → L2.St → Hp → Prop) (h0 : Pv 0 σ H) (hl : ∀ i σ H, i ≤ xs.length → Pv i σ H → SqL K H a xs)
    (hs : ∀ i x T σ H, xs[i]? = some x → Pv i σ H → H T = none → g (.ref T) σ (upd H T (.tup [.int (i : Nat), x])) fun σ2 H2 => tb { D with nx := Pv (i + 1), ct := Pv (i + 1), bk := D.nx } σ2 H2) (hd : ∀ σ H, Pv xs.length σ H → D.nx σ H) :
    ∃ W : Nat → Nat → L2.St → Hp → Prop, (∃ m, W 0 m σ H) ∧ ∀ i m σ H, W i m σ H →
      ((Ite K a).stop i H ∧ D.nx σ H) ∨ ((Ite K a).go i H ∧ ∃ N : L2.St → Hp → Prop, (∀ σ' H', N σ' H' → ∃ m', m' < m ∧ W (i + 1) m' σ' H') ∧ ∀ x H', (Ite K a).yld i H x H' → g x σ H' fun σ2 H2 => tb { D with nx := N, ct := N, bk := D.nx } σ2 H2) := by
  refine ⟨fun j r τ J => r = xs.length - j ∧ j ≤ xs.length ∧ Pv j τ J, ⟨xs.length, by omega, Nat.zero_le _, h0⟩, ?_⟩
  rintro j r τ J ⟨rfl, hj, hP⟩
  have hsq := hl j τ J hj hP
  by_cases lt : j < xs.length
  case pos =>
    refine .inr ⟨⟨xs, xs[j], hsq, List.getElem?_eq_getElem lt⟩, Pv (j + 1), fun τ' J' hP' => ⟨xs.length - (j + 1), by omega, rfl, lt, hP'⟩, fun v J' hy => ?_⟩
    obtain ⟨T, v', rfl, hT, rfl, ev⟩ := hy
    exact hs j v' T τ J (ev xs hsq) hP hT
  case neg =>
    obtain rfl : j = xs.length := by omega
    exact .inl ⟨⟨xs, hsq, Nat.le_refl _⟩, hd τ J hP⟩
theorem same_put {H H' : Hp} {a : Addr} {o : HO} (s : Same H H') (h : H a = none) : Same H (upd H' a o) := fun c u hc => by
  rw [upd_ne (ne_of_none hc h)]; exact s c u hc
theorem eight : (8 : Nat) ≤ sizeLine := by decide
/-! ### sums -/
def sumAt (ns words : List Str) : Nat → Option (List Str)
  | 0 => some []
  | i + 1 => (sumAt ns words i).bind fun s => (words[i]?).bind fun x => if i % 2 = 1 then (if x = "+" ∨ x = "-" then some s else none) else match toldAtom x ns with
    | none => none
    | some (_, none) => some s
    | some (_, some y) => if y ∈ s then none else some (y :: s)
def isSum (words ns : List Str) : Bool := decide (words.length % 2 = 1) && decide (words.length ≤ 7) && (sumAt ns words words.length).isSome
theorem sum_none {ns words : List Str} {i : Nat} (h : sumAt ns words i = none) : ∀ d, sumAt ns words (i + d) = none
  | 0 => h
  | d + 1 => by
    show sumAt ns words ((i + d) + 1) = none
    unfold sumAt
    rw [sum_none h d]; rfl
theorem sum_not {ns words : List Str} {i : Nat} (hi : i ≤ words.length) (h : sumAt ns words i = none) : isSum words ns = false := by
  unfold isSum
  obtain ⟨d, e⟩ : ∃ d, words.length = i + d := ⟨words.length - i, by omega⟩
  have := sum_none h d
  rw [← e] at this
  rw [this, Bool.and_eq_false_iff]; exact .inr rfl
def gOf (s : List Str) : Leaf → Option V
  | .none => some (.bl false)
  | .text x => if x ∈ s then some (.bl true) else none
  | .num _ => none
theorem gOf_nil : (fun k : Leaf => if k = .none then some (V.bl false) else none) = gOf [] := by
  funext k; cases k <;> simp [gOf]
theorem gOf_none (s : List Str) : (fun k' : Leaf => if k' = .none then some (V.bl false) else gOf s k') = gOf s := by
  funext k; cases k <;> simp [gOf]
theorem gOf_text (s : List Str) (x : Str) : (fun k' : Leaf => if k' = .text x then some (V.bl true) else gOf s k') = gOf (x :: s) := by
  funext k
  cases k with
  | none => simp [gOf]
  | num i => simp [gOf]
  | text y =>
    by_cases e : y = x
    · subst e; simp [gOf]
    · have : ¬ Leaf.text y = .text x := fun z => e (by injection z)
      rw [if_neg this]
      simp [gOf, e]
def spSum (K : Frag) : Sp := fun vs H Q _ => ∃ (wl nm : Addr) (words ns : List Str), vs = [.ref wl, .ref nm] ∧ SqL K H wl (words.map V.str) ∧ SqT K H nm (ns.map V.str) ∧ (∀ x ∈ words, x.length ≤ sizeLine) ∧
  ∀ H' v, Same H H' → (if isSum words ns then ∃ p xs, v = .ref p ∧ H' p = some (.tup xs) else v = .non) → Q v H'
section
variable {P : Program} {w : World} {K : Frag} {mg : Str → Option Value} {base : Heap} {tk : Nat → Tok} {g : GA}
theorem ok_told_sum {f : Addr} {fd : FuncData} (F : Fun K "told_sum" "told_sum" s_told_sum f fd) (T : Bl mg) (G : Glob K w mg tk g) (htold_atom : HasF P w K mg base "told_atom" 2 (spAtom K)) : FnOk P w K mg base CX0 3 f fd ["words", "names"] (spSum K) := by
  refine F.ok sc_told_sum (fun vs H Q E h => ?_) (fun cdv A outer s H vs Q E hr h => ?_)
  · obtain ⟨wl, nm, words, ns, rfl, _⟩ := h; rfl
  · obtain ⟨wl, nm, words, ns, rfl, hS, hN, hl, k⟩ := h
    have hu := hu_of hr
    refine ⟨_, (pss_cons (ps_if (PW.pt (pw_or (pt_cmpR op_eq (pe_op op_mod (pe_callB call_len_seq (by rfl) T.len PySem.boot_len (pa_cons (pv 0) pa_nil)) pe_int) pe_int (nomark _)) (pw_or1 (pt_cmpR op_gt (pe_callB call_len_seq (by rfl) T.len PySem.boot_len (pa_cons (pv 0) pa_nil)) (pe_op op_sub (pe_op op_mulW pe_int (pe_glob (v := .int _) (by rfl) G.terms ⟨_, rfl⟩)) pe_int) (nomark _)))))
        (pss_one (ps_ret pe_non))
        pss_nil)
      (pss_cons (ps_par (i := 2) (j := 3) (by rfl) sc_told_sum.nd rfl rfl (by decide) rfl rfl (pa_cons (pe_lst pa_nil) (pa_cons (pe_ldisp (P := P) (w := w) rfl rfl (pps_cons pe_non pe_bl pps_nil) (by rfl) (by rfl) (fun z => by cases z) (by decide)) pa_nil)) (by rfl))
      (pss_cons (ps_for PassesOwn.never rfl (pi_enum (by rfl) T.enumerate (pa_cons (pv 0) pa_nil)) (pg_tup rfl (pgs_cons (pg_name (i := 4) sc_told_sum.nd rfl (by first | exact Or.inl rfl | exact Or.inr rfl)) (pgs_cons (pg_name (i := 5) sc_told_sum.nd rfl (by first | exact Or.inl rfl | exact Or.inr rfl)) pgs_nil)))
        (pss_cons (ps_if (pt_cmpR op_eq (pe_op op_mod (pv 4) pe_int) pe_int (nomark _))
          (pss_cons (ps_if (pt_cmpR op_notIn_seq (pv 5) (pe_tup (pa_cons pe_str (pa_cons pe_str pa_nil))) (by first | rfl | exact nomark _))
            (pss_one (ps_ret pe_non))
            pss_nil)
          (pss_one ps_continue))
          pss_nil)
        (pss_cons (ps_set (i := 6) sc_told_sum.nd rfl (by first | exact Or.inl rfl | exact Or.inr rfl) (pe_fn htold_atom (hr.mono (by first | decide | omega)) rfl (pa_cons (pv 5) (pa_cons (pv 1) pa_nil))))
        (pss_cons (ps_if (PW.pt (pw_or (pt_cmpR op_isN (pv 6) pe_non (nomark _)) (pw_or1 (pt_val (pe_lget (P := P) (w := w) rfl rfl (pv 3) (pe_ix ix_tup (pv 6) pe_int (fun _ _ => rfl)) pe_bl ⟨by rfl, by rfl, by rfl, by rfl⟩)))))
          (pss_one (ps_ret pe_non))
          pss_nil)
        (pss_cons (ps_lput (P := P) (w := w) rfl rfl (pv 3) (pe_ix ix_tup (pv 6) pe_int (fun _ _ => rfl)) (pe_cmpR op_notN (pe_ix ix_tup (pv 6) pe_int (fun _ _ => rfl)) pe_non (nomark _)) rfl)
        (pss_one (ps_expr (pe_bm PySem.F.plainAttrs_list PySem.F.slot_list_append PySem.F.type_list_append mt_append (pv 2) (pa_cons (pe_ifExp (PW.pt (pw_and (pt_cmpR op_gt (pv 4) pe_int (nomark _)) (pw_and1 (pt_cmpR op_eq (pe_ix ix_list (pv 0) (pe_op op_sub (pv 4) pe_int) (fun _ _ => rfl)) pe_str (nomark _))))) (pe_tup (pa_cons (pe_un un_neg (pe_ix ix_tup (pv 6) pe_int (fun _ _ => rfl))) (pa_cons (pe_ix ix_tup (pv 6) pe_int (fun _ _ => rfl)) pa_nil))) (pv 6)) pa_nil)))))))))
      (pss_one (ps_ret (pe_callTy call_tuple_of (by rfl) T.tuple PyProof.Rows.boot_tuple (pa_cons (pv 2) pa_nil))))))), ?_⟩
    have lenm : (words.map V.str).length = words.length := by simp
    refine tOr_by (decide (V.int (((words.map V.str).length : Int) % 2) = V.int 0)) (decide ((2 * 4 - 1 : Int) < ((words.map V.str).length : Int))) (fun Q' q => ⟨_, rfl, wl, _, rfl, .inl hS, _, _, rfl, rfl, (by show (0 : Int) < 2; decide), rfl, _, rfl, q⟩)
      (fun _ Q' q => ⟨_, rfl, wl, _, rfl, .inl hS, _, _, rfl, rfl, cmul (a := 3) (b := 64) (by unfold Bd; decide) (by unfold Bd; decide), _, _, rfl, rfl, _, _, rfl, rfl, _, rfl, q⟩) ?_
    have noSum : isSum words ns = false → ∀ H', Same H H' → Q .non H' := fun z H' s => k H' _ s (by rw [z]; rfl)
    by_cases c1 : words.length % 2 = 0
    · rw [decide_eq_true (by rw [lenm]; congr 1; omega : V.int (((words.map V.str).length : Int) % 2) = V.int 0)]
      exact iteT (noSum (by unfold isSum; rw [decide_eq_false (by omega : ¬ words.length % 2 = 1)]; rfl) H (Same.refl H))
    rw [decide_eq_false (fun z => by have := V.int.inj z; rw [lenm] at this; omega : ¬ V.int (((words.map V.str).length : Int) % 2) = V.int 0)]
    by_cases c2 : 7 < words.length
    · rw [decide_eq_true (by rw [lenm]; omega : (2 * 4 - 1 : Int) < ((words.map V.str).length : Int))]
      exact iteT (noSum (by unfold isSum; rw [decide_eq_false (by omega : ¬ words.length ≤ 7), Bool.and_false]; rfl) H (Same.refl H))
    rw [decide_eq_false (by rw [lenm]; omega : ¬ (2 * 4 - 1 : Int) < ((words.map V.str).length : Int))]
    refine iteF ⟨(by show 0 ≤ sizeLine; decide), fun fa hfa da hda => ⟨upd_same, _, rfl, _, _, rfl, ?_⟩⟩
    have e1 : upd (upd (upd H fa (.lst [])) da (.dK [])) da (LD P w da (fun k => if k = .none then some (V.bl false) else none) 1) = upd (upd H fa (.lst [])) da (LD P w da (gOf []) 1) := by rw [upd_upd, gOf_nil]
    rw [e1]
    have n1 : fa ≠ da := fun z => by rw [z] at hda; rw [upd_same] at hda; cases hda
    have s1 : Same H (upd (upd H fa (.lst [])) da (LD P w da (gOf []) 1)) := same_new (same_new (Same.refl H) hfa) hda
    have nDa : H da = none := by rw [upd_ne n1.symm] at hda; exact hda
    clear e1 hda
    refine ⟨_, rfl, wl, _, rfl, s1.seq hS, ?_⟩
    refine for_enum (xs := words.map V.str) (fun i σ H' => ∃ (l : List V) (n : Nat) (sn : List Str) (v4 v5 v6 : Option V), σ = [some (.ref wl), some (.ref nm), some (.ref fa), some (.ref da), v4, v5, v6] ∧ Same H H' ∧ H' fa = some (.lst l) ∧ l.length ≤ i ∧ H' da = some (LD P w da (gOf sn) n) ∧ n ≤ i + 1 ∧ sumAt ns words i = some sn)
      ⟨[], 1, [], _, _, _, rfl, s1, by rw [upd_ne n1, upd_same], Nat.le_refl _, upd_same, by omega, rfl⟩ (fun i σ H' hi ⟨l, n, sn, v4, v5, v6, e, s, _⟩ => s.seq hS) ?_ ?_
    · rintro i x T0 σ H' hx ⟨l, n, sn, v4, v5, v6, rfl, s2, hf2, hll, hd2, hn2, hsum⟩ hT
      obtain ⟨y, hy, rfl⟩ : ∃ y, words[i]? = some y ∧ x = .str y := by
        rw [List.getElem?_map] at hx
        cases e : words[i]? with
        | none => rw [e] at hx; cases hx
        | some y => rw [e] at hx; cases hx; exact ⟨y, rfl, rfl⟩
      have hi : i < words.length := (List.getElem?_eq_some_iff.mp hy).1
      have hyl : y.length ≤ sizeLine := hl y (List.mem_of_getElem? hy)
      refine ⟨T0, _, rfl, .inl (.inl upd_same), rfl, _, _, rfl, _, _, rfl, rfl, ?_⟩
      have s3 : Same H (upd H' T0 (.tup [.int (i : Nat), .str y])) := same_new s2 hT
      have hf3 : upd H' T0 (.tup [.int (i : Nat), .str y]) fa = some (.lst l) := by rw [upd_ne (ne_of_none hf2 hT)]; exact hf2
      have hd3 : upd H' T0 (.tup [.int (i : Nat), .str y]) da = some (LD P w da (gOf sn) n) := by rw [upd_ne (ne_of_none hd2 hT)]; exact hd2
      generalize upd H' T0 (.tup [.int (i : Nat), .str y]) = H3 at *
      clear hf2 hd2 hT s2
      have step : sumAt ns words (i + 1) = if i % 2 = 1 then (if y = "+" ∨ y = "-" then some sn else none) else match toldAtom y ns with
          | none => none
          | some (_, none) => some sn
          | some (_, some z) => if z ∈ sn then none else some (z :: sn) := by
        conv => lhs; unfold sumAt
        rw [hsum, Option.bind_some, hy, Option.bind_some]
      refine ⟨_, rfl, _, _, rfl, rfl, (by show (0 : Int) < 2; decide), rfl, _, rfl, ?_⟩
      by_cases c3 : i % 2 = 1
      · rw [decide_eq_true (by congr 1; omega : V.int (((i : Nat) : Int) % 2) = V.int 1)]
        rw [if_pos c3] at step
        refine iteT ⟨_, rfl, (by show 2 ≤ sizeLine; decide), fun t ht => ⟨t, _, rfl, .inr (.inl (.inl upd_same)), rfl, rfl, _, rfl, ?_⟩⟩
        have einV : inV (.str y) [V.str "+", V.str "-"] = decide (y ∈ (["+", "-"] : List Str)) := inV_str y ["+", "-"]
        show if (!inV (.str y) [V.str "+", V.str "-"]) = true then _ else _
        rw [einV]
        have s4 := same_new (o := .tup [V.str "+", V.str "-"]) s3 ht
        by_cases c4 : y = "+" ∨ y = "-"
        · rw [decide_eq_true (by simpa using c4)]
          rw [if_pos c4] at step
          exact iteF ⟨l, n, sn, _, _, _, rfl, s4, by rw [upd_ne (ne_of_none hf3 ht)]; exact hf3, by omega, by rw [upd_ne (ne_of_none hd3 ht)]; exact hd3, by omega, step⟩
        · rw [decide_eq_false (by simpa using c4)]
          rw [if_neg c4] at step
          exact iteT (noSum (sum_not (i := i + 1) (by omega) step) _ s4)
      · rw [decide_eq_false (fun z => c3 (by have := V.int.inj z; omega) : ¬ V.int (((i : Nat) : Int) % 2) = V.int 1)]
        rw [if_neg c3] at step
        refine iteF ⟨_, rfl, _, rfl, y, nm, ns, rfl, sqT_same s3 hN, hyl, ?_⟩
        cases ea : toldAtom y ns with
        | none =>
          rw [ea] at step
          dsimp only [AtomK, gName]
          refine tOr_by true true (fun Q' q => ⟨_, rfl, rfl, _, rfl, q⟩) (fun z => nomatch z) ?_
          exact iteT (noSum (sum_not (i := i + 1) (by omega) step) _ s3)
        | some na =>
          obtain ⟨nu, oa⟩ := na
          rw [ea] at step
          dsimp only [AtomK]
          intro pa hpa
          have s4 := same_new (o := .tup [.int nu, optS oa]) s3 hpa
          have hf4 : upd H3 pa (.tup [.int nu, optS oa]) fa = some (.lst l) := by rw [upd_ne (ne_of_none hf3 hpa)]; exact hf3
          have hd4 : upd H3 pa (.tup [.int nu, optS oa]) da = some (LD P w da (gOf sn) n) := by rw [upd_ne (ne_of_none hd3 hpa)]; exact hd3
          have hp4 : upd H3 pa (.tup [.int nu, optS oa]) pa = some (.tup [.int nu, optS oa]) := upd_same
          generalize upd H3 pa (.tup [.int nu, optS oa]) = H4 at *
          clear hpa hf3 hd3 s3
          have at1 : ∀ {Q' : VK} {σ : L2.St}, σ[6]? = some (some (.ref pa)) → Q' (optS oa) H4 → tOp (rIxT K) (tVar 6) (tC (V.int 1)) σ H4 Q' := fun h6 q => ⟨_, h6, pa, _, _, _, rfl, rfl, .inl (.inl hp4), atI_nat (j := 1) rfl, q⟩
          have at0 : ∀ {Q' : VK} {σ : L2.St}, σ[6]? = some (some (.ref pa)) → Q' (.int nu) H4 → tOp (rIxT K) (tVar 6) (tC (V.int 0)) σ H4 Q' := fun h6 q => ⟨_, h6, pa, _, _, _, rfl, rfl, .inl (.inl hp4), atI_nat (j := 0) rfl, q⟩
          obtain ⟨lf, elf, egl⟩ : ∃ lf, lfV (optS oa) = some lf ∧ (gOf sn lf).getD (.bl false) = .bl (match oa with | none => false | some z => decide (z ∈ sn)) := by
            cases oa with
            | none => exact ⟨_, rfl, rfl⟩
            | some z =>
              refine ⟨_, rfl, ?_⟩
              by_cases c : z ∈ sn
              · simp [gOf, c]
              · simp [gOf, c]
          dsimp only [gName]
          refine tOr_by false (match oa with | none => false | some z => decide (z ∈ sn)) (fun Q' q => ⟨_, rfl, rfl, _, rfl, q⟩) (fun _ Q' q => ⟨_, rfl, da, _, _, rfl, hd4, at1 rfl ⟨hd4, lf, elf, _, egl, q⟩⟩) ?_
          have alt : ((match oa with | none => false | some z => decide (z ∈ sn)) = true ∧ sumAt ns words (i + 1) = none) ∨ ((match oa with | none => false | some z => decide (z ∈ sn)) = false ∧ ∃ sn', sumAt ns words (i + 1) = some sn' ∧ (fun k' : Leaf => if k' = lf then some (V.bl (!decide (optS oa = V.non))) else gOf sn k') = gOf sn') := by
            cases oa with
            | none =>
              cases (show some Leaf.none = some lf from elf)
              exact .inr ⟨rfl, sn, step, by rw [show (!decide (optS none = V.non)) = false from rfl]; exact gOf_none sn⟩
            | some z =>
              cases (show some (Leaf.text z) = some lf from elf)
              by_cases c : z ∈ sn
              · refine .inl ⟨decide_eq_true c, ?_⟩
                rw [step]; exact if_pos c
              · refine .inr ⟨decide_eq_false c, z :: sn, ?_, ?_⟩
                · rw [step]; exact if_neg c
                · rw [show (!decide (optS (some z) = V.non)) = true from rfl]; exact gOf_text sn z
          rcases alt with ⟨ec, st2⟩ | ⟨ec, sn', st2, eg⟩
          · rw [ec]
            exact iteT (noSum (sum_not (i := i + 1) (by omega) st2) _ s4)
          · rw [ec]
            refine iteF (at1 rfl ⟨rfl, _, rfl, at1 rfl ⟨da, _, n, lf, rfl, elf, hd4, (by have := eight; omega), ?_⟩⟩)
            rw [eg]
            have nfd : fa ≠ da := fun z => by rw [z, hd4] at hf4; cases hf4
            have s5 := same_put (o := LD P w da (gOf sn') (n + 1)) s4 nDa
            have hf5 : upd H4 da (LD P w da (gOf sn') (n + 1)) fa = some (.lst l) := by rw [upd_ne nfd]; exact hf4
            have hd5 : upd H4 da (LD P w da (gOf sn') (n + 1)) da = some (LD P w da (gOf sn') (n + 1)) := upd_same
            have hp5 : upd H4 da (LD P w da (gOf sn') (n + 1)) pa = some (.tup [.int nu, optS oa]) := by
              rw [upd_ne (fun z => by rw [z, hd4] at hp4; cases hp4)]; exact hp4
            generalize upd H4 da (LD P w da (gOf sn') (n + 1)) = H5 at *
            have fin : ∀ (H6 : Hp) (v : V), Same H5 H6 → ∃ a b c, V.ref fa = .ref a ∧ [v] = [c] ∧ H6 a = some (.lst b) ∧ b.length < sizeLine ∧ ∃ (l' : List V) (n' : Nat) (s'' : List Str) (v4 v5 v6 : Option V), [some (V.ref wl), some (V.ref nm), some (V.ref fa), some (V.ref da), some (V.int (i : Nat)), some (V.str y), some (V.ref pa)] = [some (.ref wl), some (.ref nm), some (.ref fa), some (.ref da), v4, v5, v6] ∧ Same H (upd H6 a (.lst (b ++ [c]))) ∧ upd H6 a (.lst (b ++ [c])) fa = some (.lst l') ∧ l'.length ≤ i + 1 ∧ upd H6 a (.lst (b ++ [c])) da = some (LD P w da (gOf s'') n') ∧ n' ≤ i + 1 + 1 ∧ sumAt ns words (i + 1) = some s'' := fun H6 v s6 =>
              ⟨fa, l, v, rfl, rfl, s6 _ _ hf5, by have := eight; omega, l ++ [v], n + 1, sn', _, _, _, rfl, same_put (s5.trans s6) hfa, upd_same, by simp; omega, by rw [upd_ne nfd.symm]; exact s6 _ _ hd5, by omega, st2⟩
            have at1' : ∀ {Q' : VK} {σ : L2.St}, σ[6]? = some (some (.ref pa)) → Q' (optS oa) H5 → tOp (rIxT K) (tVar 6) (tC (V.int 1)) σ H5 Q' := fun h6 q => ⟨_, h6, pa, _, _, _, rfl, rfl, .inl (.inl hp5), atI_nat (j := 1) rfl, q⟩
            have at0' : ∀ {Q' : VK} {σ : L2.St}, σ[6]? = some (some (.ref pa)) → Q' (.int nu) H5 → tOp (rIxT K) (tVar 6) (tC (V.int 0)) σ H5 Q' := fun h6 q => ⟨_, h6, pa, _, _, _, rfl, rfl, .inl (.inl hp5), atI_nat (j := 0) rfl, q⟩
            refine ⟨_, rfl, .inl ⟨rfl, _, .inl (.inl hf5)⟩, ?_⟩
            have tst : ∃ c2 : Bool, ∀ Q' : Bool → Hp → Prop, (decide ((0 : Int) < (i : Nat)) = true → Q' c2 H5) → decide ((0 : Int) < (i : Nat)) = true → tTest (tOp rEq (tOp (rIxL K) (tVar 0) (tOp (rI0 fun i j => V.int (i - j)) (tVar 4) (tC (V.int 1)))) (tC (V.str "-"))) [some (V.ref wl), some (V.ref nm), some (V.ref fa), some (V.ref da), some (V.int (i : Nat)), some (V.str y), some (V.ref pa)] H5 Q' := by
              by_cases c5 : (0 : Int) < (i : Nat)
              · obtain ⟨y', hy'⟩ : ∃ y', words[i - 1]? = some y' := ⟨_, List.getElem?_eq_getElem (by omega : i - 1 < words.length)⟩
                refine ⟨decide (V.str y' = V.str "-"), fun Q' q hq => ⟨_, rfl, _, rfl, _, _, rfl, rfl, wl, _, _, _, rfl, rfl, s5.seq hS, ?_, rfl, _, rfl, q hq⟩⟩
                rw [show ((i : Nat) : Int) - 1 = ((i - 1 : Nat) : Int) by omega]
                exact atI_nat (by rw [List.getElem?_map, hy']; rfl)
              · exact ⟨false, fun Q' q hq => absurd (of_decide_eq_true hq) c5⟩
            obtain ⟨c2', h2'⟩ := tst
            refine tAnd_by (decide ((0 : Int) < (i : Nat))) c2' (fun Q' q => ⟨_, rfl, _, _, rfl, rfl, _, rfl, q⟩) (fun hq Q' q => h2' Q' (fun _ => q) hq) ?_
            cases (decide ((0 : Int) < (i : Nat)) && c2')
            · exact iteF ⟨_, rfl, fin H5 _ (Same.refl _)⟩
            · exact iteT (at0' rfl ⟨_, rfl, at1' rfl ⟨(by show 2 ≤ sizeLine; decide), fun q hq => fin _ _ (same_new (Same.refl _) hq)⟩⟩)
    · rintro σ H' ⟨l, n, sn, v4, v5, v6, rfl, s2, hf2, hll, hd2, hn2, hsum⟩
      refine ⟨_, rfl, fa, l, rfl, .inl ⟨.inl (.inl hf2), fun p hp => ?_⟩⟩
      refine k _ _ (same_new s2 hp) ?_
      rw [lenm] at hsum
      have : isSum words ns = true := by
        unfold isSum; rw [decide_eq_true (by omega : words.length % 2 = 1), decide_eq_true (by omega : words.length ≤ 7), hsum]; rfl
      rw [this]
      exact iteT ⟨p, l, rfl, upd_same⟩
end
end Tb

set_option Elab.async false
set_option linter.all false
set_option maxRecDepth 100000
set_option maxHeartbeats 3999000
namespace Tb
open PySem PySem.Spec PyProof.Rows L2 NumText
open PySem.W (Frag)
open StX (pa_star tStar)
open C8 (pss_cut tCut)
theorem piece_le {x y p : Str} (h : p ∈ Txt.split x y) : p.length ≤ x.length := by
  have := join_mem_le y (Txt.split x y) p h
  rw [PySem.StrLaws.join_split] at this; exact this
theorem cutS_le (z : Str) (lo hi : Option Int) : (cutS z lo hi).length ≤ z.length := by
  have e : z.cps.toList.length = z.length := Array.length_toList
  unfold cutS
  show (((z.cps.toList.drop _).take _).toArray).size ≤ z.length
  rw [List.size_toArray, List.length_take, List.length_drop, e]
  omega
/-! ### tests -/
def partTold (text : Str) : Str := if cutS text none (some 4) = "not " then cutS text (some 4) none else text
def partOk (ns : List Str) (text : Str) : Bool := match Txt.split (partTold text) " " with
  | [a, b, c] => decide (b ∈ (["<", "<=", "is"] : List Str)) && !decide (a = c) && (toldAtom a ns).isSome && (toldAtom c ns).isSome
  | _ => false
def spPart (K : Frag) : Sp := fun vs H Q _ => ∃ (text : Str) (nm od : Addr) (ns : List Str), vs = [.str text, .ref nm, .ref od] ∧ SqT K H nm (ns.map V.str) ∧ H od = some (.dK []) ∧ text.length + 2 ≤ sizeLine ∧
  ∀ H' v, Same H H' → (if partOk ns text then ∃ p xs, v = .ref p ∧ H' p = some (.tup xs) else v = .non) → Q v H'
theorem three {α : Type} {l : List α} (h : l.length = 3) : ∃ a b c, l = [a, b, c] := by
  match l, h with
  | [a, b, c], _ => exact ⟨a, b, c, rfl⟩
theorem atom_any {x : Str} {ns : List Str} {H : Hp} {Q : VK} (h : ∀ v H', Same H H' → ((v = .non ∧ toldAtom x ns = none) ∨ (v ≠ .non ∧ (toldAtom x ns).isSome = true)) → Q v H') : AtomK (toldAtom x ns) H Q := by
  cases e : toldAtom x ns with
  | none => exact h _ _ (Same.refl H) (.inl ⟨rfl, e⟩)
  | some no =>
    intro p hp
    exact h _ _ (same_new (Same.refl H) hp) (.inr ⟨(fun z => nomatch z), by rw [e]; rfl⟩)
section
variable {P : Program} {w : World} {K : Frag} {mg : Str → Option Value} {base : Heap} {tk : Nat → Tok} {g : GA}
theorem ok_told_part {f : Addr} {fd : FuncData} (F : Fun K "told_part" "told_part" s_told_part f fd) (T : Bl mg) (htold_atom : HasF P w K mg base "told_atom" 2 (spAtom K)) : FnOk P w K mg base CX0 3 f fd ["text", "names", "others"] (spPart K) := by
  refine F.ok sc_told_part (fun vs H Q E h => ?_) (fun cdv A outer s H vs Q E hr h => ?_)
  · obtain ⟨text, nm, od, ns, rfl, _⟩ := h; rfl
  · obtain ⟨text, nm, od, ns, rfl, hN, hO, hl, k⟩ := h
    have hu := hu_of hr
    refine ⟨_, (pss_cons (ps_set (i := 3) sc_told_part.nd rfl (by first | exact Or.inl rfl | exact Or.inr rfl) (pe_cmpR op_ne (pe_slice sl_str (pv 0) po_none (po_some pe_int)) pe_str (nomark _)))
      (pss_cut (ps_set (i := 4) sc_told_part.nd rfl (by first | exact Or.inl rfl | exact Or.inr rfl) (pe_ifExp (pt_val (pv 3)) (pv 0) (pe_slice sl_str (pv 0) (po_some pe_int) po_none)))
      (pss_cons (ps_if (pt_cmp (pc_din hu (pv 4) (pv 2)))
        (pss_one (ps_ret (pe_tup (pa_star (pe_dget hu (pv 2) (pv 4) (fun _ _ => rfl)) (pa_cons (pv 3) pa_nil)))))
        pss_nil)
      (pss_cons (ps_set (i := 5) sc_told_part.nd rfl (by first | exact Or.inl rfl | exact Or.inr rfl) (pe_split (pv 4) pe_str))
      (pss_cons (ps_if (PW.pt (pw_or (pt_cmpR op_ne (pe_callB call_len_seq (by rfl) T.len PySem.boot_len (pa_cons (pv 5) pa_nil)) pe_int (nomark _)) (pw_or (pt_cmpR op_notIn_seq (pe_ix ix_list (pv 5) pe_int (fun _ _ => rfl)) (pe_tup (pa_cons pe_str (pa_cons pe_str (pa_cons pe_str pa_nil)))) (by first | rfl | exact nomark _)) (pw_or1 (pt_cmpR op_eq (pe_ix ix_list (pv 5) pe_int (fun _ _ => rfl)) (pe_ix ix_list (pv 5) pe_int (fun _ _ => rfl)) (nomark _))))))
        (pss_one (ps_ret pe_non))
        pss_nil)
      (pss_cons (ps_par (i := 6) (j := 7) (by rfl) sc_told_part.nd rfl rfl (by decide) rfl rfl (pa_cons (pe_fn htold_atom (hr.mono (by first | decide | omega)) rfl (pa_cons (pe_ix ix_list (pv 5) pe_int (fun _ _ => rfl)) (pa_cons (pv 1) pa_nil))) (pa_cons (pe_fn htold_atom (hr.mono (by first | decide | omega)) rfl (pa_cons (pe_ix ix_list (pv 5) pe_int (fun _ _ => rfl)) (pa_cons (pv 1) pa_nil))) pa_nil)) (by rfl))
      (pss_cons (ps_if (PW.pt (pw_or (pt_cmpR op_isN (pv 6) pe_non (nomark _)) (pw_or1 (pt_cmpR op_isN (pv 7) pe_non (nomark _)))))
        (pss_one (ps_ret pe_non))
        pss_nil)
      (pss_cons (ps_if (pt_cmpR op_eq (pe_ix ix_list (pv 5) pe_int (fun _ _ => rfl)) pe_str (nomark _))
        (pss_one (ps_ret (pe_tup (pa_cons pe_str (pa_cons (pe_tup (pa_cons (pv 6) pa_nil)) (pa_cons (pe_tup (pa_cons (pv 7) pa_nil)) (pa_cons (pv 3) pa_nil)))))))
        pss_nil)
      (pss_one (ps_ret (pe_tup (pa_cons pe_str (pa_cons (pe_tup (pa_cons (pv 6) pa_nil)) (pa_cons (pe_tup (pa_cons (pv 7) pa_nil)) (pa_cons (pe_cmpR op_eq (pe_ix ix_list (pv 5) pe_int (fun _ _ => rfl)) pe_str (nomark _)) (pa_cons (pv 3) pa_nil)))))))))))))))), ?_⟩
    have no : partOk ns text = false → ∀ H', Same H H' → Q .non H' := fun z H' s => k H' _ s (by rw [z]; rfl)
    refine ⟨_, rfl, _, rfl, text, rfl, by omega, rfl, ?_⟩
    have s0 : Same H H := Same.refl H
    obtain ⟨wn, ew⟩ : ∃ wn : Bool, wn = !decide (V.str (cutS text none (some 4)) = V.str "not ") := ⟨_, rfl⟩
    rw [← ew]
    have etold : partTold text = if wn = true then text else cutS text (some 4) none := by
      unfold partTold
      by_cases c : cutS text none (some 4) = "not "
      · rw [if_pos c, ew, decide_eq_true (by rw [c])]; rfl
      · rw [if_neg c, ew, decide_eq_false (fun z => c (V.str.inj z))]; rfl
    have tl : (partTold text).length + 2 ≤ sizeLine := by
      rw [etold]
      split
      · exact hl
      · have := cutS_le text (some 4) none
        omega
    refine ⟨fun σ' H' => σ' = [some (V.str text), some (V.ref nm), some (V.ref od), some (V.bl wn), some (V.str (partTold text)), none, none, none] ∧ H' = H, ⟨_, rfl, wn, rfl, ?_⟩, ?_⟩
    · rw [etold]
      cases wn
      · exact iteF ⟨_, rfl, _, rfl, text, rfl, by omega, rfl, rfl⟩
      · exact iteT ⟨_, rfl, rfl, rfl⟩
    rintro σ' H' ⟨rfl, rfl⟩
    refine ⟨_, rfl, _, rfl, od, none, rfl, DGet.k (k := Sum.inr (partTold text)) hO, _, rfl, iteF ?_⟩
    refine ⟨_, rfl, ⟨_, rfl⟩, _, _, rfl, rfl, rfl, tl, fun wl hw => ?_⟩
    have s1 := same_new (o := .lst ((Txt.split (partTold text) " ").map V.str)) s0 hw
    have hw1 : upd H' wl (.lst ((Txt.split (partTold text) " ").map V.str)) wl = some (.lst ((Txt.split (partTold text) " ").map V.str)) := upd_same
    generalize upd H' wl (.lst ((Txt.split (partTold text) " ").map V.str)) = H1 at *
    clear hw
    have lenm : ((Txt.split (partTold text) " ").map V.str).length = (Txt.split (partTold text) " ").length := by simp
    by_cases c1 : (Txt.split (partTold text) " ").length = 3
    case neg =>
      have z : partOk ns text = false := by
        unfold partOk
        split
        · rename_i e; rw [e] at c1; exact absurd rfl c1
        · rfl
      refine ⟨_, rfl, wl, _, rfl, .inl (.inl (.inl hw1)), rfl, _, rfl, ?_⟩
      rw [show (!decide (V.int (((Txt.split (partTold text) " ").map V.str).length : Nat) = V.int 3)) = true from by rw [decide_eq_false (fun z => c1 (by have := V.int.inj z; rw [lenm] at this; omega))]; rfl]
      exact iteT (iteT (no z _ s1))
    case pos =>
      obtain ⟨a, b, c, ep⟩ := three c1
      have la : a.length ≤ sizeLine := by
        have := piece_le (show a ∈ Txt.split (partTold text) " " by rw [ep]; simp)
        omega
      have lc : c.length ≤ sizeLine := by
        have := piece_le (show c ∈ Txt.split (partTold text) " " by rw [ep]; simp)
        omega
      have eo : partOk ns text = (decide (b ∈ (["<", "<=", "is"] : List Str)) && !decide (a = c) && (toldAtom a ns).isSome && (toldAtom c ns).isSome) := by unfold partOk; rw [ep]
      rw [ep] at hw1
      have ix : ∀ {H2 : Hp}, Same H1 H2 → ∀ {j : Nat} {v : V} {Q' : VK} {σ : L2.St}, σ[5]? = some (some (.ref wl)) → ([V.str a, .str b, .str c])[j]? = some v → Q' v H2 → tOp (rIxL K) (tVar 5) (tC (V.int j)) σ H2 Q' := fun {H2} s2 {j v Q' σ} h5 hj q => ⟨_, h5, wl, _, _, _, rfl, rfl, .inl (.inl (s2 _ _ hw1)), atI_nat (j := j) hj, q⟩
      refine ⟨_, rfl, wl, _, rfl, .inl (.inl (.inl hw1)), rfl, _, rfl, iteF ?_⟩
      refine ix (Same.refl _) (j := 1) rfl rfl ⟨(by show 3 ≤ sizeLine; decide), fun t ht => ⟨t, _, rfl, .inr (.inl (.inl upd_same)), rfl, rfl, _, rfl, ?_⟩⟩
      have s2 := same_new (o := .tup [V.str "<", V.str "<=", V.str "is"]) (Same.refl H1) ht
      have einV : inV (.str b) [V.str "<", V.str "<=", V.str "is"] = decide (b ∈ (["<", "<=", "is"] : List Str)) := inV_str b ["<", "<=", "is"]
      show if (!inV (.str b) [V.str "<", V.str "<=", V.str "is"]) = true then _ else _
      rw [einV]
      generalize upd H1 t (.tup [V.str "<", V.str "<=", V.str "is"]) = H2 at *
      clear ht einV
      by_cases c2 : b ∈ (["<", "<=", "is"] : List Str)
      case neg =>
        rw [decide_eq_false c2]
        exact iteT (iteT (no (by rw [eo, decide_eq_false c2]; rfl) _ (s1.trans s2)))
      case pos =>
        rw [decide_eq_true c2]
        refine iteF (ix s2 (j := 0) rfl rfl (ix s2 (j := 2) rfl rfl ⟨rfl, _, rfl, ?_⟩))
        by_cases c3 : a = c
        case pos =>
          rw [decide_eq_true (by rw [c3])]
          exact iteT (no (by rw [eo, decide_eq_true c3, Bool.not_true, Bool.and_false]; rfl) _ (s1.trans s2))
        case neg =>
          rw [decide_eq_false (fun z => c3 (V.str.inj z))]
          have sN : SqT K H2 nm (ns.map V.str) := sqT_same (s1.trans s2) hN
          refine iteF (ix s2 (j := 0) rfl rfl ⟨_, rfl, a, nm, ns, rfl, sN, la, atom_any fun v1 H3 s3 e1 => ?_⟩)
          refine ix (s2.trans s3) (j := 2) rfl rfl ⟨_, rfl, c, nm, ns, rfl, sqT_same s3 sN, lc, atom_any fun v2 H4 s4 e2 => ?_⟩
          have s5 := (s1.trans s2).trans (s3.trans s4)
          refine ⟨_, _, rfl, ?_⟩
          dsimp only
          refine tOr_by (decide (v1 = .non)) (decide (v2 = .non)) (fun Q' q => ⟨_, rfl, rfl, _, rfl, q⟩) (fun _ Q' q => ⟨_, rfl, rfl, _, rfl, q⟩) ?_
          rcases e1 with ⟨rfl, e1⟩ | ⟨n1, e1⟩
          · rw [decide_eq_true rfl]
            exact iteT (no (by rw [eo, e1]; simp) _ s5)
          · rw [decide_eq_false n1]
            rcases e2 with ⟨rfl, e2⟩ | ⟨n2, e2⟩
            · rw [decide_eq_true rfl]
              exact iteT (no (by rw [eo, e2]; simp) _ s5)
            · rw [decide_eq_false n2]
              have yes : ∀ H' p xs, Same H4 H' → H' p = some (.tup xs) → Q (.ref p) H' := fun H' p xs s' hp => k H' _ (s5.trans s') (by
                rw [eo, e1, e2, decide_eq_true c2, decide_eq_false c3]
                exact iteT ⟨p, xs, rfl, hp⟩)
              refine iteF (ix ((s2.trans s3).trans s4) (j := 1) rfl rfl ⟨rfl, _, rfl, ?_⟩)
              by_cases c4 : b = "is"
              · rw [decide_eq_true (by rw [c4])]
                refine iteT ⟨_, rfl, (by show 1 ≤ sizeLine; decide), fun p1 h1 => ⟨_, rfl, (by show 1 ≤ sizeLine; decide), fun p2 h2 => ⟨_, rfl, (by show 4 ≤ sizeLine; decide), fun p3 h3 => ?_⟩⟩⟩
                exact yes _ _ _ (same_new (same_new (same_new (Same.refl _) h1) h2) h3) upd_same
              · rw [decide_eq_false (fun z => c4 (V.str.inj z))]
                refine iteF ⟨_, rfl, (by show 1 ≤ sizeLine; decide), fun p1 h1 => ⟨_, rfl, (by show 1 ≤ sizeLine; decide), fun p2 h2 => ?_⟩⟩
                have s6 : Same H4 (upd (upd H4 p1 (.tup [v1])) p2 (.tup [v2])) := same_new (same_new (Same.refl _) h1) h2
                refine ix (((s2.trans s3).trans s4).trans s6) (j := 1) rfl rfl ⟨rfl, _, rfl, (by show 5 ≤ sizeLine; decide), fun p3 h3 => ?_⟩
                exact yes _ _ _ (same_new s6 h3) upd_same
end
end Tb

set_option Elab.async false
set_option linter.all false
set_option maxRecDepth 100000
set_option maxHeartbeats 3999000
namespace Tb
open PySem PySem.Spec PyProof.Rows L2 NumText
open PySem.W (Frag)
open StX (pa_star tStar)
open C8 (pss_cut tCut)
def cutL {α : Type} (xs : List α) (lo hi : Option Int) : List α := (xs.drop (HT.sIx xs.length 0 lo)).take (HT.sIx xs.length xs.length hi - HT.sIx xs.length 0 lo)
theorem cutV_map {α : Type} (f : α → V) (xs : List α) (lo hi : Option Int) : cutV (xs.map f) lo hi = (cutL xs lo hi).map f := by
  unfold cutV cutL
  rw [List.length_map, List.map_take, List.map_drop]
theorem cutL_mem {α : Type} {xs : List α} {lo hi : Option Int} {x : α} (h : x ∈ cutL xs lo hi) : x ∈ xs := List.mem_of_mem_drop (List.mem_of_mem_take h)
theorem cutL_length {α : Type} (xs : List α) (lo hi : Option Int) : (cutL xs lo hi).length ≤ xs.length := by
  unfold cutL
  rw [List.length_take, List.length_drop]; omega
theorem atI_neg {α : Type} {xs : List α} {k : Nat} {v : α} (h0 : 0 < k) (hk : k ≤ xs.length) (h : xs[xs.length - k]? = some v) : atI xs (-(k : Int)) = some v := by
  unfold atI ixN
  rw [if_neg (by omega), if_pos (by omega)]
  rw [show (-(k : Int) + (xs.length : Int)).toNat = xs.length - k by omega]
  exact h
/-! ### rows of heads -/
inductive HRow where
  | word (x : Str)
  | set (name : Str) (sign : Option Str) (num : Option Int)
  deriving DecidableEq
def moves : List Str := ["<<", ">>"]
def masks : List Str := ["&", "&~", "|", "^"]
def regs : List Str := ["a", "b", "c"]
/-- what stands behind the sum: none, if it is wrong -/
def rowTail (words : List Str) : Option (Option Str × Option Int × List Str) := match words[words.length - 2]?, words[words.length - 1]? with
  | some sg, some la => if sg ∈ moves ++ masks then (match toldNumber la with
      | none => none
      | some n => if (sg ∈ moves ∧ ¬ (1 ≤ n ∧ n ≤ 63)) ∨ (sg ∈ masks ∧ runOf n.toNat = none) then none else some (some sg, some n, cutL words (some 2) (some (-2))))
    else some (none, none, cutL words (some 2) none)
  | _, _ => none
def namesOf (kind : Str) : List Str := regs ++ toldName kind :: givenNames kind
def rowOf (kind text : Str) : Option HRow :=
  if text = "quit" ∨ (text = "no" ∧ kind = "round") then some (.word text) else match Txt.split text " " with
  | a :: b :: c :: r => if b ≠ "=" ∨ a ∉ regs ++ [toldName kind] then none else (match rowTail (a :: b :: c :: r) with
    | none => none
    | some (sg, nu, ws) => if isSum ws (namesOf kind) then some (.set a sg nu) else none)
  | _ => none
def RowV (H : Hp) (line : Int) (v : V) : Option HRow → Prop
  | none => v = .non
  | some (.word t) => ∃ p, v = .ref p ∧ H p = some (.tup [.str t, .int line])
  | some (.set nm sg nu) => ∃ p q xs, v = .ref p ∧ H p = some (.tup [.str "set", .int line, .str nm, .ref q, optS sg, optI nu]) ∧ H q = some (.tup xs)
def spRow : Sp := fun vs H Q _ => ∃ (kind text : Str) (line : Int), vs = [.str kind, .str text, .int line] ∧ kind ∈ kinds9 ∧ text.length + 2 ≤ sizeLine ∧ ∀ H' v, Same H H' → RowV H' line v (rowOf kind text) → Q v H'
theorem number_nonneg {x : Str} {n : Int} (h : toldNumber x = some n) : 0 ≤ n := by
  unfold toldNumber at h
  split at h
  · cases h; omega
  · cases h
theorem flat_map (xs ys : List Str) : xs.map V.str ++ ys.map V.str = (xs ++ ys).map V.str := by simp
section
variable {P : Program} {w : World} {K : Frag} {mg : Str → Option Value} {base : Heap} {tk : Nat → Tok} {g : GA}
theorem ok_row_of {f : Addr} {fd : FuncData} (F : Fun K "row_of" "row_of" s_row_of f fd) (T : Bl mg) (G : Glob K w mg tk g) (htold_number : HasF P w K mg base "told_number" 1 spNumber) (htold_name : HasF P w K mg base "told_name" 1 spToldName) (hgiven_names : HasF P w K mg base "given_names" 1 (spGiven K))
    (hrun_of : HasF P w K mg base "run_of" 1 spRun) (htold_sum : HasF P w K mg base "told_sum" 3 (spSum K)) : FnOk P w K mg base CX0 4 f fd ["kind", "text", "line"] spRow := by
  refine F.ok sc_row_of (fun vs H Q E h => ?_) (fun cdv A outer s H vs Q E hr h => ?_)
  · obtain ⟨kind, text, line, rfl, _⟩ := h; rfl
  · obtain ⟨kind, text, line, rfl, hk, hl, k⟩ := h
    have hu := hu_of hr
    refine ⟨_, (pss_cons (ps_if (PW.pt (pw_or (pt_cmpR op_eq (pv 1) pe_str (nomark _)) (pw_or1 (PW.pt (pw_and (pt_cmpR op_eq (pv 1) pe_str (nomark _)) (pw_and1 (pt_cmpR op_eq (pv 0) pe_str (nomark _))))))))
        (pss_one (ps_ret (pe_tup (pa_cons (pv 1) (pa_cons (pv 2) pa_nil)))))
        pss_nil)
      (pss_cons (ps_set (i := 3) sc_row_of.nd rfl (by first | exact Or.inl rfl | exact Or.inr rfl) (pe_split (pv 1) pe_str))
      (pss_cons (ps_if (PW.pt (pw_or (pt_cmpR op_lt (pe_callB call_len_seq (by rfl) T.len PySem.boot_len (pa_cons (pv 3) pa_nil)) pe_int (nomark _)) (pw_or (pt_cmpR op_ne (pe_ix ix_list (pv 3) pe_int (fun _ _ => rfl)) pe_str (nomark _)) (pw_or1 (pt_cmpR op_notIn_seq (pe_ix ix_list (pv 3) pe_int (fun _ _ => rfl)) (pe_tup (pa_star (pe_glob (v := .ref _) (by rfl) G.regs rfl) (pa_cons (pe_fn htold_name (hr.mono (by first | decide | omega)) rfl (pa_cons (pv 0) pa_nil)) pa_nil))) (by first | rfl | exact nomark _))))))
        (pss_one (ps_ret pe_non))
        pss_nil)
      (pss_cons (ps_par3 (i := 4) (j := 5) (l := 6) (by rfl) sc_row_of.nd rfl rfl rfl (by decide) (by decide) (by decide) rfl rfl rfl (pa_cons pe_non (pa_cons pe_non (pa_cons (pe_slice sl_list (pv 3) (po_some pe_int) po_none) pa_nil))) (by rfl))
      (pss_cut (ps_if (pt_cmpR op_in_seq (pe_ix ix_list (pv 3) (pe_un un_neg pe_int) (fun _ _ => rfl)) (pe_tup (pa_star (pe_glob (v := .ref _) (by rfl) G.moves rfl) (pa_star (pe_glob (v := .ref _) (by rfl) G.masks rfl) pa_nil))) (by first | rfl | exact nomark _))
        (pss_cons (ps_par3 (i := 4) (j := 5) (l := 6) (by rfl) sc_row_of.nd rfl rfl rfl (by decide) (by decide) (by decide) rfl rfl rfl (pa_cons (pe_ix ix_list (pv 3) (pe_un un_neg pe_int) (fun _ _ => rfl)) (pa_cons (pe_fn htold_number (hr.mono (by first | decide | omega)) rfl (pa_cons (pe_ix ix_list (pv 3) (pe_un un_neg pe_int) (fun _ _ => rfl)) pa_nil)) (pa_cons (pe_slice sl_list (pv 3) (po_some pe_int) (po_some (pe_un un_neg pe_int))) pa_nil))) (by rfl))
        (pss_cons (ps_if (PW.pt (pw_or (pt_cmpR op_isN (pv 5) pe_non (nomark _)) (pw_or1 (PW.pt (pw_and (pt_cmpR op_in_seq (pv 4) (pe_glob (v := .ref _) (by rfl) G.moves rfl) (by first | rfl | exact nomark _)) (pw_and1 (pt_not (pt_chain op_le op_le pe_int (pv 5) (pe_glob (v := .int _) (by rfl) G.move ⟨_, rfl⟩)))))))))
          (pss_one (ps_ret pe_non))
          pss_nil)
        (pss_one (ps_if (PW.pt (pw_and (pt_cmpR op_in_seq (pv 4) (pe_glob (v := .ref _) (by rfl) G.masks rfl) (by first | rfl | exact nomark _)) (pw_and1 (pt_cmpR op_isN (pe_fn hrun_of (hr.mono (by first | decide | omega)) rfl (pa_cons (pv 5) pa_nil)) pe_non (nomark _)))))
          (pss_one (ps_ret pe_non))
          pss_nil))))
        pss_nil)
      (pss_cons (ps_set (i := 7) sc_row_of.nd rfl (by first | exact Or.inl rfl | exact Or.inr rfl) (pe_tup (pa_star (pe_glob (v := .ref _) (by rfl) G.regs rfl) (pa_cons (pe_fn htold_name (hr.mono (by first | decide | omega)) rfl (pa_cons (pv 0) pa_nil)) (pa_star (pe_fn hgiven_names (hr.mono (by first | decide | omega)) rfl (pa_cons (pv 0) pa_nil)) pa_nil)))))
      (pss_cons (ps_set (i := 8) sc_row_of.nd rfl (by first | exact Or.inl rfl | exact Or.inr rfl) (pe_fn htold_sum (hr.mono (by first | decide | omega)) rfl (pa_cons (pv 6) (pa_cons (pv 7) pa_nil))))
      (pss_one (ps_ret (pe_ifExp (pt_cmpR op_notN (pv 8) pe_non (nomark _)) (pe_tup (pa_cons pe_str (pa_cons (pv 2) (pa_cons (pe_ix ix_list (pv 3) pe_int (fun _ _ => rfl)) (pa_cons (pv 8) (pa_cons (pv 4) (pa_cons (pv 5) pa_nil))))))) pe_non)))))))))), ?_⟩
    refine tOr_by (decide (V.str text = V.str "quit")) (decide (V.str text = V.str "no") && decide (V.str kind = V.str "round")) (fun Q' q => ⟨_, rfl, rfl, _, rfl, q⟩)
      (fun _ Q' q => tAnd_by _ _ (fun Q' q => ⟨_, rfl, rfl, _, rfl, q⟩) (fun _ Q' q => ⟨_, rfl, rfl, _, rfl, q⟩) q) ?_
    by_cases c0 : text = "quit" ∨ (text = "no" ∧ kind = "round")
    · rw [show (decide (V.str text = V.str "quit") || (decide (V.str text = V.str "no") && decide (V.str kind = V.str "round"))) = true from by
        rcases c0 with h | ⟨h1, h2⟩
        · rw [decide_eq_true (by rw [h])]; rfl
        · rw [decide_eq_true (by rw [h1] : V.str text = V.str "no"), decide_eq_true (by rw [h2] : V.str kind = V.str "round")]; simp]
      refine iteT ⟨_, rfl, _, rfl, (by show 2 ≤ sizeLine; decide), fun p hp => k _ _ (same_new (Same.refl H) hp) ?_⟩
      unfold rowOf
      rw [if_pos c0]
      exact ⟨p, rfl, upd_same⟩
    rw [show (decide (V.str text = V.str "quit") || (decide (V.str text = V.str "no") && decide (V.str kind = V.str "round"))) = false from by
      rw [Bool.or_eq_false_iff, Bool.and_eq_false_iff]
      refine ⟨decide_eq_false fun z => c0 (.inl (V.str.inj z)), ?_⟩
      by_cases h1 : text = "no"
      · exact .inr (decide_eq_false fun z => c0 (.inr ⟨h1, V.str.inj z⟩))
      · exact .inl (decide_eq_false fun z => h1 (V.str.inj z))]
    have erow : rowOf kind text = match Txt.split text " " with
        | a :: b :: c :: r => if b ≠ "=" ∨ a ∉ regs ++ [toldName kind] then none else (match rowTail (a :: b :: c :: r) with
          | none => none
          | some (sg, nu, ws) => if isSum ws (namesOf kind) then some (.set a sg nu) else none)
        | _ => none := by unfold rowOf; rw [if_neg c0]
    refine iteF ⟨_, rfl, ⟨_, rfl⟩, _, _, rfl, rfl, rfl, hl, fun wl hw => ?_⟩
    have s1 := same_new (o := .lst ((Txt.split text " ").map V.str)) (Same.refl H) hw
    have hw1 : upd H wl (.lst ((Txt.split text " ").map V.str)) wl = some (.lst ((Txt.split text " ").map V.str)) := upd_same
    generalize upd H wl (.lst ((Txt.split text " ").map V.str)) = H1 at *
    clear hw
    have no : rowOf kind text = none → ∀ H', Same H H' → Q .non H' := fun z H' s => k H' _ s (by rw [z]; rfl)
    have lenp : ∀ x ∈ Txt.split text " ", x.length ≤ sizeLine := fun x hx => by have := piece_le hx; omega
    by_cases c1 : (Txt.split text " ").length < 3
    · dsimp only [gName]
      refine ⟨_, rfl, wl, _, rfl, .inl (.inl (.inl hw1)), _, _, rfl, rfl, _, rfl, ?_⟩
      rw [decide_eq_true (by rw [List.length_map]; omega)]
      refine iteT (iteT (no ?_ _ s1))
      rw [erow]
      split
      · rename_i e; rw [e] at c1; simp at c1; omega
      · rfl
    obtain ⟨a, b, c, r, ep⟩ : ∃ a b c r, Txt.split text " " = a :: b :: c :: r := by
      match h : Txt.split text " ", c1 with
      | a :: b :: c :: r, _ => exact ⟨a, b, c, r, rfl⟩
      | [], c1 => exact absurd (by simp) c1
      | [_], c1 => exact absurd (by simp) c1
      | [_, _], c1 => exact absurd (by simp) c1
    rw [ep] at erow hw1 lenp
    dsimp only at erow
    have ix : ∀ {H2 : Hp}, Same H1 H2 → ∀ {j : Nat} {x : Str} {Q' : VK} {σ : L2.St}, σ[3]? = some (some (.ref wl)) → (a :: b :: c :: r)[j]? = some x → Q' (.str x) H2 → tOp (rIxL K) (tVar 3) (tC (V.int j)) σ H2 Q' := fun {H2} s2 {j x Q' σ} h3 hj q => ⟨_, h3, wl, _, _, _, rfl, rfl, .inl (.inl (s2 _ _ hw1)), atI_nat (j := j) (by rw [List.getElem?_map, hj]; rfl), q⟩
    have ixn : ∀ {H2 : Hp}, Same H1 H2 → ∀ {j : Nat} {x : Str} {Q' : VK} {σ : L2.St}, σ[3]? = some (some (.ref wl)) → 0 < j → j ≤ 3 → (a :: b :: c :: r)[(a :: b :: c :: r).length - j]? = some x → Q' (.str x) H2 → tOp (rIxL K) (tVar 3) (tUn (rU fun i => V.int (-i)) (tC (V.int j))) σ H2 Q' := fun {H2} s2 {j x Q' σ} h3 h0 h1 hj q => ⟨_, h3, _, rfl, wl, _, _, _, rfl, rfl, .inl (.inl (s2 _ _ hw1)), atI_neg (k := j) h0 (by simp; omega) (by rw [List.getElem?_map, List.length_map, hj]; rfl), q⟩
    dsimp only [gName]
    refine ⟨_, rfl, wl, _, rfl, .inl (.inl (.inl hw1)), _, _, rfl, rfl, _, rfl, ?_⟩
    rw [decide_eq_false (by simp; omega)]
    refine iteF (ix (Same.refl _) (j := 1) rfl rfl ⟨rfl, _, rfl, ?_⟩)
    by_cases c2 : b = "="
    case neg =>
      rw [decide_eq_false (fun z => c2 (V.str.inj z))]
      exact iteT (iteT (no (by rw [erow, if_pos (.inl c2)]) _ s1))
    case pos =>
    rw [decide_eq_true (by rw [c2])]
    refine iteF (ix (Same.refl _) (j := 0) rfl rfl ⟨g.regs, _, rfl, .inl (G.regsT _), _, rfl, kind, rfl, hk, (by show 4 ≤ sizeLine; decide), fun t ht => ⟨t, _, rfl, .inr (.inl (.inl upd_same)), rfl, rfl, _, rfl, ?_⟩⟩)
    have s2 := same_new (o := .tup ([V.str "a", V.str "b", V.str "c"] ++ [V.str (toldName kind)])) (Same.refl H1) ht
    have einV : inV (.str a) ([V.str "a", V.str "b", V.str "c"] ++ [V.str (toldName kind)]) = decide (a ∈ regs ++ [toldName kind]) := inV_str a (regs ++ [toldName kind])
    show if (!inV (.str a) ([V.str "a", V.str "b", V.str "c"] ++ [V.str (toldName kind)])) = true then _ else _
    rw [einV]
    generalize upd H1 t (.tup ([V.str "a", V.str "b", V.str "c"] ++ [V.str (toldName kind)])) = H2 at *
    clear ht einV
    by_cases c3 : a ∈ regs ++ [toldName kind]
    case neg =>
      rw [decide_eq_false c3]
      exact iteT (no (by rw [erow, if_pos (.inr c3)]) _ (s1.trans s2))
    case pos =>
    rw [decide_eq_true c3]
    rw [if_neg (by rintro (h | h); exact h c2; exact h c3)] at erow
    -- sign, number, sum_words
    refine iteF ⟨_, rfl, _, rfl, wl, _, rfl, .inl (.inl (s2 _ _ hw1)), fun sl hsl => ⟨_, _, _, rfl, ?_⟩⟩
    rw [cutV_map]
    have s3 := same_new (o := .lst ((cutL (a :: b :: c :: r) (some 2) none).map V.str)) s2 hsl
    have hs3 : upd H2 sl (.lst ((cutL (a :: b :: c :: r) (some 2) none).map V.str)) sl = some (.lst ((cutL (a :: b :: c :: r) (some 2) none).map V.str)) := upd_same
    generalize upd H2 sl (.lst ((cutL (a :: b :: c :: r) (some 2) none).map V.str)) = H3 at *
    clear hsl
    obtain ⟨sg, hsg⟩ : ∃ sg, (a :: b :: c :: r)[(a :: b :: c :: r).length - 2]? = some sg := ⟨_, List.getElem?_eq_getElem (by simp)⟩
    obtain ⟨la, hla⟩ : ∃ la, (a :: b :: c :: r)[(a :: b :: c :: r).length - 1]? = some la := ⟨_, List.getElem?_eq_getElem (by simp)⟩
    have hlal : la.length ≤ sizeLine := lenp _ (List.mem_of_getElem? hla)
    have etail : rowTail (a :: b :: c :: r) = if sg ∈ moves ++ masks then (match toldNumber la with
      | none => none
      | some n => if (sg ∈ moves ∧ ¬ (1 ≤ n ∧ n ≤ 63)) ∨ (sg ∈ masks ∧ runOf n.toNat = none) then none else some (some sg, some n, cutL (a :: b :: c :: r) (some 2) (some (-2))))
    else some (none, none, cutL (a :: b :: c :: r) (some 2) none) := by unfold rowTail; rw [hsg, hla]
    dsimp only
    refine ⟨fun σ' H' => ∃ (so : Option Str) (nu : Option Int) (ws : List Str) (wa : Addr), σ' = [some (.str kind), some (.str text), some (.int line), some (.ref wl), some (optS so), some (optI nu), some (.ref wa), none, none] ∧ Same H1 H' ∧ H' wa = some (.lst (ws.map V.str)) ∧ (∀ x ∈ ws, x.length ≤ sizeLine) ∧ ws.length ≤ (a :: b :: c :: r).length ∧ rowTail (a :: b :: c :: r) = some (so, nu, ws), ?_, ?_⟩
    · refine ixn s3 (j := 2) rfl (by decide) (by decide) hsg ⟨g.moves, _, rfl, .inl (G.movesT _), g.masks, _, rfl, .inl (G.masksT _), (by show 6 ≤ sizeLine; decide), fun t ht => ⟨t, _, rfl, .inr (.inl (.inl upd_same)), rfl, rfl, _, rfl, ?_⟩⟩
      have einV : inV (.str sg) ([V.str "<<", V.str ">>"] ++ ([V.str "&", V.str "&~", V.str "|", V.str "^"] ++ [])) = decide (sg ∈ moves ++ masks) := inV_str sg (moves ++ masks)
      show if inV (.str sg) ([V.str "<<", V.str ">>"] ++ ([V.str "&", V.str "&~", V.str "|", V.str "^"] ++ [])) = true then _ else _
      rw [einV]
      have s4 := same_new (o := .tup ([V.str "<<", V.str ">>"] ++ ([V.str "&", V.str "&~", V.str "|", V.str "^"] ++ []))) s3 ht
      have hs4 : upd H3 t (.tup ([V.str "<<", V.str ">>"] ++ ([V.str "&", V.str "&~", V.str "|", V.str "^"] ++ []))) sl = some (.lst ((cutL (a :: b :: c :: r) (some 2) none).map V.str)) := by rw [upd_ne (ne_of_none hs3 ht)]; exact hs3
      generalize upd H3 t (.tup ([V.str "<<", V.str ">>"] ++ ([V.str "&", V.str "&~", V.str "|", V.str "^"] ++ []))) = H4 at *
      clear ht hs3 einV
      by_cases c4 : sg ∈ moves ++ masks
      case neg =>
        rw [decide_eq_false c4]
        rw [if_neg c4] at etail
        exact iteF ⟨none, none, _, sl, rfl, s4, hs4, fun x hx => lenp x (cutL_mem hx), cutL_length _ _ _, etail⟩
      case pos =>
      rw [decide_eq_true c4]
      rw [if_pos c4] at etail
      refine iteT (ixn s4 (j := 2) rfl (by decide) (by decide) hsg (ixn s4 (j := 1) rfl (by decide) (by decide) hla ⟨la, rfl, hlal, _, rfl, _, rfl, _, rfl, _, rfl, wl, _, rfl, .inl (.inl (s4 _ _ hw1)), fun sl2 hsl2 => ⟨_, _, _, rfl, ?_⟩⟩))
      rw [cutV_map]
      have s5 := same_new (o := .lst ((cutL (a :: b :: c :: r) (some 2) (some (-2))).map V.str)) s4 hsl2
      have hs5 : upd H4 sl2 (.lst ((cutL (a :: b :: c :: r) (some 2) (some (-2))).map V.str)) sl2 = some (.lst ((cutL (a :: b :: c :: r) (some 2) (some (-2))).map V.str)) := upd_same
      generalize upd H4 sl2 (.lst ((cutL (a :: b :: c :: r) (some 2) (some (-2))).map V.str)) = H5 at *
      dsimp only
      cases en : toldNumber la with
      | none =>
        rw [en] at etail
        refine tOr_by true true (fun Q' q => ⟨_, rfl, rfl, _, rfl, q⟩) (fun z => nomatch z) ?_
        exact iteT (no (by rw [erow, etail]) _ (s1.trans s5))
      | some n =>
        rw [en] at etail
        dsimp only at etail
        have n0 := number_nonneg en
        have em : inV (.str sg) [V.str "<<", V.str ">>"] = decide (sg ∈ moves) := inV_str sg moves
        have ek : inV (.str sg) [V.str "&", V.str "&~", V.str "|", V.str "^"] = decide (sg ∈ masks) := inV_str sg masks
        refine tOr_by false (decide (sg ∈ moves) && !(decide ((1 : Int) ≤ n) && decide (n ≤ 63))) (fun Q' q => ⟨_, rfl, rfl, _, rfl, q⟩)
          (fun _ Q' q => tAnd_by (decide (sg ∈ moves)) (!(decide ((1 : Int) ≤ n) && decide (n ≤ 63))) (fun Q' q => ⟨_, rfl, g.moves, _, rfl, .inr (G.movesT _), rfl, rfl, _, rfl, (by rw [← em] at q; exact q)⟩) (fun _ Q' q => ⟨_, rfl, _, _, rfl, rfl, _, rfl, by
            by_cases c : (1 : Int) ≤ n
            · rw [decide_eq_true c] at q ⊢
              exact iteT ⟨_, _, rfl, rfl, _, rfl, q⟩
            · rw [decide_eq_false c] at q ⊢
              exact iteF ⟨_, rfl, q⟩⟩) q) ?_
        by_cases c5 : sg ∈ moves ∧ ¬ (1 ≤ n ∧ n ≤ 63)
        · rw [if_pos (.inl c5)] at etail
          rw [show (decide (sg ∈ moves) && !(decide ((1 : Int) ≤ n) && decide (n ≤ 63))) = true from by
            rw [decide_eq_true c5.1, Bool.true_and]
            by_cases c : (1 : Int) ≤ n
            · rw [decide_eq_true c, decide_eq_false (fun z => c5.2 ⟨c, z⟩)]; rfl
            · rw [decide_eq_false c]; rfl]
          exact iteT (no (by rw [erow, etail]) _ (s1.trans s5))
        · rw [show (decide (sg ∈ moves) && !(decide ((1 : Int) ≤ n) && decide (n ≤ 63))) = false from by
            by_cases c : sg ∈ moves
            · have c' : 1 ≤ n ∧ n ≤ 63 := Classical.byContradiction fun z => c5 ⟨c, z⟩
              rw [decide_eq_true c'.1, decide_eq_true c'.2, Bool.and_eq_false_iff]; exact .inr rfl
            · rw [decide_eq_false c]; rfl]
          refine iteF ⟨_, rfl, g.masks, _, rfl, .inr (G.masksT _), rfl, rfl, _, rfl, ?_⟩
          show if inV (.str sg) [V.str "&", V.str "&~", V.str "|", V.str "^"] = true then _ else _
          rw [ek]
          by_cases c6 : sg ∈ masks
          · rw [decide_eq_true c6]
            refine iteT ⟨_, rfl, n.toNat, (by show [V.int n] = _; rw [Int.toNat_of_nonneg n0]), ?_⟩
            cases er : runOf n.toNat with
            | none =>
              rw [if_pos (.inr ⟨c6, er⟩)] at etail
              exact ⟨rfl, _, rfl, iteT (no (by rw [erow, etail]) _ (s1.trans s5))⟩
            | some lh =>
              rw [if_neg (by rintro (h | ⟨h1, h2⟩); exact c5 h; rw [er] at h2; cases h2)] at etail
              intro p hp
              refine ⟨rfl, _, rfl, iteF ⟨some sg, some n, _, sl2, rfl, same_new s5 hp, ?_, fun x hx => lenp x (cutL_mem hx), cutL_length _ _ _, etail⟩⟩
              rw [upd_ne (ne_of_none hs5 hp)]; exact hs5
          · rw [decide_eq_false c6]
            rw [if_neg (by rintro (h | ⟨h1, h2⟩); exact c5 h; exact c6 h1)] at etail
            exact iteF (iteF ⟨some sg, some n, _, sl2, rfl, s5, hs5, fun x hx => lenp x (cutL_mem hx), cutL_length _ _ _, etail⟩)
    · rintro σ' H' ⟨so, nu, ws, wa, rfl, s4, hwa, hwl, hwn, et⟩
      rw [et] at erow
      dsimp only at erow
      refine ⟨g.regs, _, rfl, .inl (G.regsT _), _, rfl, kind, rfl, hk, _, rfl, kind, rfl, hk, fun gp H5 s5 hgp => ⟨gp, _, rfl, .inl hgp, (by
        have : (givenNames kind).length ≤ 3 := by unfold givenNames; split; decide; split; decide; decide
        have := eight
        simp; omega), fun np hnp => ?_⟩⟩
      have en : [V.str "a", V.str "b", V.str "c"] ++ V.str (toldName kind) :: ((givenNames kind).map V.str ++ []) = (namesOf kind).map V.str := by
        unfold namesOf regs; simp
      have hnp1 : upd H5 np (.tup ([V.str "a", V.str "b", V.str "c"] ++ V.str (toldName kind) :: ((givenNames kind).map V.str ++ []))) np = some (.tup ((namesOf kind).map V.str)) := by rw [en]; exact upd_same
      have s6 := same_new (o := .tup ([V.str "a", V.str "b", V.str "c"] ++ V.str (toldName kind) :: ((givenNames kind).map V.str ++ []))) s5 hnp
      dsimp only [gName]
      generalize upd H5 np (.tup ([V.str "a", V.str "b", V.str "c"] ++ V.str (toldName kind) :: ((givenNames kind).map V.str ++ []))) = H6 at *
      refine ⟨_, rfl, _, rfl, wa, np, ws, namesOf kind, rfl, .inl (.inl (s6 _ _ hwa)), .inl (.inl hnp1), hwl, fun H7 v s7 hv => ?_⟩
      have s8 := (s1.trans s4).trans (s6.trans s7)
      dsimp only [gName]
      refine ⟨_, rfl, rfl, _, rfl, ?_⟩
      by_cases c7 : isSum ws (namesOf kind) = true
      · rw [if_pos c7] at hv erow
        obtain ⟨p, xs, rfl, hp⟩ := hv
        rw [show (!decide (V.ref p = V.non)) = true from rfl]
        refine iteT ⟨_, rfl, ix ((s4.trans s6).trans s7) (j := 0) rfl rfl ⟨_, rfl, _, rfl, _, rfl, (by show 6 ≤ sizeLine; decide), fun q hq => k _ _ (same_new s8 hq) ?_⟩⟩
        rw [erow]
        exact ⟨q, p, xs, rfl, upd_same, by rw [upd_ne (ne_of_none hp hq)]; exact hp⟩
      · rw [if_neg c7] at hv erow
        subst hv
        exact iteF (no erow _ s8)
end
end Tb

set_option Elab.async false
set_option linter.all false
set_option maxRecDepth 100000
set_option maxHeartbeats 3999000
namespace Tb
open PySem PySem.Spec PyProof.Rows L2
open PySem.W (Frag)
open StX (pa_star tStar)
open C8 (pss_cut tCut)
/-! ### what is read: rows, and ifs with their blocks -/
inductive Rw (α β : Type) where
  | row (a : α)
  | iff (line : Nat) (parts : List β) (rows others : List (Rw α β))
section
variable {α β : Type} (R : Hp → V → α → Prop) (RP : Hp → V → β → Prop)
def PartsAt (H : Hp) : List β → List V → Prop
  | [], vs => vs = []
  | b :: bs, vs => ∃ v ws, vs = v :: ws ∧ RP H v b ∧ PartsAt H bs ws
mutual
def RwAt (H : Hp) : Rw α β → V → Prop
  | .row a, v => R H v a
  | .iff line parts rows others, v => ∃ (p pp pr po : Addr) (ps vs ws : List V), v = .ref p ∧ H p = some (.tup [.str "if", .int line, .ref pp, .ref pr, .ref po]) ∧ H pp = some (.tup ps) ∧ PartsAt RP H parts ps ∧ H pr = some (.tup vs) ∧ RwsAt H rows vs ∧ H po = some (.tup ws) ∧ RwsAt H others ws
def RwsAt (H : Hp) : List (Rw α β) → List V → Prop
  | [], vs => vs = []
  | r :: rs, vs => ∃ v ws, vs = v :: ws ∧ RwAt H r v ∧ RwsAt H rs ws
end
/-- tuples alone matter -/
def Stab {γ : Type} (R : Hp → V → γ → Prop) : Prop := ∀ H H' v a, TupX H H' → R H v a → R H' v a
variable {R RP}
theorem PartsAt.stab (hP : Stab RP) {H H' : Hp} (x : TupX H H') : ∀ {bs : List β} {vs : List V}, PartsAt RP H bs vs → PartsAt RP H' bs vs
  | [], _, h => h
  | b :: bs, _, ⟨v, ws, e, h1, h2⟩ => ⟨v, ws, e, hP _ _ _ _ x h1, PartsAt.stab hP x h2⟩
mutual
theorem RwAt.stab (hR : Stab R) (hP : Stab RP) {H H' : Hp} (x : TupX H H') : ∀ (r : Rw α β) {v : V}, RwAt R RP H r v → RwAt R RP H' r v
  | .row a, v, h => by unfold RwAt at h ⊢; exact hR _ _ _ _ x h
  | .iff line parts rows others, v, h => by
    unfold RwAt at h ⊢
    obtain ⟨p, pp, pr, po, ps, vs, ws, e, h1, h2, h3, h4, h5, h6, h7⟩ := h
    exact ⟨p, pp, pr, po, ps, vs, ws, e, x _ _ h1, x _ _ h2, PartsAt.stab hP x h3, x _ _ h4, RwsAt.stab hR hP x rows h5, x _ _ h6, RwsAt.stab hR hP x others h7⟩
theorem RwsAt.stab (hR : Stab R) (hP : Stab RP) {H H' : Hp} (x : TupX H H') : ∀ (rs : List (Rw α β)) {vs : List V}, RwsAt R RP H rs vs → RwsAt R RP H' rs vs
  | [], vs, h => by unfold RwsAt at h ⊢; exact h
  | r :: rs, vs, h => by
    unfold RwsAt at h ⊢
    obtain ⟨v, ws, e, h1, h2⟩ := h
    exact ⟨v, ws, e, RwAt.stab hR hP x r h1, RwsAt.stab hR hP x rs h2⟩
end
theorem RwsAt.snoc {H : Hp} {r : Rw α β} {v : V} (hv : RwAt R RP H r v) : ∀ {rs : List (Rw α β)} {vs : List V}, RwsAt R RP H rs vs → RwsAt R RP H (rs ++ [r]) (vs ++ [v])
  | [], vs, h => by
    unfold RwsAt at h
    subst h
    show RwsAt R RP H [r] [v]
    unfold RwsAt
    exact ⟨v, [], rfl, hv, by unfold RwsAt; rfl⟩
  | q :: rs, vs, h => by
    unfold RwsAt at h
    obtain ⟨u, ws, rfl, h1, h2⟩ := h
    show RwsAt R RP H (q :: (rs ++ [r])) (u :: (ws ++ [v]))
    unfold RwsAt
    exact ⟨u, _, rfl, h1, RwsAt.snoc hv h2⟩
end
/-! ### how it is read -/
inductive Out (α β : Type) where
  | ok (rows : List (Rw α β)) (word : Str) (at_ ifs : Nat)
  | bad (n : Nat)
def Out.pre {α β : Type} (acc : List (Rw α β)) : Out α β → Out α β
  | .ok rows w a i => .ok (acc ++ rows) w a i
  | .bad n => .bad n
theorem Out.pre_nil {α β : Type} (o : Out α β) : o.pre [] = o := by cases o <;> rfl
theorem Out.pre_pre {α β : Type} (a b : List (Rw α β)) (o : Out α β) : (o.pre b).pre a = o.pre (a ++ b) := by
  cases o
  · simp [Out.pre]
  · rfl
inductive OutI (α β : Type) where
  | ok (r : Rw α β) (at_ ifs : Nat)
  | bad (n : Nat)
def isIf (t : Str) : Prop := cutS t none (some 3) = "if "
instance (t : Str) : Decidable (isIf t) := by unfold isIf; infer_instance
def isEnd (t : Str) : Prop := t = "else" ∨ t = "end"
instance (t : Str) : Decidable (isEnd t) := by unfold isEnd; infer_instance
section
variable {α β : Type} (lines : List Str) (rowF : Str → Nat → Option α) (partF : Str → Option β)
def partsOf (t : Str) : List (Option β) := (Txt.split t " and ").map partF
mutual
inductive RB : Nat → Bool → Nat → Nat → Out α β → Prop where
  | stop {d at_ ifs : Nat} {t : Str} : lines[at_]? = some t → isEnd t → RB d true at_ ifs (.ok [] t (at_ + 1) ifs)
  | noStop {d at_ ifs : Nat} {t : Str} : lines[at_]? = some t → isEnd t → RB d false at_ ifs (.bad (at_ + 1))
  | row {d at_ ifs : Nat} {inner : Bool} {t : Str} {a : α} {out : Out α β} : lines[at_]? = some t → ¬ isEnd t → ¬ isIf t → rowF t (at_ + 1) = some a → RB d inner (at_ + 1) ifs out → RB d inner at_ ifs (out.pre [.row a])
  | rowBad {d at_ ifs : Nat} {inner : Bool} {t : Str} : lines[at_]? = some t → ¬ isEnd t → ¬ isIf t → rowF t (at_ + 1) = none → RB d inner at_ ifs (.bad (at_ + 1))
  | iff {d at_ ifs at2 ifs2 : Nat} {inner : Bool} {t : Str} {r : Rw α β} {out : Out α β} : lines[at_]? = some t → ¬ isEnd t → isIf t → RI d (cutS t (some 3) none) (at_ + 1) ifs (.ok r at2 ifs2) → at_ < at2 → RB (d + 1) inner at2 ifs2 out → RB (d + 1) inner at_ ifs (out.pre [r])
  | iffBad {d at_ ifs n : Nat} {inner : Bool} {t : Str} : lines[at_]? = some t → ¬ isEnd t → isIf t → RI d (cutS t (some 3) none) (at_ + 1) ifs (.bad n) → RB (d + 1) inner at_ ifs (.bad n)
  | endIn {d at_ ifs : Nat} : lines.length ≤ at_ → RB d true at_ ifs (.bad (at_ + 1))
  | endOut {d at_ ifs : Nat} : lines.length ≤ at_ → RB d false at_ ifs (.ok [] "" at_ ifs)
inductive RI : Nat → Str → Nat → Nat → OutI α β → Prop where
  | parts {d at_ ifs : Nat} {t : Str} : 4 < (partsOf partF t).length ∨ none ∈ partsOf partF t → RI d t at_ ifs (.bad at_)
  | bad1 {d at_ ifs n : Nat} {t : Str} {ps : List β} : partsOf partF t = ps.map some → ps.length ≤ 4 → RB d true at_ (ifs + 1) (.bad n) → RI d t at_ ifs (.bad n)
  | one {d at_ ifs at2 ifs2 : Nat} {t w : Str} {ps : List β} {rows : List (Rw α β)} : partsOf partF t = ps.map some → ps.length ≤ 4 → RB d true at_ (ifs + 1) (.ok rows w at2 ifs2) → w ≠ "else" → RI d t at_ ifs (.ok (.iff at_ ps rows []) at2 ifs2)
  | bad2 {d at_ ifs at2 ifs2 n : Nat} {t : Str} {ps : List β} {rows : List (Rw α β)} : partsOf partF t = ps.map some → ps.length ≤ 4 → RB d true at_ (ifs + 1) (.ok rows "else" at2 ifs2) → RB d true at2 ifs2 (.bad n) → RI d t at_ ifs (.bad n)
  | two {d at_ ifs at2 ifs2 at3 ifs3 : Nat} {t w : Str} {ps : List β} {rows others : List (Rw α β)} : partsOf partF t = ps.map some → ps.length ≤ 4 → RB d true at_ (ifs + 1) (.ok rows "else" at2 ifs2) → RB d true at2 ifs2 (.ok others w at3 ifs3) → w ≠ "else" → RI d t at_ ifs (.ok (.iff at_ ps rows others) at3 ifs3)
  | bad3 {d at_ ifs at2 ifs2 at3 ifs3 : Nat} {t : Str} {ps : List β} {rows others : List (Rw α β)} : partsOf partF t = ps.map some → ps.length ≤ 4 → RB d true at_ (ifs + 1) (.ok rows "else" at2 ifs2) → RB d true at2 ifs2 (.ok others "else" at3 ifs3) → RI d t at_ ifs (.bad at3)
end
end
end Tb

set_option Elab.async false
set_option linter.all false
set_option maxRecDepth 100000
set_option maxHeartbeats 3999000
namespace Tb
open PySem PySem.Spec PyProof.Rows L2
open PySem.W (Frag)
open StX (pa_star tStar)
open C8 (pss_cut tCut)
/-! ### the functions that a reader is given -/
def RowR {α : Type} (R : Hp → V → α → Prop) (H : Hp) (v : V) : Option α → Prop
  | none => v = .non
  | some a => R H v a ∧ v ≠ .non
def PartR {β : Type} (RP : Hp → V → β → Prop) (H : Hp) (v : V) : Option β → Prop
  | none => v = .non
  | some b => RP H v b ∧ ∃ p xs, v = .ref p ∧ H p = some (.tup xs)
def spRowC {α : Type} (R : Hp → V → α → Prop) (rowF : Str → Nat → Option α) : Sp := fun vs H Q _ => ∃ (t : Str) (n : Nat), vs = [.str t, .int n] ∧ t.length + 2 ≤ sizeLine ∧ ∀ H' v, Same H H' → RowR R H' v (rowF t n) → Q v H'
def spPartC {β : Type} (RP : Hp → V → β → Prop) (partF : Str → Option β) : Sp := fun vs H Q _ => ∃ t : Str, vs = [.str t] ∧ t.length + 2 ≤ sizeLine ∧ ∀ H' v, Same H H' → PartR RP H' v (partF t) → Q v H'
structure RE where
  a : Addr
  dx : Addr
  la : Addr
  fr : Addr
  fp : Addr
  lines : List Str
  G : Hp → Prop
abbrev rdF (e : RE) (n i : Nat) : List (Str × V) := [("own_lines", .ref e.la), ("row_of", .ref e.fr), ("part_of", .ref e.fp), ("line", .int n), ("ifs", .int i)]
def RE.st (e : RE) (C : Addr) (H : Hp) (n i : Nat) : Prop := H e.a = some (.ins C e.dx (rdF e n i))
structure REOk {α β : Type} (P : Program) (w : World) (K : Frag) (mg : Str → Option Value) (base : Heap) (kC : Nat) (C : Addr) (R : Hp → V → α → Prop) (RP : Hp → V → β → Prop) (rowF : Str → Nat → Option α) (partF : Str → Option β) (e : RE) : Prop where
  rowC : ClosOk P w K mg base kC e.fr e.G (spRowC R rowF)
  partC : ClosOk P w K mg base kC e.fp e.G (spPartC RP partF)
  stab : ∀ H H', But e.a H H' → (∃ dx fs, H e.a = some (.ins C dx fs)) → e.G H → e.G H'
  lens : ∀ t ∈ e.lines, t.length + 2 ≤ sizeLine
  num : e.lines.length ≤ 1000
/-- of the class of readers -/
structure RdT (K : Frag) (C : Addr) : Prop where
  cl : Cls K C
  nL : NoAttr K C "own_lines"
  nR : NoAttr K C "row_of"
  nP : NoAttr K C "part_of"
  nN : NoAttr K C "line"
  nI : NoAttr K C "ifs"
theorem But.lst {a la C dx : Addr} {fs : List (Str × V)} {K : Frag} {xs : List V} {H H' : Hp} (b : But a H H') (ha : H a = some (.ins C dx fs)) (h : SqL K H la xs) : SqL K H' la xs := by
  rcases h with (h | ⟨o, h⟩) | h
  · exact .inl (.inl (b _ _ h fun z => by rw [z, ha] at h; cases h))
  · exact .inl (.inr ⟨o, b _ _ h fun z => by rw [z, ha] at h; cases h⟩)
  · exact .inr h
theorem But.putN {a b : Addr} {H H1 : Hp} {o : HO} (x : But a H H1) (hb : H b = none) : But a H (upd H1 b o) := fun c u h n => by
  rw [upd_ne (ne_of_none h hb)]; exact x c u h n
theorem TupX.lst {a : Addr} {xs : List V} {H : Hp} {o : HO} (h : H a = some (.lst xs)) : TupX H (upd H a o) := fun c ys hc => by
  rw [upd_ne (fun z => by rw [z, h] at hc; cases hc)]; exact hc
section
variable {α β : Type} (P : Program) (w : World) (K : Frag) (mg : Str → Option Value) (base : Heap) (kC : Nat) (C CB : Addr) (R : Hp → V → α → Prop) (RP : Hp → V → β → Prop) (rowF : Str → Nat → Option α) (partF : Str → Option β)
/-- what follows a block that was read -/
def OutK (e : RE) (H : Hp) (Q : VK) (E : XK) : Out α β → Prop
  | .ok rows x n i => ∀ H' p q vs, But e.a H H' → e.st C H' n i → H' p = some (.tup [.ref q, .str x]) → H' q = some (.tup vs) → RwsAt R RP H' rows vs → Q (.ref p) H'
  | .bad k => ∀ H' d, But e.a H H' → (∃ n i, e.st C H' n i) → H' d = some (.xd [("line", .int k)]) → E (.ref CB) (some d) H'
def OutIK (e : RE) (H : Hp) (Q : VK) (E : XK) : OutI α β → Prop
  | .ok r n i => ∀ H' v, But e.a H H' → e.st C H' n i → RwAt R RP H' r v → v ≠ .non → Q v H'
  | .bad k => ∀ H' d, But e.a H H' → (∃ n i, e.st C H' n i) → H' d = some (.xd [("line", .int k)]) → E (.ref CB) (some d) H'
def spRB (d : Nat) : Sp := fun vs H Q E => ∃ (e : RE) (inner : Bool) (n i : Nat) (out : Out α β), vs = [.ref e.a, .bl inner] ∧ REOk P w K mg base kC C R RP rowF partF e ∧ e.st C H n i ∧ e.G H ∧ SqL K H e.la (e.lines.map V.str) ∧ RB e.lines rowF partF d inner n i out ∧ OutK C CB R RP e H Q E out
def spRI (d : Nat) : Sp := fun vs H Q E => ∃ (e : RE) (t : Str) (n i : Nat) (out : OutI α β), vs = [.ref e.a, .str t] ∧ REOk P w K mg base kC C R RP rowF partF e ∧ e.st C H n i ∧ e.G H ∧ SqL K H e.la (e.lines.map V.str) ∧ t.length + 2 ≤ sizeLine ∧ RI e.lines rowF partF d t n i out ∧ OutIK C CB R RP e H Q E out
def spRI' : Nat → Sp
  | 0 => fun _ _ _ _ => False
  | d + 1 => spRI P w K mg base kC C CB R RP rowF partF d
end
section
variable {α β : Type} {R : Hp → V → α → Prop} {RP : Hp → V → β → Prop} {rowF : Str → Nat → Option α} {partF : Str → Option β}
variable {P : Program} {w : World} {K : Frag} {mg : Str → Option Value} {base : Heap} {kC : Nat} {B C CB : Addr} {tk : Nat → Tok} {g : GA}
theorem ok_read_block {f : Addr} {fd : FuncData} {k d : Nat} (F : Fun K "read_block" "Reader.read_block" s_Reader_read_block f fd) (T : Bl mg) (TR : RdT K C) (hR : Stab R) (hP : Stab RP) (eBadLine : ErrAt P K mg B "BadLine" CB ["line"]) (hkC : kC ≤ k) (h2 : 2 ≤ k)
    (hm_read_if : HasMX P w K mg base C "read_if" k (spRI' P w K mg base kC C CB R RP rowF partF d)) : FnOk P w K mg base (L2.CX P w) (k + 1) f fd ["self", "is_inner"] (spRB P w K mg base kC C CB R RP rowF partF d) := by
  refine F.okX sc_Reader_read_block (fun vs H Q E h => ?_) (fun cdv A outer s H vs Q E hr h => ?_)
  · obtain ⟨e, inner, n, i, out, rfl, _⟩ := h; rfl
  · obtain ⟨e, inner, n, i, out, rfl, O, hst, hG, hL, hrb, kk⟩ := h
    refine ⟨_, (pss_cons (ps_set (i := 2) sc_Reader_read_block.nd rfl (by first | exact Or.inl rfl | exact Or.inr rfl) (pe_lst pa_nil))
      (pss_cons (ps_while (passes_of rfl) (pt_cmpR op_lt (pe_fld (pv 0) rfl) (pe_callB call_len_seq (by rfl) T.len PySem.boot_len (pa_cons (pe_fld (pv 0) rfl) pa_nil)) (nomark _))
        (pss_cons (ps_set (i := 3) sc_Reader_read_block.nd rfl (by first | exact Or.inl rfl | exact Or.inr rfl) (pe_ix ix_list (pe_fld (pv 0) rfl) (pe_fld (pv 0) rfl) (fun _ _ => rfl)))
        (pss_cons (ps_fldaug (pv 0) pe_int in_add)
        (pss_cons (ps_if (pt_cmpR op_in_seq (pv 3) (pe_tup (pa_cons pe_str (pa_cons pe_str pa_nil))) (by first | rfl | exact nomark _))
          (pss_cons (ps_if (pt_not (pt_val (pv 1)))
            (pss_one (ps_raise rfl (takes_of rfl rfl rfl rfl) (pmk_x eBadLine.has (hr.mono (by first | decide | omega)) rfl (pa_cons (pe_fld (pv 0) rfl) pa_nil))))
            pss_nil)
          (pss_one (ps_ret (pe_tup (pa_cons (pe_callTy call_tuple_of (by rfl) T.tuple PyProof.Rows.boot_tuple (pa_cons (pv 2) pa_nil)) (pa_cons (pv 3) pa_nil))))))
          pss_nil)
        (pss_cons (ps_expr (pe_bm PySem.F.plainAttrs_list PySem.F.slot_list_append PySem.F.type_list_append mt_append (pv 2) (pa_cons (pe_ifExp (pt_cmpR op_eq (pe_slice sl_str (pv 3) po_none (po_some pe_int)) pe_str (nomark _)) (pe_mthX (pv 0) hm_read_if (hr.mono (by first | decide | omega)) (passes_call (takes_of rfl rfl rfl rfl) (fun _ _ _ _ z => z)) (pa_cons (pe_slice sl_str (pv 3) (po_some pe_int) po_none) pa_nil)) (pe_fcall (P := P) (w := w) (K := K) (mg := mg) (base := base) (k := kC) (E := fun _ _ _ => False) rfl rfl rfl rfl rfl (pv 0) (hr.mono hkC) passF (pa_cons (pv 3) (pa_cons (pe_fld (pv 0) rfl) pa_nil)))) pa_nil)))
        (pss_one (ps_if (pt_cmpR op_isN (pe_ix ix_list (pv 2) (pe_un un_neg pe_int) (fun _ _ => rfl)) pe_non (nomark _))
          (pss_one (ps_raise rfl (takes_of rfl rfl rfl rfl) (pmk_x eBadLine.has (hr.mono (by first | decide | omega)) rfl (pa_cons (pe_fld (pv 0) rfl) pa_nil))))
          pss_nil)))))))
      (pss_cons (ps_if (pt_val (pv 1))
        (pss_one (ps_raise rfl (takes_of rfl rfl rfl rfl) (pmk_x eBadLine.has (hr.mono (by first | decide | omega)) rfl (pa_cons (pe_op op_add (pe_fld (pv 0) rfl) pe_int) pa_nil))))
        pss_nil)
      (pss_one (ps_ret (pe_tup (pa_cons (pe_callTy call_tuple_of (by rfl) T.tuple PyProof.Rows.boot_tuple (pa_cons (pv 2) pa_nil)) (pa_cons pe_str pa_nil)))))))), ?_⟩
    have b0 : But e.a H H := But.refl
    refine ⟨(by show 0 ≤ sizeLine; decide), fun ra hra => ?_⟩
    dsimp only [gName]
    have nra : ra ≠ e.a := fun z => by rw [z] at hra; unfold RE.st at hst; rw [hst] at hra; cases hra
    refine ⟨fun m σ H' => ∃ (n i : Nat) (acc : List (Rw α β)) (vs : List V) (out' : Out α β) (v3 : Option V), m = e.lines.length - n ∧ σ = [some (.ref e.a), some (.bl inner), some (.ref ra), v3] ∧ But e.a H H' ∧ e.st C H' n i ∧ H' ra = some (.lst vs) ∧ RwsAt R RP H' acc vs ∧ vs.length ≤ n ∧ RB e.lines rowF partF d inner n i out' ∧ OutK C CB R RP e H Q E (out'.pre acc), ⟨_, n, i, [], [], out, none, rfl, rfl, b0.new hra, ?_, upd_same, (by unfold RwsAt; rfl), Nat.zero_le _, hrb, by rw [Out.pre_nil]; exact kk⟩, ?_⟩
    · unfold RE.st at hst ⊢
      rw [upd_ne nra.symm]; exact hst
    rintro m σ H1 ⟨n1, i1, acc, vs, out', v3, rfl, rfl, b1, st1, hra1, hvs, hvn, rb1, k1⟩
    have G1 : e.G H1 := O.stab H H1 b1 ⟨_, _, hst⟩ hG
    have L1 : SqL K H1 e.la (e.lines.map V.str) := b1.lst hst hL
    unfold RE.st at st1
    refine ⟨_, rfl, e.a, C, e.dx, _, _, rfl, st1, TR.cl, TR.nN, rfl, _, rfl, e.a, C, e.dx, _, _, rfl, st1, TR.cl, TR.nL, rfl, e.la, _, rfl, .inl L1, _, _, rfl, rfl, _, rfl, ?_⟩
    by_cases c1 : n1 < e.lines.length
    case neg =>
      rw [decide_eq_false (by rw [List.length_map]; omega)]
      refine iteF ?_
      cases rb1 with
      | stop h1 => have := (List.getElem?_eq_some_iff.mp h1).1; omega
      | noStop h1 => have := (List.getElem?_eq_some_iff.mp h1).1; omega
      | row h1 => have := (List.getElem?_eq_some_iff.mp h1).1; omega
      | rowBad h1 => have := (List.getElem?_eq_some_iff.mp h1).1; omega
      | iff h1 => have := (List.getElem?_eq_some_iff.mp h1).1; omega
      | iffBad h1 => have := (List.getElem?_eq_some_iff.mp h1).1; omega
      | endIn h1 =>
        refine ⟨_, rfl, _, rfl, iteT ⟨_, rfl, e.a, C, e.dx, _, _, rfl, st1, TR.cl, TR.nN, rfl, _, _, rfl, rfl, rfl, fun dd hdd => ?_⟩⟩
        exact k1 _ dd (b1.new hdd) ⟨n1, i1, by unfold RE.st; rw [upd_ne (ne_of_none st1 hdd)]; exact st1⟩ upd_same
      | endOut h1 =>
        refine ⟨_, rfl, _, rfl, iteF ⟨_, rfl, ra, _, rfl, .inl ⟨.inl (.inl hra1), fun q hq => ⟨(by show 2 ≤ sizeLine; decide), fun p hp => ?_⟩⟩⟩⟩
        have tx : TupX H1 (upd (upd H1 q (.tup vs)) p (.tup [.ref q, .str ""])) := (TupX.refl.new hq).new hp
        refine k1 _ p q vs ((b1.new hq).new hp) ?_ upd_same ?_ ?_
        · unfold RE.st
          rw [upd_ne (ne_of_none (by rw [upd_ne (ne_of_none st1 hq)]; exact st1) hp), upd_ne (ne_of_none st1 hq)]; exact st1
        · rw [upd_ne (ne_of_none upd_same hp)]; exact upd_same
        · rw [List.append_nil]
          exact RwsAt.stab hR hP tx acc hvs
    case pos =>
      rw [decide_eq_true (by rw [List.length_map]; omega)]
      refine iteT ⟨fun σ' H' => ∃ m', m' < e.lines.length - n1 ∧ ∃ (n i : Nat) (acc : List (Rw α β)) (vs : List V) (out' : Out α β) (v3 : Option V), m' = e.lines.length - n ∧ σ' = [some (.ref e.a), some (.bl inner), some (.ref ra), v3] ∧ But e.a H H' ∧ e.st C H' n i ∧ H' ra = some (.lst vs) ∧ RwsAt R RP H' acc vs ∧ vs.length ≤ n ∧ RB e.lines rowF partF d inner n i out' ∧ OutK C CB R RP e H Q E (out'.pre acc), fun _ _ z => z, ?_⟩
      obtain ⟨t, ht⟩ : ∃ t, e.lines[n1]? = some t := ⟨_, List.getElem?_eq_getElem c1⟩
      refine ⟨_, rfl, e.a, C, e.dx, _, _, rfl, st1, TR.cl, TR.nL, rfl, _, rfl, e.a, C, e.dx, _, _, rfl, st1, TR.cl, TR.nN, rfl, e.la, _, _, _, rfl, rfl, L1, atI_nat (by rw [List.getElem?_map, ht]; rfl), ?_⟩
      dsimp only [gName]
      refine ⟨_, rfl, e.a, C, e.dx, _, _, rfl, st1, TR.cl, TR.nN, rfl, _, _, rfl, rfl, e.dx, _, st1, (by show 5 < 1000; decide), ?_⟩
      rw [show putF "line" (V.int ((n1 : Int) + 1)) (rdF e n1 i1) = rdF e (n1 + 1) i1 from rfl]
      have b2 : But e.a H (upd H1 e.a (.ins C e.dx (rdF e (n1 + 1) i1))) := b1.put
      have b12 : But e.a H1 (upd H1 e.a (.ins C e.dx (rdF e (n1 + 1) i1))) := But.refl.put
      have st2 : upd H1 e.a (.ins C e.dx (rdF e (n1 + 1) i1)) e.a = some (.ins C e.dx (rdF e (n1 + 1) i1)) := upd_same
      have hra2 : upd H1 e.a (.ins C e.dx (rdF e (n1 + 1) i1)) ra = some (.lst vs) := by rw [upd_ne nra]; exact hra1
      have hvs2 := RwsAt.stab hR hP (b12.tup st1) acc hvs
      generalize upd H1 e.a (.ins C e.dx (rdF e (n1 + 1) i1)) = H2 at *
      clear hvs hra1 b1 G1 L1 b12 st1
      have lt := O.lens t (List.mem_of_getElem? ht)
      refine ⟨_, rfl, (by show 2 ≤ sizeLine; decide), fun tp htp => ⟨tp, _, rfl, .inr (.inl (.inl upd_same)), rfl, rfl, _, rfl, ?_⟩⟩
      show if inV (.str t) [V.str "else", V.str "end"] = true then _ else _
      rw [show inV (.str t) [V.str "else", V.str "end"] = decide (t ∈ (["else", "end"] : List Str)) from inV_str t ["else", "end"]]
      have b3 : But e.a H (upd H2 tp (.tup [V.str "else", V.str "end"])) := b2.new htp
      have st3 : upd H2 tp (.tup [V.str "else", V.str "end"]) e.a = some (.ins C e.dx (rdF e (n1 + 1) i1)) := by rw [upd_ne (ne_of_none st2 htp)]; exact st2
      have hra3 : upd H2 tp (.tup [V.str "else", V.str "end"]) ra = some (.lst vs) := by rw [upd_ne (ne_of_none hra2 htp)]; exact hra2
      have hvs3 := RwsAt.stab hR hP (TupX.refl.new (o := .tup [V.str "else", V.str "end"]) htp) acc hvs2
      generalize upd H2 tp (.tup [V.str "else", V.str "end"]) = H3 at *
      clear hvs2 hra2 b2 st2 htp H1 H2
      have G3 : e.G H3 := O.stab H H3 b3 ⟨_, _, hst⟩ hG
      have line3 : ∀ {Q' : VK} {σ : L2.St}, σ[0]? = some (some (.ref e.a)) → Q' (.int ((n1 + 1 : Nat) : Int)) H3 → tFld K (tVar 0) "line" σ H3 Q' := fun h0 q => ⟨_, h0, e.a, C, e.dx, _, _, rfl, st3, TR.cl, TR.nN, rfl, q⟩
      by_cases c2 : isEnd t
      · rw [decide_eq_true (by unfold isEnd at c2; simpa using c2)]
        refine iteT ?_
        cases rb1 with
        | stop h1 h2 =>
          refine ⟨_, rfl, _, rfl, iteF ⟨_, rfl, ra, _, rfl, .inl ⟨.inl (.inl hra3), fun q hq => ⟨_, rfl, (by show 2 ≤ sizeLine; decide), fun p hp => ?_⟩⟩⟩⟩
          cases (Option.some.inj (h1.symm.trans ht) : _)
          have tx : TupX H3 (upd (upd H3 q (.tup vs)) p (.tup [.ref q, .str t])) := (TupX.refl.new hq).new hp
          refine k1 _ p q vs ((b3.new hq).new hp) ?_ upd_same ?_ ?_
          · unfold RE.st
            rw [upd_ne (ne_of_none (by rw [upd_ne (ne_of_none st3 hq)]; exact st3) hp), upd_ne (ne_of_none st3 hq)]; exact st3
          · rw [upd_ne (ne_of_none upd_same hp)]; exact upd_same
          · rw [List.append_nil]
            exact RwsAt.stab hR hP tx acc hvs3
        | noStop h1 h2 =>
          refine ⟨_, rfl, _, rfl, iteT (line3 rfl ⟨rfl, fun dd hdd => ?_⟩)⟩
          exact k1 _ dd (b3.new hdd) ⟨n1 + 1, i1, by unfold RE.st; rw [upd_ne (ne_of_none st3 hdd)]; exact st3⟩ upd_same
        | row h1 h2 => cases (Option.some.inj (h1.symm.trans ht) : _); exact absurd c2 h2
        | rowBad h1 h2 => cases (Option.some.inj (h1.symm.trans ht) : _); exact absurd c2 h2
        | iff h1 h2 => cases (Option.some.inj (h1.symm.trans ht) : _); exact absurd c2 h2
        | iffBad h1 h2 => cases (Option.some.inj (h1.symm.trans ht) : _); exact absurd c2 h2
        | endIn h1 => omega
        | endOut h1 => omega
      · rw [decide_eq_false (by unfold isEnd at c2; simpa using c2)]
        have vl : vs.length < sizeLine := by
          have h1 := O.num
          have h2 : (1000 : Nat) < sizeLine := by decide
          omega
        have L3 : SqL K H3 e.la (e.lines.map V.str) := b3.lst hst hL
        refine iteF ⟨_, rfl, .inl ⟨rfl, _, .inl (.inl hra3)⟩, _, rfl, _, rfl, t, rfl, by omega, rfl, _, rfl, ?_⟩
        by_cases c3 : isIf t
        · rw [decide_eq_true (by unfold isIf at c3; rw [c3])]
          refine iteT ⟨_, rfl, e.a, e.dx, _, rfl, st3, rfl, _, rfl, _, rfl, t, rfl, by omega, ?_⟩
          have lc : (cutS t (some 3) none).length + 2 ≤ sizeLine := by have := cutS_le t (some 3) none; omega
          cases rb1 with
          | stop h1 h2 => cases (Option.some.inj (h1.symm.trans ht) : _); exact absurd h2 c2
          | noStop h1 h2 => cases (Option.some.inj (h1.symm.trans ht) : _); exact absurd h2 c2
          | row h1 h2 h3 => cases (Option.some.inj (h1.symm.trans ht) : _); exact absurd c3 h3
          | rowBad h1 h2 h3 => cases (Option.some.inj (h1.symm.trans ht) : _); exact absurd c3 h3
          | endIn h1 => omega
          | endOut h1 => omega
          | iffBad h1 h2 h3 h4 =>
            cases (Option.some.inj (h1.symm.trans ht) : _)
            exact ⟨e, _, n1 + 1, i1, _, rfl, O, st3, G3, L3, lc, h4, fun H' dd b' z hd => k1 H' dd (b3.trans b') z hd⟩
          | @iff _ _ _ at2 ifs2 _ _ r out2 h1 h2 h3 h4 h5 h6 =>
            cases (Option.some.inj (h1.symm.trans ht) : _)
            refine ⟨e, _, n1 + 1, i1, _, rfl, O, st3, G3, L3, lc, h4, fun H4 v b4 st4 hv nv => ?_⟩
            have hra4 : H4 ra = some (.lst vs) := b4 _ _ hra3 nra
            have tx4 : TupX H3 H4 := b4.tup st3
            have hvs4 := RwsAt.stab hR hP tx4 acc hvs3
            refine ⟨ra, vs, v, rfl, rfl, hra4, vl, _, rfl, _, rfl, ra, _, _, _, rfl, rfl, .inl (.inl upd_same), atI_last vs v, rfl, _, rfl, ?_⟩
            rw [decide_eq_false nv]
            have tx5 : TupX H4 (upd H4 ra (.lst (vs ++ [v]))) := TupX.lst hra4
            refine iteF ⟨_, by omega, at2, ifs2, acc ++ [r], vs ++ [v], out2, _, rfl, rfl, (b3.trans b4).putN hra, ?_, upd_same, (RwsAt.stab hR hP tx5 acc hvs4).snoc (RwAt.stab hR hP tx5 r hv), by simp; omega, h6, by rw [← Out.pre_pre]; exact k1⟩
            unfold RE.st at st4 ⊢
            rw [upd_ne nra.symm]; exact st4
        · rw [decide_eq_false (fun z => c3 (V.str.inj z))]
          refine iteF ⟨_, rfl, e.a, C, e.dx, _, e.fr, rfl, st3, TR.cl, TR.nR, rfl, e.G, _, O.rowC, G3, _, rfl, line3 rfl ⟨G3, t, n1 + 1, rfl, lt, fun H4 v s4 hv => ?_⟩⟩
          have st4 : H4 e.a = some (.ins C e.dx (rdF e (n1 + 1) i1)) := s4 _ _ st3
          have hra4 : H4 ra = some (.lst vs) := s4 _ _ hra3
          have b4 : But e.a H H4 := b3.same s4
          have hvs4 := RwsAt.stab hR hP (TupX.of s4) acc hvs3
          have tx5 : TupX H4 (upd H4 ra (.lst (vs ++ [v]))) := TupX.lst hra4
          have st5 : upd H4 ra (.lst (vs ++ [v])) e.a = some (.ins C e.dx (rdF e (n1 + 1) i1)) := by rw [upd_ne nra.symm]; exact st4
          refine ⟨ra, vs, v, rfl, rfl, hra4, vl, _, rfl, _, rfl, ra, _, _, _, rfl, rfl, .inl (.inl upd_same), atI_last vs v, rfl, _, rfl, ?_⟩
          cases rb1 with
          | stop h1 h2 => cases (Option.some.inj (h1.symm.trans ht) : _); exact absurd h2 c2
          | noStop h1 h2 => cases (Option.some.inj (h1.symm.trans ht) : _); exact absurd h2 c2
          | iff h1 h2 h3 => cases (Option.some.inj (h1.symm.trans ht) : _); exact absurd h3 c3
          | iffBad h1 h2 h3 => cases (Option.some.inj (h1.symm.trans ht) : _); exact absurd h3 c3
          | endIn h1 => omega
          | endOut h1 => omega
          | rowBad h1 h2 h3 h4 =>
            cases (Option.some.inj (h1.symm.trans ht) : _)
            rw [h4] at hv
            have hv : v = .non := hv
            subst hv
            rw [decide_eq_true rfl]
            refine iteT ⟨_, rfl, e.a, C, e.dx, _, _, rfl, st5, TR.cl, TR.nN, rfl, rfl, fun dd hdd => ?_⟩
            exact k1 _ dd ((b4.putN hra).new hdd) ⟨n1 + 1, i1, by unfold RE.st; rw [upd_ne (ne_of_none st5 hdd)]; exact st5⟩ upd_same
          | @row _ _ _ _ _ a out2 h1 h2 h3 h4 h5 =>
            cases (Option.some.inj (h1.symm.trans ht) : _)
            rw [h4] at hv
            obtain ⟨hva, nv⟩ := hv
            rw [decide_eq_false nv]
            have hrw : RwAt R RP H4 (Rw.row a) v := by unfold RwAt; exact hva
            exact iteF ⟨_, by omega, n1 + 1, i1, acc ++ [.row a], vs ++ [v], out2, _, rfl, rfl, b4.putN hra, st5, upd_same, (RwsAt.stab hR hP tx5 acc hvs4).snoc (RwAt.stab hR hP tx5 (.row a) hrw), by simp; omega, h5, by rw [← Out.pre_pre]; exact k1⟩
end
end Tb

set_option Elab.async false
set_option linter.all false
set_option maxRecDepth 100000
set_option maxHeartbeats 3999000
namespace Tb
open PySem PySem.Spec PyProof.Rows L2
open PySem.W (Frag)
open StX (pa_star tStar)
open C8 (pss_cut tCut)
theorem join_count (y : Str) (hy : 0 < y.length) : ∀ ps : List Str, ps.length ≤ (Str.join y ps).length + 1
  | [] => by simp
  | [x] => by simp
  | x :: z :: r => by
    have ih := join_count y hy (z :: r)
    have e : (Str.join y (x :: z :: r)).length = x.length + y.length + (Str.join y (z :: r)).length := by
      show (x ++ y ++ Str.join y (z :: r)).length = _
      rw [Str.length_append, Str.length_append]
    rw [e]
    simp only [List.length_cons] at ih ⊢
    omega
theorem split_count (x y : Str) (hy : 0 < y.length) : (Txt.split x y).length ≤ x.length + 1 := by
  have := join_count y hy (Txt.split x y)
  rw [PySem.StrLaws.join_split] at this; exact this
section
variable {β : Type} {RP : Hp → V → β → Prop}
def POsAt (RP : Hp → V → β → Prop) (H : Hp) : List (Option β) → List V → Prop
  | [], vs => vs = []
  | b :: bs, vs => ∃ v ws, vs = v :: ws ∧ PartR RP H v b ∧ POsAt RP H bs ws
theorem PartR.stab (hP : Stab RP) {H H' : Hp} (x : TupX H H') {v : V} : ∀ {b : Option β}, PartR RP H v b → PartR RP H' v b
  | none, h => h
  | some b, ⟨h1, p, xs, e, h2⟩ => ⟨hP _ _ _ _ x h1, p, xs, e, x _ _ h2⟩
theorem POsAt.stab (hP : Stab RP) {H H' : Hp} (x : TupX H H') : ∀ {bs : List (Option β)} {vs : List V}, POsAt RP H bs vs → POsAt RP H' bs vs
  | [], _, h => h
  | b :: bs, _, ⟨v, ws, e, h1, h2⟩ => ⟨v, ws, e, h1.stab hP x, POsAt.stab hP x h2⟩
theorem POsAt.snoc {H : Hp} {b : Option β} {v : V} (hv : PartR RP H v b) : ∀ {bs : List (Option β)} {vs : List V}, POsAt RP H bs vs → POsAt RP H (bs ++ [b]) (vs ++ [v])
  | [], _, h => by
    have h : _ = [] := h
    subst h
    exact ⟨v, [], rfl, hv, rfl⟩
  | c :: bs, _, ⟨u, ws, e, h1, h2⟩ => by
    subst e
    exact ⟨u, _, rfl, h1, POsAt.snoc hv h2⟩
theorem POsAt.length {H : Hp} : ∀ {bs : List (Option β)} {vs : List V}, POsAt RP H bs vs → vs.length = bs.length
  | [], _, h => by have h : _ = [] := h; rw [h]; rfl
  | c :: bs, _, ⟨u, ws, e, h1, h2⟩ => by rw [e, List.length_cons, List.length_cons, POsAt.length h2]
theorem POsAt.noT {H : Hp} : ∀ {bs : List (Option β)} {vs : List V}, POsAt RP H bs vs → ∀ v ∈ vs, Tb.noT H v
  | [], _, h, v, hv => by have h : _ = [] := h; rw [h] at hv; cases hv
  | c :: bs, _, ⟨u, ws, e, h1, h2⟩, v, hv => by
    rw [e] at hv
    rcases List.mem_cons.mp hv with rfl | hv
    · cases c with
      | none => have h1 : v = .non := h1; rw [h1]; trivial
      | some b => obtain ⟨_, p, xs, rfl, hp⟩ := h1; exact ⟨xs, hp⟩
    · exact POsAt.noT h2 v hv
theorem POsAt.any {H : Hp} : ∀ {bs : List (Option β)} {vs : List V}, POsAt RP H bs vs → (vs.any isNo = true ↔ none ∈ bs)
  | [], _, h => by have h : _ = [] := h; rw [h]; simp
  | c :: bs, _, ⟨u, ws, e, h1, h2⟩ => by
    rw [e, List.any_cons, Bool.or_eq_true, POsAt.any h2, List.mem_cons]
    cases c with
    | none => have h1 : u = .non := h1; rw [h1]; simp [isNo]
    | some b => obtain ⟨_, p, xs, rfl, hp⟩ := h1; simp [isNo]
theorem POsAt.good {H : Hp} : ∀ {bs : List β} {vs : List V}, POsAt RP H (bs.map some) vs → PartsAt RP H bs vs
  | [], _, h => h
  | b :: bs, _, ⟨v, ws, e, h1, h2⟩ => ⟨v, ws, e, h1.1, POsAt.good h2⟩
end
/-- the ways of read_if, its parts being good -/
def RIK {α β : Type} (lines : List Str) (rowF : Str → Nat → Option α) (partF : Str → Option β) (d n i : Nat) (ps : List β) (out : OutI α β) : Prop :=
  (∃ m, RB lines rowF partF d true n (i + 1) (.bad m) ∧ out = .bad m) ∨
  (∃ rows w n2 i2, RB lines rowF partF d true n (i + 1) (.ok rows w n2 i2) ∧ w ≠ "else" ∧ out = .ok (.iff n ps rows []) n2 i2) ∨
  ∃ rows n2 i2, RB lines rowF partF d true n (i + 1) (.ok rows "else" n2 i2) ∧ ((∃ m, RB lines rowF partF d true n2 i2 (.bad m) ∧ out = .bad m) ∨
    ∃ others w n3 i3, RB lines rowF partF d true n2 i2 (.ok others w n3 i3) ∧ out = if w = "else" then .bad n3 else .ok (.iff n ps rows others) n3 i3)
theorem ri_ways {α β : Type} {lines : List Str} {rowF : Str → Nat → Option α} {partF : Str → Option β} {d n i : Nat} {t : Str} {out : OutI α β} (h : RI lines rowF partF d t n i out) (c : ¬ (4 < (partsOf partF t).length ∨ none ∈ partsOf partF t)) :
    ∃ ps, partsOf partF t = ps.map some ∧ RIK lines rowF partF d n i ps out := by
  cases h with
  | parts h => exact absurd h c
  | bad1 h1 h2 h3 => exact ⟨_, h1, .inl ⟨_, h3, rfl⟩⟩
  | one h1 h2 h3 h4 => exact ⟨_, h1, .inr (.inl ⟨_, _, _, _, h3, h4, rfl⟩)⟩
  | bad2 h1 h2 h3 h4 => exact ⟨_, h1, .inr (.inr ⟨_, _, _, h3, .inl ⟨_, h4, rfl⟩⟩)⟩
  | two h1 h2 h3 h4 h5 => exact ⟨_, h1, .inr (.inr ⟨_, _, _, h3, .inr ⟨_, _, _, _, h4, by rw [if_neg h5]⟩⟩)⟩
  | bad3 h1 h2 h3 h4 => exact ⟨_, h1, .inr (.inr ⟨_, _, _, h3, .inr ⟨_, _, _, _, h4, by rw [if_pos rfl]⟩⟩)⟩
theorem ri_bad {α β : Type} {lines : List Str} {rowF : Str → Nat → Option α} {partF : Str → Option β} {d n i : Nat} {t : Str} {out : OutI α β} (h : RI lines rowF partF d t n i out) (c : 4 < (partsOf partF t).length ∨ none ∈ partsOf partF t) : out = .bad n := by
  have no : ∀ ps : List β, partsOf partF t = ps.map some → ps.length ≤ 4 → False := fun ps h1 h2 => by
    rw [h1] at c
    rcases c with c | c
    · rw [List.length_map] at c; omega
    · simp at c
  cases h with
  | parts h => rfl
  | bad1 h1 h2 => exact (no _ h1 h2).elim
  | one h1 h2 => exact (no _ h1 h2).elim
  | bad2 h1 h2 => exact (no _ h1 h2).elim
  | two h1 h2 => exact (no _ h1 h2).elim
  | bad3 h1 h2 => exact (no _ h1 h2).elim
section
variable {α β : Type} {R : Hp → V → α → Prop} {RP : Hp → V → β → Prop} {rowF : Str → Nat → Option α} {partF : Str → Option β}
variable {P : Program} {w : World} {K : Frag} {mg : Str → Option Value} {base : Heap} {kC : Nat} {B C CB : Addr} {tk : Nat → Tok} {g : GA}
theorem ok_read_if {f : Addr} {fd : FuncData} {k d : Nat} (F : Fun K "read_if" "Reader.read_if" s_Reader_read_if f fd) (T : Bl mg) (G : Glob K w mg tk g) (TR : RdT K C) (hR : Stab R) (hP : Stab RP) (eBadLine : ErrAt P K mg B "BadLine" CB ["line"]) (hkC : kC ≤ k) (h2 : 2 ≤ k)
    (hm_read_block : HasMX P w K mg base C "read_block" k (spRB P w K mg base kC C CB R RP rowF partF d)) : FnOk P w K mg base (L2.CX P w) (k + 1) f fd ["self", "text"] (spRI P w K mg base kC C CB R RP rowF partF d) := by
  refine F.okX sc_Reader_read_if (fun vs H Q E h => ?_) (fun cdv A outer s H vs Q E hr h => ?_)
  · obtain ⟨e, inner, n, i, out, rfl, _⟩ := h; rfl
  · obtain ⟨e, t, n, i, out, rfl, O, hst, hG, hL, hl, hri, kk⟩ := h
    refine ⟨_, (pss_cons (ps_par (i := 2) (j := 3) (by rfl) sc_Reader_read_if.nd rfl rfl (by decide) rfl rfl (pa_cons (pe_fld (pv 0) rfl) (pa_cons (pe_callTy call_tuple_of (by rfl) T.tuple PyProof.Rows.boot_tuple (pa_cons (pe_lc (own := [("part", 4)]) (g := gName 4) (tt := tYes) rfl sc_Reader_read_if.nd (pi_list (pe_split (pv 1) pe_str)) (blkOk_by (own := [("part", 4)]) (N := nm_Reader_read_if) (sc := defScope s_Reader_read_if) (by decide +kernel)) (fun _ _ _ _ _ => pg_name (i := 4) sc_Reader_read_if.nd rfl (by first | exact Or.inl rfl | exact Or.inr rfl)) (fun _ _ _ _ _ => pts_nil) (fun _ _ _ _ _ => (pe_fcall (P := P) (w := w) (K := K) (mg := mg) (base := base) (k := kC) (E := fun _ _ _ => False) rfl rfl rfl rfl rfl (pv 0) (hr.mono hkC) passF (pa_cons (pv 4) pa_nil)))) pa_nil)) pa_nil)) (by rfl))
      (pss_cons (ps_if (PW.pt (pw_or (pt_cmpR op_gt (pe_callB call_len_seq (by rfl) T.len PySem.boot_len (pa_cons (pv 3) pa_nil)) (pe_glob (v := .int _) (by rfl) G.parts ⟨_, rfl⟩) (nomark _)) (pw_or1 (pt_cmpR (op_inN (hu_of hr)) pe_non (pv 3) (by first | rfl | exact nomark _)))))
        (pss_one (ps_raise rfl (takes_of rfl rfl rfl rfl) (pmk_x eBadLine.has (hr.mono (by first | decide | omega)) rfl (pa_cons (pv 2) pa_nil))))
        pss_nil)
      (pss_cons (ps_fldaug (pv 0) pe_int in_add)
      (pss_cons (ps_asg (pe_mthX (pv 0) hm_read_block (hr.mono (by first | decide | omega)) (passes_call (takes_of rfl rfl rfl rfl) (fun _ _ _ _ z => z)) (pa_cons pe_bl pa_nil)) (pg_tup rfl (pgs_cons (pg_name (i := 5) sc_Reader_read_if.nd rfl (by first | exact Or.inl rfl | exact Or.inr rfl)) (pgs_cons (pg_name (i := 6) sc_Reader_read_if.nd rfl (by first | exact Or.inl rfl | exact Or.inr rfl)) pgs_nil))))
      (pss_cons (ps_set (i := 7) sc_Reader_read_if.nd rfl (by first | exact Or.inl rfl | exact Or.inr rfl) (pe_tup pa_nil))
      (pss_cons (ps_if (pt_cmpR op_eq (pv 6) pe_str (nomark _))
        (pss_cons (ps_asg (pe_mthX (pv 0) hm_read_block (hr.mono (by first | decide | omega)) (passes_call (takes_of rfl rfl rfl rfl) (fun _ _ _ _ z => z)) (pa_cons pe_bl pa_nil)) (pg_tup rfl (pgs_cons (pg_name (i := 7) sc_Reader_read_if.nd rfl (by first | exact Or.inl rfl | exact Or.inr rfl)) (pgs_cons (pg_name (i := 6) sc_Reader_read_if.nd rfl (by first | exact Or.inl rfl | exact Or.inr rfl)) pgs_nil))))
        (pss_one (ps_if (pt_cmpR op_eq (pv 6) pe_str (nomark _))
          (pss_one (ps_raise rfl (takes_of rfl rfl rfl rfl) (pmk_x eBadLine.has (hr.mono (by first | decide | omega)) rfl (pa_cons (pe_fld (pv 0) rfl) pa_nil))))
          pss_nil)))
        pss_nil)
      (pss_one (ps_ret (pe_tup (pa_cons pe_str (pa_cons (pv 2) (pa_cons (pv 3) (pa_cons (pv 5) (pa_cons (pv 7) pa_nil)))))))))))))), ?_⟩
    have hst0 := hst
    unfold RE.st at hst
    have b0 : But e.a H H := But.refl
    refine ⟨_, rfl, e.a, C, e.dx, _, _, rfl, hst, TR.cl, TR.nN, rfl, _, rfl, ⟨_, rfl⟩, _, _, rfl, rfl, rfl, hl, fun pl hpl => ⟨pl, rfl, ⟨_, .inl (.inl upd_same)⟩, fun D hD => ?_⟩⟩
    have s1 := same_new (o := .lst ((Txt.split t " and ").map V.str)) (Same.refl H) hpl
    have hpl1 : upd H pl (.lst ((Txt.split t " and ").map V.str)) pl = some (.lst ((Txt.split t " and ").map V.str)) := upd_same
    generalize upd H pl (.lst ((Txt.split t " and ").map V.str)) = H1 at *
    clear hpl
    refine lc_list (K := K) (a := pl) (xs := (Txt.split t " and ").map V.str) (fun j H' => ∃ vs, Same H1 H' ∧ H' D = some (.lst vs) ∧ POsAt RP H' ((partsOf partF t).take j) vs) ⟨[], same_new (Same.refl _) hD, upd_same, rfl⟩ (fun j H' _ ⟨vs, s, _⟩ => s.seq (.inl (.inl hpl1))) ?_ ?_
    · rintro j x H' hx ⟨vs, s2, hD2, hvs⟩
      obtain ⟨y, hy, rfl⟩ : ∃ y, (Txt.split t " and ")[j]? = some y ∧ x = .str y := by
        rw [List.getElem?_map] at hx
        cases e : (Txt.split t " and ")[j]? with
        | none => rw [e] at hx; cases hx
        | some y => rw [e] at hx; cases hx; exact ⟨y, rfl, rfl⟩
      have hly : y.length + 2 ≤ sizeLine := by have := piece_le (List.mem_of_getElem? hy); omega
      have G2 : e.G H' := O.stab H H' (fun c u hc _ => s2 c u (s1 c u hc)) ⟨_, _, hst⟩ hG
      refine ⟨rfl, ⟨_, rfl, e.a, C, e.dx, _, e.fp, rfl, s2 _ _ (s1 _ _ hst), TR.cl, TR.nP, rfl, e.G, _, O.partC, G2, _, rfl, G2, y, rfl, hly, fun H3 v s3 hv => ⟨vs, s3 _ _ hD2, ?_, vs ++ [v], ?_, upd_same, ?_⟩⟩⟩
      · rw [hvs.length, List.length_take]
        have h1 := split_count t " and " (by decide)
        have h2 : (partsOf partF t).length = (Txt.split t " and ").length := by unfold partsOf; simp
        have h3 := (List.getElem?_eq_some_iff.mp hy).1
        omega
      · exact same_put (s2.trans s3) hD
      · have e1 : (partsOf partF t).take (j + 1) = (partsOf partF t).take j ++ [partF y] := by
          have : (partsOf partF t)[j]? = some (partF y) := by unfold partsOf; rw [List.getElem?_map, hy]; rfl
          rw [List.take_add_one, this]; rfl
        rw [e1]
        have tx := TupX.lst (o := .lst (vs ++ [v])) (s3 _ _ hD2)
        exact (hvs.stab hP ((TupX.of s3).trans tx)).snoc (hv.stab hP tx)
    · rintro H2 ⟨vs, s2, hD2, hvs⟩
      rw [show ((partsOf partF t).take ((Txt.split t " and ").map V.str).length) = partsOf partF t from by
        rw [List.take_of_length_le]; unfold partsOf; simp] at hvs
      refine ⟨D, vs, rfl, .inl ⟨.inl (.inl hD2), fun pp hpp => ⟨_, _, rfl, ?_⟩⟩⟩
      have s3 : Same H (upd H2 pp (.tup vs)) := same_new (s1.trans s2) hpp
      have hpp3 : upd H2 pp (.tup vs) pp = some (.tup vs) := upd_same
      have hvs3 := hvs.stab hP (TupX.refl.new (o := .tup vs) hpp)
      generalize upd H2 pp (.tup vs) = H3 at *
      clear hvs hD2 s2 hpp hD hpl1 s1
      dsimp only
      refine tOr_by (decide ((4 : Int) < (vs.length : Int))) (vs.any isNo) (fun Q' q => ⟨_, rfl, pp, _, rfl, .inr (.inl (.inl hpp3)), _, _, rfl, rfl, _, rfl, q⟩) (fun _ Q' q => ⟨_, rfl, pp, vs, rfl, rfl, .inl (.inl hpp3), hvs3.noT, _, rfl, q⟩) ?_
      have st3 : H3 e.a = some (.ins C e.dx (rdF e n i)) := s3 _ _ hst
      have b3 : But e.a H H3 := fun c u hc _ => s3 c u hc
      by_cases c1 : 4 < (partsOf partF t).length ∨ none ∈ partsOf partF t
      · rw [show (decide ((4 : Int) < (vs.length : Int)) || vs.any isNo) = true from by
          rw [Bool.or_eq_true]
          rcases c1 with h | h
          · exact .inl (decide_eq_true (by rw [hvs3.length]; omega))
          · exact .inr (hvs3.any.mpr h)]
        refine iteT ⟨_, rfl, rfl, fun dd hdd => ?_⟩
        have kb : OutIK C CB R RP e H Q E (.bad n) := by rw [ri_bad hri c1] at kk; exact kk
        exact kb _ dd (b3.new hdd) ⟨n, i, by unfold RE.st; rw [upd_ne (ne_of_none st3 hdd)]; exact st3⟩ upd_same
      · rw [show (decide ((4 : Int) < (vs.length : Int)) || vs.any isNo) = false from by
          rw [Bool.or_eq_false_iff]
          refine ⟨decide_eq_false (by rw [hvs3.length]; omega), ?_⟩
          cases ea : vs.any isNo with
          | false => rfl
          | true => exact absurd (.inr (hvs3.any.mp ea)) c1]
        obtain ⟨ps, eps, hw⟩ := ri_ways hri c1
        rw [eps] at hvs3
        have hps3 := hvs3.good
        refine iteF ⟨_, rfl, e.a, C, e.dx, _, _, rfl, st3, TR.cl, TR.nI, rfl, _, _, rfl, rfl, e.dx, _, st3, (by show 5 < 1000; decide), ?_⟩
        rw [show putF "ifs" (V.int ((i : Int) + 1)) (rdF e n i) = rdF e n (i + 1) from rfl]
        have b4 : But e.a H (upd H3 e.a (.ins C e.dx (rdF e n (i + 1)))) := b3.put
        have b34 : But e.a H3 (upd H3 e.a (.ins C e.dx (rdF e n (i + 1)))) := But.refl.put
        have st4 : upd H3 e.a (.ins C e.dx (rdF e n (i + 1))) e.a = some (.ins C e.dx (rdF e n (i + 1))) := upd_same
        have hpp4 := (b34.tup st3) _ _ hpp3
        have hps4 := PartsAt.stab hP (b34.tup st3) hps3
        generalize upd H3 e.a (.ins C e.dx (rdF e n (i + 1))) = H4 at *
        clear hps3 hvs3 hpp3 b34 st3 b3 s3
        have G4 : e.G H4 := O.stab H H4 b4 ⟨_, _, hst⟩ hG
        have L4 : SqL K H4 e.la (e.lines.map V.str) := b4.lst hst hL
        rcases hw with ⟨m, rb1, eo⟩ | ⟨rows, x, n2, i2, rb1, hx, eo⟩ | ⟨rows, n2, i2, rb1, hw⟩
        · rw [eo] at kk
          exact ⟨_, rfl, e.a, e.dx, _, rfl, st4, rfl, e, true, n, i + 1, _, rfl, O, st4, G4, L4, rb1, fun H' dd b' z hd => kk H' dd (b4.trans b') z hd⟩
        · rw [eo] at kk
          refine ⟨_, rfl, e.a, e.dx, _, rfl, st4, rfl, e, true, n, i + 1, _, rfl, O, st4, G4, L4, rb1, fun H5 p q vr b5 st5 hp hq hrows => ?_⟩
          unfold RE.st at st5
          refine ⟨p, _, rfl, .inl (.inl hp), rfl, _, _, rfl, _, _, rfl, rfl, (by show 0 ≤ sizeLine; decide), fun po hpo => ?_⟩
          have tx : TupX H4 H5 := b5.tup st4
          dsimp only [gName]
          refine ⟨_, rfl, rfl, _, rfl, ?_⟩
          rw [decide_eq_false (fun z => hx (V.str.inj z))]
          refine iteF ⟨_, rfl, _, rfl, _, rfl, _, rfl, (by show 5 ≤ sizeLine; decide), fun pf hpf => ?_⟩
          have tx6 : TupX H5 (upd H5 po (.tup [])) := TupX.refl.new hpo
          have tx7 : TupX H5 (upd (upd H5 po (.tup [])) pf (.tup [.str "if", .int n, .ref pp, .ref q, .ref po])) := tx6.new hpf
          refine kk _ _ (((b4.trans b5).new hpo).new hpf) ?_ ?_ (fun z => nomatch z)
          · unfold RE.st
            rw [upd_ne (ne_of_none (by rw [upd_ne (ne_of_none st5 hpo)]; exact st5) hpf), upd_ne (ne_of_none st5 hpo)]; exact st5
          · unfold RwAt
            refine ⟨pf, pp, q, po, vs, vr, [], rfl, upd_same, tx7 _ _ (tx _ _ hpp4), PartsAt.stab hP (tx.trans tx7) hps4, tx7 _ _ hq, RwsAt.stab hR hP tx7 rows hrows, ?_, by unfold RwsAt; rfl⟩
            rw [upd_ne (ne_of_none upd_same hpf)]; exact upd_same
        · refine ⟨_, rfl, e.a, e.dx, _, rfl, st4, rfl, e, true, n, i + 1, _, rfl, O, st4, G4, L4, rb1, fun H5 p q vr b5 st5 hp hq hrows => ?_⟩
          unfold RE.st at st5
          refine ⟨p, _, rfl, .inl (.inl hp), rfl, _, _, rfl, _, _, rfl, rfl, (by show 0 ≤ sizeLine; decide), fun po hpo => ?_⟩
          have tx : TupX H4 H5 := b5.tup st4
          dsimp only [gName]
          refine ⟨_, rfl, rfl, _, rfl, ?_⟩
          rw [decide_eq_true rfl]
          have b6 : But e.a H (upd H5 po (.tup [])) := (b4.trans b5).new hpo
          have st6 : upd H5 po (.tup []) e.a = some (.ins C e.dx (rdF e n2 i2)) := by rw [upd_ne (ne_of_none st5 hpo)]; exact st5
          have tx6 : TupX H4 (upd H5 po (.tup [])) := tx.new hpo
          have hq6 := (TupX.refl.new (o := .tup []) hpo) _ _ hq
          have hrows6 := RwsAt.stab hR hP (TupX.refl.new (o := .tup []) hpo) rows hrows
          generalize upd H5 po (.tup []) = H6 at *
          have G6 : e.G H6 := O.stab H H6 b6 ⟨_, _, hst⟩ hG
          have L6 : SqL K H6 e.la (e.lines.map V.str) := b6.lst hst hL
          clear hq hp hrows b5 st5 tx hpo
          rcases hw with ⟨m, rb2, eo⟩ | ⟨others, x, n3, i3, rb2, eo⟩
          · rw [eo] at kk
            exact iteT ⟨_, rfl, e.a, e.dx, _, rfl, st6, rfl, e, true, n2, i2, _, rfl, O, st6, G6, L6, rb2, fun H' dd b' z hd => kk H' dd (b6.trans b') z hd⟩
          · refine iteT ⟨_, rfl, e.a, e.dx, _, rfl, st6, rfl, e, true, n2, i2, _, rfl, O, st6, G6, L6, rb2, fun H7 p2 q2 vo b7 st7 hp2 hq2 hothers => ?_⟩
            unfold RE.st at st7
            refine ⟨p2, _, rfl, .inl (.inl hp2), rfl, _, _, rfl, _, _, rfl, rfl, ?_⟩
            dsimp only [gName]
            refine ⟨_, rfl, rfl, _, rfl, ?_⟩
            have tx7 : TupX H6 H7 := b7.tup st6
            by_cases c2 : x = "else"
            · rw [if_pos c2] at eo
              rw [eo] at kk
              rw [decide_eq_true (by rw [c2])]
              refine iteT ⟨_, rfl, e.a, C, e.dx, _, _, rfl, st7, TR.cl, TR.nN, rfl, rfl, fun dd hdd => ?_⟩
              exact kk _ dd ((b6.trans b7).new hdd) ⟨n3, i3, by unfold RE.st; rw [upd_ne (ne_of_none st7 hdd)]; exact st7⟩ upd_same
            · rw [if_neg c2] at eo
              rw [eo] at kk
              rw [decide_eq_false (fun z => c2 (V.str.inj z))]
              refine iteF ⟨_, rfl, _, rfl, _, rfl, _, rfl, (by show 5 ≤ sizeLine; decide), fun pf hpf => ?_⟩
              have tx8 : TupX H7 (upd H7 pf (.tup [.str "if", .int n, .ref pp, .ref q, .ref q2])) := TupX.refl.new hpf
              refine kk _ _ ((b6.trans b7).new hpf) ?_ ?_ (fun z => nomatch z)
              · unfold RE.st
                rw [upd_ne (ne_of_none st7 hpf)]; exact st7
              · unfold RwAt
                exact ⟨pf, pp, q, q2, vs, vr, vo, rfl, upd_same, tx8 _ _ (tx7 _ _ (tx6 _ _ hpp4)), PartsAt.stab hP ((tx6.trans tx7).trans tx8) hps4, tx8 _ _ (tx7 _ _ hq6), RwsAt.stab hR hP (tx7.trans tx8) rows hrows6, tx8 _ _ hq2, RwsAt.stab hR hP tx8 others hothers⟩
end
end Tb

set_option Elab.async false
set_option linter.all false
set_option maxRecDepth 100000
set_option maxHeartbeats 3999000
namespace Tb
open PySem PySem.Spec PyProof.Rows L2
open PySem.W (Frag)
open StX (pa_star tStar)
open C8 (pss_cut tCut)
def spReaderInit (C : Addr) : Sp := fun vs H Q _ => ∃ (a dx : Addr) (v1 v2 v3 : V), vs = [.ref a, v1, v2, v3] ∧ H a = some (.ins C dx []) ∧ Q .non (upd H a (.ins C dx [("own_lines", v1), ("row_of", v2), ("part_of", v3), ("line", .int 0), ("ifs", .int 0)]))
section
variable {α β : Type} (P : Program) (w : World) (K : Frag) (mg : Str → Option Value) (base : Heap) (kC : Nat) (C CB CT : Addr) (R : Hp → V → α → Prop) (RP : Hp → V → β → Prop) (rowF : Str → Nat → Option α) (partF : Str → Option β)
def RowsK (most : Int) (H : Hp) (Q : VK) (E : XK) : Out α β → Prop
  | .ok rows _ _ i => if (i : Int) ≤ most then ∀ H' q vs, Same H H' → H' q = some (.tup vs) → RwsAt R RP H' rows vs → Q (.ref q) H'
      else ∀ H' d, Same H H' → H' d = some (.xd [("most", .int most), ("many", .int i), ("what", .str "ifs")]) → E (.ref CT) (some d) H'
  | .bad k => ∀ H' d, Same H H' → H' d = some (.xd [("line", .int k)]) → E (.ref CB) (some d) H'
def spReadRows (d : Nat) : Sp := fun vs H Q E => ∃ (la fr fp : Addr) (most : Int) (lines : List Str) (G : Hp → Prop) (out : Out α β), vs = [.ref la, .ref fr, .ref fp, .int most] ∧ ClosOk P w K mg base kC fr G (spRowC R rowF) ∧ ClosOk P w K mg base kC fp G (spPartC RP partF) ∧
  (∀ a H H', But a H H' → (∃ C dx fs, H a = some (.ins C dx fs)) → G H → G H') ∧ (∀ H H', Same H H' → G H → G H') ∧ (∀ t ∈ lines, t.length + 2 ≤ sizeLine) ∧ lines.length ≤ 1000 ∧ G H ∧ SqL K H la (lines.map V.str) ∧ RB lines rowF partF d false 0 0 out ∧ RowsK CB CT R RP most H Q E out
end
section
variable {α β : Type} {R : Hp → V → α → Prop} {RP : Hp → V → β → Prop} {rowF : Str → Nat → Option α} {partF : Str → Option β}
variable {P : Program} {w : World} {K : Frag} {mg : Str → Option Value} {base : Heap} {kC : Nat} {B C CB CT : Addr} {tk : Nat → Tok} {g : GA}
theorem ok_reader_init {f : Addr} {fd : FuncData} (F : Fun K "__init__" "Reader.__init__" s_Reader_init f fd) (TR : RdT K C) : FnOk P w K mg base CX0 1 f fd ["self", "lines", "row_of", "part_of"] (spReaderInit C) := by
  refine F.ok sc_Reader_init (fun vs H Q E h => ?_) (fun cdv A outer s H vs Q E hr h => ?_)
  · obtain ⟨a, dx, v1, v2, v3, rfl, _⟩ := h; rfl
  · obtain ⟨a, dx, v1, v2, v3, rfl, ha, k⟩ := h
    refine ⟨_, (pss_cons (ps_fld (pv 0) (pv 1) rfl)
      (pss_cons (ps_fld (pv 0) (pv 2) rfl)
      (pss_cons (ps_fld (pv 0) (pv 3) rfl)
      (pss_cons (ps_fld (pv 0) pe_int rfl)
      (pss_one (ps_fld (pv 0) pe_int rfl)))))), ?_⟩
    refine ⟨_, rfl, _, rfl, a, C, dx, _, rfl, ha, TR.cl, TR.nL, (by show 0 < 1000; decide), ?_⟩
    refine ⟨_, rfl, _, rfl, a, C, dx, _, rfl, upd_same, TR.cl, TR.nR, (by show 1 < 1000; decide), ?_⟩
    refine ⟨_, rfl, _, rfl, a, C, dx, _, rfl, upd_same, TR.cl, TR.nP, (by show 2 < 1000; decide), ?_⟩
    refine ⟨_, rfl, a, C, dx, _, rfl, upd_same, TR.cl, TR.nN, (by show 3 < 1000; decide), ?_⟩
    refine ⟨_, rfl, a, C, dx, _, rfl, upd_same, TR.cl, TR.nI, (by show 4 < 1000; decide), ?_⟩
    rw [upd_upd, upd_upd, upd_upd, upd_upd]
    exact k
/-- both methods, to any depth -/
theorem rb_all {f1 f2 : Addr} {fd1 fd2 : FuncData} {k : Nat} (F1 : Fun K "read_block" "Reader.read_block" s_Reader_read_block f1 fd1) (M1 : Meth K C "read_block" f1) (B1 : Binds K fd1 ["self", "is_inner"] []) (F2 : Fun K "read_if" "Reader.read_if" s_Reader_read_if f2 fd2) (M2 : Meth K C "read_if" f2) (B2 : Binds K fd2 ["self", "text"] [])
    (T : Bl mg) (G : Glob K w mg tk g) (TR : RdT K C) (hR : Stab R) (hP : Stab RP) (eBadLine : ErrAt P K mg B "BadLine" CB ["line"]) (hkC : kC ≤ k) (h2 : 2 ≤ k) : ∀ d, HasMX P w K mg base C "read_block" (k + 2 * d + 1) (spRB P w K mg base kC C CB R RP rowF partF d)
  | 0 => ⟨f1, fd1, _, ok_read_block F1 T TR hR hP eBadLine (by omega) (by omega) ⟨f2, fd2, ["self", "text"], ⟨fun _ _ _ _ h => h.elim, fun _ _ _ _ _ _ _ _ _ _ _ _ _ h => h.elim⟩, M2, TR.cl, B2⟩, M1, TR.cl, B1⟩
  | d + 1 => ⟨f1, fd1, _, ok_read_block (k := k + 2 * d + 2) F1 T TR hR hP eBadLine (by omega) (by omega) ⟨f2, fd2, _, ok_read_if F2 T G TR hR hP eBadLine (by omega) (by omega) (rb_all F1 M1 B1 F2 M2 B2 T G TR hR hP eBadLine hkC h2 d), M2, TR.cl, B2⟩, M1, TR.cl, B1⟩
theorem ok_read_rows {f : Addr} {fd : FuncData} {k d : Nat} (F : Fun K "read_rows" "read_rows" s_read_rows f fd) (TR : RdT K C) (eTooMany : ErrAt P K mg B "TooMany" CT ["what", "many", "most"]) (h2 : 2 ≤ k) (hReader : HasC P w K mg base "Reader" C 1 (spReaderInit C))
    (hm_read_block : HasMX P w K mg base C "read_block" k (spRB P w K mg base kC C CB R RP rowF partF d)) : FnOk P w K mg base (L2.CX P w) (k + 1) f fd ["lines", "row_of", "part_of", "most_ifs"] (spReadRows P w K mg base kC CB CT R RP rowF partF d) := by
  refine F.okX sc_read_rows (fun vs H Q E h => ?_) (fun cdv A outer s H vs Q E hr h => ?_)
  · obtain ⟨la, fr, fp, most, lines, G, out, rfl, _⟩ := h; rfl
  · obtain ⟨la, fr, fp, most, lines, G, out, rfl, c1, c2, gst, gs, hl, hn, hG, hL, hrb, kk⟩ := h
    refine ⟨_, (pss_cons (ps_set (i := 4) sc_read_rows.nd rfl (by first | exact Or.inl rfl | exact Or.inr rfl) (pe_mk hReader (hr.mono (by first | decide | omega)) rfl (pa_cons (pv 0) (pa_cons (pv 1) (pa_cons (pv 2) pa_nil)))))
      (pss_cons (ps_asg (pe_mthX (pv 4) hm_read_block (hr.mono (by first | decide | omega)) (passes_call (takes_of rfl rfl rfl rfl) (fun _ _ _ _ z => z)) (pa_cons pe_bl pa_nil)) (pg_tup rfl (pgs_cons (pg_name (i := 5) sc_read_rows.nd rfl (by first | exact Or.inl rfl | exact Or.inr rfl)) (pgs_cons (pg_name (i := 6) sc_read_rows.nd rfl (by first | exact Or.inl rfl | exact Or.inr rfl)) pgs_nil))))
      (pss_cons (ps_if (pt_cmpR op_gt (pe_fld (pv 4) rfl) (pv 3) (nomark _))
        (pss_one (ps_raise rfl (takes_of rfl rfl rfl rfl) (pmk_x eTooMany.has (hr.mono (by first | decide | omega)) rfl (pa_cons pe_str (pa_cons (pe_fld (pv 4) rfl) (pa_cons (pv 3) pa_nil))))))
        pss_nil)
      (pss_one (ps_ret (pv 5)))))), ?_⟩
    refine ⟨_, rfl, _, rfl, _, rfl, fun x dx hx hdx nx => ⟨x, dx, _, _, _, rfl, upd_same, rfl, ?_⟩⟩
    rw [upd_upd]
    dsimp only [gName]
    obtain ⟨H1, eH1⟩ : ∃ H1, H1 = upd (upd H dx (.own x)) x (.ins C dx [("own_lines", .ref la), ("row_of", .ref fr), ("part_of", .ref fp), ("line", .int 0), ("ifs", .int 0)]) := ⟨_, rfl⟩
    rw [← eH1]
    have s1 : Same H H1 := by
      rw [eH1]
      intro c u hc
      rw [upd_ne (ne_of_none hc hx), upd_ne (ne_of_none hc hdx)]; exact hc
    have st1 : H1 x = some (.ins C dx (rdF ⟨x, dx, la, fr, fp, lines, G⟩ 0 0)) := by rw [eH1]; exact upd_same
    clear eH1
    have back : ∀ {H'}, But x H1 H' → Same H H' := fun b c u hc => b c u (s1 c u hc) (ne_of_none hc hx)
    refine ⟨_, rfl, x, dx, _, rfl, st1, rfl, ⟨x, dx, la, fr, fp, lines, G⟩, false, 0, 0, out, rfl, ⟨c1, c2, fun H H' b ⟨dx, fs, h⟩ => gst _ _ _ b ⟨C, dx, fs, h⟩, hl, hn⟩, st1, gs _ _ s1 hG, s1.seq hL, hrb, ?_⟩
    cases out with
    | bad m => exact fun H' dd b _ hd => kk H' dd (back b) hd
    | ok rows wd n i =>
      intro H2 p q vr b2 st2 hp hq hrows
      unfold RE.st at st2
      refine ⟨p, _, rfl, .inl (.inl hp), rfl, _, _, rfl, _, _, rfl, rfl, ?_⟩
      dsimp only [gName]
      refine ⟨_, rfl, x, C, dx, _, _, rfl, st2, TR.cl, TR.nI, rfl, _, rfl, _, _, rfl, rfl, _, rfl, ?_⟩
      by_cases c : (i : Int) ≤ most
      · rw [decide_eq_false (by omega : ¬ most < (i : Int))]
        have kk' : ∀ H' q vs, Same H H' → H' q = some (.tup vs) → RwsAt R RP H' rows vs → Q (.ref q) H' := by
          have := kk; unfold RowsK at this; dsimp only at this; rw [if_pos c] at this; exact this
        exact iteF ⟨_, rfl, kk' H2 q vr (back b2) hq hrows⟩
      · rw [decide_eq_true (by omega : most < (i : Int))]
        have kk' : ∀ H' d, Same H H' → H' d = some (.xd [("most", .int most), ("many", .int i), ("what", .str "ifs")]) → E (.ref CT) (some d) H' := by
          have := kk; unfold RowsK at this; dsimp only at this; rw [if_neg c] at this; exact this
        refine iteT ⟨_, rfl, x, C, dx, _, _, rfl, st2, TR.cl, TR.nI, rfl, _, rfl, rfl, fun dd hdd => ?_⟩
        exact kk' _ dd (same_new (back b2) hdd) upd_same
end
end Tb

set_option Elab.async false
set_option linter.all false
set_option maxRecDepth 100000
set_option maxHeartbeats 3999000
namespace Tb
open PySem PySem.Spec PyProof.Rows L2
open PySem.W (Frag)
open StX (pa_star tStar)
open C8 (pss_cut tCut)
/-! ### all ways -/
section
variable {α β : Type} (ends : List Str) (tag : α → Str)
abbrev Ways (α β : Type) := List (List (Rw α β) × Bool)
mutual
def extW : Rw α β → List (Rw α β) → Ways α β
  | .row a, w => [(w ++ [.row a], decide (tag a ∈ ends))]
  | .iff l ps rows others, w => ((waysW rows [([], false)]).map fun m => (w ++ Rw.iff l ps rows others :: m.1, m.2)) ++ ((waysW others [([], false)]).map fun m => (w ++ Rw.iff l ps rows others :: m.1, m.2))
def waysW : List (Rw α β) → Ways α β → Ways α β
  | [], found => found
  | r :: rs, found => waysW rs (found.flatMap fun p => if p.2 = true then [(p.1, true)] else extW r p.1)
end
def stepW (r : Rw α β) (found : Ways α β) : Ways α β := found.flatMap fun p => if p.2 = true then [(p.1, true)] else extW ends tag r p.1
mutual
def nIf : Rw α β → Nat
  | .row _ => 0
  | .iff _ _ rows others => 1 + nIfs rows + nIfs others
def nIfs : List (Rw α β) → Nat
  | [] => 0
  | r :: rs => nIf r + nIfs rs
end
mutual
def szR : Rw α β → Nat
  | .row _ => 1
  | .iff _ _ rows others => 1 + szRs rows + szRs others
def szRs : List (Rw α β) → Nat
  | [] => 0
  | r :: rs => szR r + szRs rs
end
mutual
def dpR : Rw α β → Nat
  | .row _ => 0
  | .iff _ _ rows others => 1 + max (dpRs rows) (dpRs others)
def dpRs : List (Rw α β) → Nat
  | [] => 0
  | r :: rs => max (dpR r) (dpRs rs)
end
end
section
variable {α β : Type} {ends : List Str} {tag : α → Str}
theorem flatMap_le {γ δ : Type} {f : γ → List δ} {b : Nat} : ∀ {l : List γ}, (∀ x ∈ l, (f x).length ≤ b) → (l.flatMap f).length ≤ l.length * b
  | [], _ => by simp
  | x :: l, h => by
    rw [List.flatMap_cons, List.length_append, List.length_cons, Nat.add_mul, Nat.one_mul]
    have h1 := h x List.mem_cons_self
    have h2 := flatMap_le (l := l) fun y hy => h y (List.mem_cons_of_mem _ hy)
    omega
theorem two_pow_add (a b : Nat) : 2 ^ a + 2 ^ b ≤ 2 ^ (1 + a + b) := by
  have h1 : 1 ≤ 2 ^ a := Nat.one_le_two_pow
  have h2 : 1 ≤ 2 ^ b := Nat.one_le_two_pow
  have e : 2 ^ (1 + a + b) = 2 * (2 ^ a * 2 ^ b) := by rw [Nat.pow_add, Nat.pow_add]; simp [Nat.mul_assoc]
  rw [e]
  have h3 : 2 ^ a * 1 ≤ 2 ^ a * 2 ^ b := Nat.mul_le_mul_left _ h2
  have h4 : 1 * 2 ^ b ≤ 2 ^ a * 2 ^ b := Nat.mul_le_mul_right _ h1
  omega
mutual
theorem ext_len : ∀ (r : Rw α β) (w : List (Rw α β)), (extW ends tag r w).length ≤ 2 ^ nIf r
  | .row a, w => by unfold extW nIf; simp
  | .iff l ps rows others, w => by
    unfold extW nIf
    rw [List.length_append, List.length_map, List.length_map]
    have h1 := ways_len rows [([], false)]
    have h2 := ways_len others [([], false)]
    simp only [List.length_singleton, Nat.one_mul] at h1 h2
    have := two_pow_add (nIfs rows) (nIfs others)
    omega
theorem ways_len : ∀ (rs : List (Rw α β)) (found : Ways α β), (waysW ends tag rs found).length ≤ found.length * 2 ^ nIfs rs
  | [], found => by unfold waysW nIfs; simp
  | r :: rs, found => by
    unfold waysW nIfs
    refine Nat.le_trans (ways_len rs _) ?_
    rw [Nat.pow_add, ← Nat.mul_assoc]
    refine Nat.mul_le_mul_right _ (flatMap_le fun p _ => ?_)
    split
    · have : 1 ≤ 2 ^ nIf r := Nat.one_le_two_pow
      simpa using this
    · exact ext_len r p.1
end
def longest (n : Nat) (ws : Ways α β) : Prop := ∀ p ∈ ws, p.1.length ≤ n
mutual
theorem ext_long : ∀ (r : Rw α β) (w : List (Rw α β)), longest (w.length + szR r) (extW ends tag r w)
  | .row a, w => by
    unfold extW szR longest
    intro p hp
    rw [List.mem_singleton.mp hp]; simp
  | .iff l ps rows others, w => by
    unfold extW szR longest
    intro p hp
    have h1 := ways_long rows [([], false)] 0 (by intro p hp; rw [List.mem_singleton.mp hp]; simp)
    have h2 := ways_long others [([], false)] 0 (by intro p hp; rw [List.mem_singleton.mp hp]; simp)
    rcases List.mem_append.mp hp with hp | hp
    · obtain ⟨m, hm, rfl⟩ := List.mem_map.mp hp
      have := h1 m hm
      simp; omega
    · obtain ⟨m, hm, rfl⟩ := List.mem_map.mp hp
      have := h2 m hm
      simp; omega
theorem ways_long : ∀ (rs : List (Rw α β)) (found : Ways α β) (n : Nat), longest n found → longest (n + szRs rs) (waysW ends tag rs found)
  | [], found, n, h => by unfold waysW szRs; exact h
  | r :: rs, found, n, h => by
    unfold waysW szRs
    have := ways_long rs (found.flatMap fun p => if p.2 = true then [(p.1, true)] else extW ends tag r p.1) (n + szR r) (by
      intro p hp
      obtain ⟨q, hq, hp⟩ := List.mem_flatMap.mp hp
      have hl := h q hq
      split at hp
      · rw [List.mem_singleton.mp hp]; show q.1.length ≤ _; omega
      · have := ext_long r q.1 p hp
        omega)
    rw [Nat.add_assoc] at this; exact this
end
end
end Tb

set_option Elab.async false
set_option linter.all false
set_option maxRecDepth 100000
set_option maxHeartbeats 3999000
namespace Tb
open PySem PySem.Spec PyProof.Rows L2
open PySem.W (Frag)
open StX (pa_star tStar)
open C8 (pss_cut tCut)
section
variable {α β : Type} (R : Hp → V → α → Prop) (RP : Hp → V → β → Prop)
/-- a way, its list none of xs -/
def WayAt (H : Hp) (xs : List Addr) (p : List (Rw α β) × Bool) (v : V) : Prop := ∃ q l rvs, v = .ref q ∧ H q = some (.tup [.ref l, .bl p.2]) ∧ H l = some (.lst rvs) ∧ l ∉ xs ∧ RwsAt R RP H p.1 rvs
def WaysAt (H : Hp) (xs : List Addr) : Ways α β → List V → Prop
  | [], vs => vs = []
  | p :: ps, vs => ∃ v ws, vs = v :: ws ∧ WayAt R RP H xs p v ∧ WaysAt H xs ps ws
/-- lists but those of xs stay -/
def LX (xs xs' : List Addr) (H H' : Hp) : Prop := TupX H H' ∧ ∀ l ys, H l = some (.lst ys) → l ∉ xs → H' l = some (.lst ys) ∧ l ∉ xs'
end
section
variable {α β : Type} {R : Hp → V → α → Prop} {RP : Hp → V → β → Prop}
theorem LX.new {xs : List Addr} {H : Hp} {p : Addr} {o : HO} (hp : H p = none) : LX xs xs H (upd H p o) := ⟨TupX.refl.new hp, fun l ys h n => ⟨by rw [upd_ne (ne_of_none h hp)]; exact h, n⟩⟩
theorem LX.put {xs : List Addr} {H : Hp} {p : Addr} {ys : List V} {o : HO} (hp : H p = some (.lst ys)) (hm : p ∈ xs) : LX xs xs H (upd H p o) := ⟨TupX.lst hp, fun l zs h n => ⟨by rw [upd_ne (fun z => n (by rw [z]; exact hm))]; exact h, n⟩⟩
theorem LX.same {xs : List Addr} {H H' : Hp} (s : Same H H') : LX xs xs H H' := ⟨TupX.of s, fun l ys h n => ⟨s _ _ h, n⟩⟩
theorem LX.add {xs : List Addr} {H : Hp} {p : Addr} (hp : H p = none) : LX xs (p :: xs) H H := ⟨TupX.refl, fun l ys h n => ⟨h, by
  intro z
  rcases List.mem_cons.mp z with z | z
  · rw [z, hp] at h; cases h
  · exact n z⟩⟩
theorem LX.less {xs xs' : List Addr} {H : Hp} (h : ∀ a ∈ xs', a ∈ xs) : LX xs xs' H H := ⟨TupX.refl, fun l ys e n => ⟨e, fun z => n (h l z)⟩⟩
theorem LX.trans {xs ys zs : List Addr} {H H1 H2 : Hp} (a : LX xs ys H H1) (b : LX ys zs H1 H2) : LX xs zs H H2 := ⟨a.1.trans b.1, fun l us h n => by
  obtain ⟨h1, n1⟩ := a.2 l us h n
  exact b.2 l us h1 n1⟩
theorem WayAt.go (hR : Stab R) (hP : Stab RP) {H H' : Hp} {xs xs' : List Addr} {p : List (Rw α β) × Bool} {v : V} (x : LX xs xs' H H') (h : WayAt R RP H xs p v) : WayAt R RP H' xs' p v := by
  obtain ⟨q, l, rvs, e, h1, h2, h3, h4⟩ := h
  obtain ⟨h5, h6⟩ := x.2 l rvs h2 h3
  exact ⟨q, l, rvs, e, x.1 _ _ h1, h5, h6, RwsAt.stab hR hP x.1 _ h4⟩
theorem WaysAt.go (hR : Stab R) (hP : Stab RP) {H H' : Hp} {xs xs' : List Addr} (x : LX xs xs' H H') : ∀ {ps : Ways α β} {vs : List V}, WaysAt R RP H xs ps vs → WaysAt R RP H' xs' ps vs
  | [], _, h => h
  | p :: ps, _, ⟨v, ws, e, h1, h2⟩ => ⟨v, ws, e, h1.go hR hP x, WaysAt.go hR hP x h2⟩
theorem WaysAt.append {H : Hp} {xs : List Addr} {qs : Ways α β} {us : List V} (hq : WaysAt R RP H xs qs us) : ∀ {ps : Ways α β} {vs : List V}, WaysAt R RP H xs ps vs → WaysAt R RP H xs (ps ++ qs) (vs ++ us)
  | [], _, h => by have h : _ = [] := h; subst h; exact hq
  | p :: ps, _, ⟨v, ws, e, h1, h2⟩ => by subst e; exact ⟨v, _, rfl, h1, WaysAt.append hq h2⟩
theorem WaysAt.one {H : Hp} {xs : List Addr} {p : List (Rw α β) × Bool} {v : V} (h : WayAt R RP H xs p v) : WaysAt R RP H xs [p] [v] := ⟨v, [], rfl, h, rfl⟩
theorem WaysAt.length {H : Hp} {xs : List Addr} : ∀ {ps : Ways α β} {vs : List V}, WaysAt R RP H xs ps vs → vs.length = ps.length
  | [], _, h => by have h : _ = [] := h; rw [h]; rfl
  | p :: ps, _, ⟨v, ws, e, h1, h2⟩ => by rw [e, List.length_cons, List.length_cons, WaysAt.length h2]
theorem WaysAt.get {H : Hp} {xs : List Addr} : ∀ {ps : Ways α β} {vs : List V} {i : Nat} {v : V}, WaysAt R RP H xs ps vs → vs[i]? = some v → ∃ p, ps[i]? = some p ∧ WayAt R RP H xs p v
  | [], _, _, _, h, e => by have h : _ = [] := h; rw [h] at e; cases e
  | p :: ps, _, 0, v, ⟨u, ws, e, h1, h2⟩, e2 => by subst e; cases e2; exact ⟨p, rfl, h1⟩
  | p :: ps, _, i + 1, v, ⟨u, ws, e, h1, h2⟩, e2 => by subst e; exact WaysAt.get (i := i) h2 e2
theorem RwsAt.get {H : Hp} : ∀ {ps : List (Rw α β)} {vs : List V} {i : Nat} {v : V}, RwsAt R RP H ps vs → vs[i]? = some v → ∃ p, ps[i]? = some p ∧ RwAt R RP H p v
  | [], _, _, _, h, e => by unfold RwsAt at h; rw [h] at e; cases e
  | p :: ps, _, i, v, h, e2 => by
    unfold RwsAt at h
    obtain ⟨u, ws, e, h1, h2⟩ := h
    subst e
    cases i with
    | zero => cases e2; exact ⟨p, rfl, h1⟩
    | succ i => exact RwsAt.get (i := i) h2 e2
theorem RwsAt.length {H : Hp} : ∀ {ps : List (Rw α β)} {vs : List V}, RwsAt R RP H ps vs → vs.length = ps.length
  | [], _, h => by unfold RwsAt at h; rw [h]; rfl
  | p :: ps, _, h => by
    unfold RwsAt at h
    obtain ⟨u, ws, e, h1, h2⟩ := h
    rw [e, List.length_cons, List.length_cons, RwsAt.length h2]
theorem RwsAt.append {H : Hp} {qs : List (Rw α β)} {us : List V} (hq : RwsAt R RP H qs us) : ∀ {ps : List (Rw α β)} {vs : List V}, RwsAt R RP H ps vs → RwsAt R RP H (ps ++ qs) (vs ++ us)
  | [], _, h => by unfold RwsAt at h; subst h; exact hq
  | p :: ps, _, h => by
    unfold RwsAt at h
    obtain ⟨u, ws, e, h1, h2⟩ := h
    subst e
    show RwsAt R RP H (p :: (ps ++ qs)) (u :: (ws ++ us))
    unfold RwsAt
    exact ⟨u, _, rfl, h1, RwsAt.append hq h2⟩
variable {ends : List Str} {tag : α → Str}
theorem ways_snoc : ∀ (rs : List (Rw α β)) (r : Rw α β) (f : Ways α β), waysW ends tag (rs ++ [r]) f = stepW ends tag r (waysW ends tag rs f)
  | [], r, f => by show waysW ends tag [r] f = _; unfold waysW waysW stepW; rfl
  | q :: rs, r, f => by
    show waysW ends tag (q :: (rs ++ [r])) f = stepW ends tag r (waysW ends tag (q :: rs) f)
    unfold waysW
    exact ways_snoc rs r _
theorem step_snoc (r : Rw α β) (f : Ways α β) (p : List (Rw α β) × Bool) : stepW ends tag r (f ++ [p]) = stepW ends tag r f ++ (if p.2 = true then [(p.1, true)] else extW ends tag r p.1) := by
  unfold stepW; rw [List.flatMap_append]; simp
theorem nIfs_take : ∀ (rs : List (Rw α β)) (i : Nat) (r : Rw α β), rs[i]? = some r → nIfs (rs.take i) + nIf r ≤ nIfs rs
  | [], _, _, h => by cases h
  | q :: rs, 0, r, h => by cases h; simp [nIfs]
  | q :: rs, i + 1, r, h => by
    have := nIfs_take rs i r h
    simp only [List.take_succ_cons, nIfs]; omega
theorem szRs_take : ∀ (rs : List (Rw α β)) (i : Nat) (r : Rw α β), rs[i]? = some r → szRs (rs.take i) + szR r ≤ szRs rs
  | [], _, _, h => by cases h
  | q :: rs, 0, r, h => by cases h; simp [szRs]
  | q :: rs, i + 1, r, h => by
    have := szRs_take rs i r h
    simp only [List.take_succ_cons, szRs]; omega
theorem dpRs_get : ∀ (rs : List (Rw α β)) (i : Nat) (r : Rw α β), rs[i]? = some r → dpR r ≤ dpRs rs
  | [], _, _, h => by cases h
  | q :: rs, 0, r, h => by cases h; unfold dpRs; omega
  | q :: rs, i + 1, r, h => by have := dpRs_get rs i r h; unfold dpRs; omega
theorem step_len (r : Rw α β) (f : Ways α β) : (stepW ends tag r f).length ≤ f.length * 2 ^ nIf r := by
  refine flatMap_le fun p _ => ?_
  split
  · have : 1 ≤ 2 ^ nIf r := Nat.one_le_two_pow
    simpa using this
  · exact ext_len r p.1
end
section
variable {α β : Type} {R : Hp → V → α → Prop} {RP : Hp → V → β → Prop}
/-- the later ways, S, at la, made of those found at fa -/
def LaterAt (R : Hp → V → α → Prop) (RP : Hp → V → β → Prop) (old : List Addr) (H : Hp) (fa la : Addr) (r : Rw α β) (rv : V) (FW : Ways α β) (fvs : List V) (S : Ways α β) (H' : Hp) (lvs : List V) : Prop :=
  Same H H' ∧ H' fa = some (.lst fvs) ∧ WaysAt R RP H' (la :: fa :: old) FW fvs ∧ H' la = some (.lst lvs) ∧ WaysAt R RP H' (la :: old) S lvs ∧ RwAt R RP H' r rv
theorem LaterAt.on (hR : Stab R) (hP : Stab RP) {old : List Addr} {H H1 H2 : Hp} {fa la : Addr} {r : Rw α β} {rv : V} {FW S : Ways α β} {fvs lvs : List V} (x : LaterAt R RP old H fa la r rv FW fvs S H1 lvs) (s : Same H1 H2) : LaterAt R RP old H fa la r rv FW fvs S H2 lvs :=
  ⟨x.1.trans s, s _ _ x.2.1, x.2.2.1.go hR hP (LX.same s), s _ _ x.2.2.2.1, x.2.2.2.2.1.go hR hP (LX.same s), RwAt.stab hR hP (TupX.of s) r x.2.2.2.2.2⟩
theorem LaterAt.more (hR : Stab R) (hP : Stab RP) {old : List Addr} {H H1 : Hp} {fa la : Addr} {r : Rw α β} {rv : V} {FW S S2 : Ways α β} {fvs lvs us : List V} (x : LaterAt R RP old H fa la r rv FW fvs S H1 lvs) (hn : H la = none) (hf : fa ≠ la) (h : WaysAt R RP H1 (la :: old) S2 us) : LaterAt R RP old H fa la r rv FW fvs (S ++ S2) (upd H1 la (.lst (lvs ++ us))) (lvs ++ us) := by
  have lx : LX (la :: old) (la :: old) H1 (upd H1 la (.lst (lvs ++ us))) := LX.put x.2.2.2.1 (by simp)
  have lx2 : LX (la :: fa :: old) (la :: fa :: old) H1 (upd H1 la (.lst (lvs ++ us))) := LX.put x.2.2.2.1 (by simp)
  exact ⟨same_put x.1 hn, by rw [upd_ne hf]; exact x.2.1, x.2.2.1.go hR hP lx2, upd_same, (WaysAt.append h x.2.2.2.2.1).go hR hP lx, RwAt.stab hR hP lx.1 r x.2.2.2.2.2⟩
end
section
variable {α β : Type} (K : Frag) (R : Hp → V → α → Prop) (RP : Hp → V → β → Prop) (tag : α → Str)
def spWays (d : Nat) : Sp := fun vs H Q _ => ∃ (ra ea : Addr) (rvs : List V) (rows : List (Rw α β)) (ends : List Str) (old : List Addr), vs = [.ref ra, .ref ea] ∧ (∀ a ∈ old, H a ≠ none) ∧ H ra = some (.tup rvs) ∧ RwsAt R RP H rows rvs ∧ SqT K H ea (ends.map V.str) ∧ dpRs rows ≤ d ∧ nIfs rows ≤ 20 ∧ szRs rows ≤ 1000 ∧
  ∀ H' p ws, Same H H' → H' p = some (.lst ws) → WaysAt R RP H' (p :: old) (waysW ends tag rows [([], false)]) ws → Q (.ref p) H'
def spWays' : Nat → Sp
  | 0 => fun _ _ _ _ => False
  | d + 1 => spWays K R RP tag d
end
section
variable {α β : Type} {R : Hp → V → α → Prop} {RP : Hp → V → β → Prop} {tag : α → Str}
variable {P : Program} {w : World} {K : Frag} {mg : Str → Option Value} {base : Heap}
theorem million : (2 : Nat) ^ 20 + 2000 < sizeLine := by decide
theorem ok_all_ways {f : Addr} {fd : FuncData} {k d : Nat} (F : Fun K "all_ways" "all_ways" s_all_ways f fd) (hR : Stab R) (hP : Stab RP) (hT : ∀ H v a, R H v a → ∃ p xs, v = .ref p ∧ H p = some (.tup (.str (tag a) :: xs))) (hI : ∀ a, tag a ≠ "if")
    (hall_ways : HasF P w K mg base "all_ways" k (spWays' (β := β) K R RP tag d)) : FnOk P w K mg base CX0 (k + 1) f fd ["rows", "ends"] (spWays (β := β) K R RP tag d) := by
  refine F.ok sc_all_ways (fun vs H Q E h => ?_) (fun cdv A outer s H vs Q E hr h => ?_)
  · obtain ⟨ra, ea, rvs, rows, ends, old, rfl, _⟩ := h; rfl
  · obtain ⟨ra, ea, rvs, rows, ends, old, rfl, hold, hra, hrows, hends, hd, hn, hz, kk⟩ := h
    refine ⟨_, (pss_cons (ps_set (i := 2) sc_all_ways.nd rfl (by first | exact Or.inl rfl | exact Or.inr rfl) (pe_lst (pa_cons (pe_tup (pa_cons (pe_lst pa_nil) (pa_cons pe_bl pa_nil))) pa_nil)))
      (pss_cons (ps_for PassesOwn.never rfl (pi_tup (pv 0)) (pg_name (i := 3) sc_all_ways.nd rfl (by first | exact Or.inl rfl | exact Or.inr rfl))
        (pss_cons (ps_set (i := 4) sc_all_ways.nd rfl (by first | exact Or.inl rfl | exact Or.inr rfl) (pe_lst pa_nil))
        (pss_cons (ps_for PassesOwn.never rfl (pi_list (pv 2)) (pg_tup rfl (pgs_cons (pg_name (i := 5) sc_all_ways.nd rfl (by first | exact Or.inl rfl | exact Or.inr rfl)) (pgs_cons (pg_name (i := 6) sc_all_ways.nd rfl (by first | exact Or.inl rfl | exact Or.inr rfl)) pgs_nil)))
          (pss_one (ps_if (pt_val (pv 6))
            (pss_one (ps_expr (pe_bm PySem.F.plainAttrs_list PySem.F.slot_list_append PySem.F.type_list_append mt_append (pv 4) (pa_cons (pe_tup (pa_cons (pv 5) (pa_cons pe_bl pa_nil))) pa_nil))))
            (pss_one (ps_if (pt_cmpR op_eq (pe_ix ix_tup (pv 3) pe_int (fun _ _ => rfl)) pe_str (nomark _))
              (pss_one (ps_for PassesOwn.never rfl (pi_tup (pe_tup (pa_cons (pe_ix ix_tup (pv 3) pe_int (fun _ _ => rfl)) (pa_cons (pe_ix ix_tup (pv 3) pe_int (fun _ _ => rfl)) pa_nil)))) (pg_name (i := 7) sc_all_ways.nd rfl (by first | exact Or.inl rfl | exact Or.inr rfl))
                (pss_one (ps_expr (pe_bm PySem.F.plainAttrs_list PySem.F.slot_list_extend PySem.F.type_list_extend mt_extend (pv 4) (pa_cons (pe_lc (own := [("more", 8), ("ended", 9)]) (tt := tYes) rfl sc_all_ways.nd (pi_list (pe_fn hall_ways (hr.mono (by first | decide | omega)) rfl (pa_cons (pv 7) (pa_cons (pv 1) pa_nil)))) (blkOk_by (own := [("more", 8), ("ended", 9)]) (N := nm_all_ways) (sc := defScope s_all_ways) (by decide +kernel)) (fun _ _ _ _ _ => (pg_tupK (n := 2) (K := K) (by rfl) rfl (pgs_cons (pg_name (i := 8) sc_all_ways.nd rfl (by first | exact Or.inl rfl | exact Or.inr rfl)) (pgs_cons (pg_name (i := 9) sc_all_ways.nd rfl (by first | exact Or.inl rfl | exact Or.inr rfl)) pgs_nil)))) (fun _ _ _ _ _ => pts_nil) (fun _ _ _ _ _ => (pe_tup (pa_cons (pe_lst (pa_starK (K := K) (by rfl) (pv 5) (pa_cons (pv 3) (pa_starK (K := K) (by rfl) (pv 8) pa_nil)))) (pa_cons (pv 9) pa_nil))))) pa_nil))))))
              (pss_one (ps_expr (pe_bm PySem.F.plainAttrs_list PySem.F.slot_list_append PySem.F.type_list_append mt_append (pv 4) (pa_cons (pe_tup (pa_cons (pe_lst (pa_star (pv 5) (pa_cons (pv 3) pa_nil))) (pa_cons (pe_cmpR op_in_seq (pe_ix ix_tup (pv 3) pe_int (fun _ _ => rfl)) (pv 1) (by first | rfl | exact nomark _)) pa_nil))) pa_nil)))))))))
        (pss_one (ps_set (i := 2) sc_all_ways.nd rfl (by first | exact Or.inl rfl | exact Or.inr rfl) (pv 4))))))
      (pss_one (ps_ret (pv 2))))), ?_⟩
    refine ⟨(by show 0 ≤ sizeLine; decide), fun l0 hl0 => ⟨(by show 2 ≤ sizeLine; decide), fun q0 hq0 => ⟨(by show 1 ≤ sizeLine; decide), fun fa hfa => ?_⟩⟩⟩
    have s1 : Same H (upd (upd (upd H l0 (.lst [])) q0 (.tup [.ref l0, .bl false])) fa (.lst [.ref q0])) := same_new (same_new (same_new (Same.refl H) hl0) hq0) hfa
    have w1 : WaysAt R RP (upd (upd (upd H l0 (.lst [])) q0 (.tup [.ref l0, .bl false])) fa (.lst [.ref q0])) (fa :: old) ([([], false)] : Ways α β) [.ref q0] := by
      have e0 : (upd (upd H l0 (.lst [])) q0 (.tup [.ref l0, .bl false])) l0 = some (.lst []) := by rw [upd_ne (ne_of_none upd_same hq0)]; exact upd_same
      refine WaysAt.one ⟨q0, l0, [], rfl, ?_, ?_, ?_, by unfold RwsAt; rfl⟩
      · rw [upd_ne (ne_of_none upd_same hfa)]; exact upd_same
      · rw [upd_ne (ne_of_none e0 hfa)]; exact e0
      · intro z
        rcases List.mem_cons.mp z with z | z
        · exact absurd z (ne_of_none e0 hfa)
        · exact hold _ z hl0
    have f1 : upd (upd (upd H l0 (.lst [])) q0 (.tup [.ref l0, .bl false])) fa (.lst [.ref q0]) fa = some (.lst [.ref q0]) := upd_same
    dsimp only [gName]
    generalize upd (upd (upd H l0 (.lst [])) q0 (.tup [.ref l0, .bl false])) fa (.lst [.ref q0]) = H1 at *
    clear hfa hq0 hl0
    have nold : ∀ {c : Addr} (H' : Hp), Same H H' → H' c = none → c ∉ old := fun {c} H' s hc z => by
      cases e : H c with
      | none => exact hold _ z e
      | some u => rw [s _ _ e] at hc; cases hc
    refine ⟨_, rfl, ra, rfl, ⟨_, .inl (.inl (s1 _ _ hra))⟩, ?_⟩
    refine for_tup (xs := rvs) (fun i σ H' => ∃ (fa : Addr) (fvs : List V) (v3 v4 v5 v6 v7 v8 v9 : Option V), σ = [some (.ref ra), some (.ref ea), some (.ref fa), v3, v4, v5, v6, v7, v8, v9] ∧ Same H H' ∧ H' fa = some (.lst fvs) ∧ WaysAt R RP H' (fa :: old) (waysW ends tag (rows.take i) [([], false)]) fvs)
      ⟨fa, _, none, none, none, none, none, none, none, rfl, s1, f1, by rw [List.take_zero]; unfold waysW; exact w1⟩ (fun i σ H' _ ⟨fa, fvs, _, _, _, _, _, _, _, _, s, _⟩ => .inl (.inl (s _ _ hra))) ?_ ?_
    · rintro i rv σ H2 hrv ⟨fa, fvs, v3, v4, v5, v6, v7, v8, v9, rfl, s2, hf2, hw2⟩
      obtain ⟨r, hri, hr0⟩ := hrows.get hrv
      have hr2 := RwAt.stab hR hP (TupX.of s2) r hr0
      refine ⟨(by show 0 ≤ sizeLine; decide), fun la hla => ?_⟩
      have hw3 := hw2.go hR hP ((LX.add hla).trans (LX.new (o := .lst []) hla))
      have hf3 : upd H2 la (.lst []) fa = some (.lst fvs) := by rw [upd_ne (ne_of_none hf2 hla)]; exact hf2
      have s3 := same_new (o := .lst []) s2 hla
      have hl3 : upd H2 la (.lst []) la = some (.lst []) := upd_same
      have hr3 := RwAt.stab hR hP (TupX.refl.new (o := .lst []) hla) r hr2
      have nla : H la = none := by
        cases z : H la with
        | none => rfl
        | some u => rw [s2 _ _ z] at hla; cases hla
      have nfl : fa ≠ la := ne_of_none hf2 hla
      dsimp only [gName]
      generalize upd H2 la (.lst []) = H3 at *
      clear hw2 hf2 s2 hla hr2
      obtain ⟨FW, eFW⟩ : ∃ FW, FW = waysW ends tag (rows.take i) [([], false)] := ⟨_, rfl⟩
      rw [← eFW] at hw3
      have lFW : FW.length * 2 ^ nIf r ≤ 2 ^ 20 := by
        have h1 := ways_len (ends := ends) (tag := tag) (rows.take i) [([], false)]
        rw [← eFW] at h1
        simp only [List.length_singleton, Nat.one_mul] at h1
        have h2 := nIfs_take rows i r hri
        calc FW.length * 2 ^ nIf r ≤ 2 ^ nIfs (rows.take i) * 2 ^ nIf r := Nat.mul_le_mul_right _ h1
          _ = 2 ^ (nIfs (rows.take i) + nIf r) := by rw [Nat.pow_add]
          _ ≤ 2 ^ 20 := Nat.pow_le_pow_right (by decide) (by omega)
      have longFW : longest 1000 FW := by
        have h1 := ways_long (ends := ends) (tag := tag) (rows.take i) [([], false)] 0 (by intro p hp; rw [List.mem_singleton.mp hp]; simp)
        rw [← eFW] at h1
        intro p hp
        have := h1 p hp
        have := szRs_take rows i r hri
        omega
      refine ⟨_, rfl, fa, rfl, ⟨_, .inl (.inl hf3)⟩, ?_⟩
      refine for_list (xs := fvs) (fun j σ H' => ∃ (lvs : List V) (v5 v6 v7 v8 v9 : Option V), σ = [some (.ref ra), some (.ref ea), some (.ref fa), some rv, some (.ref la), v5, v6, v7, v8, v9] ∧ LaterAt R RP old H fa la r rv FW fvs (stepW ends tag r (FW.take j)) H' lvs)
        ⟨[], _, _, _, _, _, rfl, s3, hf3, hw3, hl3, (by rw [List.take_zero]; rfl), hr3⟩ (fun j σ H' _ ⟨lvs, _, _, _, _, _, _, _, h, _⟩ => .inl (.inl h)) ?_ ?_
      · rintro j x σ H4 hx ⟨lvs, v5, v6, v7, v8, v9, rfl, L4⟩
        obtain ⟨p, hpj, q, l, wvs, rfl, hq4, hll4, hnl, hwv4⟩ := L4.2.2.1.get hx
        have nlla : l ≠ la := fun z => hnl (by rw [z]; exact List.mem_cons_self)
        have hpm : p ∈ FW := List.mem_of_getElem? hpj
        have ljn : lvs.length + 2 ^ nIf r ≤ 2 ^ 20 := by
          have h1 := step_len (ends := ends) (tag := tag) r (FW.take j)
          rw [← L4.2.2.2.2.1.length] at h1
          have h2 := (List.getElem?_eq_some_iff.mp hpj).1
          have h3 : ((FW.take j).length + 1) * 2 ^ nIf r ≤ FW.length * 2 ^ nIf r := Nat.mul_le_mul_right _ (by rw [List.length_take]; omega)
          rw [Nat.add_mul, Nat.one_mul] at h3
          omega
        have hwl : wvs.length ≤ 1000 := by rw [hwv4.length]; exact longFW p hpm
        have takej : FW.take (j + 1) = FW.take j ++ [p] := by rw [List.take_add_one, hpj]; rfl
        refine ⟨q, _, rfl, .inl (.inl hq4), rfl, _, _, rfl, _, _, rfl, rfl, ?_⟩
        dsimp only [gName]
        refine ⟨_, rfl, p.2, rfl, ?_⟩
        have lt1 : lvs.length < sizeLine := by
          have h1 := million
          have h2 : 1 ≤ 2 ^ nIf r := Nat.one_le_two_pow
          omega
        have hl4 := L4.2.2.2.1
        cases hp2 : p.2 with
        | true =>
          refine iteT ⟨_, rfl, .inl ⟨rfl, _, .inl (.inl hl4)⟩, _, rfl, (by show 2 ≤ sizeLine; decide), fun q2 hq2 => ?_⟩
          have s5 := same_new (o := .tup [.ref l, .bl true]) (Same.refl H4) hq2
          have L5 := L4.on hR hP s5
          refine ⟨la, lvs, _, rfl, rfl, L5.2.2.2.1, lt1, lvs ++ [.ref q2], _, _, _, _, _, rfl, ?_⟩
          have := L5.more hR hP nla nfl (WaysAt.one (p := (p.1, true)) ⟨q2, l, wvs, rfl, upd_same, s5 _ _ hll4, (fun z => hnl (by rcases List.mem_cons.mp z with z | z; exact absurd z nlla; exact List.mem_cons_of_mem _ (List.mem_cons_of_mem _ z))), RwsAt.stab hR hP (TupX.of s5) _ hwv4⟩)
          rw [show stepW ends tag r (FW.take (j + 1)) = stepW ends tag r (FW.take j) ++ [(p.1, true)] from by rw [takej, step_snoc, hp2]; rfl]
          exact this
        | false =>
          have estep : stepW ends tag r (FW.take (j + 1)) = stepW ends tag r (FW.take j) ++ extW ends tag r p.1 := by rw [takej, step_snoc, hp2]; rfl
          refine iteF ?_
          cases r with
          | row a =>
            have hra4 : R H4 rv a := by have := L4.2.2.2.2.2; unfold RwAt at this; exact this
            obtain ⟨pr, xs, rfl, hpr⟩ := hT _ _ _ hra4
            refine ⟨_, rfl, pr, _, _, _, rfl, rfl, .inl (.inl hpr), atI_nat (j := 0) rfl, rfl, _, rfl, ?_⟩
            rw [decide_eq_false (fun z => hI a (V.str.inj z))]
            refine iteF ⟨_, rfl, .inl ⟨rfl, _, .inl (.inl hl4)⟩, _, rfl, l, wvs, rfl, .inr (.inl (.inl hll4)), _, rfl, (by have := million; simp; omega), fun nl hnl2 => ?_⟩
            have s5 := same_new (o := .lst (wvs ++ [V.ref pr])) (Same.refl H4) hnl2
            refine ⟨_, rfl, pr, _, _, _, rfl, rfl, .inl (.inl (s5 _ _ hpr)), atI_nat (j := 0) rfl, _, rfl, ea, _, rfl, .inr (sqT_same (L4.1.trans s5) hends), rfl, flat_strs ends, (by show 2 ≤ sizeLine; decide), fun q2 hq2 => ?_⟩
            have s6 := same_new (o := .tup [.ref nl, .bl (inV (.str (tag a)) (ends.map V.str))]) s5 hq2
            have L6 := L4.on hR hP s6
            have hn6 : upd (upd H4 nl (.lst (wvs ++ [V.ref pr]))) q2 (.tup [.ref nl, .bl (inV (.str (tag a)) (ends.map V.str))]) nl = some (.lst (wvs ++ [V.ref pr])) := by rw [upd_ne (ne_of_none upd_same hq2)]; exact upd_same
            refine ⟨la, lvs, _, rfl, rfl, L6.2.2.2.1, lt1, lvs ++ [.ref q2], _, _, _, _, _, rfl, ?_⟩
            have := L6.more hR hP nla nfl (WaysAt.one (p := (p.1 ++ [.row a], inV (.str (tag a)) (ends.map V.str))) ⟨q2, nl, wvs ++ [V.ref pr], rfl, upd_same, hn6, (by rw [List.mem_cons, not_or]; exact ⟨(ne_of_none hl4 hnl2).symm, nold _ (L4.1) hnl2⟩), (RwsAt.stab hR hP (TupX.of s6) _ hwv4).snoc (by unfold RwAt; exact hR _ _ _ _ (TupX.of s6) hra4)⟩)
            rw [estep]
            unfold extW
            rw [← inV_str]
            exact this
          | iff line ps rws oths =>
            have hrw4 := L4.2.2.2.2.2
            unfold RwAt at hrw4
            obtain ⟨pr, pp, prr, po, psv, rvv, ovv, rfl, hpr4, hpp4, hps4, hprr4, hrws4, hpo4, hoths4⟩ := hrw4
            have hdp := dpRs_get rows i _ hri
            have hsz := szRs_take rows i _ hri
            have hni := nIfs_take rows i _ hri
            unfold dpR at hdp
            unfold szR at hsz
            unfold nIf at hni
            obtain ⟨d', rfl⟩ : ∃ d', d = d' + 1 := ⟨d - 1, by omega⟩
            have ix : ∀ {H5 : Hp} {jx : Nat} {v : V} {Q' : VK} {σ : L2.St}, H5 pr = some (.tup [.str "if", .int line, .ref pp, .ref prr, .ref po]) → σ[3]? = some (some (.ref pr)) → ([V.str "if", .int line, .ref pp, .ref prr, .ref po])[jx]? = some v → Q' v H5 → tOp (rIxT K) (tVar 3) (tC (V.int jx)) σ H5 Q' := fun {H5 jx v Q' σ} h5 h3 hj q => ⟨_, h3, pr, _, _, _, rfl, rfl, .inl (.inl h5), atI_nat (j := jx) hj, q⟩
            refine ix (jx := 0) hpr4 rfl rfl ⟨rfl, _, rfl, ?_⟩
            rw [decide_eq_true rfl]
            refine iteT (ix (jx := 3) hpr4 rfl rfl (ix (jx := 4) hpr4 rfl rfl ⟨(by show 2 ≤ sizeLine; decide), fun bt hbt => ⟨bt, rfl, ⟨_, .inl (.inl upd_same)⟩, ?_⟩⟩))
            have s5 := same_new (o := .tup [.ref prr, .ref po]) (Same.refl H4) hbt
            have hbt5 : upd H4 bt (.tup [.ref prr, .ref po]) bt = some (.tup [.ref prr, .ref po]) := upd_same
            have L5 := L4.on hR hP s5
            generalize upd H4 bt (.tup [.ref prr, .ref po]) = H5 at *
            obtain ⟨gm, egm⟩ : ∃ gm : List (Rw α β) × Bool → List (Rw α β) × Bool, gm = fun m => (p.1 ++ Rw.iff line ps rws oths :: m.1, m.2) := ⟨_, rfl⟩
            have eext : extW ends tag (.iff line ps rws oths) p.1 = (waysW ends tag rws [([], false)]).map gm ++ (waysW ends tag oths [([], false)]).map gm := by rw [egm]; conv => lhs; unfold extW
            have hlen : ((waysW ends tag rws [([], false)]).map gm).length + ((waysW ends tag oths [([], false)]).map gm).length ≤ 2 ^ nIf (.iff line ps rws oths : Rw α β) := by
              have := ext_len (ends := ends) (tag := tag) (.iff line ps rws oths : Rw α β) p.1
              rw [eext, List.length_append] at this; exact this
            refine for_tup (xs := [.ref prr, .ref po]) (fun b σ H' => ∃ (lv : List V) (v7 v8 v9 : Option V), σ = [some (.ref ra), some (.ref ea), some (.ref fa), some (.ref pr), some (.ref la), some (.ref l), some (.bl false), v7, v8, v9] ∧ But la H5 H' ∧ LaterAt R RP old H fa la (.iff line ps rws oths) (.ref pr) FW fvs (stepW ends tag (.iff line ps rws oths) (FW.take j) ++ (if b = 0 then [] else if b = 1 then (waysW ends tag rws [([], false)]).map gm else (waysW ends tag rws [([], false)]).map gm ++ (waysW ends tag oths [([], false)]).map gm)) H' lv)
              ⟨lvs, _, _, _, rfl, But.refl, by rw [if_pos rfl, List.append_nil]; exact L5⟩ (fun b σ H' _ ⟨lv, _, _, _, _, bb, LL⟩ => .inl (.inl (bb _ _ hbt5 fun z => by
                have := L5.2.2.2.1
                rw [← z, hbt5] at this; cases this))) ?_ ?_
            · rintro b x σ H6 hx ⟨lv, v7, v8, v9, rfl, b6, L6⟩
              have nela : ∀ c xs, H5 c = some (.tup xs) → c ≠ la := fun c xs h z => by
                have := L5.2.2.2.1
                rw [← z, h] at this; cases this
              have tx6 : TupX H4 H6 := fun c xs h => b6 _ _ (s5 _ _ h) (nela c xs (s5 _ _ h))
              have hl6 : H6 l = some (.lst wvs) := b6 _ _ (s5 _ _ hll4) nlla
              have hwv6 := RwsAt.stab hR hP tx6 _ hwv4
              -- the block at blk, its rows rb
              have lvl := L6.2.2.2.2.1.length
              have lvl0 := L4.2.2.2.2.1.length
              rw [List.length_append] at lvl
              obtain ⟨blk, rb, bvs, rfl, hblk, hrb, hd1, hn1, hz1, hlen1, hS⟩ : ∃ (blk : Addr) (rb : List (Rw α β)) (bvs : List V), x = .ref blk ∧ H6 blk = some (.tup bvs) ∧ RwsAt R RP H6 rb bvs ∧ dpRs rb ≤ d' ∧ nIfs rb ≤ 20 ∧ szRs rb ≤ 1000 ∧ lv.length + (waysW ends tag rb [([], false)]).length ≤ 2 ^ 20 ∧
                  (if b = 0 then ([] : Ways α β) else if b = 1 then (waysW ends tag rws [([], false)]).map gm else (waysW ends tag rws [([], false)]).map gm ++ (waysW ends tag oths [([], false)]).map gm) ++ (waysW ends tag rb [([], false)]).map gm = (if b + 1 = 0 then [] else if b + 1 = 1 then (waysW ends tag rws [([], false)]).map gm else (waysW ends tag rws [([], false)]).map gm ++ (waysW ends tag oths [([], false)]).map gm) := by
                rw [List.length_map, List.length_map] at hlen
                match b, hx, lvl with
                | 0, hx, lvl =>
                  cases hx
                  rw [if_pos rfl] at lvl
                  refine ⟨prr, rws, rvv, rfl, tx6 _ _ hprr4, RwsAt.stab hR hP tx6 _ hrws4, by omega, by omega, by omega, ?_, by simp⟩
                  simp only [List.length_nil] at lvl
                  omega
                | 1, hx, lvl =>
                  cases hx
                  rw [if_neg (by decide), if_pos rfl, List.length_map] at lvl
                  refine ⟨po, oths, ovv, rfl, tx6 _ _ hpo4, RwsAt.stab hR hP tx6 _ hoths4, by omega, by omega, by omega, ?_, by simp⟩
                  omega
                | b + 2, hx, _ => simp at hx
              dsimp only [gName]
              refine ⟨_, rfl, .inl ⟨rfl, _, .inl (.inl L6.2.2.2.1)⟩, _, rfl, _, rfl, blk, ea, bvs, rb, ends, [], rfl, (fun a ha => nomatch ha), hblk, hrb, sqT_same L6.1 hends, hd1, hn1, hz1, fun H7 wl wws s7 hwl7 hww7 => ⟨wl, rfl, ⟨_, .inl (.inl hwl7)⟩, fun D hD => ?_⟩⟩
              have longW : longest 1000 (waysW ends tag rb [([], false)]) := by
                have h1 := ways_long (ends := ends) (tag := tag) rb [([], false)] 0 (by intro p hp; rw [List.mem_singleton.mp hp]; simp)
                intro p hp
                have := h1 p hp
                omega
              refine lc_list (K := K) (a := wl) (xs := wws) (fun c H' => ∃ dvs, Same H7 H' ∧ H' D = some (.lst dvs) ∧ WaysAt R RP H' (D :: la :: old) (((waysW ends tag rb [([], false)]).take c).map gm) dvs ∧ WaysAt R RP H' [D, wl] (waysW ends tag rb [([], false)]) wws) ⟨[], same_new (Same.refl _) hD, upd_same, rfl, hww7.go hR hP ((LX.add hD).trans (LX.new hD))⟩ (fun c H' _ ⟨dvs, s, _⟩ => .inl (.inl (s _ _ hwl7))) ?_ ?_
              · rintro c xw H8 hxw ⟨dvs, s8, hD8, hdv8, hww8⟩
                obtain ⟨m, hm, qm, lm, mvs, rfl, hqm, hlm, nlm, hmv⟩ := hww8.get hxw
                have hmm := longW m (List.mem_of_getElem? hm)
                have s68 := s7.trans s8
                refine ⟨qm, _, rfl, .inl (.inl hqm), rfl, _, _, rfl, _, _, rfl, rfl, rfl, ?_⟩
                refine ⟨_, rfl, l, wvs, rfl, .inr (.inl (.inl (s68 _ _ hl6))), _, rfl, _, rfl, lm, mvs, rfl, .inr (.inl (.inl hlm)), (by
                  have h1 := million
                  have h2 := hmv.length
                  simp; omega), fun nl hnl => ⟨_, rfl, (by show 2 ≤ sizeLine; decide), fun q2 hq2 => ⟨dvs, ?_, ?_, dvs ++ [.ref q2], ?_, upd_same, ?_, ?_⟩⟩⟩
                · rw [upd_ne (ne_of_none (by rw [upd_ne (ne_of_none hD8 hnl)]; exact hD8) hq2), upd_ne (ne_of_none hD8 hnl)]; exact hD8
                · have h1 := million
                  have h2 := hdv8.length
                  rw [List.length_map, List.length_take] at h2
                  omega
                · exact same_put (s8.trans (same_new (same_new (Same.refl H8) hnl) hq2)) hD
                · obtain ⟨H9, e9⟩ : ∃ H9, H9 = upd (upd H8 nl (.lst (wvs ++ (V.ref pr :: (mvs ++ []))))) q2 (.tup [.ref nl, .bl m.2]) := ⟨_, rfl⟩
                  have s9 : Same H8 H9 := by rw [e9]; exact same_new (same_new (Same.refl H8) hnl) hq2
                  have hnl9 : H9 nl = some (.lst (wvs ++ (V.ref pr :: (mvs ++ [])))) := by rw [e9, upd_ne (ne_of_none upd_same hq2)]; exact upd_same
                  have hq9 : H9 q2 = some (.tup [.ref nl, .bl m.2]) := by rw [e9]; exact upd_same
                  rw [← e9]
                  have nD : nl ≠ D := (ne_of_none hD8 hnl).symm
                  have nL : nl ≠ la := (ne_of_none (s68 _ _ L6.2.2.2.1) hnl).symm
                  have r9 : RwAt R RP H9 (.iff line ps rws oths) (.ref pr) := RwAt.stab hR hP (TupX.of (s68.trans s9)) _ L6.2.2.2.2.2
                  have wy : WayAt R RP H9 (D :: la :: old) (gm m) (.ref q2) := by
                    refine ⟨q2, nl, _, rfl, by rw [egm]; exact hq9, hnl9, by simp [nD, nL, nold _ (L6.1.trans s68) hnl], ?_⟩
                    rw [egm, List.append_nil]
                    refine RwsAt.append (?_ : RwsAt R RP H9 (.iff line ps rws oths :: m.1) (V.ref pr :: mvs)) (RwsAt.stab hR hP (TupX.of (s68.trans s9)) _ hwv6)
                    unfold RwsAt
                    exact ⟨_, _, rfl, r9, RwsAt.stab hR hP (TupX.of s9) _ hmv⟩
                  have e1 : ((waysW ends tag rb [([], false)]).take (c + 1)).map gm = ((waysW ends tag rb [([], false)]).take c).map gm ++ [gm m] := by rw [List.take_add_one, hm]; simp
                  rw [e1]
                  exact (WaysAt.append (WaysAt.one wy) (hdv8.go hR hP (LX.same s9))).go hR hP (LX.put (s9 _ _ hD8) (by simp))
                · have s9 := same_new (o := .tup [.ref nl, .bl m.2]) (same_new (o := .lst (wvs ++ (V.ref pr :: (mvs ++ [])))) (Same.refl H8) hnl) hq2
                  exact (hww8.go hR hP (LX.same s9)).go hR hP (LX.put (s9 _ _ hD8) (by simp))
              · rintro H8 ⟨dvs, s8, hD8, hdv8, hww8⟩
                rw [show (waysW ends tag rb [([], false)]).take wws.length = waysW ends tag rb [([], false)] from by rw [List.take_of_length_le]; rw [hww8.length]; exact Nat.le_refl _] at hdv8
                have s68 := s7.trans s8
                have L8 := L6.on hR hP s68
                refine ⟨la, D, lv, dvs, rfl, rfl, L8.2.2.2.1, hD8, ?_, lv ++ dvs, _, _, _, rfl, ?_, ?_⟩
                · have h1 := million
                  have h2 := hdv8.length
                  rw [List.length_map] at h2
                  omega
                · exact (b6.same s68).put
                · rw [← hS, ← List.append_assoc]
                  exact L8.more hR hP nla nfl (hdv8.go hR hP (LX.less (fun a h => List.mem_cons_of_mem _ h)))
            · rintro σ H6 ⟨lv, v7, v8, v9, rfl, b6, L6⟩
              refine ⟨lv, _, _, _, _, _, rfl, ?_⟩
              rw [estep, eext]
              exact L6
      · rintro σ H4 ⟨lvs, v5, v6, v7, v8, v9, rfl, L4⟩
        refine ⟨_, rfl, la, lvs, _, _, _, _, _, _, _, rfl, L4.1, L4.2.2.2.1, ?_⟩
        have := L4.2.2.2.2.1
        rw [show FW.take fvs.length = FW from by rw [List.take_of_length_le]; rw [L4.2.2.1.length]; exact Nat.le_refl _] at this
        rw [show rows.take (i + 1) = rows.take i ++ [r] from by rw [List.take_add_one, hri]; rfl, ways_snoc, ← eFW]
        exact this
    · rintro σ H2 ⟨fa, fvs, v3, v4, v5, v6, v7, v8, v9, rfl, s2, hf2, hw2⟩
      rw [show rows.take rvs.length = rows from by rw [List.take_of_length_le]; rw [hrows.length]; exact Nat.le_refl _] at hw2
      exact ⟨_, rfl, kk _ _ _ s2 hf2 hw2⟩
end
end Tb

set_option Elab.async false
set_option linter.all false
set_option maxRecDepth 100000
set_option maxHeartbeats 3999000
namespace Tb
open PySem PySem.Spec PyProof.Rows L2 LamX NdefX
open PySem.W (Frag)
open StX (pa_star tStar)
open C8 (pss_cut tCut)
/-! ### cells, locked and unlocked again -/
theorem same_del {cs : Cells} {H1 H' : Hp} (no : CsNo cs H1) (s : Same (addC H1 cs) H') (fz : CsFz cs H') : Same H1 (delC H' cs) := fun b u h => by
  have e : cs.lookup b = none := by
    cases q : cs.lookup b with
    | none => rfl
    | some o => rw [no b o q] at h; cases h
  rw [delC_out e]
  exact s b u (by rw [addC_out e]; exact h)
theorem tupx_del {cs : Cells} {H' : Hp} (fz : CsFz cs H') : TupX H' (delC H' cs) := fun c xs h => by
  rw [delC_out (fz.out' h fun o y => by cases y)]; exact h
theorem same_add {cs : Cells} {H H' : Hp} (fz : CsFz cs H) (s : Same (delC H cs) H') (no : CsNo cs H') : Same H (addC H' cs) := fun b u h => by
  cases q : cs.lookup b with
  | some o =>
    have := fz b o q
    rw [h] at this; cases this
    exact addC_in q
  | none =>
    rw [addC_out q]
    exact s b u (by rw [delC_out q]; exact h)
theorem tupx_add {cs : Cells} {H' : Hp} (no : CsNo cs H') : TupX H' (addC H' cs) := fun c xs h => by
  have e : cs.lookup c = none := by
    cases q : cs.lookup c with
    | none => rfl
    | some o => rw [no c o q] at h; cases h
  rw [addC_out e]; exact h
theorem cloC_one {x : Str} {c : Addr} {v : V} {o : Obj} {u : Value} {cs : Cells} (h : cs.lookup c = some o) (r : L2.RelV v u) (d : o.data = .cell (some u)) : CloC [(x, c)] [x] [some v] cs := by
  have one : ∀ y b, [(x, c)].lookup y = some b → y = x ∧ b = c := fun y b z => by
    rw [List.lookup_cons] at z
    by_cases q : y = x
    · subst q; simp at z; exact ⟨rfl, z.symm⟩
    · have q' : (y == x) = false := by simpa using q
      rw [q'] at z; cases z
  refine ⟨rfl, fun y b z => ?_, fun y z b h1 h2 => ?_, fun i y hi => ?_⟩
  · rw [(one y b z).2]; exact ⟨o, _, h, d⟩
  · rw [(one y b h1).1, (one z b h2).1]
  · cases i with
    | zero =>
      simp at hi; subst hi
      refine ⟨c, by simp, fun v' hv => ?_⟩
      simp at hv; subst hv
      exact ⟨o, u, h, r, d⟩
    | succ i => simp at hi
theorem lamG_same {f : Addr} {q : Str} {params : Arguments} {body : Expr} {scope : Scope} {cl : List (Str × Addr)} {pm : Value} {c : Addr} {ctv : Value} {cs : Cells} {H H' : Hp} (s : Same H H') (g : lamG f q params body scope cl pm c ctv cs H) : lamG f q params body scope cl pm c ctv cs H' :=
  ⟨s _ _ g.1, s _ _ g.2.1, fun b o e => s _ _ (g.2.2 b o e)⟩
theorem lamG_but {a C dx : Addr} {fs : List (Str × V)} {f : Addr} {q : Str} {params : Arguments} {body : Expr} {scope : Scope} {cl : List (Str × Addr)} {pm : Value} {c : Addr} {ctv : Value} {cs : Cells} {H H' : Hp} (s : But a H H') (ha : H a = some (.ins C dx fs)) (g : lamG f q params body scope cl pm c ctv cs H) : lamG f q params body scope cl pm c ctv cs H' :=
  ⟨s _ _ g.1 (fun z => by have := g.1; rw [z, ha] at this; cases this), s _ _ g.2.1 (fun z => by have := g.2.1; rw [z, ha] at this; cases this), fun b o e => s _ _ (g.2.2 b o e) (fun z => by have := g.2.2 b o e; rw [z, ha] at this; cases this)⟩
/-! ### the rows of heads -/
abbrev HR := HRow × Nat
def Rh (H : Hp) (v : V) (a : HR) : Prop := RowV H a.2 v (some a.1) ∧ (∀ x, a.1 = .word x → x ∈ (["quit", "no"] : List Str))
def RPh (H : Hp) (v : V) (_ : Unit) : Prop := ∃ p xs, v = .ref p ∧ H p = some (.tup xs)
def rowFh (kind : Str) (t : Str) (n : Nat) : Option HR := (rowOf kind t).map fun r => (r, n)
def partFh (kind : Str) (t : Str) : Option Unit := if partOk (namesOf kind) t then some () else none
def tagH : HR → Str
  | (.word x, _) => if x = "if" then "no" else x
  | (.set .., _) => "set"
theorem tagH_if (a : HR) : tagH a ≠ "if" := by
  obtain ⟨r, n⟩ := a
  cases r with
  | word x =>
    unfold tagH
    dsimp only
    by_cases c : x = "if"
    · rw [if_pos c]; decide
    · rw [if_neg c]; exact c
  | set _ _ _ => unfold tagH; dsimp only; decide
theorem rowV_tup {H H' : Hp} {l : Int} {v : V} {r : HRow} (x : TupX H H') (h : RowV H l v (some r)) : RowV H' l v (some r) := by
  cases r with
  | word t => obtain ⟨p, e, h⟩ := h; exact ⟨p, e, x _ _ h⟩
  | set a b c => obtain ⟨p, q, xs, e, h, h2⟩ := h; exact ⟨p, q, xs, e, x _ _ h, x _ _ h2⟩
theorem rh_stab : Stab Rh := fun H H' v a x h => ⟨rowV_tup x h.1, h.2⟩
theorem rph_stab : Stab RPh := fun H H' v a x ⟨p, xs, e, h⟩ => ⟨p, xs, e, x _ _ h⟩
theorem rh_tag (H : Hp) (v : V) (a : HR) (h : Rh H v a) : ∃ p xs, v = .ref p ∧ H p = some (.tup (.str (tagH a) :: xs)) := by
  obtain ⟨r, n⟩ := a
  obtain ⟨h1, h2⟩ := h
  cases r with
  | word t =>
    obtain ⟨p, e, h⟩ := h1
    refine ⟨p, [.int n], e, ?_⟩
    unfold tagH
    dsimp only
    rw [if_neg (fun z => by have := h2 t rfl; rw [z] at this; revert this; decide)]
    exact h
  | set a b c => obtain ⟨p, q, xs, e, h, _⟩ := h1; exact ⟨p, _, e, h⟩
theorem rowOf_word {kind t : Str} {r : HRow} (h : rowOf kind t = some r) : ∀ x, r = .word x → x ∈ (["quit", "no"] : List Str) := by
  unfold rowOf at h
  split at h
  · rename_i c
    cases h
    intro x z
    injection z with z
    rcases c with c | ⟨c, _⟩
    · rw [← z, c]; decide
    · rw [← z, c]; decide
  · split at h
    · split at h
      · cases h
      · split at h
        · cases h
        · split at h
          · cases h; intro x z; cases z
          · cases h
    · cases h
theorem rowR_of {H : Hp} {v : V} {kind t : Str} {n : Nat} (h : RowV H n v (rowOf kind t)) : RowR Rh H v (rowFh kind t n) := by
  unfold rowFh
  cases e : rowOf kind t with
  | none => rw [e] at h; exact h
  | some r =>
    rw [e] at h
    refine ⟨⟨h, rowOf_word e⟩, ?_⟩
    cases r with
    | word t => obtain ⟨p, e, h⟩ := h; rw [e]; exact fun z => nomatch z
    | set a b c => obtain ⟨p, q, xs, e, h, h2⟩ := h; rw [e]; exact fun z => nomatch z
/-! ### lines that come too late -/
def ends2 : List Str := ["quit", "no"]
abbrev SetR := Str × Bool × Nat
def setOf : Rw HR Unit → Option SetR
  | .row (.set nm sg _, n) => some (nm, sg.isSome, n)
  | _ => none
def lateSg (ss : List SetR) : List Nat := cutL ((ss.filter fun s => s.2.1).map fun s => s.2.2) (some 6) (some (6 + 1))
def lateNm (ss : List SetR) (x : Str) : List Nat := cutL ((ss.filter fun s => decide (s.1 = x)).map fun s => s.2.2) (some 3) (some (3 + 1))
def lateW (told : Str) (w : List (Rw HR Unit)) : List Nat := lateSg (w.filterMap setOf) ++ (regs ++ [told]).flatMap (lateNm (w.filterMap setOf))
def lateAll (told : Str) (ws : Ways HR Unit) : List Nat := ws.flatMap fun p => lateW told p.1
theorem cutL_one {α : Type} (xs : List α) (k : Nat) : (cutL xs (some (k : Int)) (some ((k : Int) + 1))).length ≤ 1 := by
  unfold cutL
  rw [List.length_take]
  have h1 : HT.sIx xs.length xs.length (some ((k : Int) + 1)) - HT.sIx xs.length 0 (some (k : Int)) ≤ 1 := by
    unfold HT.sIx
    simp only
    split <;> split <;> omega
  omega
def SetAt (H : Hp) (s : SetR) (v : V) : Prop := ∃ (p q : Addr) (sg : Option Str) (nu : V), v = .ref p ∧ H p = some (.tup [.str "set", .int s.2.2, .str s.1, .ref q, optS sg, nu]) ∧ sg.isSome = s.2.1
def SetsAt (H : Hp) : List SetR → List V → Prop
  | [], vs => vs = []
  | s :: ss, vs => ∃ v ws, vs = v :: ws ∧ SetAt H s v ∧ SetsAt H ss ws
theorem SetsAt.stab {H H' : Hp} (x : TupX H H') : ∀ {ss : List SetR} {vs : List V}, SetsAt H ss vs → SetsAt H' ss vs
  | [], _, h => h
  | s :: ss, _, ⟨v, ws, e, ⟨p, q, sg, nu, e1, h1, e2⟩, h2⟩ => ⟨v, ws, e, ⟨p, q, sg, nu, e1, x _ _ h1, e2⟩, SetsAt.stab x h2⟩
theorem SetsAt.snoc {H : Hp} {s : SetR} {v : V} (hv : SetAt H s v) : ∀ {ss : List SetR} {vs : List V}, SetsAt H ss vs → SetsAt H (ss ++ [s]) (vs ++ [v])
  | [], _, h => by have h : _ = [] := h; subst h; exact ⟨v, [], rfl, hv, rfl⟩
  | t :: ss, _, ⟨u, ws, e, h1, h2⟩ => by subst e; exact ⟨u, _, rfl, h1, SetsAt.snoc hv h2⟩
theorem SetsAt.get {H : Hp} : ∀ {ss : List SetR} {vs : List V} {i : Nat} {v : V}, SetsAt H ss vs → vs[i]? = some v → ∃ s, ss[i]? = some s ∧ SetAt H s v
  | [], _, _, _, h, e => by have h : _ = [] := h; rw [h] at e; cases e
  | s :: ss, _, 0, v, ⟨u, ws, e, h1, h2⟩, e2 => by subst e; cases e2; exact ⟨s, rfl, h1⟩
  | s :: ss, _, i + 1, v, ⟨u, ws, e, h1, h2⟩, e2 => by subst e; exact SetsAt.get (i := i) h2 e2
theorem SetsAt.length {H : Hp} : ∀ {ss : List SetR} {vs : List V}, SetsAt H ss vs → vs.length = ss.length
  | [], _, h => by have h : _ = [] := h; rw [h]; rfl
  | s :: ss, _, ⟨v, ws, e, h1, h2⟩ => by rw [e, List.length_cons, List.length_cons, SetsAt.length h2]
/-- what a row is, as its first word tells -/
theorem row_set {H : Hp} {r : Rw HR Unit} {v : V} (h : RwAt Rh RPh H r v) : ∃ p t xs, v = .ref p ∧ H p = some (.tup (.str t :: xs)) ∧ match setOf r with
    | some s => t = "set" ∧ SetAt H s v
    | none => t ≠ "set" := by
  cases r with
  | row a =>
    unfold RwAt at h
    obtain ⟨r, n⟩ := a
    obtain ⟨h1, h2⟩ := h
    cases r with
    | word t =>
      obtain ⟨p, e, h⟩ := h1
      refine ⟨p, t, _, e, h, fun c => ?_⟩
      have := h2 t rfl
      rw [c] at this; revert this; decide
    | set a b c =>
      obtain ⟨p, q, xs, e, h, _⟩ := h1
      exact ⟨p, _, _, e, h, rfl, p, q, b, _, e, h, rfl⟩
  | iff l ps rs os =>
    unfold RwAt at h
    obtain ⟨p, pp, pr, po, ps', vs, ws, e, h, _⟩ := h
    exact ⟨p, _, _, e, h, by show ("if" : Str) ≠ "set"; decide⟩
/-! ### the table of its lambdas -/
def tabH (Pt : Addr) : List (Addr × Str) := [(Pt, ("read_head" : Str) ++ ".<locals>." ++ "<lambda>")]
theorem tabH_in (Pt : Addr) : (Pt, ("read_head" : Str) ++ ".<locals>." ++ "<lambda>") ∈ tabH Pt := List.mem_cons_self
theorem tabH_un (Pt : Addr) : ∀ q ∈ tabH Pt, q.1 = Pt → q.2 = ("read_head" : Str) ++ ".<locals>." ++ "<lambda>" := fun q hq _ => by rw [List.mem_singleton.mp hq]
theorem free_by {sc outer : Scope} (h : (sc.names.all fun y => !decide (y.2 = .free) || decide (outer.names.lookup y.1 = some .cell) || decide (outer.names.lookup y.1 = some .free)) = true) : ∀ y ∈ sc.names, y.2 = .free → outer.names.lookup y.1 = some .cell ∨ outer.names.lookup y.1 = some .free := fun y hy e => by
  have := List.all_eq_true.mp h y hy
  simp only [Bool.or_eq_true, Bool.not_eq_true', decide_eq_true_eq, decide_eq_false_iff_not] at this
  rcases this with (z | z) | z
  · exact absurd e z
  · exact .inl z
  · exact .inr z
end Tb

set_option Elab.async false
set_option linter.all false
set_option maxRecDepth 100000
set_option maxHeartbeats 3999000
namespace Tb
open PySem PySem.Spec PyProof.Rows L2 LamX NdefX
open PySem.W (Frag)
open StX (pa_star tStar)
open C8 (pss_cut tCut)
theorem sqL_ext {K : Frag} {H H' : Hp} {a : Addr} {xs : List V} (x : ExtN H H') (h : SqL K H a xs) : SqL K H' a xs := by
  rcases h with (h | ⟨o, h⟩) | h
  · exact .inl (.inl (x _ _ h fun _ z => nomatch z))
  · exact .inl (.inr ⟨o, x _ _ h fun _ z => nomatch z⟩)
  · exact .inr h
theorem ClosOk.also {P : Program} {w : World} {K : Frag} {mg : Str → Option Value} {base : Heap} {k : Nat} {f : Addr} {G G2 : Hp → Prop} {sp : Sp} (o : ClosOk P w K mg base k f G (fun vs H Q E => G2 H ∧ sp vs H Q E)) : ClosOk P w K mg base k f (fun H => G H ∧ G2 H) sp :=
  ⟨fun H h ok g => o.fn H h ok g.1, fun A outer s H us vs Q E hr e0 g r z => o.run A outer s H us vs Q E hr e0 g.1 r ⟨g.2, z⟩⟩
def HeadK (CB CT CR Pt : Addr) (d : Nat) (kind : Str) (most : Int) (H : Hp) (Q : VK) (E : XK) : Out HR Unit → Prop
  | .ok rows _ _ i => if (i : Int) ≤ most then (nIfs rows ≤ 20 ∧ szRs rows ≤ 1000 ∧ dpRs rows ≤ d) ∧
      (if lateAll (toldName kind) (waysW ends2 tagH rows [([], false)]) = [] then ∀ H' q vs, ExtN H H' → Tabs (tabH Pt) H' → H' q = some (.tup vs) → RwsAt Rh RPh H' rows vs → Q (.ref q) H'
       else ∀ H' dd (m : Nat), ExtN H H' → Tabs (tabH Pt) H' → m ∈ lateAll (toldName kind) (waysW ends2 tagH rows [([], false)]) → (∀ y ∈ lateAll (toldName kind) (waysW ends2 tagH rows [([], false)]), m ≤ y) → H' dd = some (.xd [("line", .int m)]) → E (.ref CR) (some dd) H')
      else ∀ H' dd, ExtN H H' → Tabs (tabH Pt) H' → H' dd = some (.xd [("most", .int most), ("many", .int i), ("what", .str "ifs")]) → E (.ref CT) (some dd) H'
  | .bad k => ∀ H' dd, ExtN H H' → Tabs (tabH Pt) H' → H' dd = some (.xd [("line", .int k)]) → E (.ref CB) (some dd) H'
def spReadHead (K : Frag) (CB CT CR Pt : Addr) (d : Nat) : Sp := fun vs H Q E => ∃ (kind : Str) (la : Addr) (most : Int) (lines : List Str) (out : Out HR Unit), vs = [.str kind, .ref la, .int most] ∧ kind ∈ kinds9 ∧ (∀ t ∈ lines, t.length + 2 ≤ sizeLine) ∧ lines.length ≤ 1000 ∧ SqL K H la (lines.map V.str) ∧ Tabs (tabH Pt) H ∧
  RB lines (rowFh kind) (partFh kind) d false 0 0 out ∧ HeadK CB CT CR Pt d kind most H Q E out
section
variable {P : Program} {w : World} {K : Frag} {mg : Str → Option Value} {base : Heap} {B CB CT CR : Addr} {tk : Nat → Tok} {g : GA}
theorem ok_read_head {f cR Pt : Addr} {oc kV doc pm ct : Value} {od an : Option Addr} {osl : Array (Option Value)} {k d : Nat} (lk : K.lookup f = some ⟨oc, od, .func (PySem.W.fnOf "read_head" "read_head" (defArgs s_read_head) (defBody s_read_head) (defScope s_read_head) .none kV doc pm an (.ref cR) ct), osl⟩)
    (hcd : PySem.W.codeIn K (.ref cR) "read_head" = true) (T : Bl mg) (G : Glob K w mg tk g) (TB : TabB base mg cR Pt) (eRefused : ErrAt P K mg B "Refused" CR ["line"]) (hk5 : 5 ≤ k)
    (htold_name : HasF P w K mg base "told_name" 1 spToldName) (hgiven_names : HasF P w K mg base "given_names" 1 (spGiven K)) (hrow_of : HasF P w K mg base "row_of" 4 spRow) (htold_part : HasF P w K mg base "told_part" 3 (spPart K))
    (hread_rows' : ∀ kind, HasE P w K mg base "read_rows" k (spReadRows P w K mg base 5 CB CT Rh RPh (rowFh kind) (partFh kind) d)) (hall_ways : HasF P w K mg base "all_ways" k (spWays K Rh RPh tagH d)) :
    FnOk P w K mg base (L2.CX P w) (k + 1) f (PySem.W.fnOf "read_head" "read_head" (defArgs s_read_head) (defBody s_read_head) (defScope s_read_head) .none kV doc pm an (.ref cR) ct) ["kind", "lines", "most_ifs"] (spReadHead K CB CT CR Pt d) := by
  refine fn_of lk hcd sc_read_head (fun vs H Q E h => ?_) (fun A outer s H vs Q E hr h => ?_)
  · obtain ⟨kind, la, most, lines, out, rfl, _⟩ := h; rfl
  · obtain ⟨kind, la, most, lines, out, rfl, hk, hl, hn, hL, hT, hrb, kk⟩ := h
    have hread_rows := hread_rows' kind
    refine ⟨_, (pss_cons (ps_set (i := 3) sc_read_head.nd rfl (by first | exact Or.inl rfl | exact Or.inr rfl) (pe_tup (pa_star (pe_glob (v := .ref _) (by rfl) G.regs rfl) (pa_cons (pe_fn htold_name (hr.mono (by first | decide | omega)) rfl (pa_cons (pv 0) pa_nil)) (pa_star (pe_fn hgiven_names (hr.mono (by first | decide | omega)) rfl (pa_cons (pv 0) pa_nil)) pa_nil)))))
      (pss_cons (ps_par (i := 4) (j := 5) (by rfl) sc_read_head.nd rfl rfl (by decide) rfl rfl (pa_cons (pe_lambda (T := tabH Pt) TB (by rfl) (tabH_in Pt) (tabH_un Pt) (by rfl) (free_by (outer := defScope s_read_head) (by decide +kernel))) (pa_cons (pe_lambda (T := tabH Pt) TB (by rfl) (tabH_in Pt) (tabH_un Pt) (by rfl) (free_by (outer := defScope s_read_head) (by decide +kernel))) pa_nil)) (by rfl))
      (pss_cut (ps_set (i := 6) sc_read_head.nd rfl (by first | exact Or.inl rfl | exact Or.inr rfl) (pe_fnC hread_rows (fun _ => rfl) (hr.mono (by first | decide | omega)) (passes_call (takes_of rfl rfl rfl rfl) (fun _ _ _ _ z => z)) rfl (pa_cons (pv 1) (pa_cons (pv 4) (pa_cons (pv 5) (pa_cons (pv 2) pa_nil))))))
      (pss_cons (ps_set (i := 7) sc_read_head.nd rfl (by first | exact Or.inl rfl | exact Or.inr rfl) (pe_lst pa_nil))
      (pss_cut (ps_for (passes_of rfl) rfl (pi_list (pe_fn hall_ways (hr.mono (by first | decide | omega)) rfl (pa_cons (pv 6) (pa_cons (pe_tup (pa_cons pe_str (pa_cons pe_str pa_nil))) pa_nil)))) (pg_tup rfl (pgs_cons (pg_name (i := 8) sc_read_head.nd rfl (by first | exact Or.inl rfl | exact Or.inr rfl)) (pgs_cons (pg_name (i := 9) sc_read_head.nd rfl (by first | exact Or.inl rfl | exact Or.inr rfl)) pgs_nil)))
        (pss_cons (ps_setLc (i := 10) (own := [("row", 4)]) (g := gName 4) rfl sc_read_head.nd rfl rfl (sw_true rfl rfl rfl (by decide +kernel)) (pi_list (pv 8)) (blkOk_by (own := [("row", 4)]) (N := nm_read_head) (sc := defScope s_read_head) (by decide +kernel)) (fun _ _ _ _ _ => pg_name (i := 4) sc_read_head.nd rfl (by first | exact Or.inl rfl | exact Or.inr rfl)) (fun _ _ _ _ _ => (pts_one (pt_cmpR op_eq (pe_ix (ix_tupK (K := K) (by rfl)) (pv 4) pe_int (fun _ _ => rfl)) pe_str (nomark _)))) (fun _ _ _ _ _ => (pv 4)))
        (pss_cons (ps_expr (pe_bm PySem.F.plainAttrs_list PySem.F.slot_list_extend PySem.F.type_list_extend mt_extend (pv 7) (pa_cons (pe_slice sl_list (pe_lc (own := [("row", 4)]) (g := gName 4) rfl sc_read_head.nd (pi_list (pv 10)) (blkOk_by (own := [("row", 4)]) (N := nm_read_head) (sc := defScope s_read_head) (by decide +kernel)) (fun _ _ _ _ _ => pg_name (i := 4) sc_read_head.nd rfl (by first | exact Or.inl rfl | exact Or.inr rfl)) (fun _ _ _ _ _ => (pts_one (pt_cmpR op_notN (pe_ix (ix_tupK (K := K) (by rfl)) (pv 4) pe_int (fun _ _ => rfl)) pe_non (nomark _)))) (fun _ _ _ _ _ => (pe_ix (ix_tupK (K := K) (by rfl)) (pv 4) pe_int (fun _ _ => rfl)))) (po_some (pe_glob (v := .int _) (by rfl) G.signs ⟨_, rfl⟩)) (po_some (pe_op op_add (pe_glob (v := .int _) (by rfl) G.signs ⟨_, rfl⟩) pe_int))) pa_nil)))
        (pss_one (ps_for (passes_of rfl) rfl (pi_tup (pe_tup (pa_star (pe_glob (v := .ref _) (by rfl) G.regs rfl) (pa_cons (pe_fn htold_name (hr.mono (by first | decide | omega)) rfl (pa_cons (pv 0) pa_nil)) pa_nil)))) (pg_name (i := 11) sc_read_head.nd rfl (by first | exact Or.inl rfl | exact Or.inr rfl))
          (pss_one (ps_expr (pe_bm PySem.F.plainAttrs_list PySem.F.slot_list_extend PySem.F.type_list_extend mt_extend (pv 7) (pa_cons (pe_slice sl_list (pe_lc (own := [("row", 4)]) (g := gName 4) rfl sc_read_head.nd (pi_list (pv 10)) (blkOk_by (own := [("row", 4)]) (N := nm_read_head) (sc := defScope s_read_head) (by decide +kernel)) (fun _ _ _ _ _ => pg_name (i := 4) sc_read_head.nd rfl (by first | exact Or.inl rfl | exact Or.inr rfl)) (fun _ _ _ _ _ => (pts_one (pt_cmpR op_eq (pe_ix (ix_tupK (K := K) (by rfl)) (pv 4) pe_int (fun _ _ => rfl)) (pv 11) (nomark _)))) (fun _ _ _ _ _ => (pe_ix (ix_tupK (K := K) (by rfl)) (pv 4) pe_int (fun _ _ => rfl)))) (po_some (pe_glob (v := .int _) (by rfl) G.settings ⟨_, rfl⟩)) (po_some (pe_op op_add (pe_glob (v := .int _) (by rfl) G.settings ⟨_, rfl⟩) pe_int))) pa_nil)))))))))
      (pss_cons (ps_if (pt_cmpR op_gt (pe_callB call_len_seq (by rfl) T.len PySem.boot_len (pa_cons (pv 7) pa_nil)) pe_int (nomark _))
        (pss_one (ps_raise rfl (takes_of rfl rfl rfl rfl) (pmk_x eRefused.has (hr.mono (by first | decide | omega)) rfl (pa_cons (pe_callB (cr_min rfl) (by rfl) T.min PyProof.Rows.boot_min (pa_cons (pe_lc (own := [("line", 12)]) (g := gName 12) (tt := tYes) rfl sc_read_head.nd (pi_list (pv 7)) (blkOk_by (own := [("line", 12)]) (N := nm_read_head) (sc := defScope s_read_head) (by decide +kernel)) (fun _ _ _ _ _ => pg_name (i := 12) sc_read_head.nd rfl (by first | exact Or.inl rfl | exact Or.inr rfl)) (fun _ _ _ _ _ => pts_nil) (fun _ _ _ _ _ => (pe_callTy call_int1 (by rfl) T.int PyProof.Rows.boot_int (pa_cons (pv 12) pa_nil)))) pa_nil)) pa_nil))))
        pss_nil)
      (pss_one (ps_ret (pv 6))))))))), ?_⟩
    refine ⟨g.regs, _, rfl, .inl (G.regsT _), _, rfl, kind, rfl, hk, _, rfl, kind, rfl, hk, fun gp H5 s5 hgp => ⟨gp, _, rfl, .inl hgp, (by
      have : (givenNames kind).length ≤ 3 := by unfold givenNames; split; decide; split; decide; decide
      have := eight
      simp; omega), fun np hnp => ?_⟩⟩
    have en : [V.str "a", V.str "b", V.str "c"] ++ V.str (toldName kind) :: ((givenNames kind).map V.str ++ []) = (namesOf kind).map V.str := by
      unfold namesOf regs; simp
    have hnp6 : upd H5 np (.tup ([V.str "a", V.str "b", V.str "c"] ++ V.str (toldName kind) :: ((givenNames kind).map V.str ++ []))) np = some (.tup ((namesOf kind).map V.str)) := by rw [en]; exact upd_same
    have s6 := same_new (o := .tup ([V.str "a", V.str "b", V.str "c"] ++ V.str (toldName kind) :: ((givenNames kind).map V.str ++ []))) s5 hnp
    dsimp only [gName]
    generalize upd H5 np (.tup ([V.str "a", V.str "b", V.str "c"] ++ V.str (toldName kind) :: ((givenNames kind).map V.str ++ []))) = H6 at *
    clear hnp hgp s5
    refine ⟨hT.ext s6, fun f1 c1 pm1 ctv1 H7 x7 n7 t7 nf1 e1 ec1 => ⟨t7, fun f2 c2 pm2 ctv2 H8 x8 n8 t8 nf2 e2 ec2 => ⟨_, _, rfl, ?_⟩⟩⟩
    have e1 := x8 _ _ e1 (lk0_ne)
    have ec1 := x8 _ _ ec1 codeO_ne
    have hnp8 := x8 _ _ (x7 _ _ hnp6 (fun _ z => nomatch z)) (fun _ z => nomatch z)
    have x08 : ExtN H H8 := ((ExtN.of s6).trans x7).trans x8
    dsimp only
    refine ⟨fun σ' H' => ∃ (q : Addr) (vs : List V) (rows : List (Rw HR Unit)) (x : Str) (n i : Nat), out = .ok rows x n i ∧ (i : Int) ≤ most ∧ σ' = [some (.str kind), some (.ref la), some (.int most), some (.ref np), some (.ref f1), some (.ref f2), some (.ref q), none, none, none, none, none, none] ∧ ExtN H H' ∧ Tabs (tabH Pt) H' ∧ H' q = some (.tup vs) ∧ RwsAt Rh RPh H' rows vs, ?_, ?_⟩
    · refine ⟨_, rfl, _, rfl, _, rfl, _, rfl, fun cs hcs hno => ?_⟩
      obtain ⟨ck, ok, uk, hck, hok, rk, dk⟩ := hcs.has 0 "kind" (.str kind) rfl (by show (defScope s_read_head).names.lookup ("kind" : Str) = some NameKind.cell; decide +kernel) rfl
      obtain ⟨cn, on, un, hcn, hon, rn, dn⟩ := hcs.has 3 "names" (.ref np) rfl (by show (defScope s_read_head).names.lookup ("names" : Str) = some NameKind.cell; decide +kernel) rfl
      have sA : ∀ b u, H8 b = some u → addC H8 cs b = some u := fun b u h => by
        cases q : cs.lookup b with
        | none => rw [addC_out q]; exact h
        | some o => rw [hno b o q] at h; cases h
      have fz : CsFz cs (addC H8 cs) := fun b o e => addC_in e
      refine ⟨la, f1, f2, most, lines, fun H' => lamG f1 _ _ _ _ _ pm1 c1 ctv1 cs H' ∧ lamG f2 _ _ _ _ _ pm2 c2 ctv2 cs H' ∧ H' np = some (.tup ((namesOf kind).map V.str)), out, rfl, ?_, ?_, ?_, ?_, hl, hn, ⟨⟨sA _ _ e1, sA _ _ ec1, fz⟩, ⟨sA _ _ e2, sA _ _ ec2, fz⟩, sA _ _ hnp8⟩, ?_, hrb, ?_⟩
      · refine (clo_lam (N := ["text", "line", "kind"]) (ps := ["text", "line"]) (fr := ["kind"]) (ws := [some (.str kind)]) (k := 4) (nscope_by (by decide +kernel)) (fun us hl => match us, hl with | [_, _], _ => rfl) ?_ (fun vs H Q E h => by obtain ⟨t, n, rfl, _⟩ := h; rfl) ?_).guard fun H' g => g.1
        · show CloC [("kind", (List.lookup ("kind" : Str) _).getD 0)] _ _ _
          rw [hck]
          exact cloC_one hok rk dk
        · rintro A' outer' s' H' vs Q' E' hr' gg ⟨t, n, rfl, ht, kq⟩
          refine ⟨_, pe_fn hrow_of hr' rfl (pa_cons (pv 2) (pa_cons (pv 0) (pa_cons (pv 1) pa_nil))), ?_⟩
          refine ⟨_, rfl, _, rfl, _, rfl, kind, t, n, rfl, hk, ht, fun H2 v s2 hv no2 => ?_⟩
          exact kq _ _ (same_add gg.2.2 s2 no2) (rowR_of (by
            cases e : rowOf kind t with
            | none => rw [e] at hv; exact hv
            | some r => rw [e] at hv; exact rowV_tup (tupx_add no2) hv))
      · refine ((ClosOk.also (G2 := fun H' => H' np = some (.tup ((namesOf kind).map V.str))) (clo_lam (N := ["text", "names"]) (ps := ["text"]) (fr := ["names"]) (ws := [some (.ref np)]) (k := 3) (nscope_by (by decide +kernel)) (fun us hl => match us, hl with | [_], _ => rfl) ?_ (fun vs H Q E h => by obtain ⟨_, t, rfl, _⟩ := h; rfl) ?_)).guard (G' := fun H' => lamG f1 _ _ _ _ _ pm1 c1 ctv1 cs H' ∧ lamG f2 _ _ _ _ _ pm2 c2 ctv2 cs H' ∧ H' np = some (.tup ((namesOf kind).map V.str))) fun H' g => g.2).mono (by decide)
        · show CloC [("names", (List.lookup ("names" : Str) _).getD 0)] _ _ _
          rw [hcn]
          exact cloC_one hon rn dn
        · rintro A' outer' s' H' vs Q' E' hr' gg ⟨hnp', t, rfl, ht, kq⟩
          refine ⟨_, pe_fn htold_part hr' rfl (pa_cons (pv 0) (pa_cons (pv 1) (pa_cons pe_dnewK pa_nil))), ?_⟩
          have hnp2 := tupx_del gg.2.2 _ _ hnp'
          refine ⟨_, rfl, _, rfl, fun od hod => ⟨t, np, od, namesOf kind, rfl, .inl (.inl (by rw [upd_ne (ne_of_none hnp2 hod)]; exact hnp2)), upd_same, ht, fun H2 v s2 hv no2 => ?_⟩⟩
          refine kq _ _ (same_add gg.2.2 (fun b u h => s2 b u (by rw [upd_ne (ne_of_none h hod)]; exact h)) no2) ?_
          unfold partFh
          by_cases c : partOk (namesOf kind) t = true
          · rw [if_pos c] at hv ⊢
            obtain ⟨p, xs, rfl, hp⟩ := hv
            exact ⟨⟨p, xs, rfl, tupx_add no2 _ _ hp⟩, p, xs, rfl, tupx_add no2 _ _ hp⟩
          · rw [if_neg c] at hv ⊢
            exact hv
      · rintro a H1 H2 bt ⟨C, dx, fs, ha⟩ ⟨g1, g2, g3⟩
        exact ⟨lamG_but bt ha g1, lamG_but bt ha g2, bt _ _ g3 (fun z => by rw [z, ha] at g3; cases g3)⟩
      · rintro H1 H2 ss ⟨g1, g2, g3⟩
        exact ⟨lamG_same ss g1, lamG_same ss g2, ss _ _ g3⟩
      · exact sqL_ext (ExtN.of sA) (sqL_ext x08 hL)
      · cases out with
        | bad m =>
          intro H' dd s' hd fz'
          refine kk _ dd (x08.trans (ExtN.of (same_del hno s' fz'))) (t8.ext (same_del hno s' fz')) ?_
          rw [delC_out (fz'.out' hd fun o y => by cases y)]; exact hd
        | ok rows x n i =>
          show if (i : Int) ≤ most then _ else _
          by_cases c : (i : Int) ≤ most
          · rw [if_pos c]
            intro H' q vs s' hq hrows fz'
            exact ⟨q, vs, rows, x, n, i, rfl, c, rfl, x08.trans (ExtN.of (same_del hno s' fz')), t8.ext (same_del hno s' fz'), tupx_del fz' _ _ hq, RwsAt.stab rh_stab rph_stab (tupx_del fz') _ hrows⟩
          · rw [if_neg c]
            have kk' : ∀ H' dd, ExtN H H' → Tabs (tabH Pt) H' → H' dd = some (.xd [("most", .int most), ("many", .int i), ("what", .str "ifs")]) → E (.ref CT) (some dd) H' := by
              have := kk; unfold HeadK at this; dsimp only at this; rw [if_neg c] at this; exact this
            intro H' dd s' hd fz'
            refine kk' _ dd (x08.trans (ExtN.of (same_del hno s' fz'))) (t8.ext (same_del hno s' fz')) ?_
            rw [delC_out (fz'.out' hd fun o y => by cases y)]; exact hd
    · rintro σ' H' ⟨q, vs, rows, x, n, i, rfl, him, rfl, x1, t1, hq, hrows⟩
      have kk' : (nIfs rows ≤ 20 ∧ szRs rows ≤ 1000 ∧ dpRs rows ≤ d) ∧ (if lateAll (toldName kind) (waysW ends2 tagH rows [([], false)]) = [] then ∀ H' q vs, ExtN H H' → Tabs (tabH Pt) H' → H' q = some (.tup vs) → RwsAt Rh RPh H' rows vs → Q (.ref q) H'
       else ∀ H' dd (m : Nat), ExtN H H' → Tabs (tabH Pt) H' → m ∈ lateAll (toldName kind) (waysW ends2 tagH rows [([], false)]) → (∀ y ∈ lateAll (toldName kind) (waysW ends2 tagH rows [([], false)]), m ≤ y) → H' dd = some (.xd [("line", .int m)]) → E (.ref CR) (some dd) H') := by
        have := kk; unfold HeadK at this; dsimp only at this; rw [if_pos him] at this; exact this
      obtain ⟨⟨hni, hsz, hdp⟩, kl⟩ := kk'
      obtain ⟨W, eW⟩ : ∃ W, W = waysW ends2 tagH rows [([], false)] := ⟨_, rfl⟩
      rw [← eW] at kl
      have lenW : W.length ≤ 2 ^ 20 := by
        have h1 := ways_len (ends := ends2) (tag := tagH) rows [([], false)]
        rw [← eW] at h1
        simp only [List.length_singleton, Nat.one_mul] at h1
        exact Nat.le_trans h1 (Nat.pow_le_pow_right (by decide) hni)
      have longW : longest 1000 W := by
        have h1 := ways_long (ends := ends2) (tag := tagH) rows [([], false)] 0 (by intro p hp; rw [List.mem_singleton.mp hp]; simp)
        rw [← eW] at h1
        intro p hp
        have := h1 p hp
        omega
      refine ⟨(by show 0 ≤ sizeLine; decide), fun lt hlt => ?_⟩
      have s1 := same_new (o := .lst []) (Same.refl H') hlt
      have hl1 : upd H' lt (.lst []) lt = some (.lst []) := upd_same
      dsimp only [gName]
      generalize upd H' lt (.lst []) = H1 at *
      refine ⟨fun σ2 H2 => ∃ v8 v9 v10 v11 v12 : Option V, σ2 = [some (.str kind), some (.ref la), some (.int most), some (.ref np), some (.ref f1), some (.ref f2), some (.ref q), some (.ref lt), v8, v9, v10, v11, v12] ∧ Same H' H2 ∧ H2 lt = some (.lst ((lateAll (toldName kind) W).map fun n : Nat => V.int n)), ?_, ?_⟩
      · refine ⟨_, rfl, (by show 2 ≤ sizeLine; decide), fun ea hea => ⟨q, ea, vs, rows, ends2, [lt], rfl, fun a ha => ?_, ?_, ?_, ?_, hdp, hni, hsz, fun H3 p ws s3 hp hws => ⟨p, rfl, ⟨_, .inl (.inl hp)⟩, ?_⟩⟩⟩
        · rw [List.mem_singleton.mp ha, upd_ne (ne_of_none hl1 hea), hl1]; exact fun z => nomatch z
        · rw [upd_ne (ne_of_none (s1 _ _ hq) hea)]; exact s1 _ _ hq
        · exact RwsAt.stab rh_stab rph_stab ((TupX.of s1).new hea) _ hrows
        · exact .inl (.inl upd_same)
        have s3' : Same H' H3 := fun b u h => s3 b u (by rw [upd_ne (ne_of_none (s1 _ _ h) hea)]; exact s1 _ _ h)
        have hl3 : H3 lt = some (.lst []) := s3 _ _ (by rw [upd_ne (ne_of_none hl1 hea)]; exact hl1)
        rw [← eW] at hws
        clear s3 hea hl1
        refine for_list (xs := ws) (fun j σ H2 => ∃ v8 v9 v10 v11 v12 : Option V, σ = [some (.str kind), some (.ref la), some (.int most), some (.ref np), some (.ref f1), some (.ref f2), some (.ref q), some (.ref lt), v8, v9, v10, v11, v12] ∧ Same H' H2 ∧ H2 p = some (.lst ws) ∧ WaysAt Rh RPh H2 [p, lt] W ws ∧ H2 lt = some (.lst ((lateAll (toldName kind) (W.take j)).map fun n : Nat => V.int n)))
          ⟨none, none, none, none, none, rfl, s3', hp, hws, hl3⟩ (fun j σ H2 _ ⟨_, _, _, _, _, _, _, h, _⟩ => .inl (.inl h)) ?_ ?_
        · rintro j x σ H4 hx ⟨v8, v9, v10, v11, v12, rfl, s4, hp4, hws4, hl4⟩
          obtain ⟨pw, hpj, qw, l, wvs, rfl, hqw, hlw, hnl, hrw⟩ := hws4.get hx
          have nllt : l ≠ lt := fun z => hnl (by rw [z]; simp)
          refine ⟨qw, _, rfl, .inl (.inl hqw), rfl, _, _, rfl, _, _, rfl, rfl, ?_⟩
          dsimp only [gName]
          have hwl : wvs.length ≤ 1000 := by rw [hrw.length]; exact longW pw (List.mem_of_getElem? hpj)
          refine ⟨_, rfl, l, rfl, ⟨_, .inl (.inl hlw)⟩, fun D hD => ?_⟩
          refine lc_list (K := K) (a := l) (xs := wvs) (fun c H5 => ∃ dvs, Same H4 H5 ∧ H5 D = some (.lst dvs) ∧ SetsAt H5 ((pw.1.take c).filterMap setOf) dvs ∧ dvs.length ≤ c) ⟨[], same_new (Same.refl _) hD, upd_same, rfl, Nat.le_refl _⟩ (fun c H5 _ ⟨dvs, s, _⟩ => .inl (.inl (s _ _ hlw))) ?_ ?_
          · rintro c xv H5 hxv ⟨dvs, s5, hD5, hdv, hdl⟩
            obtain ⟨r, hrc, hr4⟩ := hrw.get hxv
            have hcl : c < wvs.length := (List.getElem?_eq_some_iff.mp hxv).1
            have hr5 := RwAt.stab rh_stab rph_stab (TupX.of s5) r hr4
            obtain ⟨pr, t, xs, rfl, hpr, hs⟩ := row_set hr5
            have etake : (pw.1.take (c + 1)).filterMap setOf = (pw.1.take c).filterMap setOf ++ (setOf r).toList := by
              rw [List.take_add_one, hrc, List.filterMap_append]
              cases e : setOf r <;> simp [e]
            refine ⟨rfl, _, rfl, pr, _, _, _, rfl, rfl, .inl (.inl hpr), atI_nat (j := 0) rfl, rfl, _, rfl, ?_⟩
            cases eo : setOf r with
            | none =>
              rw [eo] at hs etake
              rw [decide_eq_false (fun z => hs (V.str.inj z))]
              exact iteF ⟨dvs, s5, hD5, by rw [etake, Option.toList_none, List.append_nil]; exact hdv, by omega⟩
            | some st =>
              rw [eo] at hs etake
              rw [decide_eq_true (by rw [hs.1])]
              have tx : TupX H5 (upd H5 D (.lst (dvs ++ [.ref pr]))) := TupX.lst hD5
              exact iteT ⟨_, rfl, dvs, hD5, by have := million; omega, dvs ++ [.ref pr], same_put s5 hD, upd_same, by rw [etake]; exact (hdv.snoc hs.2).stab tx, by rw [List.length_append]; simp; omega⟩
          · rintro H5 ⟨dvs, s5, hD5, hdv, hdl⟩
            rw [show pw.1.take wvs.length = pw.1 from by rw [List.take_of_length_le]; rw [hrw.length]; exact Nat.le_refl _] at hdv
            obtain ⟨ss, ess⟩ : ∃ ss, ss = pw.1.filterMap setOf := ⟨_, rfl⟩
            rw [← ess] at hdv
            have nD : D ≠ lt := (ne_of_none hl4 hD).symm
            have late1 : ∀ j, (lateAll (toldName kind) (W.take j)).length ≤ 5 * j := fun j => by
              have h : (lateAll (toldName kind) (W.take j)).length ≤ (W.take j).length * 5 := by
                refine flatMap_le fun p _ => ?_
                unfold lateW
                rw [List.length_append]
                have h1 : (lateSg (p.1.filterMap setOf)).length ≤ 1 := cutL_one _ 6
                have h2 : ((regs ++ [toldName kind]).flatMap (lateNm (p.1.filterMap setOf))).length ≤ (regs ++ [toldName kind]).length * 1 := flatMap_le fun x _ => cutL_one _ 3
                have h3 : (regs ++ [toldName kind]).length = 4 := rfl
                omega
              rw [List.length_take] at h
              have : min j W.length ≤ j := Nat.min_le_left _ _
              omega
            have hjl : j < W.length := (List.getElem?_eq_some_iff.mp hpj).1
            obtain ⟨L0, eL0⟩ : ∃ L0, L0 = lateAll (toldName kind) (W.take j) := ⟨_, rfl⟩
            have l0 := late1 j
            rw [← eL0] at hl4 l0
            have mil : (6000000 : Nat) < sizeLine := by decide
            have hl5 := s5 _ _ hl4
            dsimp only [gName]
            refine ⟨_, rfl, .inl ⟨rfl, _, .inl (.inl hl5)⟩, _, rfl, D, rfl, ⟨_, .inl (.inl hD5)⟩, fun D2 hD2 => ?_⟩
            refine lc_list (K := K) (a := D) (xs := dvs) (fun c H6 => Same H5 H6 ∧ H6 D2 = some (.lst ((((ss.take c).filter fun s => s.2.1).map fun s => s.2.2).map fun n : Nat => V.int n))) ⟨same_new (Same.refl _) hD2, upd_same⟩ (fun c H6 _ ⟨s, _⟩ => .inl (.inl (s _ _ hD5))) ?_ ?_
            · rintro c xv H6 hxv ⟨s6, hD6⟩
              obtain ⟨st, hst, pr, q2, sg, nu, rfl, hpr5, esg⟩ := hdv.get hxv
              have hcl : c < dvs.length := (List.getElem?_eq_some_iff.mp hxv).1
              have hpr := s6 _ _ hpr5
              refine ⟨rfl, _, rfl, pr, _, _, _, rfl, rfl, .inl (.inl hpr), atI_nat (j := 4) rfl, rfl, _, rfl, ?_⟩
              have etake : ((ss.take (c + 1)).filter fun s => s.2.1).map (fun s => s.2.2) = ((ss.take c).filter fun s => s.2.1).map (fun s => s.2.2) ++ (if st.2.1 then [st.2.2] else []) := by
                rw [List.take_add_one, hst, List.filter_append, List.map_append]
                cases e : st.2.1 <;> simp [e]
              rw [← esg] at etake
              cases sg with
              | none =>
                rw [decide_eq_true (show optS none = V.non from rfl)]
                exact iteF ⟨s6, by rw [etake]; simpa using hD6⟩
              | some x0 =>
                rw [decide_eq_false (show ¬ optS (some x0) = V.non from fun z => nomatch z)]
                refine iteT ⟨_, rfl, pr, _, _, _, rfl, rfl, .inl (.inl hpr), atI_nat (j := 1) rfl, _, hD6, ?_, same_put s6 hD2, ?_⟩
                · rw [List.length_map, List.length_map]
                  have := List.length_filter_le (fun s : SetR => s.2.1) (ss.take c)
                  rw [List.length_take] at this
                  omega
                · rw [etake, upd_same]; simp
            · rintro H6 ⟨s6, hD6⟩
              rw [show ss.take dvs.length = ss from by rw [List.take_of_length_le]; rw [hdv.length]; exact Nat.le_refl _] at hD6
              refine ⟨_, rfl, _, _, rfl, rfl, _, rfl, D2, _, rfl, .inl (.inl hD6), fun p2 hp2 => ?_⟩
              rw [cutV_map, show cutL ((ss.filter fun s => s.2.1).map fun s => s.2.2) (some 6) (some (6 + 1)) = lateSg ss from rfl]
              have hl6 := s6 _ _ hl5
              have nlt2 : lt ≠ p2 := ne_of_none hl6 hp2
              refine ⟨lt, p2, _, (lateSg ss).map fun n : Nat => V.int n, rfl, rfl, by rw [upd_ne nlt2]; exact hl6, upd_same, ?_, ?_⟩
              · have h1 : (lateSg ss).length ≤ 1 := cutL_one _ 6
                rw [List.length_map, List.length_map]; omega
              dsimp only
              have s7 : Same H' (upd (upd H6 p2 (.lst ((lateSg ss).map fun n : Nat => V.int n))) lt (.lst (L0.map (fun n : Nat => V.int n) ++ (lateSg ss).map fun n : Nat => V.int n))) := same_put (same_new ((s4.trans s5).trans s6) hp2) hlt
              have b7 : But lt H4 (upd (upd H6 p2 (.lst ((lateSg ss).map fun n : Nat => V.int n))) lt (.lst (L0.map (fun n : Nat => V.int n) ++ (lateSg ss).map fun n : Nat => V.int n))) := ((But.refl.same (s5.trans s6)).new hp2).put
              have hD7 : upd (upd H6 p2 (.lst ((lateSg ss).map fun n : Nat => V.int n))) lt (.lst (L0.map (fun n : Nat => V.int n) ++ (lateSg ss).map fun n : Nat => V.int n)) D = some (.lst dvs) := by rw [upd_ne nD, upd_ne (ne_of_none (s6 _ _ hD5) hp2)]; exact s6 _ _ hD5
              have hl7 : upd (upd H6 p2 (.lst ((lateSg ss).map fun n : Nat => V.int n))) lt (.lst (L0.map (fun n : Nat => V.int n) ++ (lateSg ss).map fun n : Nat => V.int n)) lt = some (.lst ((L0 ++ lateSg ss).map fun n : Nat => V.int n)) := by rw [upd_same, List.map_append]
              have dv7 : SetsAt (upd (upd H6 p2 (.lst ((lateSg ss).map fun n : Nat => V.int n))) lt (.lst (L0.map (fun n : Nat => V.int n) ++ (lateSg ss).map fun n : Nat => V.int n))) ss dvs := hdv.stab ((TupX.of s6).trans ((TupX.refl.new hp2).trans (TupX.lst (by rw [upd_ne nlt2]; exact hl6))))
              generalize upd (upd H6 p2 (.lst ((lateSg ss).map fun n : Nat => V.int n))) lt (.lst (L0.map (fun n : Nat => V.int n) ++ (lateSg ss).map fun n : Nat => V.int n)) = H7 at *
              obtain ⟨Nm, eNm⟩ : ∃ Nm, Nm = regs ++ [toldName kind] := ⟨_, rfl⟩
              have lNm : Nm.length = 4 := by rw [eNm]; rfl
              have eN : [V.str "a", V.str "b", V.str "c"] ++ [V.str (toldName kind)] = Nm.map V.str := by rw [eNm]; rfl
              refine ⟨g.regs, _, rfl, .inl (G.regsT _), _, rfl, kind, rfl, hk, (by show 4 ≤ sizeLine; decide), fun tt htt => ⟨tt, rfl, ⟨_, .inl (.inl upd_same)⟩, ?_⟩⟩
              have nltt : lt ≠ tt := ne_of_none hl7 htt
              rw [eN]
              have s8 := same_new (o := .tup (Nm.map V.str)) (Same.refl H7) htt
              have htt8 : upd H7 tt (.tup (Nm.map V.str)) tt = some (.tup (Nm.map V.str)) := upd_same
              generalize upd H7 tt (.tup (Nm.map V.str)) = H8 at *
              refine for_tup (xs := Nm.map V.str) (fun i σ H9 => ∃ v11 v12 : Option V, σ = [some (.str kind), some (.ref la), some (.int most), some (.ref np), some (.ref f1), some (.ref f2), some (.ref q), some (.ref lt), some (.ref l), some (.bl pw.2), some (.ref D), v11, v12] ∧ But lt H8 H9 ∧ H9 lt = some (.lst (((L0 ++ lateSg ss) ++ (Nm.take i).flatMap (lateNm ss)).map fun n : Nat => V.int n)))
                ⟨_, _, rfl, But.refl, by rw [List.take_zero, List.flatMap_nil, List.append_nil]; exact s8 _ _ hl7⟩ (fun i σ H9 _ ⟨_, _, _, b, _⟩ => .inl (.inl (b _ _ htt8 nltt.symm))) ?_ ?_
              · rintro i xn σ H9 hxn ⟨v11, v12, rfl, b9, hl9⟩
                obtain ⟨nm, hnm, rfl⟩ : ∃ y, Nm[i]? = some y ∧ xn = .str y := by
                  rw [List.getElem?_map] at hxn
                  cases e : Nm[i]? with
                  | none => rw [e] at hxn; cases hxn
                  | some y => rw [e] at hxn; cases hxn; exact ⟨y, rfl, rfl⟩
                have hi4 : i < 4 := by rw [← lNm]; exact (List.getElem?_eq_some_iff.mp hnm).1
                have hD9 : H9 D = some (.lst dvs) := b9 _ _ (s8 _ _ hD7) nD
                have nelt : ∀ c xs, H8 c = some (.tup xs) → c ≠ lt := fun c xs h z => by
                  have := s8 _ _ hl7
                  rw [← z, h] at this; cases this
                have dv9 : SetsAt H9 ss dvs := dv7.stab fun c xs h => b9 _ _ (s8 _ _ h) (nelt c xs (s8 _ _ h))
                dsimp only [gName]
                refine ⟨_, rfl, .inl ⟨rfl, _, .inl (.inl hl9)⟩, _, rfl, D, rfl, ⟨_, .inl (.inl hD9)⟩, fun D3 hD3 => ?_⟩
                refine lc_list (K := K) (a := D) (xs := dvs) (fun c HA => Same H9 HA ∧ HA D3 = some (.lst ((((ss.take c).filter fun s => decide (s.1 = nm)).map fun s => s.2.2).map fun n : Nat => V.int n))) ⟨same_new (Same.refl _) hD3, upd_same⟩ (fun c HA _ ⟨s, _⟩ => .inl (.inl (s _ _ hD9))) ?_ ?_
                · rintro c xv HA hxv ⟨sA, hDA⟩
                  obtain ⟨st, hst, pr, q2, sg, nu, rfl, hpr9, esg⟩ := dv9.get hxv
                  have hcl : c < dvs.length := (List.getElem?_eq_some_iff.mp hxv).1
                  have hpr := sA _ _ hpr9
                  have etake : ((ss.take (c + 1)).filter fun s => decide (s.1 = nm)).map (fun s => s.2.2) = ((ss.take c).filter fun s => decide (s.1 = nm)).map (fun s => s.2.2) ++ (if st.1 = nm then [st.2.2] else []) := by
                    rw [List.take_add_one, hst, List.filter_append, List.map_append]
                    by_cases e : st.1 = nm <;> simp [e]
                  refine ⟨rfl, _, rfl, pr, _, _, _, rfl, rfl, .inl (.inl hpr), atI_nat (j := 2) rfl, _, rfl, rfl, _, rfl, ?_⟩
                  by_cases e : st.1 = nm
                  · rw [decide_eq_true (by rw [e])]
                    rw [if_pos e] at etake
                    refine iteT ⟨_, rfl, pr, _, _, _, rfl, rfl, .inl (.inl hpr), atI_nat (j := 1) rfl, _, hDA, ?_, same_put sA hD3, ?_⟩
                    · rw [List.length_map, List.length_map]
                      have := List.length_filter_le (fun s : SetR => decide (s.1 = nm)) (ss.take c)
                      rw [List.length_take] at this
                      omega
                    · rw [etake, upd_same]; simp
                  · rw [decide_eq_false (fun z => e (V.str.inj z))]
                    rw [if_neg e, List.append_nil] at etake
                    exact iteF ⟨sA, by rw [etake]; exact hDA⟩
                · rintro HA ⟨sA, hDA⟩
                  rw [show ss.take dvs.length = ss from by rw [List.take_of_length_le]; rw [dv9.length]; exact Nat.le_refl _] at hDA
                  refine ⟨_, rfl, _, _, rfl, rfl, _, rfl, D3, _, rfl, .inl (.inl hDA), fun p3 hp3 => ?_⟩
                  rw [cutV_map, show cutL ((ss.filter fun s => decide (s.1 = nm)).map fun s => s.2.2) (some 3) (some (3 + 1)) = lateNm ss nm from rfl]
                  have hlA := sA _ _ hl9
                  have nlt3 : lt ≠ p3 := ne_of_none hlA hp3
                  refine ⟨lt, p3, _, (lateNm ss nm).map fun n : Nat => V.int n, rfl, rfl, by rw [upd_ne nlt3]; exact hlA, upd_same, ?_, _, _, rfl, ?_, ?_⟩
                  · have h1 : (lateNm ss nm).length ≤ 1 := cutL_one _ 3
                    have h2 : (lateSg ss).length ≤ 1 := cutL_one _ 6
                    have h3 : ((Nm.take i).flatMap (lateNm ss)).length ≤ (Nm.take i).length * 1 := flatMap_le fun x _ => cutL_one _ 3
                    rw [List.length_take] at h3
                    rw [List.length_map, List.length_map, List.length_append, List.length_append]
                    have : min i Nm.length ≤ 4 := by rw [lNm]; exact Nat.min_le_right _ _
                    omega
                  · exact ((b9.same sA).new hp3).put
                  · rw [upd_same, ← List.map_append, List.append_assoc (L0 ++ lateSg ss), show Nm.take (i + 1) = Nm.take i ++ [nm] from by rw [List.take_add_one, hnm]; rfl, List.flatMap_append, List.flatMap_singleton]
              · rintro σ H9 ⟨v11, v12, rfl, b9, hl9⟩
                rw [List.length_map, List.take_length] at hl9
                have bb : But lt H4 H9 := fun c u h n => b9 _ _ (s8 _ _ (b7 _ _ h n)) n
                refine ⟨_, _, _, _, _, rfl, ?_, bb _ _ hp4 ?_, ?_, ?_⟩
                · intro c u h
                  exact b9 _ _ (s8 _ _ (s7 _ _ h)) (ne_of_none h hlt)
                · intro z
                  rw [z, hl4] at hp4
                  have e : (L0.map fun n : Nat => V.int n) = ws := by injection (Option.some.inj hp4)
                  have := List.mem_of_getElem? hx
                  rw [← e] at this
                  obtain ⟨n, _, hn⟩ := List.mem_map.mp this
                  cases hn
                · exact hws4.go rh_stab rph_stab ⟨fun c xs h => bb _ _ h (fun z => by rw [z, hl4] at h; cases h), fun l ys h n => ⟨bb _ _ h (fun z => n (by rw [z]; simp)), n⟩⟩
                · rw [hl9, show W.take (j + 1) = W.take j ++ [pw] from by rw [List.take_add_one, hpj]; rfl]
                  unfold lateAll at eL0 ⊢
                  rw [List.flatMap_append, List.flatMap_singleton, ← eL0, eNm, ess]
                  unfold lateW
                  rw [List.append_assoc]
        · rintro σ H4 ⟨v8, v9, v10, v11, v12, rfl, s4, hp4, hws4, hl4⟩
          rw [show W.take ws.length = W from by rw [List.take_of_length_le]; rw [hws4.length]; exact Nat.le_refl _] at hl4
          exact ⟨v8, v9, v10, v11, v12, rfl, s4, hl4⟩
      · rintro σ2 H2 ⟨v8, v9, v10, v11, v12, rfl, s2, hl2⟩
        obtain ⟨Lx, eLx⟩ : ∃ Lx, Lx = lateAll (toldName kind) W := ⟨_, rfl⟩
        rw [← eLx] at hl2 kl
        have lLx : Lx.length ≤ 2 ^ 20 * 5 := by
          rw [eLx]
          refine Nat.le_trans (flatMap_le (b := 5) fun p _ => ?_) (Nat.mul_le_mul_right _ lenW)
          unfold lateW
          rw [List.length_append]
          have h1 : (lateSg (p.1.filterMap setOf)).length ≤ 1 := cutL_one _ 6
          have h2 : ((regs ++ [toldName kind]).flatMap (lateNm (p.1.filterMap setOf))).length ≤ (regs ++ [toldName kind]).length * 1 := flatMap_le fun x _ => cutL_one _ 3
          have h3 : (regs ++ [toldName kind]).length = 4 := rfl
          omega
        have mil : (6000000 : Nat) < sizeLine := by decide
        refine ⟨_, rfl, lt, _, rfl, .inl (.inl (.inl hl2)), _, _, rfl, rfl, _, rfl, ?_⟩
        by_cases c : Lx = []
        · rw [if_pos c] at kl
          rw [decide_eq_false (by rw [c]; decide)]
          exact iteF ⟨_, rfl, kl H2 q vs (x1.trans (ExtN.of s2)) (t1.ext s2) (s2 _ _ hq) (RwsAt.stab rh_stab rph_stab (TupX.of s2) _ hrows)⟩
        · rw [if_neg c] at kl
          have pos : 0 < Lx.length := List.length_pos_iff.mpr c
          rw [decide_eq_true (by rw [List.length_map]; omega)]
          refine iteT ⟨_, rfl, lt, rfl, ⟨_, .inl (.inl hl2)⟩, fun D4 hD4 => ?_⟩
          refine lc_list (K := K) (a := lt) (xs := Lx.map fun n : Nat => V.int n) (fun c HA => Same H2 HA ∧ HA D4 = some (.lst ((Lx.take c).map fun n : Nat => V.int n))) ⟨same_new (Same.refl _) hD4, upd_same⟩ (fun c HA _ ⟨s, _⟩ => .inl (.inl (s _ _ hl2))) ?_ ?_
          · rintro c xv HA hxv ⟨sA, hDA⟩
            obtain ⟨nn, hnn, rfl⟩ : ∃ y, Lx[c]? = some y ∧ xv = .int y := by
              rw [List.getElem?_map] at hxv
              cases e : Lx[c]? with
              | none => rw [e] at hxv; cases hxv
              | some y => rw [e] at hxv; cases hxv; exact ⟨y, rfl, rfl⟩
            have hcl := (List.getElem?_eq_some_iff.mp hnn).1
            refine ⟨rfl, _, rfl, .inl ⟨_, rfl, _, hDA, ?_, same_put sA hD4, ?_⟩⟩
            · rw [List.length_map, List.length_take]; omega
            · rw [upd_same, List.take_add_one, hnn]; simp
          · rintro HA ⟨sA, hDA⟩
            rw [List.length_map, List.take_length] at hDA
            refine ⟨D4, Lx.map fun n : Nat => (n : Int), rfl, .inl (.inl (by rw [hDA, List.map_map]; rfl)), by rw [List.length_map]; exact pos, fun m hm hmin => ⟨rfl, fun dd hdd => ?_⟩⟩
            obtain ⟨mn, hmn, rfl⟩ := List.mem_map.mp hm
            have s9 : Same H' (upd HA dd (.xd [("line", .int (mn : Int))])) := same_new (s2.trans sA) hdd
            exact kl _ dd mn (x1.trans (ExtN.of s9)) (t1.ext s9) hmn (fun y hy => by
              have := hmin y (List.mem_map.mpr ⟨y, hy, rfl⟩)
              omega) upd_same
end
end Tb

set_option Elab.async false
set_option linter.all false
set_option maxRecDepth 100000
set_option maxHeartbeats 3999000
namespace Tb
open PySem PySem.Spec PyProof.Rows L2 LamX NdefX
open PySem.W (Frag)
open StX (pa_star tStar)
open C8 (pss_cut tCut)
/-- of the class of head codes -/
structure CdT (K : Frag) (C : Addr) : Prop where
  cl : Cls K C
  nA : NoAttr K C "part"
  nK : NoAttr K C "kind"
  nT : NoAttr K C "text"
  nL : NoAttr K C "own_lines"
  nB : NoAttr K C "own_tables"
  nR : NoAttr K C "rows"
def linesOf (text : Str) : List Str := if text = "" then [] else Txt.split text "\n"
def cdF (part kind text : V) (la ot : Addr) : List (Str × V) := [("part", part), ("kind", kind), ("text", text), ("own_lines", .ref la), ("own_tables", .ref ot)]
def spCode (K : Frag) (C : Addr) : Sp := fun vs H Q _ => ∃ (x dx ka : Addr) (part kind text : Str) (kinds : List Str) (most : Int), vs = [.ref x, .str part, .str kind, .ref ka, .str text, .int most] ∧ H x = some (.ins C dx []) ∧ SqT K H ka (kinds.map V.str) ∧ kind ∈ kinds ∧ text.length + 2 ≤ sizeLine ∧ ((linesOf text).length : Int) ≤ most ∧
  ∀ H' la ot, But x H H' → H' x = some (.ins C dx (cdF (.str part) (.str kind) (.str text) la ot)) → H' la = some (.lst ((linesOf text).map V.str)) → Q .non H'
section
variable {P : Program} {w : World} {K : Frag} {mg : Str → Option Value} {base : Heap} {B C CB CT CR CK : Addr} {tk : Nat → Tok} {g : GA}
theorem ok_code {f : Addr} {fd : FuncData} (F : Fun K "__init__" "CodeText.__init__" s_CodeText_init f fd) (T : Bl mg) (TC : CdT K C) (eBadKind : ErrAt P K mg B "BadKind" CK ["kind"]) (eTooMany : ErrAt P K mg B "TooMany" CT ["what", "many", "most"]) : FnOk P w K mg base (L2.CX P w) 3 f fd ["self", "part", "kind", "kinds", "text", "most_lines"] (spCode K C) := by
  refine F.okX sc_CodeText_init (fun vs H Q E h => ?_) (fun cdv A outer s H vs Q E hr h => ?_)
  · obtain ⟨x, dx, ka, part, kind, text, kinds, most, rfl, _⟩ := h; rfl
  · obtain ⟨x, dx, ka, part, kind, text, kinds, most, rfl, hx, hka, hk, ht, hm, k⟩ := h
    refine ⟨_, (pss_cons (ps_if (PW.pt (pw_or (pt_not (pt_val (pe_callB call_isi (by rfl) T.isinstance (by decide +kernel) (pa_cons (pv 2) (pa_cons (pe_bltn (v := .ty "str") (by rfl) T.str PyProof.Rows.boot_str rfl) pa_nil))))) (pw_or1 (pt_cmpR op_notIn_seq (pv 2) (pv 3) (by first | rfl | exact nomark _)))))
        (pss_one (ps_raise rfl (takes_of rfl rfl rfl rfl) (pmk_x eBadKind.has (hr.mono (by first | decide | omega)) rfl (pa_cons (pv 2) pa_nil))))
        pss_nil)
      (pss_cons (ps_fld (pv 0) (pv 1) rfl)
      (pss_cons (ps_fld (pv 0) (pv 2) rfl)
      (pss_cons (ps_fld (pv 0) (pv 4) rfl)
      (pss_cons (ps_fld (pv 0) (pe_ifExp (pt_cmpR op_ne (pv 4) pe_str (nomark _)) (pe_split (pv 4) pe_str) (pe_lst pa_nil)) rfl)
      (pss_cons (ps_if (pt_cmpR op_gt (pe_callB call_len_seq (by rfl) T.len PySem.boot_len (pa_cons (pe_fld (pv 0) rfl) pa_nil)) (pv 5) (nomark _))
        (pss_one (ps_raise rfl (takes_of rfl rfl rfl rfl) (pmk_x eTooMany.has (hr.mono (by first | decide | omega)) rfl (pa_cons pe_str (pa_cons (pe_callB call_len_seq (by rfl) T.len PySem.boot_len (pa_cons (pe_fld (pv 0) rfl) pa_nil)) (pa_cons (pv 5) pa_nil))))))
        pss_nil)
      (pss_one (ps_fld (pv 0) pe_dnewK rfl)))))))), ?_⟩
    refine tOr_by false false (fun Q' q => ⟨_, rfl, _, _, _, _, true, rfl, .ty _, .base (.str kind), kit_ty (by decide +kernel), _, rfl, q⟩) (fun _ Q' q => ⟨_, rfl, _, rfl, ka, _, rfl, .inr hka, rfl, flat_strs kinds, _, rfl, by
      rw [inV_str, decide_eq_true hk]; exact q⟩) ?_
    refine iteF ?_
    refine ⟨_, rfl, _, rfl, x, C, dx, _, rfl, hx, TC.cl, TC.nA, (by show 0 < 1000; decide), ?_⟩
    refine ⟨_, rfl, _, rfl, x, C, dx, _, rfl, upd_same, TC.cl, TC.nK, (by show 1 < 1000; decide), ?_⟩
    refine ⟨_, rfl, _, rfl, x, C, dx, _, rfl, upd_same, TC.cl, TC.nT, (by show 2 < 1000; decide), ?_⟩
    rw [upd_upd, upd_upd]
    obtain ⟨H1, eH1⟩ : ∃ H1, H1 = upd H x (.ins C dx [("part", .str part), ("kind", .str kind), ("text", .str text)]) := ⟨_, rfl⟩
    have st1 : H1 x = some (.ins C dx [("part", .str part), ("kind", .str kind), ("text", .str text)]) := by rw [eH1]; exact upd_same
    refine ⟨_, rfl, rfl, _, rfl, ?_⟩
    rw [show upd H x (.ins C dx (putF "text" (.str text) (putF "kind" (.str kind) (putF "part" (.str part) [])))) = H1 from eH1.symm]
    by_cases c : text = ""
    · rw [decide_eq_true (by rw [c])]
      refine iteF ⟨(by show 0 ≤ sizeLine; decide), fun la hla => ?_⟩
      rw [show upd H1 la (.lst []) = upd H1 la (.lst ((linesOf text).map V.str)) from by unfold linesOf; rw [if_pos c]; rfl]
      have b1 : But x H (upd H1 la (.lst ((linesOf text).map V.str))) := (show But x H H1 from eH1 ▸ But.put But.refl).new hla
      have hx1 : upd H1 la (.lst ((linesOf text).map V.str)) x = some (.ins C dx [("part", .str part), ("kind", .str kind), ("text", .str text)]) := by rw [upd_ne (ne_of_none st1 hla)]; exact st1
      have hl1 : upd H1 la (.lst ((linesOf text).map V.str)) la = some (.lst ((linesOf text).map V.str)) := upd_same
      have nla : la ≠ x := fun z => by rw [z, st1] at hla; cases hla
      generalize upd H1 la (.lst ((linesOf text).map V.str)) = H2 at *
      refine ⟨_, rfl, x, C, dx, _, rfl, hx1, TC.cl, TC.nL, (by show 3 < 1000; decide), ?_⟩
      have hl3 : upd H2 x (.ins C dx (putF "own_lines" (.ref la) [("part", .str part), ("kind", .str kind), ("text", .str text)])) la = some (.lst ((linesOf text).map V.str)) := by rw [upd_ne nla]; exact hl1
      refine ⟨_, rfl, x, C, dx, _, _, rfl, upd_same, TC.cl, TC.nL, rfl, la, _, rfl, .inl (.inl (.inl hl3)), _, rfl, _, _, rfl, rfl, _, rfl, ?_⟩
      rw [decide_eq_false (by rw [List.length_map]; omega)]
      refine iteF fun ot hot => ?_
      refine ⟨_, rfl, x, C, dx, _, rfl, (by rw [upd_ne (ne_of_none upd_same hot)]; exact upd_same), TC.cl, TC.nB, (by show 4 < 1000; decide), ?_⟩
      refine k _ la ot ?_ upd_same ?_
      · exact ((b1.put).new hot).put
      · rw [upd_ne nla, upd_ne (ne_of_none hl3 hot)]; exact hl3
    · rw [decide_eq_false (fun z => c (V.str.inj z))]
      refine iteT ⟨_, rfl, ⟨_, rfl⟩, _, _, rfl, rfl, (by decide), ht, fun la hla => ?_⟩
      rw [show (Txt.split text "\n").map V.str = (linesOf text).map V.str from by unfold linesOf; rw [if_neg c]]
      have b1 : But x H (upd H1 la (.lst ((linesOf text).map V.str))) := (show But x H H1 from eH1 ▸ But.put But.refl).new hla
      have hx1 : upd H1 la (.lst ((linesOf text).map V.str)) x = some (.ins C dx [("part", .str part), ("kind", .str kind), ("text", .str text)]) := by rw [upd_ne (ne_of_none st1 hla)]; exact st1
      have hl1 : upd H1 la (.lst ((linesOf text).map V.str)) la = some (.lst ((linesOf text).map V.str)) := upd_same
      have nla : la ≠ x := fun z => by rw [z, st1] at hla; cases hla
      generalize upd H1 la (.lst ((linesOf text).map V.str)) = H2 at *
      refine ⟨_, rfl, x, C, dx, _, rfl, hx1, TC.cl, TC.nL, (by show 3 < 1000; decide), ?_⟩
      have hl3 : upd H2 x (.ins C dx (putF "own_lines" (.ref la) [("part", .str part), ("kind", .str kind), ("text", .str text)])) la = some (.lst ((linesOf text).map V.str)) := by rw [upd_ne nla]; exact hl1
      refine ⟨_, rfl, x, C, dx, _, _, rfl, upd_same, TC.cl, TC.nL, rfl, la, _, rfl, .inl (.inl (.inl hl3)), _, rfl, _, _, rfl, rfl, _, rfl, ?_⟩
      rw [decide_eq_false (by rw [List.length_map]; omega)]
      refine iteF fun ot hot => ?_
      refine ⟨_, rfl, x, C, dx, _, rfl, (by rw [upd_ne (ne_of_none upd_same hot)]; exact upd_same), TC.cl, TC.nB, (by show 4 < 1000; decide), ?_⟩
      refine k _ la ot ?_ upd_same ?_
      · exact ((b1.put).new hot).put
      · rw [upd_ne nla, upd_ne (ne_of_none hl3 hot)]; exact hl3
end
end Tb

set_option Elab.async false
set_option linter.all false
set_option maxRecDepth 100000
set_option maxHeartbeats 3999000
namespace Tb
open PySem PySem.Spec PyProof.Rows L2 LamX NdefX
open PySem.W (Frag)
open StX (pa_star tStar)
open C8 (pss_cut tCut)
abbrev s_HeadCode_init : Stmt := inClass (topS 37) 0
abbrev nm_HeadCode_init : List Str := ["self", "kind", "text", "__class__"]
/-- all but x and the tables stay -/
def ExtB (x : Addr) (H H' : Hp) : Prop := ∀ b o, H b = some o → b ≠ x → (∀ ps, o ≠ .tbl ps) → H' b = some o
def HeadI (CB CT CR Pt x : Addr) (d : Nat) (kind : Str) (H : Hp) (Q : VK) (E : XK) : Out HR Unit → Prop
  | .ok rows _ _ i => if (i : Int) ≤ 4 then (nIfs rows ≤ 20 ∧ szRs rows ≤ 1000 ∧ dpRs rows ≤ d) ∧
      (if lateAll (toldName kind) (waysW ends2 tagH rows [([], false)]) = [] then ∀ H', ExtB x H H' → Tabs (tabH Pt) H' → Q .non H'
       else ∀ H' dd (m : Nat), ExtB x H H' → Tabs (tabH Pt) H' → m ∈ lateAll (toldName kind) (waysW ends2 tagH rows [([], false)]) → (∀ y ∈ lateAll (toldName kind) (waysW ends2 tagH rows [([], false)]), m ≤ y) → H' dd = some (.xd [("line", .int m)]) → E (.ref CR) (some dd) H')
      else ∀ H' dd, ExtB x H H' → Tabs (tabH Pt) H' → H' dd = some (.xd [("most", .int 4), ("many", .int i), ("what", .str "ifs")]) → E (.ref CT) (some dd) H'
  | .bad k => ∀ H' dd, ExtB x H H' → Tabs (tabH Pt) H' → H' dd = some (.xd [("line", .int k)]) → E (.ref CB) (some dd) H'
def spHead (C CB CT CR Pt : Addr) (d : Nat) : Sp := fun vs H Q E => ∃ (x dx : Addr) (kind text : Str) (out : Out HR Unit), vs = [.ref x, .str kind, .str text] ∧ H x = some (.ins C dx []) ∧ kind ∈ kinds9 ∧ text.length + 2 ≤ sizeLine ∧ (∀ t ∈ linesOf text, t.length + 2 ≤ sizeLine) ∧ (linesOf text).length ≤ 20 ∧ Tabs (tabH Pt) H ∧
  RB (linesOf text) (rowFh kind) (partFh kind) d false 0 0 out ∧ HeadI CB CT CR Pt x d kind H Q E out
theorem tabs_butI {Tt : List (Addr × Str)} {H H' : Hp} {x C dx : Addr} {fs : List (Str × V)} (t : Tabs Tt H) (hx : H x = some (.ins C dx fs)) (b : But x H H') : Tabs Tt H' := fun p hp => by
  obtain ⟨ps, h1, h2, h3⟩ := t p hp
  refine ⟨ps, b _ _ h1 (fun z => by rw [z, hx] at h1; cases h1), h2, fun pos cv hcv => ?_⟩
  obtain ⟨c, e, h4⟩ := h3 pos cv hcv
  exact ⟨c, e, b _ _ h4 (fun z => by rw [z, hx] at h4; cases h4)⟩
section
variable {P : Program} {w : World} {K : Frag} {mg : Str → Option Value} {base : Heap} {B C CB CT CR CK : Addr} {tk : Nat → Tok} {g : GA}
theorem ok_head {fI fB cc cda Pt : Addr} {fd fdB : FuncData} {k d : Nat} (TS : SupFn P K C fI fB "HeadCode.__init__" s_HeadCode_init fd cc cda) (hm : mg "super" = none) (T : Bl mg) (TC : CdT K C) (G : Glob K w mg tk g) (hk3 : 3 ≤ k)
    (FB : FnOk P w K mg base (L2.CX P w) 3 fB fdB ["self", "part", "kind", "kinds", "text", "most_lines"] (spCode K C)) (hbB : Binds K fdB ["self", "part", "kind", "kinds", "text", "most_lines"] [])
    (hread_head : HasE P w K mg base "read_head" k (spReadHead K CB CT CR Pt d)) : FnOk P w K mg base (L2.CX P w) (k + 1) fI fd ["self", "kind", "text"] (spHead C CB CT CR Pt d) := by
  refine ok_super (k := k) (N := nm_HeadCode_init) TS ⟨⟨_, _, _, _, _, rfl, rfl⟩, nscope_by (by decide +kernel), by decide +kernel, ⟨_, rfl, rfl⟩, rfl, by show 5 ≤ 20; decide⟩ hm (FB.mono hk3) hbB (fun vs H Q E h => ?_) (fun env q4 => rfl) (fun env => rfl) (fun env q4 => rfl) (fun env q0 q1 q2 q4 l => rfl) (fun A outer s H vs Q E hr h => ?_)
  · obtain ⟨x, dx, kind, text, out, rfl, _⟩ := h; rfl
  · obtain ⟨x, dx, kind, text, out, rfl, hx, hk, ht, hl, hn, hT, hrb, kk⟩ := h
    refine ⟨x, _, _, _, rfl, ⟨dx, _, hx⟩, (pa_cons pe_str (pa_cons (pv 1) (pa_cons (pe_glob (v := .ref _) (by rfl) G.kinds rfl) (pa_cons (pv 2) (pa_cons (pe_glob (v := .int _) (by rfl) G.lines ⟨_, rfl⟩) pa_nil))))),
      pss_one (ps_fld (pv 0) (pe_fnX hread_head hr (passes_call (takes_of rfl rfl rfl rfl) (fun _ _ _ _ z => z)) rfl (pa_cons (pv 1) (pa_cons (pe_fld (pv 0) rfl) (pa_cons (pe_glob (v := .int _) (by rfl) G.ifs ⟨_, rfl⟩) pa_nil)))) rfl), ?_⟩
    refine ⟨_, rfl, _, rfl, x, dx, g.kinds, "heads", kind, text, kinds9, 20, rfl, hx, G.kindsT _, hk, ht, by omega, fun H1 la ot b1 hx1 hl1 => ?_⟩
    have x1 : ExtB x H H1 := fun b o h n _ => b1 b o h n
    have t1 := tabs_butI hT hx b1
    refine ⟨_, rfl, _, rfl, x, C, dx, _, _, rfl, hx1, TC.cl, TC.nL, rfl, kind, la, 4, linesOf text, out, rfl, hk, hl, by omega, .inl (.inl hl1), t1, hrb, ?_⟩
    have tr : ∀ {H'}, ExtN H1 H' → ExtB x H H' := fun e b o h n z => e b o (b1 b o h n) z
    cases out with
    | bad m => exact fun H' dd e t hd => kk H' dd (tr e) t hd
    | ok rows wd n i =>
      show if (i : Int) ≤ 4 then _ else _
      have kk : if (i : Int) ≤ 4 then _ else _ := kk
      by_cases c : (i : Int) ≤ 4
      · rw [if_pos c] at kk ⊢
        refine ⟨kk.1, ?_⟩
        have kk := kk.2
        by_cases c2 : lateAll (toldName kind) (waysW ends2 tagH rows [([], false)]) = []
        · rw [if_pos c2] at kk ⊢
          intro H' q vs e t hq hrows
          have hx2 := e _ _ hx1 (fun _ z => nomatch z)
          refine ⟨_, rfl, x, C, dx, _, rfl, hx2, TC.cl, TC.nR, (by show 5 < 1000; decide), ?_⟩
          refine kk _ (fun b o h n z => ?_) (tabs_butI t hx2 (But.put But.refl))
          rw [upd_ne n]; exact tr e b o h n z
        · rw [if_neg c2] at kk ⊢
          exact fun H' dd m e t h1 h2 hd => kk H' dd m (tr e) t h1 h2 hd
      · rw [if_neg c] at kk ⊢
        exact fun H' dd e t hd => kk H' dd (tr e) t hd
end
end Tb

set_option Elab.async false
set_option linter.all false
set_option maxRecDepth 100000
set_option maxHeartbeats 3999000
namespace Tb
open PySem PySem.Spec PyProof.Rows L2
open PySem.W (Frag)
/-! ### texts as trees -/
inductive Tr where
  | row (t : Str)
  | iff (t : Str) (a : List Tr) (h : Bool) (b : List Tr)
mutual
def flR : Tr → List Str
  | .row t => [t]
  | .iff t a h b => t :: (flRs a ++ ((if h then ("else" : Str) :: flRs b else []) ++ [("end" : Str)]))
def flRs : List Tr → List Str
  | [] => []
  | r :: rs => flR r ++ flRs rs
end
mutual
def nT : Tr → Nat
  | .row _ => 0
  | .iff _ a _ b => 1 + nTs a + nTs b
def nTs : List Tr → Nat
  | [] => 0
  | r :: rs => nT r + nTs rs
end
mutual
def dT : Tr → Nat
  | .row _ => 0
  | .iff _ a _ b => 1 + max (dTs a) (dTs b)
def dTs : List Tr → Nat
  | [] => 0
  | r :: rs => max (dT r) (dTs rs)
end
mutual
/-- rows and tests as they should be -/
def okT (pr pt : Str → Prop) : Tr → Prop
  | .row t => pr t
  | .iff t a h b => pt t ∧ okTs pr pt a ∧ okTs pr pt b ∧ (h = false → b = [])
def okTs (pr pt : Str → Prop) : List Tr → Prop
  | [] => True
  | r :: rs => okT pr pt r ∧ okTs pr pt rs
end
/-- a row that can be read -/
def rdRow (kind t : Str) : Prop := ¬ isEnd t ∧ ¬ isIf t ∧ (rowOf kind t).isSome = true
def rdTest (kind t : Str) : Prop := ¬ isEnd t ∧ isIf t ∧ ∃ ps : List Unit, partsOf (partFh kind) (cutS t (some 3) none) = ps.map some ∧ ps.length ≤ 4
def unitsOf (kind t : Str) : List Unit := (partsOf (partFh kind) (cutS t (some 3) none)).map fun _ => ()
mutual
def rwR (kind : Str) : Nat → Tr → Rw HR Unit
  | n, .row t => .row ((rowOf kind t).getD (.word "quit"), n + 1)
  | n, .iff t a h b => .iff (n + 1) (unitsOf kind t) (rwRs kind (n + 1) a) (rwRs kind (n + 1 + (flRs a).length + 1) b)
def rwRs (kind : Str) : Nat → List Tr → List (Rw HR Unit)
  | _, [] => []
  | n, r :: rs => rwR kind n r :: rwRs kind (n + (flR r).length) rs
end
theorem units_eq {β : Type} {l : List (Option Unit)} {ps : List Unit} (h : l = ps.map some) : l.map (fun _ => ()) = ps := by
  subst h
  rw [List.map_map]
  have : ((fun _ => ()) ∘ some : Unit → Unit) = id := by funext x; rfl
  rw [this, List.map_id]
mutual
theorem nIf_rw (kind : Str) : ∀ (n : Nat) (r : Tr), nIf (rwR kind n r) = nT r
  | n, .row t => by unfold rwR nT nIf; rfl
  | n, .iff t a h b => by unfold rwR nT nIf; rw [nIfs_rw, nIfs_rw]
theorem nIfs_rw (kind : Str) : ∀ (n : Nat) (rs : List Tr), nIfs (rwRs kind n rs) = nTs rs
  | n, [] => by unfold rwRs nTs nIfs; rfl
  | n, r :: rs => by unfold rwRs nTs nIfs; rw [nIf_rw, nIfs_rw]
end
mutual
theorem dpR_rw (kind : Str) : ∀ (n : Nat) (r : Tr), dpR (rwR kind n r) = dT r
  | n, .row t => by unfold rwR dT dpR; rfl
  | n, .iff t a h b => by unfold rwR dT dpR; rw [dpRs_rw, dpRs_rw]
theorem dpRs_rw (kind : Str) : ∀ (n : Nat) (rs : List Tr), dpRs (rwRs kind n rs) = dTs rs
  | n, [] => by unfold rwRs dTs dpRs; rfl
  | n, r :: rs => by unfold rwRs dTs dpRs; rw [dpR_rw, dpRs_rw]
end
mutual
theorem szR_rw (kind : Str) {pr pt : Str → Prop} : ∀ (n : Nat) (r : Tr), okT pr pt r → szR (rwR kind n r) ≤ (flR r).length
  | n, .row t, _ => by unfold rwR flR szR; simp
  | n, .iff t a h b, o => by
    unfold okT at o
    unfold rwR flR szR
    have h1 := szRs_rw kind (n + 1) a o.2.1
    have h2 := szRs_rw kind (n + 1 + (flRs a).length + 1) b o.2.2.1
    cases h
    · have e := o.2.2.2 rfl
      subst e
      rw [show szRs (rwRs kind (n + 1 + (flRs a).length + 1) []) = 0 from by unfold rwRs szRs; rfl]
      simp; omega
    · simp; omega
theorem szRs_rw (kind : Str) {pr pt : Str → Prop} : ∀ (n : Nat) (rs : List Tr), okTs pr pt rs → szRs (rwRs kind n rs) ≤ (flRs rs).length
  | n, [], _ => by unfold rwRs flRs szRs; simp
  | n, r :: rs, o => by
    unfold okTs at o
    unfold rwRs flRs szRs
    have h1 := szR_rw kind n r o.1
    have h2 := szRs_rw kind (n + (flR r).length) rs o.2
    rw [List.length_append]; omega
end
theorem Out.pre_ok {α β : Type} (acc : List (Rw α β)) (w : Str) (a i : Nat) : (Out.ok [] w a i).pre acc = .ok acc w a i := by
  show Out.ok (acc ++ []) w a i = _
  rw [List.append_nil]
/-- the lines from n on -/
def At (lines : List Str) (n : Nat) (xs : List Str) : Prop := ∃ pre post, lines = pre ++ (xs ++ post) ∧ pre.length = n
theorem At.app {lines xs ys : List Str} {n : Nat} (h : At lines n (xs ++ ys)) : At lines n xs ∧ At lines (n + xs.length) ys := by
  obtain ⟨pre, post, e, l⟩ := h
  exact ⟨⟨pre, ys ++ post, by rw [e]; simp, l⟩, ⟨pre ++ xs, post, by rw [e]; simp, by simp [l]⟩⟩
theorem At.head {lines xs : List Str} {n : Nat} {x : Str} (h : At lines n (x :: xs)) : lines[n]? = some x ∧ At lines (n + 1) xs := by
  obtain ⟨pre, post, e, l⟩ := h
  refine ⟨by rw [e, ← l]; simp, ⟨pre ++ [x], post, by rw [e]; simp, by simp [l]⟩⟩
section
variable {kind : Str} {lines : List Str}
mutual
theorem rb_row {d : Nat} {inner : Bool} : ∀ (r : Tr) (n ifs : Nat) (out : Out HR Unit), okT (rdRow kind) (rdTest kind) r → dT r ≤ d → At lines n (flR r) → RB lines (rowFh kind) (partFh kind) d inner (n + (flR r).length) (ifs + nT r) out → RB lines (rowFh kind) (partFh kind) d inner n ifs (out.pre [rwR kind n r])
  | .row t, n, ifs, out, o, hd, at_, h => by
    unfold okT at o
    unfold flR at at_
    obtain ⟨h1, h2, h3⟩ := o
    obtain ⟨a, ha⟩ := Option.isSome_iff_exists.mp h3
    unfold rwR
    refine RB.row at_.head.1 h1 h2 (a := ((rowOf kind t).getD (.word "quit"), n + 1)) ?_ ?_
    · unfold rowFh; rw [ha]; rfl
    · unfold flR nT at h; exact h
  | .iff t a hh b, n, ifs, out, o, hd, at_, h => by
    unfold okT at o
    obtain ⟨⟨h1, h2, ps, h3, h4⟩, oa, ob, hb⟩ := o
    unfold flR at at_
    obtain ⟨hn, at1⟩ := at_.head
    obtain ⟨atA, at2⟩ := at1.app
    unfold dT at hd
    obtain ⟨d', rfl⟩ : ∃ d', d = d' + 1 := ⟨d - 1, by omega⟩
    have eu : unitsOf kind t = ps := units_eq (β := Unit) h3
    have lenF : (flR (.iff t a hh b)).length = 1 + (flRs a).length + (if hh then 1 + (flRs b).length else 0) + 1 := by
      unfold flR
      cases hh <;> simp <;> omega
    rw [lenF] at h
    unfold nT at h
    unfold rwR
    rw [eu]
    cases hh with
    | false =>
      have e := hb rfl
      subst e
      have at2' : At lines (n + 1 + (flRs a).length) [("end" : Str)] := at2
      obtain ⟨hend, _⟩ := at2'.head
      have r1 : RB lines (rowFh kind) (partFh kind) d' true (n + 1) (ifs + 1) (.ok (rwRs kind (n + 1) a) "end" (n + 1 + (flRs a).length + 1) (ifs + 1 + nTs a)) := by
        have := rb_rows (inner := true) (d := d') a (n + 1) (ifs + 1) (.ok [] "end" (n + 1 + (flRs a).length + 1) (ifs + 1 + nTs a)) oa (by omega) atA (RB.stop hend (.inr rfl))
        have e2 : (Out.ok (α := HR) (β := Unit) [] "end" (n + 1 + (flRs a).length + 1) (ifs + 1 + nTs a)).pre (rwRs kind (n + 1) a) = .ok (rwRs kind (n + 1) a) "end" (n + 1 + (flRs a).length + 1) (ifs + 1 + nTs a) := Out.pre_ok _ _ _ _
        rw [e2] at this; exact this
      have ri := RI.one (partF := partFh kind) (t := cutS t (some 3) none) h3 h4 r1 (by decide)
      have e3 : rwRs kind (n + 1 + (flRs a).length + 1) [] = [] := by unfold rwRs; rfl
      rw [e3]
      refine RB.iff hn h1 h2 ri (by omega) ?_
      have e4 : n + 1 + (flRs a).length + 1 = n + (1 + (flRs a).length + (if false = true then 1 + (flRs []).length else 0) + 1) := by simp; omega
      have e5 : ifs + 1 + nTs a = ifs + (1 + nTs a + nTs []) := by unfold nTs; omega
      rw [e4, e5]; exact h
    | true =>
      have at2' : At lines (n + 1 + (flRs a).length) (("else" : Str) :: (flRs b ++ [("end" : Str)])) := at2
      obtain ⟨helse, at3⟩ := at2'.head
      obtain ⟨atB, at4⟩ := at3.app
      obtain ⟨hend, _⟩ := at4.head
      have r1 : RB lines (rowFh kind) (partFh kind) d' true (n + 1) (ifs + 1) (.ok (rwRs kind (n + 1) a) "else" (n + 1 + (flRs a).length + 1) (ifs + 1 + nTs a)) := by
        have := rb_rows (inner := true) (d := d') a (n + 1) (ifs + 1) (.ok [] "else" (n + 1 + (flRs a).length + 1) (ifs + 1 + nTs a)) oa (by omega) atA (RB.stop helse (.inl rfl))
        have e2 : (Out.ok (α := HR) (β := Unit) [] "else" (n + 1 + (flRs a).length + 1) (ifs + 1 + nTs a)).pre (rwRs kind (n + 1) a) = .ok (rwRs kind (n + 1) a) "else" (n + 1 + (flRs a).length + 1) (ifs + 1 + nTs a) := Out.pre_ok _ _ _ _
        rw [e2] at this; exact this
      have r2 : RB lines (rowFh kind) (partFh kind) d' true (n + 1 + (flRs a).length + 1) (ifs + 1 + nTs a) (.ok (rwRs kind (n + 1 + (flRs a).length + 1) b) "end" (n + 1 + (flRs a).length + 1 + (flRs b).length + 1) (ifs + 1 + nTs a + nTs b)) := by
        have := rb_rows (inner := true) (d := d') b (n + 1 + (flRs a).length + 1) (ifs + 1 + nTs a) (.ok [] "end" (n + 1 + (flRs a).length + 1 + (flRs b).length + 1) (ifs + 1 + nTs a + nTs b)) ob (by omega) atB (RB.stop hend (.inr rfl))
        have e2 : (Out.ok (α := HR) (β := Unit) [] "end" (n + 1 + (flRs a).length + 1 + (flRs b).length + 1) (ifs + 1 + nTs a + nTs b)).pre (rwRs kind (n + 1 + (flRs a).length + 1) b) = .ok (rwRs kind (n + 1 + (flRs a).length + 1) b) "end" (n + 1 + (flRs a).length + 1 + (flRs b).length + 1) (ifs + 1 + nTs a + nTs b) := Out.pre_ok _ _ _ _
        rw [e2] at this; exact this
      have ri := RI.two (partF := partFh kind) (t := cutS t (some 3) none) h3 h4 r1 r2 (by decide)
      refine RB.iff hn h1 h2 ri (by omega) ?_
      have e4 : n + 1 + (flRs a).length + 1 + (flRs b).length + 1 = n + (1 + (flRs a).length + (if true = true then 1 + (flRs b).length else 0) + 1) := by simp; omega
      have e5 : ifs + 1 + nTs a + nTs b = ifs + (1 + nTs a + nTs b) := by omega
      rw [e4, e5]; exact h
theorem rb_rows {d : Nat} {inner : Bool} : ∀ (rs : List Tr) (n ifs : Nat) (out : Out HR Unit), okTs (rdRow kind) (rdTest kind) rs → dTs rs ≤ d → At lines n (flRs rs) → RB lines (rowFh kind) (partFh kind) d inner (n + (flRs rs).length) (ifs + nTs rs) out → RB lines (rowFh kind) (partFh kind) d inner n ifs (out.pre (rwRs kind n rs))
  | [], n, ifs, out, o, hd, at_, h => by
    unfold rwRs
    rw [Out.pre_nil]
    unfold flRs nTs at h
    exact h
  | r :: rs, n, ifs, out, o, hd, at_, h => by
    unfold okTs at o
    unfold dTs at hd
    unfold flRs at at_
    obtain ⟨at1, at2⟩ := at_.app
    unfold rwRs
    have h' : RB lines (rowFh kind) (partFh kind) d inner (n + (flR r).length + (flRs rs).length) (ifs + nT r + nTs rs) out := by
      unfold flRs nTs at h
      rw [List.length_append] at h
      rw [Nat.add_assoc n, Nat.add_assoc ifs]; exact h
    have := rb_row r n ifs (out.pre (rwRs kind (n + (flR r).length) rs)) o.1 (by omega) at1 (rb_rows rs (n + (flR r).length) (ifs + nT r) out o.2 (by omega) at2 h')
    rw [Out.pre_pre] at this
    exact this
end
end
end Tb

set_option Elab.async false
set_option linter.all false
set_option maxRecDepth 100000
set_option maxHeartbeats 3999000
namespace Tb
open PySem PySem.Spec PyProof.Rows L2
open PySem.W (Frag)
/-! ### the law's own ways -/
def isEndW (w : List Nat) : Bool := decide (w.getLast? = some 0)
mutual
def lwR : Nat → Tr → List (List Nat)
  | n, .row t => if t = "quit" ∨ t = "no" then [[n + 1, 0]] else [[n + 1]]
  | n, .iff t a h b => (lwRs (n + 1) a [[]]).map (fun w => (n + 1) :: w) ++ (lwRs (n + 1 + (flRs a).length + (if h then 1 else 0)) b [[]]).map (fun w => (n + 1) :: w)
def lwRs : Nat → List Tr → List (List Nat) → List (List Nat)
  | _, [], f => f
  | n, r :: rs, f => lwRs (n + (flR r).length) rs (f.filter isEndW ++ (f.filter (fun w => !isEndW w)).flatMap fun w => (lwR n r).map fun t => w ++ t)
end
def lwStep (n : Nat) (r : Tr) (f : List (List Nat)) : List (List Nat) := f.filter isEndW ++ (f.filter (fun w => !isEndW w)).flatMap fun w => (lwR n r).map fun t => w ++ t
def ln : Rw HR Unit → Nat
  | .row (_, n) => n
  | .iff n _ _ _ => n
def lnW (p : List (Rw HR Unit) × Bool) : List Nat := p.1.map ln ++ (if p.2 then [0] else [])
def SetEq (f : List (List Nat)) (F : Ways HR Unit) : Prop := ∀ x, x ∈ f ↔ ∃ p ∈ F, lnW p = x
def PosW (F : Ways HR Unit) : Prop := ∀ p ∈ F, ∀ r ∈ p.1, 0 < ln r
/-- rows end a way just where they should -/
def tagRow (kind t : Str) : Prop := tagH ((rowOf kind t).getD (.word "quit"), 0) ∈ ends2 ↔ t = "quit" ∨ t = "no"
theorem tagH_line (a : HRow) (n m : Nat) : tagH (a, n) = tagH (a, m) := by cases a <;> rfl
theorem end_lnW {F : Ways HR Unit} (h : PosW F) {p : List (Rw HR Unit) × Bool} (hp : p ∈ F) : isEndW (lnW p) = p.2 := by
  unfold isEndW lnW
  cases e : p.2
  · simp only [Bool.false_eq_true, if_false, List.append_nil]
    rw [decide_eq_false_iff_not]
    intro z
    have := List.mem_of_getLast? z
    obtain ⟨r, hr, e0⟩ := List.mem_map.mp this
    have := h p hp r hr
    omega
  · simp
mutual
theorem pos_ext (kind : Str) : ∀ (n : Nat) (r : Tr) (w : List (Rw HR Unit)), (∀ r ∈ w, 0 < ln r) → PosW (extW ends2 tagH (rwR kind n r) w)
  | n, .row t, w, h => by
    unfold rwR extW
    intro p hp r hr
    rw [List.mem_singleton.mp hp] at hr
    rcases List.mem_append.mp hr with hr | hr
    · exact h r hr
    · rw [List.mem_singleton.mp hr]; show 0 < n + 1; omega
  | n, .iff t a hh b, w, h => by
    unfold rwR extW
    have h1 := pos_ways kind (n + 1) a [([], false)] (by intro p hp r hr; rw [List.mem_singleton.mp hp] at hr; cases hr)
    have h2 := pos_ways kind (n + 1 + (flRs a).length + 1) b [([], false)] (by intro p hp r hr; rw [List.mem_singleton.mp hp] at hr; cases hr)
    intro p hp r hr
    rcases List.mem_append.mp hp with hp | hp
    · obtain ⟨m, hm, rfl⟩ := List.mem_map.mp hp
      rcases List.mem_append.mp hr with hr | hr
      · exact h r hr
      · rcases List.mem_cons.mp hr with hr | hr
        · rw [hr]; show 0 < n + 1; omega
        · exact h1 m hm r hr
    · obtain ⟨m, hm, rfl⟩ := List.mem_map.mp hp
      rcases List.mem_append.mp hr with hr | hr
      · exact h r hr
      · rcases List.mem_cons.mp hr with hr | hr
        · rw [hr]; show 0 < n + 1; omega
        · exact h2 m hm r hr
theorem pos_ways (kind : Str) : ∀ (n : Nat) (rs : List Tr) (F : Ways HR Unit), PosW F → PosW (waysW ends2 tagH (rwRs kind n rs) F)
  | n, [], F, h => by unfold rwRs waysW; exact h
  | n, r :: rs, F, h => by
    unfold rwRs waysW
    refine pos_ways kind (n + (flR r).length) rs _ fun p hp r' hr => ?_
    obtain ⟨q, hq, hp⟩ := List.mem_flatMap.mp hp
    split at hp
    · rw [List.mem_singleton.mp hp] at hr; exact h q hq r' hr
    · exact pos_ext kind n r q.1 (h q hq) p hp r' hr
end
theorem pos_one : PosW [([], false)] := by intro p hp r hr; rw [List.mem_singleton.mp hp] at hr; cases hr
theorem set_one : SetEq [[]] [([], false)] := fun x => by
  constructor
  · intro h; exact ⟨_, List.mem_singleton.mpr rfl, (List.mem_singleton.mp h).symm⟩
  · rintro ⟨p, hp, rfl⟩; rw [List.mem_singleton.mp hp]; simp [lnW]
section
variable {kind : Str} {pt : Str → Prop}
mutual
theorem set_ext : ∀ (n : Nat) (r : Tr) (w : List (Rw HR Unit)), okT (tagRow kind) pt r → ∀ x, x ∈ (lwR n r).map (fun t => w.map ln ++ t) ↔ ∃ p ∈ extW ends2 tagH (rwR kind n r) w, lnW p = x
  | n, .row t, w, o, x => by
    unfold okT at o
    unfold rwR extW lwR
    have o' : tagH ((rowOf kind t).getD (.word "quit"), n + 1) ∈ ends2 ↔ t = "quit" ∨ t = "no" := by
      rw [tagH_line _ (n + 1) 0]; exact o
    by_cases c : t = "quit" ∨ t = "no"
    · rw [if_pos c, decide_eq_true (o'.mpr c), List.map_cons, List.map_nil, List.mem_singleton]
      have e : ∀ a : HR, a.2 = n + 1 → lnW (w ++ [Rw.row a], true) = w.map ln ++ [n + 1, 0] := fun a ha => by
        obtain ⟨a1, a2⟩ := a
        subst ha
        show (w ++ [Rw.row (a1, n + 1)]).map ln ++ [0] = _
        rw [List.map_append, List.append_assoc]; rfl
      constructor
      · intro h; exact ⟨_, List.mem_singleton.mpr rfl, by rw [h]; exact e _ rfl⟩
      · rintro ⟨p, hp, rfl⟩
        rw [List.mem_singleton.mp hp]; exact e _ rfl
    · rw [if_neg c, decide_eq_false (fun z => c (o'.mp z)), List.map_cons, List.map_nil, List.mem_singleton]
      have e : ∀ a : HR, a.2 = n + 1 → lnW (w ++ [Rw.row a], false) = w.map ln ++ [n + 1] := fun a ha => by
        obtain ⟨a1, a2⟩ := a
        subst ha
        show (w ++ [Rw.row (a1, n + 1)]).map ln ++ [] = _
        rw [List.map_append, List.append_nil]; rfl
      constructor
      · intro h; exact ⟨_, List.mem_singleton.mpr rfl, by rw [h]; exact e _ rfl⟩
      · rintro ⟨p, hp, rfl⟩
        rw [List.mem_singleton.mp hp]; exact e _ rfl
  | n, .iff t a hh b, w, o, x => by
    unfold okT at o
    unfold rwR extW lwR
    have h1 := set_ways (n + 1) a [[]] [([], false)] o.2.1 pos_one set_one
    have h2 : SetEq (lwRs (n + 1 + (flRs a).length + (if hh then 1 else 0)) b [[]]) (waysW ends2 tagH (rwRs kind (n + 1 + (flRs a).length + 1) b) [([], false)]) := by
      cases hh with
      | true => exact set_ways (n + 1 + (flRs a).length + 1) b [[]] [([], false)] o.2.2.1 pos_one set_one
      | false =>
        have e := o.2.2.2 rfl
        subst e
        unfold lwRs rwRs waysW
        exact set_one
    have e : ∀ (rows others : List (Rw HR Unit)) (u : List Unit) (m : List (Rw HR Unit) × Bool), lnW (w ++ Rw.iff (n + 1) u rows others :: m.1, m.2) = w.map ln ++ ((n + 1) :: lnW m) := fun rows others u m => by
      unfold lnW; simp [ln]
    constructor
    · intro h
      obtain ⟨y, hy, rfl⟩ := List.mem_map.mp h
      rcases List.mem_append.mp hy with hy | hy
      · obtain ⟨z, hz, rfl⟩ := List.mem_map.mp hy
        obtain ⟨m, hm, rfl⟩ := (h1 z).mp hz
        exact ⟨_, List.mem_append_left _ (List.mem_map.mpr ⟨m, hm, rfl⟩), e _ _ _ _⟩
      · obtain ⟨z, hz, rfl⟩ := List.mem_map.mp hy
        obtain ⟨m, hm, rfl⟩ := (h2 z).mp hz
        exact ⟨_, List.mem_append_right _ (List.mem_map.mpr ⟨m, hm, rfl⟩), e _ _ _ _⟩
    · rintro ⟨p, hp, rfl⟩
      rcases List.mem_append.mp hp with hp | hp
      · obtain ⟨m, hm, rfl⟩ := List.mem_map.mp hp
        rw [e]
        exact List.mem_map.mpr ⟨_, List.mem_append_left _ (List.mem_map.mpr ⟨_, (h1 _).mpr ⟨m, hm, rfl⟩, rfl⟩), rfl⟩
      · obtain ⟨m, hm, rfl⟩ := List.mem_map.mp hp
        rw [e]
        exact List.mem_map.mpr ⟨_, List.mem_append_right _ (List.mem_map.mpr ⟨_, (h2 _).mpr ⟨m, hm, rfl⟩, rfl⟩), rfl⟩
theorem set_ways : ∀ (n : Nat) (rs : List Tr) (f : List (List Nat)) (F : Ways HR Unit), okTs (tagRow kind) pt rs → PosW F → SetEq f F → SetEq (lwRs n rs f) (waysW ends2 tagH (rwRs kind n rs) F)
  | n, [], f, F, o, hp, h => by unfold lwRs rwRs waysW; exact h
  | n, r :: rs, f, F, o, hF, h => by
    unfold okTs at o
    unfold lwRs rwRs waysW
    refine set_ways (n + (flR r).length) rs _ _ o.2 (fun p hp r' hr => ?_) fun x => ?_
    · obtain ⟨q, hq, hp⟩ := List.mem_flatMap.mp hp
      split at hp
      · rw [List.mem_singleton.mp hp] at hr; exact hF q hq r' hr
      · exact pos_ext kind n r q.1 (hF q hq) p hp r' hr
    constructor
    · intro hx
      rcases List.mem_append.mp hx with hx | hx
      · obtain ⟨h1, h2⟩ := List.mem_filter.mp hx
        obtain ⟨p, hp, rfl⟩ := (h x).mp h1
        rw [end_lnW hF hp] at h2
        exact ⟨(p.1, true), List.mem_flatMap.mpr ⟨p, hp, by rw [if_pos h2]; exact List.mem_singleton.mpr rfl⟩, by unfold lnW; rw [h2]⟩
      · obtain ⟨w, hw, hx⟩ := List.mem_flatMap.mp hx
        obtain ⟨h1, h2⟩ := List.mem_filter.mp hw
        obtain ⟨p, hp, rfl⟩ := (h w).mp h1
        rw [end_lnW hF hp] at h2
        have h2 : p.2 = false := by simpa using h2
        have e : lnW p = p.1.map ln := by unfold lnW; rw [h2]; simp
        rw [e] at hx
        obtain ⟨q, hq, rfl⟩ := (set_ext n r p.1 o.1 x).mp hx
        exact ⟨q, List.mem_flatMap.mpr ⟨p, hp, by rw [if_neg (by rw [h2]; decide)]; exact hq⟩, rfl⟩
    · rintro ⟨q, hq, rfl⟩
      obtain ⟨p, hp, hq⟩ := List.mem_flatMap.mp hq
      have hpf : lnW p ∈ f := (h _).mpr ⟨p, hp, rfl⟩
      by_cases c : p.2 = true
      · rw [if_pos c] at hq
        rw [List.mem_singleton.mp hq]
        refine List.mem_append_left _ (List.mem_filter.mpr ⟨?_, ?_⟩)
        · rw [show lnW (p.1, true) = lnW p from by unfold lnW; rw [c]]; exact hpf
        · rw [show lnW (p.1, true) = lnW p from by unfold lnW; rw [c], end_lnW hF hp]; exact c
      · rw [if_neg c] at hq
        have c' : p.2 = false := by simpa using c
        have e : lnW p = p.1.map ln := by unfold lnW; rw [c']; simp
        refine List.mem_append_right _ (List.mem_flatMap.mpr ⟨lnW p, List.mem_filter.mpr ⟨hpf, by rw [end_lnW hF hp, c']; rfl⟩, ?_⟩)
        rw [e]
        exact (set_ext n r p.1 o.1 _).mpr ⟨q, hq, rfl⟩
end
end
/-! ### their number and length -/
theorem filter_two {α : Type} (q : α → Bool) (f : List α) : (f.filter q).length + (f.filter (fun w => !q w)).length = f.length := by
  induction f with
  | nil => rfl
  | cons x f ih =>
    cases e : q x
    · rw [List.filter_cons_of_neg (by rw [e]; decide), List.filter_cons_of_pos (by rw [e]; decide), List.length_cons, List.length_cons]; omega
    · rw [List.filter_cons_of_pos e, List.filter_cons_of_neg (by rw [e]; decide), List.length_cons, List.length_cons]; omega
theorem lw_step_len {n : Nat} {r : Tr} {b : Nat} (hb : 1 ≤ b) (h : (lwR n r).length ≤ b) (f : List (List Nat)) : (lwStep n r f).length ≤ f.length * b := by
  unfold lwStep
  rw [List.length_append]
  have h1 : ((f.filter (fun w => !isEndW w)).flatMap fun w => (lwR n r).map fun t => w ++ t).length ≤ (f.filter (fun w => !isEndW w)).length * b := flatMap_le fun x _ => by rw [List.length_map]; exact h
  have h2 : (f.filter isEndW).length + (f.filter (fun w => !isEndW w)).length = f.length := by
    exact filter_two _ _
  have h3 : (f.filter isEndW).length * 1 ≤ (f.filter isEndW).length * b := Nat.mul_le_mul_left _ hb
  rw [← h2, Nat.add_mul]
  omega
mutual
theorem lwR_len : ∀ (n : Nat) (r : Tr), (lwR n r).length ≤ 2 ^ nT r
  | n, .row t => by
    unfold lwR nT
    split <;> simp
  | n, .iff t a h b => by
    unfold lwR nT
    rw [List.length_append, List.length_map, List.length_map]
    have h1 := lwRs_len (n + 1) a [[]]
    have h2 := lwRs_len (n + 1 + (flRs a).length + (if h then 1 else 0)) b [[]]
    simp only [List.length_singleton, Nat.one_mul] at h1 h2
    have := two_pow_add (nTs a) (nTs b)
    omega
theorem lwRs_len : ∀ (n : Nat) (rs : List Tr) (f : List (List Nat)), (lwRs n rs f).length ≤ f.length * 2 ^ nTs rs
  | n, [], f => by unfold lwRs nTs; simp
  | n, r :: rs, f => by
    unfold lwRs nTs
    refine Nat.le_trans (lwRs_len (n + (flR r).length) rs _) ?_
    rw [Nat.pow_add, ← Nat.mul_assoc]
    exact Nat.mul_le_mul_right _ (lw_step_len Nat.one_le_two_pow (lwR_len n r) f)
end
def longL (m : Nat) (f : List (List Nat)) : Prop := ∀ w ∈ f, w.length ≤ m
mutual
theorem lwR_long {pr pt : Str → Prop} : ∀ (n : Nat) (r : Tr), okT pr pt r → longL (2 * (flR r).length) (lwR n r)
  | n, .row t, o => by
    unfold lwR flR longL
    intro w hw
    split at hw <;> rw [List.mem_singleton.mp hw] <;> simp
  | n, .iff t a h b, o => by
    unfold okT at o
    unfold lwR flR longL
    have h1 := lwRs_long (n + 1) a [[]] 0 o.2.1 (by intro w hw; rw [List.mem_singleton.mp hw]; simp)
    have h2 := lwRs_long (n + 1 + (flRs a).length + (if h then 1 else 0)) b [[]] 0 o.2.2.1 (by intro w hw; rw [List.mem_singleton.mp hw]; simp)
    intro w hw
    rcases List.mem_append.mp hw with hw | hw
    · obtain ⟨x, hx, rfl⟩ := List.mem_map.mp hw
      have := h1 x hx
      simp; omega
    · obtain ⟨x, hx, rfl⟩ := List.mem_map.mp hw
      have := h2 x hx
      cases h
      · have e := o.2.2.2 rfl
        subst e
        rw [show (flRs []).length = 0 from by unfold flRs; rfl] at this
        simp; omega
      · simp; omega
theorem lwRs_long {pr pt : Str → Prop} : ∀ (n : Nat) (rs : List Tr) (f : List (List Nat)) (m : Nat), okTs pr pt rs → longL m f → longL (m + 2 * (flRs rs).length) (lwRs n rs f)
  | n, [], f, m, o, h => by unfold lwRs flRs; exact h
  | n, r :: rs, f, m, o, h => by
    unfold okTs at o
    unfold lwRs flRs
    have := lwRs_long (n + (flR r).length) rs (f.filter isEndW ++ (f.filter (fun w => !isEndW w)).flatMap fun w => (lwR n r).map fun t => w ++ t) (m + 2 * (flR r).length) o.2 (by
      intro w hw
      rcases List.mem_append.mp hw with hw | hw
      · have := h w (List.mem_filter.mp hw).1
        omega
      · obtain ⟨q, hq, hw⟩ := List.mem_flatMap.mp hw
        obtain ⟨t, ht, rfl⟩ := List.mem_map.mp hw
        have h1 := h q (List.mem_filter.mp hq).1
        have h2 := lwR_long n r o.1 t ht
        rw [List.length_append]; omega)
    rw [List.length_append]
    intro w hw
    have := this w hw
    omega
end
end Tb

set_option Elab.async false
set_option linter.all false
set_option maxRecDepth 100000
set_option maxHeartbeats 3999000
namespace Tb
open PySem PySem.Spec PyProof.Rows L2
open PySem.W (Frag)
/-! ### the law's own faults -/
def withSign (ws : List Str) : Bool := decide (3 < ws.length) && !decide (ws[3]? = some ("+" : Str))
def infoOf (t : Str) : Option (Str × Bool) := match Txt.split t " " with
  | a :: b :: r => if b = "=" then some (a, withSign (a :: b :: r)) else none
  | _ => none
def setsL (lines : List Str) (told : List Nat) : List SetR := (told.filter fun n => decide (0 < n)).filterMap fun n => (lines[n - 1]?).bind fun t => (infoOf t).map fun i => (i.1, i.2, n)
def isFault (done : List SetR) (s : SetR) : Bool := (s.2.1 && decide ((done ++ [s]).countP (fun z => z.2.1) = 7)) || decide ((done ++ [s]).countP (fun z => decide (z.1 = s.1)) = 4)
def fltStep (st : List Nat × List SetR) (s : SetR) : List Nat × List SetR := (st.1 ++ (if isFault st.2 s then [s.2.2] else []), st.2 ++ [s])
def flt (ss : List SetR) : List Nat := (ss.foldl fltStep ([], [])).1
theorem flt_done (ss : List SetR) : ∀ st : List Nat × List SetR, (ss.foldl fltStep st).2 = st.2 ++ ss := by
  induction ss with
  | nil => intro st; simp
  | cons s ss ih => intro st; rw [List.foldl_cons, ih]; simp [fltStep]
theorem flt_snoc (ss : List SetR) (s : SetR) : flt (ss ++ [s]) = flt ss ++ (if isFault ss s then [s.2.2] else []) := by
  unfold flt
  rw [List.foldl_append, List.foldl_cons, List.foldl_nil]
  show (ss.foldl fltStep ([], [])).1 ++ (if isFault (ss.foldl fltStep ([], [])).2 s then [s.2.2] else []) = _
  rw [flt_done]; rfl
theorem mem_cut {α : Type} (xs : List α) (k : Nat) (x : α) : x ∈ cutL xs (some (k : Int)) (some ((k : Int) + 1)) ↔ xs[k]? = some x := by
  have e1 : HT.sIx xs.length 0 (some (k : Int)) = min k xs.length := HT.sIx_nat _ _ _
  have e2 : HT.sIx xs.length xs.length (some ((k : Int) + 1)) = min (k + 1) xs.length := HT.sIx_nat _ _ (k + 1)
  unfold cutL
  rw [e1, e2]
  by_cases h : k < xs.length
  · rw [show min k xs.length = k by omega, show min (k + 1) xs.length - k = 1 by omega, List.drop_eq_getElem_cons h, List.take_succ_cons, List.take_zero, List.mem_singleton, List.getElem?_eq_getElem h]
    constructor
    · intro e; rw [e]
    · intro e; exact (Option.some.inj e).symm
  · rw [show min (k + 1) xs.length - min k xs.length = 0 by omega, List.take_zero, List.getElem?_eq_none (by omega)]
    constructor
    · intro e; cases e
    · intro e; cases e
theorem get_snoc {α : Type} (xs : List α) (l : α) (k : Nat) (x : α) : (xs ++ [l])[k]? = some x ↔ xs[k]? = some x ∨ (xs.length = k ∧ x = l) := by
  by_cases h : k < xs.length
  · rw [List.getElem?_append_left h]
    exact ⟨.inl, fun z => z.elim id fun z => absurd z.1 (by omega)⟩
  · rw [List.getElem?_append_right (by omega), List.getElem?_eq_none (l := xs) (by omega)]
    by_cases e : xs.length = k
    · rw [show k - xs.length = 0 by omega]
      constructor
      · intro z; exact .inr ⟨e, (Option.some.inj z).symm⟩
      · rintro (z | ⟨_, z⟩)
        · cases z
        · rw [z]; rfl
    · rw [List.getElem?_eq_none (by simp; omega)]
      constructor
      · intro z; cases z
      · rintro (z | ⟨z, _⟩)
        · cases z
        · exact absurd z e
theorem sg_snoc (ss : List SetR) (s : SetR) (x : Nat) : x ∈ lateSg (ss ++ [s]) ↔ x ∈ lateSg ss ∨ (s.2.1 = true ∧ ss.countP (fun z => z.2.1) = 6 ∧ x = s.2.2) := by
  unfold lateSg
  rw [show (6 : Int) = ((6 : Nat) : Int) from rfl, mem_cut, mem_cut, List.filter_append, List.map_append]
  cases e : s.2.1
  · rw [show ([s].filter fun s => s.2.1) = [] from by simp [e], List.map_nil, List.append_nil]
    exact ⟨.inl, fun z => z.elim id fun z => by cases z.1⟩
  · rw [show ([s].filter fun s => s.2.1) = [s] from by simp [e], List.map_cons, List.map_nil, get_snoc, List.length_map, List.countP_eq_length_filter]
    simp
theorem nm_snoc (ss : List SetR) (s : SetR) (nm : Str) (x : Nat) : x ∈ lateNm (ss ++ [s]) nm ↔ x ∈ lateNm ss nm ∨ (s.1 = nm ∧ ss.countP (fun z => decide (z.1 = nm)) = 3 ∧ x = s.2.2) := by
  unfold lateNm
  rw [show (3 : Int) = ((3 : Nat) : Int) from rfl, mem_cut, mem_cut, List.filter_append, List.map_append]
  by_cases e : s.1 = nm
  · rw [show ([s].filter fun s => decide (s.1 = nm)) = [s] from by simp [e], List.map_cons, List.map_nil, get_snoc, List.length_map, List.countP_eq_length_filter]
    simp [e]
  · rw [show ([s].filter fun s => decide (s.1 = nm)) = [] from by simp [e], List.map_nil, List.append_nil]
    exact ⟨.inl, fun z => z.elim id fun z => absurd z.1 e⟩
theorem flt_late (Nm : List Str) (ss : List SetR) : ∀ k, (∀ s ∈ ss, s.1 ∈ Nm) → ∀ x, x ∈ flt (ss.take k) ↔ x ∈ lateSg (ss.take k) ++ Nm.flatMap (lateNm (ss.take k))
  | 0, h, x => by
    rw [List.take_zero]
    constructor
    · intro z; cases z
    · intro z
      rcases List.mem_append.mp z with z | z
      · exact absurd z (by unfold lateSg cutL; simp)
      · obtain ⟨nm, _, z⟩ := List.mem_flatMap.mp z
        exact absurd z (by unfold lateNm cutL; simp)
  | k + 1, h, x => by
    have ih := flt_late Nm ss k h x
    cases e : ss[k]? with
    | none =>
      have : ss.take (k + 1) = ss.take k := by rw [List.take_add_one, e]; simp
      rw [this]; exact ih
    | some s =>
      have hs : s.1 ∈ Nm := h s (List.mem_of_getElem? e)
      rw [show ss.take (k + 1) = ss.take k ++ [s] from by rw [List.take_add_one, e]; rfl, flt_snoc]
      obtain ⟨done, ed⟩ : ∃ done, done = ss.take k := ⟨_, rfl⟩
      rw [← ed] at ih ⊢
      rw [List.mem_append, ih, List.mem_append, List.mem_append, sg_snoc]
      have hn : x ∈ Nm.flatMap (lateNm (done ++ [s])) ↔ x ∈ Nm.flatMap (lateNm done) ∨ (done.countP (fun z => decide (z.1 = s.1)) = 3 ∧ x = s.2.2) := by
        constructor
        · intro z
          obtain ⟨nm, hnm, z⟩ := List.mem_flatMap.mp z
          rcases (nm_snoc done s nm x).mp z with z | ⟨z1, z2, z3⟩
          · exact .inl (List.mem_flatMap.mpr ⟨nm, hnm, z⟩)
          · subst z1; exact .inr ⟨z2, z3⟩
        · rintro (z | ⟨z1, z2⟩)
          · obtain ⟨nm, hnm, z⟩ := List.mem_flatMap.mp z
            exact List.mem_flatMap.mpr ⟨nm, hnm, (nm_snoc done s nm x).mpr (.inl z)⟩
          · exact List.mem_flatMap.mpr ⟨s.1, hs, (nm_snoc done s s.1 x).mpr (.inr ⟨rfl, z1, z2⟩)⟩
      rw [hn]
      have hf : isFault done s = true ↔ (s.2.1 = true ∧ done.countP (fun z => z.2.1) = 6) ∨ done.countP (fun z => decide (z.1 = s.1)) = 3 := by
        unfold isFault
        rw [Bool.or_eq_true, Bool.and_eq_true, decide_eq_true_eq, decide_eq_true_eq, List.countP_append, List.countP_append]
        have e1 : List.countP (fun z : SetR => decide (z.1 = s.1)) [s] = 1 := by simp
        rw [e1]
        cases e2 : s.2.1
        · simp
        · have e3 : List.countP (fun z : SetR => z.2.1) [s] = 1 := by simp [e2]
          rw [e3]
          constructor
          · rintro (⟨_, z⟩ | z)
            · exact .inl ⟨rfl, by omega⟩
            · exact .inr (by omega)
          · rintro (⟨_, z⟩ | z)
            · exact .inl ⟨rfl, by omega⟩
            · exact .inr (by omega)
      by_cases c : isFault done s = true
      · rw [if_pos c, List.mem_singleton]
        have := hf.mp c
        constructor
        · rintro ((z | z) | z)
          · exact .inl (.inl z)
          · exact .inr (.inl z)
          · rcases this with ⟨h1, h2⟩ | h1
            · exact .inl (.inr ⟨h1, h2, z⟩)
            · exact .inr (.inr ⟨h1, z⟩)
        · rintro ((z | ⟨_, _, z⟩) | (z | ⟨_, z⟩))
          · exact .inl (.inl z)
          · exact .inr z
          · exact .inl (.inr z)
          · exact .inr z
      · rw [if_neg c]
        have n1 : ¬ (s.2.1 = true ∧ done.countP (fun z => z.2.1) = 6) := fun z => c (hf.mpr (.inl z))
        have n2 : ¬ done.countP (fun z => decide (z.1 = s.1)) = 3 := fun z => c (hf.mpr (.inr z))
        constructor
        · rintro ((z | z) | z)
          · exact .inl (.inl z)
          · exact .inr (.inl z)
          · cases z
        · rintro ((z | ⟨h1, h2, z⟩) | (z | ⟨h1, z⟩))
          · exact .inl (.inl z)
          · exact absurd ⟨h1, h2⟩ n1
          · exact .inl (.inr z)
          · exact absurd h1 n2
theorem flt_all (Nm : List Str) (ss : List SetR) (h : ∀ s ∈ ss, s.1 ∈ Nm) (x : Nat) : x ∈ flt ss ↔ x ∈ lateSg ss ++ Nm.flatMap (lateNm ss) := by
  have := flt_late Nm ss ss.length h x
  rw [List.take_length] at this; exact this
/-! ### the rows of a way, by their lines -/
def RowIn (kind : Str) (lines : List Str) (r : Rw HR Unit) : Prop := 0 < ln r ∧ (∃ t, lines[ln r - 1]? = some t ∧ (infoOf t).map (fun i => (i.1, i.2, ln r)) = setOf r) ∧ ∀ s, setOf r = some s → s.1 ∈ regs ++ [toldName kind]
def infoRow (kind t : Str) : Prop := (infoOf t) = (match rowOf kind t with | some (.set nm sg _) => some (nm, sg.isSome) | _ => none) ∧ ∀ nm sg nu, rowOf kind t = some (.set nm sg nu) → nm ∈ regs ++ [toldName kind]
def AllIn (kind : Str) (lines : List Str) (F : Ways HR Unit) : Prop := ∀ p ∈ F, ∀ r ∈ p.1, RowIn kind lines r
section
variable {kind : Str} {lines : List Str}
mutual
theorem in_ext : ∀ (n : Nat) (r : Tr) (w : List (Rw HR Unit)), okT (fun t => infoRow kind t ∧ (rowOf kind t).isSome = true) (fun t => infoOf t = none) r → At lines n (flR r) → (∀ r ∈ w, RowIn kind lines r) → AllIn kind lines (extW ends2 tagH (rwR kind n r) w)
  | n, .row t, w, o, at_, h => by
    unfold okT at o
    unfold flR at at_
    unfold rwR extW
    intro p hp r hr
    rw [List.mem_singleton.mp hp] at hr
    rcases List.mem_append.mp hr with hr | hr
    · exact h r hr
    · rw [List.mem_singleton.mp hr]
      obtain ⟨⟨o1, o2⟩, o3⟩ := o
      obtain ⟨a, ha⟩ := Option.isSome_iff_exists.mp o3
      rw [ha] at o1 ⊢
      refine ⟨by show 0 < n + 1; omega, ⟨t, by show lines[n + 1 - 1]? = some t; exact at_.head.1, ?_⟩, ?_⟩
      · rw [o1]
        cases a with
        | word x => rfl
        | set nm sg nu => rfl
      · intro s hs
        cases a with
        | word x => cases hs
        | set nm sg nu =>
          cases hs
          exact o2 nm sg nu ha
  | n, .iff t a hh b, w, o, at_, h => by
    unfold okT at o
    unfold flR at at_
    obtain ⟨hn, at1⟩ := at_.head
    obtain ⟨atA, at2⟩ := at1.app
    unfold rwR extW
    have h1 := in_ways (n + 1) a [([], false)] o.2.1 atA (by intro p hp r hr; rw [List.mem_singleton.mp hp] at hr; cases hr)
    have h2 : AllIn kind lines (waysW ends2 tagH (rwRs kind (n + 1 + (flRs a).length + 1) b) [([], false)]) := by
      cases hh with
      | false =>
        have e := o.2.2.2 rfl
        subst e
        unfold rwRs waysW
        intro p hp r hr; rw [List.mem_singleton.mp hp] at hr; cases hr
      | true =>
        have at2' : At lines (n + 1 + (flRs a).length) (("else" : Str) :: (flRs b ++ [("end" : Str)])) := at2
        exact in_ways (n + 1 + (flRs a).length + 1) b [([], false)] o.2.2.1 at2'.head.2.app.1 (by intro p hp r hr; rw [List.mem_singleton.mp hp] at hr; cases hr)
    have own : ∀ (u : List Unit) (x y : List (Rw HR Unit)), RowIn kind lines (.iff (n + 1) u x y) := fun u x y => ⟨by show 0 < n + 1; omega, ⟨t, hn, by rw [o.1]; rfl⟩, fun s hs => by cases hs⟩
    intro p hp r hr
    rcases List.mem_append.mp hp with hp | hp
    · obtain ⟨m, hm, rfl⟩ := List.mem_map.mp hp
      rcases List.mem_append.mp hr with hr | hr
      · exact h r hr
      · rcases List.mem_cons.mp hr with hr | hr
        · rw [hr]; exact own _ _ _
        · exact h1 m hm r hr
    · obtain ⟨m, hm, rfl⟩ := List.mem_map.mp hp
      rcases List.mem_append.mp hr with hr | hr
      · exact h r hr
      · rcases List.mem_cons.mp hr with hr | hr
        · rw [hr]; exact own _ _ _
        · exact h2 m hm r hr
theorem in_ways : ∀ (n : Nat) (rs : List Tr) (F : Ways HR Unit), okTs (fun t => infoRow kind t ∧ (rowOf kind t).isSome = true) (fun t => infoOf t = none) rs → At lines n (flRs rs) → AllIn kind lines F → AllIn kind lines (waysW ends2 tagH (rwRs kind n rs) F)
  | n, [], F, o, at_, h => by unfold rwRs waysW; exact h
  | n, r :: rs, F, o, at_, h => by
    unfold okTs at o
    unfold flRs at at_
    obtain ⟨at1, at2⟩ := at_.app
    unfold rwRs waysW
    refine in_ways (n + (flR r).length) rs _ o.2 at2 fun p hp r' hr => ?_
    obtain ⟨q, hq, hp⟩ := List.mem_flatMap.mp hp
    split at hp
    · rw [List.mem_singleton.mp hp] at hr; exact h q hq r' hr
    · exact in_ext n r q.1 o.1 at1 (h q hq) p hp r' hr
end
theorem sets_ln (w : List (Rw HR Unit)) (e : Bool) (h : ∀ r ∈ w, RowIn kind lines r) : setsL lines (lnW (w, e)) = w.filterMap setOf := by
  unfold setsL lnW
  dsimp only
  rw [List.filter_append, show ((if e = true then [0] else []) : List Nat).filter (fun n => decide (0 < n)) = [] from by cases e <;> rfl, List.append_nil]
  induction w with
  | nil => rfl
  | cons r w ih =>
    obtain ⟨h1, ⟨t, h2, h3⟩, _⟩ := h r List.mem_cons_self
    rw [List.map_cons, List.filter_cons_of_pos (by exact decide_eq_true h1), List.filterMap_cons, List.filterMap_cons, h2]
    rw [show (some t).bind (fun t => (infoOf t).map fun i => (i.1, i.2, ln r)) = setOf r from h3, ih fun r' hr' => h r' (List.mem_cons_of_mem _ hr')]
/-- both lists of late lines tell the same -/
theorem late_eq {n : Nat} {rs : List Tr} {pr pt : Str → Prop} (o1 : okTs (tagRow kind) pt rs) (o2 : okTs (fun t => infoRow kind t ∧ (rowOf kind t).isSome = true) (fun t => infoOf t = none) rs) (at_ : At lines n (flRs rs)) (x : Nat) :
    x ∈ (lwRs n rs [[]]).flatMap (fun told => flt (setsL lines told)) ↔ x ∈ lateAll (toldName kind) (waysW ends2 tagH (rwRs kind n rs) [([], false)]) := by
  have S := set_ways (kind := kind) n rs [[]] [([], false)] o1 pos_one set_one
  have A := in_ways (kind := kind) (lines := lines) n rs [([], false)] o2 at_ (by intro p hp r hr; rw [List.mem_singleton.mp hp] at hr; cases hr)
  have one : ∀ p ∈ waysW ends2 tagH (rwRs kind n rs) [([], false)], ∀ x, x ∈ flt (setsL lines (lnW p)) ↔ x ∈ lateW (toldName kind) p.1 := fun p hp x => by
    obtain ⟨w, e⟩ := p
    rw [sets_ln w e (A _ hp)]
    refine flt_all _ _ (fun s hs => ?_) x
    obtain ⟨r, hr, hs⟩ := List.mem_filterMap.mp hs
    exact (A _ hp r hr).2.2 s hs
  unfold lateAll
  rw [List.mem_flatMap, List.mem_flatMap]
  constructor
  · rintro ⟨w, hw, hx⟩
    obtain ⟨p, hp, rfl⟩ := (S w).mp hw
    exact ⟨p, hp, (one p hp x).mp hx⟩
  · rintro ⟨p, hp, hx⟩
    exact ⟨lnW p, (S _).mpr ⟨p, hp, rfl⟩, (one p hp x).mpr hx⟩
end
end Tb

set_option Elab.async false
set_option linter.all false
set_option maxRecDepth 100000
set_option maxHeartbeats 3999000
namespace Tb
open PySem PySem.Spec PyProof.Rows L2
open PySem.W (Frag)
open C8 (pss_cut tCut)
/-! ### where a block ends -/
def piece (t : Str) : Str := (Txt.split t " ").headD ""
def scanB : List Str → Nat → Nat → Nat → Nat × Nat
  | [], k, _, other => (other, k + 1)
  | t :: ts, k, deep, other => if piece t = "if" then scanB ts (k + 1) (deep + 1) other else if piece t = "else" ∧ deep = 0 then scanB ts (k + 1) deep (k + 1) else if piece t = "end" then (if deep = 0 then (other, k + 1) else scanB ts (k + 1) (deep - 1) other) else scanB ts (k + 1) deep other
def plRow (t : Str) : Prop := piece t ≠ "if" ∧ piece t ≠ "else" ∧ piece t ≠ "end"
def plTest (t : Str) : Prop := piece t = "if"
theorem pc_else : piece "else" = "else" := by decide +kernel
theorem pc_end : piece "end" = "end" := by decide +kernel
mutual
theorem scan_row : ∀ (r : Tr) (rest : List Str) (k deep other : Nat), okT plRow plTest r → scanB (flR r ++ rest) k deep other = scanB rest (k + (flR r).length) deep other
  | .row t, rest, k, deep, other, o => by
    unfold okT at o
    unfold flR
    show scanB (t :: rest) k deep other = _
    rw [scanB, if_neg o.1, if_neg (fun z => o.2.1 z.1), if_neg o.2.2]; rfl
  | .iff t a h b, rest, k, deep, other, o => by
    unfold okT at o
    obtain ⟨o1, o2, o3, o4⟩ := o
    have e1 : flR (.iff t a h b) ++ rest = t :: (flRs a ++ ((if h then ("else" : Str) :: flRs b else []) ++ (("end" : Str) :: rest))) := by
      rw [flR]; simp
    have e2 : (flR (.iff t a h b)).length = 1 + (flRs a).length + (if h then 1 + (flRs b).length else 0) + 1 := by
      rw [flR]; cases h <;> simp <;> omega
    rw [e1, e2, scanB, if_pos (show piece t = "if" from o1), scan_rows a _ _ _ _ o2]
    cases h with
    | false =>
      show scanB (("end" : Str) :: rest) _ _ _ = _
      rw [scanB, pc_end, if_neg (by decide), if_neg (fun z => absurd z.1 (by decide)), if_pos rfl, if_neg (by omega)]
      simp; congr 1; omega
    | true =>
      show scanB (("else" : Str) :: (flRs b ++ (("end" : Str) :: rest))) _ _ _ = _
      rw [scanB, pc_else, if_neg (by decide), if_neg (fun z => absurd z.2 (by omega)), if_neg (by decide), scan_rows b _ _ _ _ o3, scanB, pc_end, if_neg (by decide), if_neg (fun z => absurd z.1 (by decide)), if_pos rfl, if_neg (by omega)]
      simp; congr 1; omega
theorem scan_rows : ∀ (rs : List Tr) (rest : List Str) (k deep other : Nat), okTs plRow plTest rs → scanB (flRs rs ++ rest) k deep other = scanB rest (k + (flRs rs).length) deep other
  | [], rest, k, deep, other, o => by rw [flRs]; rfl
  | r :: rs, rest, k, deep, other, o => by
    unfold okTs at o
    rw [flRs, List.append_assoc, scan_row r _ _ _ _ o.1, scan_rows rs _ _ _ _ o.2, List.length_append, Nat.add_assoc]
end
theorem scan_block {t : Str} {a b : List Tr} {h : Bool} {rest : List Str} {k : Nat} (o2 : okTs plRow plTest a) (o3 : okTs plRow plTest b) :
    scanB (flRs a ++ ((if h then ("else" : Str) :: flRs b else []) ++ (("end" : Str) :: rest))) k 0 0 = (if h then k + (flRs a).length + 1 else 0, k + (flRs a).length + (if h then 1 + (flRs b).length else 0) + 1) := by
  rw [scan_rows a _ _ _ _ o2]
  cases h with
  | false =>
    show scanB (("end" : Str) :: rest) _ _ _ = _
    rw [scanB, pc_end, if_neg (by decide), if_neg (fun z => absurd z.1 (by decide)), if_pos rfl, if_pos rfl]; simp
  | true =>
    show scanB (("else" : Str) :: (flRs b ++ (("end" : Str) :: rest))) _ _ _ = _
    rw [scanB, pc_else, if_neg (by decide), if_pos ⟨rfl, rfl⟩, scan_rows b _ _ _ _ o3, scanB, pc_end, if_neg (by decide), if_neg (fun z => absurd z.1 (by decide)), if_pos rfl, if_pos rfl]; simp; omega
theorem split_ne {t : Str} (h : Txt.split t " " ≠ []) : ∃ a r, Txt.split t " " = a :: r ∧ piece t = a := by
  cases e : Txt.split t " " with
  | nil => exact absurd e h
  | cons a r => exact ⟨a, r, rfl, by unfold piece; rw [e]; rfl⟩
def spBlockL (K : Frag) : Sp := fun vs H Q _ => ∃ (la : Addr) (at_ : Nat) (lines : List Str), vs = [.ref la, .int at_] ∧ SqL K H la (lines.map V.str) ∧ at_ ≤ lines.length ∧ lines.length ≤ 1000 ∧ (∀ t ∈ lines, t.length + 2 ≤ sizeLine ∧ Txt.split t " " ≠ []) ∧
  ∀ H' p, Same H H' → H' p = some (.tup [.int (scanB (lines.drop at_) at_ 0 0).1, .int (scanB (lines.drop at_) at_ 0 0).2]) → Q (.ref p) H'
section
variable {P : Program} {w : World} {K : Frag} {mg : Str → Option Value} {base : Heap} {tk : Nat → Tok} {g : GA}
theorem ok_block {f : Addr} {fd : FuncData} (F : Fun K "_law_block" "_law_block" s_Lblock f fd) (T : Bl mg) : FnOk P w K mg base CX0 1 f fd ["_law_lines_here", "_law_at"] (spBlockL K) := by
  refine F.ok sc_Lblock (fun vs H Q E h => ?_) (fun cdv A outer s H vs Q E hr h => ?_)
  · obtain ⟨la, at_, lines, rfl, _⟩ := h; rfl
  · obtain ⟨la, at_, lines, rfl, hL, ha, hn, hl, k⟩ := h
    refine ⟨_, (pss_cons (ps_asg (pe_tup (pa_cons pe_int (pa_cons pe_int pa_nil))) (pg_tup rfl (pgs_cons (pg_name (i := 2) sc_Lblock.nd rfl (by first | exact Or.inl rfl | exact Or.inr rfl)) (pgs_cons (pg_name (i := 3) sc_Lblock.nd rfl (by first | exact Or.inl rfl | exact Or.inr rfl)) pgs_nil))))
      (pss_cons (ps_for PassesOwn.never rfl (pi_range2 (by rfl) T.range (pa_cons (pv 1) (pa_cons (pe_callB call_len_seq (by rfl) T.len PySem.boot_len (pa_cons (pv 0) pa_nil)) pa_nil))) (pg_name (i := 4) sc_Lblock.nd rfl (by first | exact Or.inl rfl | exact Or.inr rfl))
        (pss_cons (ps_set (i := 5) sc_Lblock.nd rfl (by first | exact Or.inl rfl | exact Or.inr rfl) (pe_ix ix_list (pe_split (pe_ix ix_list (pv 0) (pv 4) (fun _ _ => rfl)) pe_str) pe_int (fun _ _ => rfl)))
        (pss_one (ps_if (pt_cmpR op_eq (pv 5) pe_str (nomark _))
          (pss_one (ps_set (i := 2) sc_Lblock.nd rfl (by first | exact Or.inl rfl | exact Or.inr rfl) (pe_op op_add (pv 2) pe_int)))
          (pss_one (ps_if (PW.pt (pw_and (pt_cmpR op_eq (pv 5) pe_str (nomark _)) (pw_and1 (pt_cmpR op_eq (pv 2) pe_int (nomark _)))))
            (pss_one (ps_set (i := 3) sc_Lblock.nd rfl (by first | exact Or.inl rfl | exact Or.inr rfl) (pe_op op_add (pv 4) pe_int)))
            (pss_one (ps_if (pt_cmpR op_eq (pv 5) pe_str (nomark _))
              (pss_cons (ps_if (pt_cmpR op_eq (pv 2) pe_int (nomark _))
                (pss_one (ps_ret (pe_tup (pa_cons (pv 3) (pa_cons (pe_op op_add (pv 4) pe_int) pa_nil)))))
                pss_nil)
              (pss_one (ps_set (i := 2) sc_Lblock.nd rfl (by first | exact Or.inl rfl | exact Or.inr rfl) (pe_op op_sub (pv 2) pe_int))))
              pss_nil))))))))
      (pss_one (ps_ret (pe_tup (pa_cons (pv 3) (pa_cons (pe_op op_add (pe_callB call_len_seq (by rfl) T.len PySem.boot_len (pa_cons (pv 0) pa_nil)) pe_int) pa_nil))))))), ?_⟩
    refine ⟨(by show 2 ≤ sizeLine; decide), fun t0 ht0 => ⟨t0, _, rfl, .inl (.inl upd_same), rfl, _, _, rfl, _, _, rfl, rfl, ?_⟩⟩
    have s1 := same_new (o := .tup [.int 0, .int 0]) (Same.refl H) ht0
    dsimp only [gName]
    generalize upd H t0 (.tup [.int 0, .int 0]) = H1 at *
    have hL1 := s1.seq hL
    refine ⟨_, rfl, _, rfl, la, _, rfl, .inl hL1, _, _, rfl, ⟨by omega, by omega, by omega, by rw [List.length_map]; omega⟩, ?_⟩
    have e0 : ((((lines.map V.str).length : Nat) : Int) - (at_ : Int)).toNat = lines.length - at_ := by rw [List.length_map]; omega
    rw [e0]
    obtain ⟨O, eO⟩ : ∃ O, O = scanB (lines.drop at_) at_ 0 0 := ⟨_, rfl⟩
    rw [← eO] at k
    refine for_range (lo := (at_ : Int)) (n := lines.length - at_) (fun i σ H2 => ∃ (deep other : Nat) (v4 v5 : Option V), σ = [some (.ref la), some (.int at_), some (.int deep), some (.int other), v4, v5] ∧ Same H1 H2 ∧ scanB (lines.drop (at_ + i)) (at_ + i) deep other = O)
      ⟨0, 0, none, none, rfl, Same.refl _, eO.symm⟩ ?_ ?_
    · rintro i σ H2 hi ⟨deep, other, v4, v5, rfl, s2, hs⟩
      have hlt : at_ + i < lines.length := by omega
      obtain ⟨t, ht⟩ : ∃ t, lines[at_ + i]? = some t := ⟨_, List.getElem?_eq_getElem hlt⟩
      obtain ⟨ht1, ht2⟩ := hl t (List.mem_of_getElem? ht)
      obtain ⟨pa, pr, esp, epc⟩ := split_ne ht2
      have edrop : lines.drop (at_ + i) = t :: lines.drop (at_ + i + 1) := by
        rw [List.drop_eq_getElem_cons hlt]
        congr 1
        rw [List.getElem?_eq_getElem hlt] at ht; exact Option.some.inj ht
      rw [edrop, scanB, epc] at hs
      dsimp only [gName]
      refine ⟨_, rfl, _, rfl, la, _, _, _, rfl, rfl, s2.seq hL1, atI_nat (j := at_ + i) (v := .str t) (by rw [List.getElem?_map, ht]; rfl), ⟨_, rfl⟩, _, _, rfl, rfl, rfl, ht1, fun wl hw => ⟨wl, _, _, _, rfl, rfl, .inl (.inl upd_same), atI_nat (j := 0) (v := .str pa) (by rw [esp]; rfl), ?_⟩⟩
      have s3 := same_new (o := .lst ((Txt.split t " ").map V.str)) s2 hw
      dsimp only [gName]
      generalize upd H2 wl (.lst ((Txt.split t " ").map V.str)) = H3 at *
      clear hw
      refine ⟨_, rfl, rfl, _, rfl, ?_⟩
      by_cases c1 : pa = "if"
      · rw [decide_eq_true (by rw [c1])]
        rw [if_pos c1] at hs
        exact iteT ⟨_, rfl, _, _, rfl, rfl, deep + 1, other, _, _, rfl, s3, hs⟩
      · rw [decide_eq_false (fun z => c1 (V.str.inj z))]
        rw [if_neg c1] at hs
        refine iteF (tAnd_by (decide (V.str pa = V.str "else")) (decide (V.int deep = V.int 0)) (fun Q' q => ⟨_, rfl, rfl, _, rfl, q⟩) (fun _ Q' q => ⟨_, rfl, rfl, _, rfl, q⟩) ?_)
        by_cases c2 : pa = "else" ∧ deep = 0
        · rw [decide_eq_true (by rw [c2.1] : V.str pa = V.str "else"), decide_eq_true (by rw [c2.2]; rfl : V.int (deep : Int) = V.int 0)]
          rw [if_pos c2] at hs
          exact iteT ⟨_, rfl, _, _, rfl, rfl, deep, at_ + i + 1, _, _, rfl, s3, hs⟩
        · rw [show (decide (V.str pa = V.str "else") && decide (V.int (deep : Int) = V.int 0)) = false from by
            rw [Bool.and_eq_false_iff]
            by_cases z : pa = "else"
            · exact .inr (decide_eq_false fun y => c2 ⟨z, by have := V.int.inj y; omega⟩)
            · exact .inl (decide_eq_false fun y => z (V.str.inj y))]
          rw [if_neg c2] at hs
          refine iteF ⟨_, rfl, rfl, _, rfl, ?_⟩
          by_cases c3 : pa = "end"
          · rw [decide_eq_true (by rw [c3])]
            rw [if_pos c3] at hs
            refine iteT ⟨_, rfl, rfl, _, rfl, ?_⟩
            by_cases c4 : deep = 0
            · rw [decide_eq_true (by rw [c4]; rfl : V.int (deep : Int) = V.int 0)]
              rw [if_pos c4] at hs
              refine iteT ⟨_, rfl, _, rfl, _, _, rfl, rfl, (by show 2 ≤ sizeLine; decide), fun p hp => k _ p (s1.trans (same_new s3 hp)) ?_⟩
              rw [upd_same, ← hs]; rfl
            · rw [decide_eq_false (fun z => c4 (by have := V.int.inj z; omega))]
              rw [if_neg c4] at hs
              refine iteF ⟨_, rfl, _, _, rfl, rfl, deep - 1, other, some (.int (at_ + i)), some (.str pa), ?_, s3, hs⟩
              rw [show ((deep - 1 : Nat) : Int) = (deep : Int) - 1 by omega]; rfl
          · rw [decide_eq_false (fun z => c3 (V.str.inj z))]
            rw [if_neg c3] at hs
            exact iteF ⟨deep, other, _, _, rfl, s3, hs⟩
    · rintro σ H2 ⟨deep, other, v4, v5, rfl, s2, hs⟩
      rw [List.drop_of_length_le (by omega), scanB] at hs
      refine ⟨_, rfl, _, rfl, la, _, rfl, .inl (s2.seq hL1), _, _, rfl, rfl, (by show 2 ≤ sizeLine; decide), fun p hp => ?_⟩
      refine k _ p (s1.trans (same_new s2 hp)) ?_
      rw [upd_same, ← hs, List.length_map, show ((at_ + (lines.length - at_) + 1 : Nat) : Int) = (lines.length : Int) + 1 by omega]
end
end Tb

set_option Elab.async false
set_option linter.all false
set_option maxRecDepth 100000
set_option maxHeartbeats 3999000
namespace Tb
open PySem PySem.Spec PyProof.Rows L2
open PySem.W (Frag)
open C8 (pss_cut tCut)
def intsV (ns : List Nat) : List V := ns.map fun n : Nat => V.int n
/-- a line that the law may look at -/
def lawLine (t : Str) : Prop := t.length + 2 ≤ sizeLine ∧ Txt.split t " " ≠ [] ∧ (∀ b, (Txt.split t " ")[1]? = some b → SeqAt.shaped (.list [.str b]) = true)
def spFaults (K : Frag) : Sp := fun vs H Q _ => ∃ (la ta : Addr) (lines : List Str) (told : List Nat), vs = [.ref la, .ref ta] ∧ SqL K H la (lines.map V.str) ∧ SqL K H ta (intsV told) ∧ lines.length ≤ 1000 ∧ told.length ≤ 10000 ∧ (∀ n ∈ told, n ≤ lines.length) ∧ (∀ t ∈ lines, lawLine t) ∧
  ∀ H' p, Same H H' → H' p = some (.lst (intsV (flt (setsL lines told)))) → Q (.ref p) H'
theorem cut12 {a b : Str} {r : List Str} : cutL (a :: b :: r) (some 1) (some 2) = [b] := by
  unfold cutL
  rw [show HT.sIx (a :: b :: r).length 0 (some 1) = 1 from by show min (1 : Int).toNat (r.length + 1 + 1) = 1; simp, show HT.sIx (a :: b :: r).length (a :: b :: r).length (some 2) = 2 from by show min (2 : Int).toNat (r.length + 1 + 1) = 2; simp]
  rfl
theorem cut12' {a : Str} : cutL [a] (some 1) (some 2) = [] := rfl
theorem count_names (ss : List SetR) (a : Str) : (ss.map fun s => V.str s.1).countP (fun z => eqV z (.str a)) = ss.countP fun z => decide (z.1 = a) := by
  induction ss with
  | nil => rfl
  | cons s ss ih =>
    rw [List.map_cons, List.countP_cons, List.countP_cons, ih]
    have : eqV (.str s.1) (.str a) = decide (s.1 = a) := by by_cases c : s.1 = a <;> simp [eqV, c]
    rw [this]
section
variable {P : Program} {w : World} {K : Frag} {mg : Str → Option Value} {base : Heap} {tk : Nat → Tok} {g : GA}
theorem ok_faults {f : Addr} {fd : FuncData} (F : Fun K "_law_faults" "_law_faults" s_Lfaults f fd) (T : Bl mg) : FnOk P w K mg base CX0 1 f fd ["_law_lines_here", "_law_told"] (spFaults K) := by
  refine F.ok sc_Lfaults (fun vs H Q E h => ?_) (fun cdv A outer s H vs Q E hr h => ?_)
  · obtain ⟨la, ta, lines, told, rfl, _⟩ := h; rfl
  · obtain ⟨la, ta, lines, told, rfl, hL, hTa, hn, htn, htl, hl, k⟩ := h
    refine ⟨_, (pss_cons (ps_par3 (i := 2) (j := 3) (l := 4) (by rfl) sc_Lfaults.nd rfl rfl rfl (by decide) (by decide) (by decide) rfl rfl rfl (pa_cons (pe_lst pa_nil) (pa_cons pe_int (pa_cons (pe_lst pa_nil) pa_nil))) (by rfl))
      (pss_cons (ps_for PassesOwn.never rfl (pi_list (pe_lc (own := [("_law_line", 5)]) (g := gName 5) rfl sc_Lfaults.nd (pi_list (pv 1)) (blkOk_by (own := [("_law_line", 5)]) (N := nm_Lfaults) (sc := defScope s_Lfaults) (by decide +kernel)) (fun _ _ _ _ _ => pg_name (i := 5) sc_Lfaults.nd rfl (by first | exact Or.inl rfl | exact Or.inr rfl)) (fun _ _ _ _ _ => (pts_one (pt_cmpR op_gt (pv 5) pe_int (nomark _)))) (fun _ _ _ _ _ => (pv 5)))) (pg_name (i := 5) sc_Lfaults.nd rfl (by first | exact Or.inl rfl | exact Or.inr rfl))
        (pss_cons (ps_set (i := 6) sc_Lfaults.nd rfl (by first | exact Or.inl rfl | exact Or.inr rfl) (pe_split (pe_ix ix_list (pv 0) (pe_op op_sub (pv 5) pe_int) (fun _ _ => rfl)) pe_str))
        (pss_one (ps_if (pt_cmpR (op_eqD hr.units) (pe_slice sl_list (pv 6) (po_some pe_int) (po_some pe_int)) (pe_lst (pa_cons pe_str pa_nil)) (nomark _))
          (pss_cons (ps_set (i := 4) sc_Lfaults.nd rfl (by first | exact Or.inl rfl | exact Or.inr rfl) (pe_op op_cat (pv 4) (pe_lst (pa_cons (pe_ix ix_list (pv 6) pe_int (fun _ _ => rfl)) pa_nil))))
          (pss_cut (ps_set (i := 7) sc_Lfaults.nd rfl (by first | exact Or.inl rfl | exact Or.inr rfl) (pe_and (pe_cmpR op_gt (pe_callB call_len_seq (by rfl) T.len PySem.boot_len (pa_cons (pv 6) pa_nil)) pe_int (nomark _)) (pe_one (pe_cmpR op_ne (pe_ix ix_list (pv 6) pe_int (fun _ _ => rfl)) pe_str (nomark _)))))
          (pss_cons (ps_set (i := 3) sc_Lfaults.nd rfl (by first | exact Or.inl rfl | exact Or.inr rfl) (pe_op op_add (pv 3) (pe_callTy call_int1 (by rfl) T.int PyProof.Rows.boot_int (pa_cons (pv 7) pa_nil))))
          (pss_one (ps_if (PW.pt (pw_or (PW.pt (pw_and (pt_val (pv 7)) (pw_and1 (pt_cmpR op_eq (pv 3) pe_int (nomark _))))) (pw_or1 (pt_cmpR op_eq (pe_bm PySem.F.plainAttrs_list PySem.F.slot_list_count PySem.F.type_list_count mt_lcountF (pv 4) (pa_cons (pe_ix ix_list (pv 6) pe_int (fun _ _ => rfl)) pa_nil)) pe_int (nomark _)))))
            (pss_one (ps_expr (pe_bm PySem.F.plainAttrs_list PySem.F.slot_list_append PySem.F.type_list_append mt_append (pv 2) (pa_cons (pv 5) pa_nil))))
            pss_nil)))))
          pss_nil))))
      (pss_one (ps_ret (pv 2))))), ?_⟩
    refine ⟨(by show 0 ≤ sizeLine; decide), fun fa hfa => ⟨(by show 0 ≤ sizeLine; decide), fun sa hsa => ⟨_, _, _, rfl, ?_⟩⟩⟩
    have s1 : Same H (upd (upd H fa (.lst [])) sa (.lst [])) := same_new (same_new (Same.refl H) hfa) hsa
    have nsf : sa ≠ fa := fun z => by rw [z, upd_same] at hsa; cases hsa
    have hf1 : upd (upd H fa (.lst [])) sa (.lst []) fa = some (.lst []) := by rw [upd_ne nsf.symm]; exact upd_same
    have hs1 : upd (upd H fa (.lst [])) sa (.lst []) sa = some (.lst []) := upd_same
    dsimp only [gName]
    generalize upd (upd H fa (.lst [])) sa (.lst []) = H1 at *
    clear hsa
    obtain ⟨tf, etf⟩ : ∃ tf, tf = told.filter fun n => decide (0 < n) := ⟨_, rfl⟩
    refine ⟨_, rfl, ta, rfl, ⟨_, s1.seq hTa⟩, fun D hD => ?_⟩
    refine lc_list (K := K) (a := ta) (xs := intsV told) (fun c H2 => Same H1 H2 ∧ H2 D = some (.lst (intsV ((told.take c).filter fun n => decide (0 < n))))) ⟨same_new (Same.refl _) hD, upd_same⟩ (fun c H2 _ ⟨s, _⟩ => (s1.trans s).seq hTa) ?_ ?_
    · rintro c xv H2 hxv ⟨s2, hD2⟩
      obtain ⟨nn, hnn, rfl⟩ : ∃ y, told[c]? = some y ∧ xv = .int y := by
        unfold intsV at hxv
        rw [List.getElem?_map] at hxv
        cases e : told[c]? with
        | none => rw [e] at hxv; cases hxv
        | some y => rw [e] at hxv; cases hxv; exact ⟨y, rfl, rfl⟩
      have hcl := (List.getElem?_eq_some_iff.mp hnn).1
      refine ⟨rfl, _, rfl, _, _, rfl, rfl, _, rfl, ?_⟩
      by_cases c0 : 0 < nn
      · rw [decide_eq_true (by omega : (0 : Int) < nn)]
        refine iteT ⟨_, rfl, _, hD2, ?_, same_put s2 hD, ?_⟩
        · unfold intsV
          rw [List.length_map]
          have := List.length_filter_le (fun n => decide (0 < n)) (told.take c)
          rw [List.length_take] at this
          have := million
          omega
        · rw [upd_same, List.take_add_one, hnn]; unfold intsV; simp [c0]
      · rw [decide_eq_false (by omega : ¬ (0 : Int) < nn)]
        refine iteF ⟨s2, ?_⟩
        rw [hD2, List.take_add_one, hnn]; unfold intsV; simp [c0]
    · rintro H2 ⟨s2, hD2⟩
      rw [show told.take (intsV told).length = told from by unfold intsV; rw [List.length_map, List.take_length], ← etf] at hD2
      refine ⟨D, rfl, ⟨_, .inl (.inl hD2)⟩, ?_⟩
      obtain ⟨gs, egs⟩ : ∃ gs : Nat → Option SetR, gs = fun n => (lines[n - 1]?).bind fun t => (infoOf t).map fun i => (i.1, i.2, n) := ⟨_, rfl⟩
      have eS : setsL lines told = tf.filterMap gs := by unfold setsL; rw [egs, etf]
      have ltf : tf.length ≤ 10000 := by rw [etf]; exact Nat.le_trans (List.length_filter_le _ _) htn
      have s02 := s1.trans s2
      have lS : ∀ i, (((tf.take i).filterMap gs)).length ≤ 10000 := fun i => Nat.le_trans (List.length_filterMap_le _ _) (by rw [List.length_take]; omega)
      have lF : ∀ ss : List SetR, (flt ss).length ≤ ss.length := fun ss => by
        have : ∀ k, (flt (ss.take k)).length ≤ k := fun k => by
          induction k with
          | zero => rw [List.take_zero]; exact Nat.le_refl _
          | succ k ih =>
            cases e : ss[k]? with
            | none => rw [show ss.take (k + 1) = ss.take k from by rw [List.take_add_one, e]; simp]; omega
            | some s =>
              rw [show ss.take (k + 1) = ss.take k ++ [s] from by rw [List.take_add_one, e]; rfl, flt_snoc, List.length_append]
              split <;> simp <;> omega
        have := this ss.length
        rw [List.take_length] at this; exact this
      refine for_list (xs := intsV tf) (fun i σ H3 => ∃ (sa : Addr) (v5 v6 v7 : Option V), σ = [some (.ref la), some (.ref ta), some (.ref fa), some (.int ((((tf.take i).filterMap gs).countP fun z => z.2.1 : Nat) : Int)), some (.ref sa), v5, v6, v7] ∧ Same H H3 ∧ H3 D = some (.lst (intsV tf)) ∧ H3 fa = some (.lst (intsV (flt ((tf.take i).filterMap gs)))) ∧ H3 sa = some (.lst (((tf.take i).filterMap gs).map fun s => V.str s.1)) ∧ sa ≠ fa)
        ⟨sa, _, _, _, rfl, s02, hD2, s2 _ _ hf1, s2 _ _ hs1, nsf⟩ (fun i σ H3 _ ⟨_, _, _, _, _, _, h, _⟩ => .inl (.inl h)) ?_ ?_
      · rintro i x σ H3 hx ⟨sa, v5, v6, v7, rfl, s3, hD3, hf3, hs3, nsf⟩
        obtain ⟨nn, hnn, rfl⟩ : ∃ y, tf[i]? = some y ∧ x = .int y := by
          unfold intsV at hx
          rw [List.getElem?_map] at hx
          cases e : tf[i]? with
          | none => rw [e] at hx; cases hx
          | some y => rw [e] at hx; cases hx; exact ⟨y, rfl, rfl⟩
        have hmem : nn ∈ told ∧ 0 < nn := by
          have := List.mem_of_getElem? hnn
          rw [etf] at this
          have := List.mem_filter.mp this
          exact ⟨this.1, by simpa using this.2⟩
        have hnl := htl nn hmem.1
        obtain ⟨t, ht⟩ : ∃ t, lines[nn - 1]? = some t := ⟨_, List.getElem?_eq_getElem (by omega)⟩
        obtain ⟨ht1, ht2, ht3⟩ := hl t (List.mem_of_getElem? ht)
        obtain ⟨SS, eSS⟩ : ∃ SS, SS = (tf.take i).filterMap gs := ⟨_, rfl⟩
        have lSS : SS.length ≤ 10000 := by rw [eSS]; exact lS i
        have egn : gs nn = (infoOf t).map fun j => (j.1, j.2, nn) := by rw [egs]; dsimp only; rw [ht]; rfl
        have eS1 : (tf.take (i + 1)).filterMap gs = SS ++ (gs nn).toList := by
          rw [List.take_add_one, hnn, List.filterMap_append, ← eSS]
          cases e : gs nn <;> simp [e]
        rw [← eSS] at hf3 hs3
        dsimp only [gName]
        rw [← eSS]
        refine ⟨_, rfl, _, rfl, _, _, rfl, rfl, la, _, _, _, rfl, rfl, s3.seq hL, ?_, ⟨_, rfl⟩, _, _, rfl, rfl, rfl, ht1, fun wl hw => ?_⟩
        · rw [show (nn : Int) - 1 = ((nn - 1 : Nat) : Int) by omega]
          exact atI_nat (j := nn - 1) (v := V.str t) (by rw [List.getElem?_map, ht]; rfl)
        obtain ⟨ws, ews⟩ : ∃ ws, ws = Txt.split t " " := ⟨_, rfl⟩
        rw [← ews]
        have s4 := same_new (o := .lst (ws.map V.str)) (Same.refl H3) hw
        have hw4 : upd H3 wl (.lst (ws.map V.str)) wl = some (.lst (ws.map V.str)) := upd_same
        rw [← ews] at ht2 ht3
        generalize upd H3 wl (.lst (ws.map V.str)) = H4 at *
        clear hw
        have s04 := s3.trans s4
        have hf4 := s4 _ _ hf3
        have hs4 := s4 _ _ hs3
        have hD4 := s4 _ _ hD3
        refine ⟨_, rfl, _, rfl, _, rfl, wl, _, rfl, .inl (.inl hw4), fun s2a hs2a => ⟨(by show 1 ≤ sizeLine; decide), fun s2b hs2b => ?_⟩⟩
        rw [cutV_map] at hs2b ⊢
        have s5 : Same H4 (upd (upd H4 s2a (.lst ((cutL ws (some 1) (some 2)).map V.str))) s2b (.lst [.str "="])) := same_new (same_new (Same.refl H4) hs2a) hs2b
        have ha5 : upd (upd H4 s2a (.lst ((cutL ws (some 1) (some 2)).map V.str))) s2b (.lst [.str "="]) s2a = some (.lst ((cutL ws (some 1) (some 2)).map V.str)) := by rw [upd_ne (ne_of_none upd_same hs2b)]; exact upd_same
        have hb5 : upd (upd H4 s2a (.lst ((cutL ws (some 1) (some 2)).map V.str))) s2b (.lst [.str "="]) s2b = some (.lst [.str "="]) := upd_same
        generalize upd (upd H4 s2a (.lst ((cutL ws (some 1) (some 2)).map V.str))) s2b (.lst [.str "="]) = H5 at *
        clear hs2a hs2b
        have s05 := s04.trans s5
        have hf5 := s5 _ _ hf4
        have hs5 := s5 _ _ hs4
        have hw5 := s5 _ _ hw4
        have hD5 := s5 _ _ hD4
        cases hws : ws with
        | nil => exact absurd hws ht2
        | cons a r =>
          cases r with
          | nil =>
            rw [hws] at ha5 ews
            have ei : gs nn = none := by rw [egn]; unfold infoOf; rw [← ews]; rfl
            refine ⟨_, _, .lst (.inl (.inl ha5)) .nil, .lst (.inl (.inl hb5)) (.cons (.str "=") .nil), rfl, (by decide +kernel), _, rfl, ?_⟩
            rw [ei] at eS1
            rw [eS1, Option.toList_none, List.append_nil]
            exact iteF ⟨sa, _, _, _, rfl, s05, hD5, hf5, hs5, nsf⟩
          | cons b r =>
            rw [hws] at ha5 ews hw5 ht3
            have sh := ht3 b rfl
            refine ⟨_, _, .lst (.inl (.inl ha5)) (.cons (.str b) .nil), .lst (.inl (.inl hb5)) (.cons (.str "=") .nil), sh, (by decide +kernel), _, rfl, ?_⟩
            rw [show PyData.eqv (.list [.str b]) (.list [.str "="]) = decide (b = "=") from by by_cases c : b = "=" <;> simp [PyData.eqv, PyData.eqvAll, c]]
            by_cases c1 : b = "="
            · rw [decide_eq_true c1]
              subst c1
              refine iteT ?_
              have ei : gs nn = some (a, withSign (a :: "=" :: r), nn) := by rw [egn]; unfold infoOf; rw [← ews]; simp
              rw [ei] at eS1
              obtain ⟨sg, esg⟩ : ∃ sg, sg = withSign (a :: "=" :: r) := ⟨_, rfl⟩
              rw [← esg] at eS1
              have eS1' : (tf.take (i + 1)).filterMap gs = SS ++ [(a, sg, nn)] := eS1
              refine ⟨_, rfl, _, rfl, wl, _, _, _, rfl, rfl, .inl (.inl hw5), atI_nat (j := 0) (v := V.str a) rfl, (by show 1 ≤ sizeLine; decide), fun l1 hl1 => ?_⟩
              have hs6 : upd H5 l1 (.lst [.str a]) sa = some (.lst (SS.map fun s => V.str s.1)) := by rw [upd_ne (ne_of_none hs5 hl1)]; exact hs5
              refine ⟨sa, l1, _, _, rfl, rfl, hs6, upd_same, ?_, fun p hp => ?_⟩
              · have := million
                rw [List.length_map]; simp; omega
              have s6 : Same H5 (upd (upd H5 l1 (.lst [.str a])) p (.lst ((SS.map fun s => V.str s.1) ++ [.str a]))) := same_new (same_new (Same.refl H5) hl1) hp
              have hp6 : upd (upd H5 l1 (.lst [.str a])) p (.lst ((SS.map fun s => V.str s.1) ++ [.str a])) p = some (.lst ((SS ++ [(a, sg, nn)]).map fun s => V.str s.1)) := by rw [upd_same, List.map_append]; rfl
              have npf : p ≠ fa := fun z => by
                rw [z, upd_ne (ne_of_none hf5 hl1), hf5] at hp; cases hp
              dsimp only [gName]
              generalize upd (upd H5 l1 (.lst [.str a])) p (.lst ((SS.map fun s => V.str s.1) ++ [.str a])) = H6 at *
              clear hp hs6 hl1
              have hw6 := s6 _ _ hw5
              have hf6 := s6 _ _ hf5
              refine ⟨fun σ' H' => σ' = [some (V.ref la), some (V.ref ta), some (V.ref fa), some (V.int ((SS.countP fun z => z.2.1 : Nat) : Int)), some (V.ref p), some (V.int nn), some (V.ref wl), some (V.bl sg)] ∧ H' = H6, ?_, ?_⟩
              · refine ⟨_, rfl, wl, _, rfl, .inl (.inl (.inl hw6)), _, _, rfl, rfl, _, rfl, ?_⟩
                by_cases c3 : 3 < ((a :: "=" :: r) : List Str).length
                · rw [decide_eq_true (by rw [List.length_map]; omega)]
                  obtain ⟨d, hd⟩ : ∃ d, ((a :: "=" :: r) : List Str)[3]? = some d := ⟨_, List.getElem?_eq_getElem c3⟩
                  refine iteT ⟨_, rfl, wl, _, _, _, rfl, rfl, .inl (.inl hw6), atI_nat (j := 3) (v := V.str d) (by rw [List.getElem?_map, hd]; rfl), rfl, ?_⟩
                  refine ⟨?_, rfl⟩
                  rw [esg]
                  unfold withSign
                  rw [hd, decide_eq_true c3]
                  by_cases c : d = "+" <;> simp [c]
                · rw [decide_eq_false (by rw [List.length_map]; omega)]
                  refine iteF ⟨?_, rfl⟩
                  rw [esg]
                  unfold withSign
                  rw [decide_eq_false c3]; rfl
              · rintro σ' H' ⟨rfl, rfl⟩
                refine ⟨_, rfl, _, rfl, .inr ⟨sg, rfl, _, _, rfl, rfl, ?_⟩⟩
                have ecnt : ((SS.countP fun z => z.2.1 : Nat) : Int) + (if sg = true then 1 else 0) = (((SS ++ [(a, sg, nn)]).countP fun z => z.2.1 : Nat) : Int) := by
                  rw [List.countP_append]
                  cases sg <;> simp
                have flats : ((SS ++ [(a, sg, nn)]).map fun s : SetR => V.str s.1).all flatV = true := by
                  rw [List.all_map, List.all_eq_true]; intro z _; rfl
                dsimp only
                rw [ecnt]
                refine tOr_by (sg && decide (V.int (((SS ++ [(a, sg, nn)]).countP fun z => z.2.1 : Nat) : Int) = V.int 7)) (decide (V.int (((SS ++ [(a, sg, nn)]).countP fun z => decide (z.1 = a) : Nat) : Int) = V.int 4))
                  (fun Q' q => tAnd_by sg _ (fun Q' q => ⟨_, rfl, sg, rfl, q⟩) (fun _ Q' q => ⟨_, rfl, rfl, _, rfl, q⟩) q)
                  (fun _ Q' q => ⟨_, rfl, .inl ⟨rfl, _, .inl (.inl hp6)⟩, _, rfl, wl, _, _, _, rfl, rfl, .inl (.inl hw6), atI_nat (j := 0) (v := V.str a) rfl, p, _, _, rfl, rfl, .inl (.inl hp6), rfl, flats, rfl, _, rfl, (by rw [count_names]; exact q)⟩) ?_
                have efl : ((sg && decide (V.int (((SS ++ [(a, sg, nn)]).countP fun z => z.2.1 : Nat) : Int) = V.int 7)) || decide (V.int (((SS ++ [(a, sg, nn)]).countP fun z => decide (z.1 = a) : Nat) : Int) = V.int 4)) = isFault SS (a, sg, nn) := by
                  unfold isFault
                  have e7 : ∀ (x y : Nat), decide (V.int (x : Int) = V.int (y : Int)) = decide (x = y) := fun x y => by
                    by_cases c : x = y
                    · rw [decide_eq_true c, decide_eq_true (by rw [c])]
                    · rw [decide_eq_false c, decide_eq_false (fun z => c (by have := V.int.inj z; omega))]
                  rw [show V.int 7 = V.int ((7 : Nat) : Int) from rfl, show V.int 4 = V.int ((4 : Nat) : Int) from rfl, e7, e7]
                rw [efl, eS1', flt_snoc]
                have hD6 := s6 _ _ hD5
                have s06 := s05.trans s6
                have lf := lF SS
                cases c : isFault SS (a, sg, nn)
                · refine iteF ⟨p, _, _, _, rfl, s06, hD6, ?_, hp6, npf⟩
                  rw [hf6]; simp
                · refine iteT ⟨_, rfl, .inl ⟨rfl, _, .inl (.inl hf6)⟩, _, rfl, fa, _, _, rfl, rfl, hf6, ?_, p, _, _, _, rfl, same_put s06 hfa, ?_, ?_, ?_, npf⟩
                  · have := million
                    unfold intsV
                    rw [List.length_map]; omega
                  · rw [upd_ne (ne_of_none hf1 hD).symm]; exact hD6
                  · rw [upd_same]; unfold intsV; simp
                  · rw [upd_ne npf]; exact hp6
            · rw [decide_eq_false c1]
              have ei : gs nn = none := by rw [egn]; unfold infoOf; rw [← ews]; dsimp only; rw [if_neg c1]; rfl
              rw [ei] at eS1
              rw [eS1, Option.toList_none, List.append_nil]
              exact iteF ⟨sa, _, _, _, rfl, s05, hD5, hf5, hs5, nsf⟩
      · rintro σ H3 ⟨sa, v5, v6, v7, rfl, s3, hD3, hf3, hs3, nsf⟩
        rw [show tf.take (intsV tf).length = tf from by unfold intsV; rw [List.length_map, List.take_length], ← eS] at hf3
        exact ⟨_, rfl, k _ _ s3 hf3⟩
end
end Tb

set_option Elab.async false
set_option linter.all false
set_option maxRecDepth 100000
set_option maxHeartbeats 3999000
namespace Tb
open PySem PySem.Spec PyProof.Rows L2
open PySem.W (Frag)
open C8 (pss_cut tCut)
/-! ### lists of lists of lines -/
def LsAt (H : Hp) : List (List Nat) → List V → Prop
  | [], vs => vs = []
  | w :: f, vs => ∃ l us, vs = .ref l :: us ∧ H l = some (.lst (intsV w)) ∧ LsAt H f us
theorem LsAt.same {H H' : Hp} (s : Same H H') : ∀ {f : List (List Nat)} {vs : List V}, LsAt H f vs → LsAt H' f vs
  | [], _, h => h
  | w :: f, _, ⟨l, us, e, h1, h2⟩ => ⟨l, us, e, s _ _ h1, LsAt.same s h2⟩
theorem LsAt.append {H : Hp} {g : List (List Nat)} {us : List V} (hg : LsAt H g us) : ∀ {f : List (List Nat)} {vs : List V}, LsAt H f vs → LsAt H (f ++ g) (vs ++ us)
  | [], _, h => by have h : _ = [] := h; subst h; exact hg
  | w :: f, _, ⟨l, us, e, h1, h2⟩ => by subst e; exact ⟨l, _, rfl, h1, LsAt.append hg h2⟩
theorem LsAt.one {H : Hp} {w : List Nat} {l : Addr} (h : H l = some (.lst (intsV w))) : LsAt H [w] [.ref l] := ⟨l, [], rfl, h, rfl⟩
theorem LsAt.get {H : Hp} : ∀ {f : List (List Nat)} {vs : List V} {i : Nat} {v : V}, LsAt H f vs → vs[i]? = some v → ∃ w l, f[i]? = some w ∧ v = .ref l ∧ H l = some (.lst (intsV w))
  | [], _, _, _, h, e => by have h : _ = [] := h; rw [h] at e; cases e
  | w :: f, _, 0, v, ⟨l, us, e, h1, h2⟩, e2 => by subst e; cases e2; exact ⟨w, l, rfl, rfl, h1⟩
  | w :: f, _, i + 1, v, ⟨l, us, e, h1, h2⟩, e2 => by subst e; exact LsAt.get (i := i) h2 e2
theorem LsAt.length {H : Hp} : ∀ {f : List (List Nat)} {vs : List V}, LsAt H f vs → vs.length = f.length
  | [], _, h => by have h : _ = [] := h; rw [h]; rfl
  | w :: f, _, ⟨l, us, e, h1, h2⟩ => by rw [e, List.length_cons, List.length_cons, LsAt.length h2]
theorem LsAt.put {H : Hp} {D : Addr} {o : HO} : ∀ {f : List (List Nat)} {vs : List V}, LsAt H f vs → (∀ v ∈ vs, v ≠ V.ref D) → LsAt (upd H D o) f vs
  | [], _, h, _ => h
  | w :: f, _, ⟨l, us, e, h1, h2⟩, n => by
    subst e
    refine ⟨l, us, rfl, ?_, LsAt.put h2 fun v hv => n v (List.mem_cons_of_mem _ hv)⟩
    rw [upd_ne (fun z => n _ List.mem_cons_self (by rw [z]))]; exact h1
def wyRow (t : Str) : Prop := plRow t ∧ ¬ isIf t
def wyTest (t : Str) : Prop := plTest t ∧ isIf t ∧ ¬ (t = "quit" ∨ t = "no")
mutual
theorem okT.imp {p1 p2 q1 q2 : Str → Prop} (h1 : ∀ t, p1 t → p2 t) (h2 : ∀ t, q1 t → q2 t) : ∀ r : Tr, okT p1 q1 r → okT p2 q2 r
  | .row t, o => by unfold okT at o ⊢; exact h1 t o
  | .iff t a h b, o => by unfold okT at o ⊢; exact ⟨h2 t o.1, okTs.imp h1 h2 a o.2.1, okTs.imp h1 h2 b o.2.2.1, o.2.2.2⟩
theorem okTs.imp {p1 p2 q1 q2 : Str → Prop} (h1 : ∀ t, p1 t → p2 t) (h2 : ∀ t, q1 t → q2 t) : ∀ rs : List Tr, okTs p1 q1 rs → okTs p2 q2 rs
  | [], o => by unfold okTs; trivial
  | r :: rs, o => by unfold okTs at o ⊢; exact ⟨okT.imp h1 h2 r o.1, okTs.imp h1 h2 rs o.2⟩
end
theorem dp_nats {K : Frag} {H : Hp} : ∀ ns : List Nat, DpAll K H (ns.map fun n : Nat => V.int n) (ns.map fun n : Nat => PyData.int n)
  | [] => .nil
  | n :: ns => .cons (.int _) (dp_nats ns)
theorem shaped_nats (ns : List Nat) : SeqAt.shaped (.list (ns.map fun n : Nat => PyData.int n)) = true := by
  have := PySem.W.shaped_ints (ns.map fun n : Nat => (n : Int))
  rw [List.map_map] at this; exact this
theorem lastW (w : List Nat) : PyData.eqv (.list ((cutL w (some (-1)) none).map fun n : Nat => PyData.int n)) (.list [.int 0]) = isEndW w := by
  unfold isEndW
  rcases List.eq_nil_or_concat w with rfl | ⟨v, x, rfl⟩
  · rfl
  · rw [List.concat_eq_append, show cutL (v ++ [x]) (some (-1)) none = [x] from by
      unfold cutL
      rw [show HT.sIx (v ++ [x]).length 0 (some (-1)) = v.length from by show ((-1 : Int) + (((v ++ [x]).length : Nat) : Int)).toNat = _; simp; omega, show HT.sIx (v ++ [x]).length (v ++ [x]).length none = v.length + 1 from by show (v ++ [x]).length = _; simp]
      simp]
    rw [List.getLast?_append, show [x].getLast?.or v.getLast? = some x from rfl]
    by_cases c : x = 0
    · subst c; rfl
    · rw [decide_eq_false (fun z => c (Option.some.inj z))]
      simp [PyData.eqv, PyData.eqvAll, c]
def spLW (K : Frag) (e : Nat) : Sp := fun vs H Q _ => ∃ (la : Addr) (lines : List Str) (n : Nat) (ts : List Tr), vs = [.ref la, .int ((n : Int) + 1), .int (((n + (flRs ts).length : Nat) : Int) + 1)] ∧ SqL K H la (lines.map V.str) ∧ lines.length ≤ 1000 ∧ (∀ t ∈ lines, t.length + 2 ≤ sizeLine ∧ Txt.split t " " ≠ []) ∧ At lines n (flRs ts) ∧ okTs wyRow wyTest ts ∧ dTs ts ≤ e ∧ nTs ts ≤ 20 ∧
  ∀ H' p ws, Same H H' → H' p = some (.lst ws) → LsAt H' (lwRs n ts [[]]) ws → Q (.ref p) H'
def spLW' (K : Frag) : Nat → Sp
  | 0 => fun _ _ _ _ => False
  | e + 1 => spLW K e
def WInv (H0 : Hp) (la : Addr) (lines : List Str) (first last : Int) (e : Nat) (R : List (List Nat)) (tot k : Nat) (σ : L2.St) (H : Hp) : Prop := ∃ (m : Nat) (rs : List Tr) (f : List (List Nat)) (fa : Addr) (fvs : List V) (v5 v6 v7 v8 v9 v10 v11 : Option V), k = tot - m ∧ σ = [some (.ref la), some (.int first), some (.int last), some (.ref fa), some (.int ((m : Int) + 1)), v5, v6, v7, v8, v9, v10, v11] ∧
  Same H0 H ∧ H fa = some (.lst fvs) ∧ LsAt H f fvs ∧ At lines m (flRs rs) ∧ m + (flRs rs).length = tot ∧ okTs wyRow wyTest rs ∧ dTs rs ≤ e ∧ nTs rs ≤ 20 ∧ lwRs m rs f = R ∧ f.length * 2 ^ nTs rs ≤ 2 ^ 20 ∧ longL (2 * m) f
theorem At.len {lines xs : List Str} {n : Nat} (h : At lines n xs) : n + xs.length ≤ lines.length := by
  obtain ⟨pre, post, e, l⟩ := h
  rw [e]; simp; omega
theorem flR_pos (r : Tr) : 0 < (flR r).length := by cases r <;> (unfold flR; simp)
section
variable {P : Program} {w : World} {K : Frag} {mg : Str → Option Value} {base : Heap} {tk : Nat → Tok} {g : GA}
theorem ok_ways {f : Addr} {fd : FuncData} {k e : Nat} (F : Fun K "_law_ways" "_law_ways" s_Lways f fd) (T : Bl mg) (hk1 : 1 ≤ k) (hL_block : HasF P w K mg base "_law_block" 1 (spBlockL K)) (hL_ways : HasF P w K mg base "_law_ways" k (spLW' K e)) : FnOk P w K mg base CX0 (k + 1) f fd ["_law_lines_here", "_law_first", "_law_last"] (spLW K e) := by
  refine F.ok sc_Lways (fun vs H Q E h => ?_) (fun cdv A outer s H vs Q E hr h => ?_)
  · obtain ⟨la, lines, n, ts, rfl, _⟩ := h; rfl
  · obtain ⟨la, lines, n, ts, rfl, hL, hn, hl, at0, ot, hd, hnt, kk⟩ := h
    refine ⟨_, (pss_cons (ps_asg (pe_tup (pa_cons (pe_lst (pa_cons (pe_lst pa_nil) pa_nil)) (pa_cons (pv 1) pa_nil))) (pg_tup rfl (pgs_cons (pg_name (i := 3) sc_Lways.nd rfl (by first | exact Or.inl rfl | exact Or.inr rfl)) (pgs_cons (pg_name (i := 4) sc_Lways.nd rfl (by first | exact Or.inl rfl | exact Or.inr rfl)) pgs_nil))))
      (pss_cons (ps_while PassesOwn.never (pt_cmpR op_lt (pv 4) (pv 2) (nomark _))
        (pss_cut (ps_par (i := 5) (j := 6) (by rfl) sc_Lways.nd rfl rfl (by decide) rfl rfl (pa_cons (pe_ifExp (pt_cmpR op_in_seq (pe_ix ix_list (pv 0) (pe_op op_sub (pv 4) pe_int) (fun _ _ => rfl)) (pe_lst (pa_cons pe_str (pa_cons pe_str pa_nil))) (by first | rfl | exact nomark _)) (pe_lst (pa_cons (pe_lst (pa_cons (pv 4) (pa_cons pe_int pa_nil))) pa_nil)) (pe_lst (pa_cons (pe_lst (pa_cons (pv 4) pa_nil)) pa_nil))) (pa_cons (pv 4) pa_nil)) (by rfl))
        (pss_cut (ps_if (pt_cmpR op_eq (pe_slice sl_str (pe_ix ix_list (pv 0) (pe_op op_sub (pv 4) pe_int) (fun _ _ => rfl)) po_none (po_some pe_int)) pe_str (nomark _))
          (pss_cons (ps_asg (pe_fn hL_block (hr.mono (by first | decide | omega)) rfl (pa_cons (pv 0) (pa_cons (pv 4) pa_nil))) (pg_tup rfl (pgs_cons (pg_name (i := 7) sc_Lways.nd rfl (by first | exact Or.inl rfl | exact Or.inr rfl)) (pgs_cons (pg_name (i := 6) sc_Lways.nd rfl (by first | exact Or.inl rfl | exact Or.inr rfl)) pgs_nil))))
          (pss_cut (ps_set (i := 8) sc_Lways.nd rfl (by first | exact Or.inl rfl | exact Or.inr rfl) (pe_ifExp (pt_cmpR op_gt (pv 7) pe_int (nomark _)) (pv 7) (pv 6)))
          (pss_cons (ps_setLc (i := 5) (own := [("_law_way", 9)]) (g := gName 9) (tt := tYes) rfl sc_Lways.nd rfl rfl (sw_true rfl rfl rfl (by decide +kernel)) (pi_list (pe_fn hL_ways (hr.mono (by first | decide | omega)) rfl (pa_cons (pv 0) (pa_cons (pe_op op_add (pv 4) pe_int) (pa_cons (pv 8) pa_nil))))) (blkOk_by (own := [("_law_way", 9)]) (N := nm_Lways) (sc := defScope s_Lways) (by decide +kernel)) (fun _ _ _ _ _ => pg_name (i := 9) sc_Lways.nd rfl (by first | exact Or.inl rfl | exact Or.inr rfl)) (fun _ _ _ _ _ => pts_nil) (fun _ _ _ _ _ => (pe_op op_cat (pe_lst (pa_cons (pv 4) pa_nil)) (pv 9))))
          (pss_one (ps_set (i := 5) sc_Lways.nd rfl (by first | exact Or.inl rfl | exact Or.inr rfl) (pe_op op_cat (pv 5) (pe_lc (own := [("_law_way", 9)]) (g := gName 9) (tt := tYes) rfl sc_Lways.nd (pi_list (pe_fn hL_ways (hr.mono (by first | decide | omega)) rfl (pa_cons (pv 0) (pa_cons (pe_op op_add (pv 8) (pe_callTy call_int1 (by rfl) T.int PyProof.Rows.boot_int (pa_cons (pe_cmpR op_gt (pv 7) pe_int (nomark _)) pa_nil))) (pa_cons (pv 6) pa_nil))))) (blkOk_by (own := [("_law_way", 9)]) (N := nm_Lways) (sc := defScope s_Lways) (by decide +kernel)) (fun _ _ _ _ _ => pg_name (i := 9) sc_Lways.nd rfl (by first | exact Or.inl rfl | exact Or.inr rfl)) (fun _ _ _ _ _ => pts_nil) (fun _ _ _ _ _ => (pe_op op_cat (pe_lst (pa_cons (pv 4) pa_nil)) (pv 9))))))))))
          pss_nil)
        (pss_cut (ps_setLc (i := 10) (own := [("_law_way", 9)]) (g := gName 9) rfl sc_Lways.nd rfl rfl (sw_true rfl rfl rfl (by decide +kernel)) (pi_list (pv 3)) (blkOk_by (own := [("_law_way", 9)]) (N := nm_Lways) (sc := defScope s_Lways) (by decide +kernel)) (fun _ _ _ _ _ => pg_name (i := 9) sc_Lways.nd rfl (by first | exact Or.inl rfl | exact Or.inr rfl)) (fun _ _ _ _ _ => (pts_one (pt_cmpR (op_eqDK (K := K) (by rfl) (by exact hr.units)) (pe_slice (sl_listK (K := K) (by rfl)) (pv 9) (po_some (pe_un un_neg pe_int)) po_none) (pe_lst (pa_cons pe_int pa_nil)) (nomark _)))) (fun _ _ _ _ _ => (pv 9)))
        (pss_cut (ps_for PassesOwn.never rfl (pi_list (pe_lc (own := [("_law_way", 9)]) (g := gName 9) rfl sc_Lways.nd (pi_list (pv 3)) (blkOk_by (own := [("_law_way", 9)]) (N := nm_Lways) (sc := defScope s_Lways) (by decide +kernel)) (fun _ _ _ _ _ => pg_name (i := 9) sc_Lways.nd rfl (by first | exact Or.inl rfl | exact Or.inr rfl)) (fun _ _ _ _ _ => (pts_one (pt_cmpR (op_neDK (K := K) (by rfl) (by exact hr.units)) (pe_slice (sl_listK (K := K) (by rfl)) (pv 9) (po_some (pe_un un_neg pe_int)) po_none) (pe_lst (pa_cons pe_int pa_nil)) (nomark _)))) (fun _ _ _ _ _ => (pv 9)))) (pg_name (i := 9) sc_Lways.nd rfl (by first | exact Or.inl rfl | exact Or.inr rfl))
          (pss_one (ps_set (i := 10) sc_Lways.nd rfl (by first | exact Or.inl rfl | exact Or.inr rfl) (pe_op op_cat (pv 10) (pe_lc (own := [("_law_tail", 11)]) (g := gName 11) (tt := tYes) rfl sc_Lways.nd (pi_list (pv 5)) (blkOk_by (own := [("_law_tail", 11)]) (N := nm_Lways) (sc := defScope s_Lways) (by decide +kernel)) (fun _ _ _ _ _ => pg_name (i := 11) sc_Lways.nd rfl (by first | exact Or.inl rfl | exact Or.inr rfl)) (fun _ _ _ _ _ => pts_nil) (fun _ _ _ _ _ => (pe_op op_cat (pv 9) (pv 11))))))))
        (pss_one (ps_asg (pe_tup (pa_cons (pv 10) (pa_cons (pe_op op_add (pv 6) pe_int) pa_nil))) (pg_tup rfl (pgs_cons (pg_name (i := 3) sc_Lways.nd rfl (by first | exact Or.inl rfl | exact Or.inr rfl)) (pgs_cons (pg_name (i := 4) sc_Lways.nd rfl (by first | exact Or.inl rfl | exact Or.inr rfl)) pgs_nil))))))))))
      (pss_one (ps_ret (pv 3))))), ?_⟩
    obtain ⟨tot, etot⟩ : ∃ tot, tot = n + (flRs ts).length := ⟨_, rfl⟩
    rw [← etot]
    have htot : tot ≤ lines.length := by rw [etot]; exact at0.len
    refine ⟨(by show 0 ≤ sizeLine; decide), fun l0 hl0 => ⟨(by show 1 ≤ sizeLine; decide), fun fa hfa => ⟨_, rfl, (by show 2 ≤ sizeLine; decide), fun t0 ht0 => ⟨t0, _, rfl, .inl (.inl upd_same), rfl, _, _, rfl, _, _, rfl, rfl, ?_⟩⟩⟩⟩
    have s1 : Same H (upd (upd (upd H l0 (.lst [])) fa (.lst [.ref l0])) t0 (.tup [.ref fa, .int ((n : Int) + 1)])) := same_new (same_new (same_new (Same.refl H) hl0) hfa) ht0
    have hf1 : upd (upd (upd H l0 (.lst [])) fa (.lst [.ref l0])) t0 (.tup [.ref fa, .int ((n : Int) + 1)]) fa = some (.lst [.ref l0]) := by rw [upd_ne (ne_of_none upd_same ht0)]; exact upd_same
    have hl1 : upd (upd (upd H l0 (.lst [])) fa (.lst [.ref l0])) t0 (.tup [.ref fa, .int ((n : Int) + 1)]) l0 = some (.lst (intsV [])) := by
      have h2 : upd (upd H l0 (.lst [])) fa (.lst [.ref l0]) l0 = some (.lst []) := by rw [upd_ne (ne_of_none upd_same hfa)]; exact upd_same
      rw [upd_ne (ne_of_none h2 ht0)]; exact h2
    dsimp only [gName]
    generalize upd (upd (upd H l0 (.lst [])) fa (.lst [.ref l0])) t0 (.tup [.ref fa, .int ((n : Int) + 1)]) = H1 at *
    refine ⟨WInv H la lines ((n : Int) + 1) ((tot : Int) + 1) e (lwRs n ts [[]]) tot, ⟨_, n, ts, [[]], fa, _, none, none, none, none, none, none, none, rfl, rfl, s1, hf1, LsAt.one hl1, at0, etot.symm, ot, hd, hnt, rfl, by simp only [List.length_singleton, Nat.one_mul]; exact Nat.pow_le_pow_right (by decide) hnt, by intro w hw; rw [List.mem_singleton.mp hw]; simp⟩, ?_⟩
    rintro m0 σ H2 ⟨m, rs, ff, fa, fvs, v5, v6, v7, v8, v9, v10, v11, rfl, rfl, s2, hf2, hls2, at2, ht2, o2, hd2, hn2, eR, hlen2, hlong2⟩
    refine ⟨_, rfl, _, rfl, _, _, rfl, rfl, _, rfl, ?_⟩
    cases rs with
    | nil =>
      unfold flRs at ht2
      simp at ht2
      rw [decide_eq_false (by omega)]
      refine iteF ⟨_, rfl, kk _ _ _ s2 hf2 ?_⟩
      rw [← eR, lwRs]; exact hls2
    | cons r rs =>
      have hpos := flR_pos r
      have ht2' : m + (flR r).length + (flRs rs).length = tot := by rw [← ht2, flRs, List.length_append]; omega
      rw [decide_eq_true (by omega)]
      refine iteT ⟨fun σ' H' => ∃ m', m' < tot - m ∧ WInv H la lines ((n : Int) + 1) ((tot : Int) + 1) e (lwRs n ts [[]]) tot m' σ' H', fun _ _ z => z, ?_⟩
      have at2' := at2
      rw [flRs] at at2'
      obtain ⟨atr, atrs⟩ := at2'.app
      obtain ⟨t, rt, er⟩ : ∃ t rt, flR r = t :: rt := by cases r <;> (unfold flR; exact ⟨_, _, rfl⟩)
      have htx : lines[m]? = some t := by rw [er] at atr; exact atr.head.1
      have hml : m < lines.length := (List.getElem?_eq_some_iff.mp htx).1
      obtain ⟨htl, htn⟩ := hl t (List.mem_of_getElem? htx)
      refine ⟨fun σ' H' => ∃ (ta : Addr) (tvs : List V), σ' = [some (.ref la), some (.int ((n : Int) + 1)), some (.int ((tot : Int) + 1)), some (.ref fa), some (.int ((m : Int) + 1)), some (.ref ta), some (.int ((m : Int) + 1)), v7, v8, v9, v10, v11] ∧ Same H2 H' ∧ H' ta = some (.lst tvs) ∧ LsAt H' (if t = "quit" ∨ t = "no" then [[m + 1, 0]] else [[m + 1]]) tvs, ?_, ?_⟩
      · refine ⟨_, rfl, _, rfl, _, _, rfl, rfl, la, _, _, .str t, rfl, rfl, s2.seq hL, ?_, (by show 2 ≤ sizeLine; decide), fun ql hql => ⟨ql, _, rfl, .inl (.inl (.inl upd_same)), rfl, rfl, _, rfl, ?_⟩⟩
        · rw [show (m : Int) + 1 - 1 = ((m : Nat) : Int) by omega]
          exact atI_nat (j := m) (v := V.str t) (by rw [List.getElem?_map, htx]; rfl)
        have s3 := same_new (o := .lst [.str "quit", .str "no"]) (Same.refl H2) hql
        generalize upd H2 ql (.lst [.str "quit", .str "no"]) = H3 at *
        show if inV (.str t) [V.str "quit", V.str "no"] = true then _ else _
        rw [show inV (.str t) [V.str "quit", V.str "no"] = decide (t ∈ (["quit", "no"] : List Str)) from inV_str t ["quit", "no"]]
        by_cases c : t = "quit" ∨ t = "no"
        · rw [decide_eq_true (by simpa using c), if_pos c]
          refine iteT ⟨_, rfl, (by show 2 ≤ sizeLine; decide), fun w0 hw0 => ⟨(by show 1 ≤ sizeLine; decide), fun ta hta => ⟨_, rfl, _, _, rfl, ta, _, rfl, same_new (same_new s3 hw0) hta, upd_same, LsAt.one ?_⟩⟩⟩
          rw [upd_ne (ne_of_none upd_same hta), upd_same]; rfl
        · rw [decide_eq_false (by simpa using c), if_neg c]
          refine iteF ⟨_, rfl, (by show 1 ≤ sizeLine; decide), fun w0 hw0 => ⟨(by show 1 ≤ sizeLine; decide), fun ta hta => ⟨_, rfl, _, _, rfl, ta, _, rfl, same_new (same_new s3 hw0) hta, upd_same, LsAt.one ?_⟩⟩⟩
          rw [upd_ne (ne_of_none upd_same hta), upd_same]; rfl
      rintro σ' H3 ⟨ta, tvs, rfl, s3, hta3, hlt3⟩
      have s03 := s2.trans s3
      refine ⟨fun σ' H' => ∃ (ta : Addr) (tvs : List V) (v7 v8 v9 : Option V), σ' = [some (.ref la), some (.int ((n : Int) + 1)), some (.int ((tot : Int) + 1)), some (.ref fa), some (.int ((m : Int) + 1)), some (.ref ta), some (.int ((m + (flR r).length : Nat) : Int)), v7, v8, v9, v10, v11] ∧ Same H3 H' ∧ H' ta = some (.lst tvs) ∧ LsAt H' (lwR m r) tvs, ?_, ?_⟩
      · refine ⟨_, rfl, _, rfl, _, _, rfl, rfl, la, _, _, .str t, rfl, rfl, s03.seq hL, ?_, _, rfl, t, rfl, by omega, rfl, _, rfl, ?_⟩
        · rw [show (m : Int) + 1 - 1 = ((m : Nat) : Int) by omega]
          exact atI_nat (j := m) (v := V.str t) (by rw [List.getElem?_map, htx]; rfl)
        cases r with
        | row t' =>
          unfold flR at er
          cases er
          unfold okTs okT at o2
          rw [decide_eq_false (fun z => o2.1.2 (V.str.inj z))]
          refine iteF ⟨ta, tvs, _, _, _, rfl, Same.refl _, hta3, ?_⟩
          unfold lwR; exact hlt3
        | iff t' a h b =>
          have er' := er
          unfold flR at er'
          cases er'
          have o3 := o2
          unfold okTs okT at o3
          obtain ⟨⟨ot1, oa, ob, hb⟩, ors⟩ := o3
          rw [decide_eq_true (by rw [show cutS t none (some 3) = "if " from ot1.2.1])]
          have oa' := okTs.imp (p2 := plRow) (q2 := plTest) (fun t h => h.1) (fun t h => h.1) a oa
          have ob' := okTs.imp (p2 := plRow) (q2 := plTest) (fun t h => h.1) (fun t h => h.1) b ob
          have lenF : (flR (.iff t a h b)).length = 1 + (flRs a).length + (if h then 1 + (flRs b).length else 0) + 1 := by
            rw [flR]; cases h <;> simp <;> omega
          have atb := atr
          rw [flR] at atb
          obtain ⟨_, atb1⟩ := atb.head
          obtain ⟨atA, atb2⟩ := atb1.app
          have edrop : ∃ rest, lines.drop (m + 1) = flRs a ++ ((if h then ("else" : Str) :: flRs b else []) ++ (("end" : Str) :: rest)) := by
            obtain ⟨pre, post, e1, e2⟩ := atb1
            refine ⟨post, ?_⟩
            rw [e1, ← e2, List.drop_left]; simp
          obtain ⟨rest, edrop⟩ := edrop
          have esc : scanB (lines.drop (m + 1)) (m + 1) 0 0 = (if h then m + 1 + (flRs a).length + 1 else 0, m + 1 + (flRs a).length + (if h then 1 + (flRs b).length else 0) + 1) := by rw [edrop]; exact scan_block (t := t) oa' ob'
          have e6 : m + 1 + (flRs a).length + (if h then 1 + (flRs b).length else 0) + 1 = m + (flR (.iff t a h b)).length := by rw [lenF]; omega
          unfold dTs dT at hd2
          unfold nTs nT at hn2
          obtain ⟨e', rfl⟩ : ∃ e', e = e' + 1 := ⟨e - 1, by omega⟩
          refine iteT ⟨_, rfl, _, rfl, la, m + 1, lines, rfl, s03.seq hL, by omega, hn, hl, fun H4 tp s4 htp => ⟨tp, _, rfl, .inl (.inl htp), rfl, _, _, rfl, _, _, rfl, rfl, ?_⟩⟩
          rw [esc, e6]
          dsimp only [gName]
          obtain ⟨ot, eot⟩ : ∃ ot : Nat, ot = if h = true then m + 1 + (flRs a).length + 1 else 0 := ⟨_, rfl⟩
          rw [← eot]
          refine ⟨fun σ' H' => σ' = [some (.ref la), some (.int ((n : Int) + 1)), some (.int ((tot : Int) + 1)), some (.ref fa), some (.int ((m : Int) + 1)), some (.ref ta), some (.int ((m + (flR (.iff t a h b)).length : Nat) : Int)), some (.int ot), some (.int ((m + (flRs a).length + 2 : Nat) : Int)), v9, v10, v11] ∧ H' = H4, ?_, ?_⟩
          · refine ⟨_, rfl, _, _, rfl, rfl, _, rfl, ?_⟩
            cases h with
            | true =>
              rw [if_pos rfl] at eot
              rw [decide_eq_true (by omega)]
              refine iteT ⟨_, rfl, ?_, rfl⟩
              rw [eot, show m + (flRs a).length + 2 = m + 1 + (flRs a).length + 1 by omega]; rfl
            | false =>
              rw [if_neg (by decide)] at eot
              rw [decide_eq_false (by omega)]
              refine iteF ⟨_, rfl, ?_, rfl⟩
              rw [lenF, show m + (flRs a).length + 2 = m + (1 + (flRs a).length + (if false = true then 1 + (flRs b).length else 0) + 1) by simp; omega]; rfl
          rintro σ' H' ⟨rfl, rfl⟩
          have s04 := s03.trans s4
          have lenA := lwRs_len (m + 1) a [[]]
          have longA := lwRs_long (pr := wyRow) (pt := wyTest) (m + 1) a [[]] 0 oa (by intro w hw; rw [List.mem_singleton.mp hw]; simp)
          obtain ⟨fA, efA⟩ : ∃ fA, fA = lwRs (m + 1) a [[]] := ⟨_, rfl⟩
          have atAl := atA.len
          have fAlen : fA.length ≤ 2 ^ 20 := by
            rw [efA]
            simp only [List.length_singleton, Nat.one_mul] at lenA
            exact Nat.le_trans lenA (Nat.pow_le_pow_right (by decide) (by omega))
          have fAlong : longL 2000 fA := by
            rw [efA]; intro w hw
            have := longA w hw
            omega
          refine ⟨_, rfl, _, rfl, _, _, rfl, rfl, _, rfl, la, lines, m + 1, a, ?_, s04.seq hL, hn, hl, atA, oa, by omega, by omega, fun H5 p ws s5 hp hls => ⟨p, rfl, ⟨_, .inl (.inl hp)⟩, fun D hD => ?_⟩⟩
          · rw [show m + 1 + (flRs a).length = m + (flRs a).length + 1 by omega]; rfl
          rw [← efA] at hls
          refine lc_list (K := K) (a := p) (xs := ws) (fun c H9 => ∃ dvs, Same H5 H9 ∧ H9 D = some (.lst dvs) ∧ LsAt H9 ((fA.take c).map fun w => (m + 1) :: w) dvs ∧ ∀ v ∈ dvs, v ≠ V.ref D) ⟨[], same_new (Same.refl _) hD, upd_same, rfl, fun v hv => nomatch hv⟩ (fun c H9 _ ⟨dvs, s, _⟩ => .inl (.inl (s _ _ hp))) ?_ ?_
          · rintro c xw H9 hxw ⟨dvs, s9, hD9, hdv, hdn⟩
            obtain ⟨wy, lw, hwc, rfl, hlw⟩ := hls.get hxw
            have hcl := (List.getElem?_eq_some_iff.mp hwc).1
            have hwl := fAlong wy (List.mem_of_getElem? hwc)
            refine ⟨rfl, _, rfl, (by show 1 ≤ sizeLine; decide), fun q1 hq1 => ⟨_, rfl, q1, lw, _, _, rfl, rfl, upd_same, by rw [upd_ne (ne_of_none (s9 _ _ hlw) hq1)]; exact s9 _ _ hlw, ?_, fun q2 hq2 => ?_⟩⟩
            · have := million
              unfold intsV
              rw [List.length_map]; simp; omega
            have sx : Same H9 (upd (upd H9 q1 (.lst [.int ((m : Int) + 1)])) q2 (.lst ([V.int ((m : Int) + 1)] ++ intsV wy))) := same_new (same_new (Same.refl H9) hq1) hq2
            have hq2' : upd (upd H9 q1 (.lst [.int ((m : Int) + 1)])) q2 (.lst ([V.int ((m : Int) + 1)] ++ intsV wy)) q2 = some (.lst (intsV ((m + 1) :: wy))) := by rw [upd_same]; rfl
            have nq : q2 ≠ D := fun z => by rw [z, upd_ne (ne_of_none hD9 hq1), hD9] at hq2; cases hq2
            generalize upd (upd H9 q1 (.lst [.int ((m : Int) + 1)])) q2 (.lst ([V.int ((m : Int) + 1)] ++ intsV wy)) = HA at *
            have hDA := sx _ _ hD9
            refine ⟨dvs, hDA, ?_, dvs ++ [.ref q2], same_put (s9.trans sx) hD, upd_same, ?_, ?_⟩
            · have := million
              have := hdv.length
              rw [List.length_map, List.length_take] at this
              have := fAlen
              omega
            · rw [show (fA.take (c + 1)).map (fun w => (m + 1) :: w) = (fA.take c).map (fun w => (m + 1) :: w) ++ [(m + 1) :: wy] from by rw [List.take_add_one, hwc]; simp]
              refine LsAt.put (LsAt.append (LsAt.one hq2') (hdv.same sx)) fun v hv => ?_
              rcases List.mem_append.mp hv with hv | hv
              · exact hdn v hv
              · rw [List.mem_singleton.mp hv]; exact fun z => nq (V.ref.inj z)
            · intro v hv
              rcases List.mem_append.mp hv with hv | hv
              · exact hdn v hv
              · rw [List.mem_singleton.mp hv]; exact fun z => nq (V.ref.inj z)
          · rintro H9 ⟨dvs, s9, hD9, hdv, hdn⟩
            rw [show fA.take ws.length = fA from by rw [List.take_of_length_le]; rw [hls.length]; exact Nat.le_refl _] at hdv
            have s05 := (s04.trans s5).trans s9
            dsimp only [gName]
            have lenB := lwRs_len (m + 1 + (flRs a).length + (if h then 1 else 0)) b [[]]
            have longB := lwRs_long (pr := wyRow) (pt := wyTest) (m + 1 + (flRs a).length + (if h then 1 else 0)) b [[]] 0 ob (by intro w hw; rw [List.mem_singleton.mp hw]; simp)
            obtain ⟨fB, efB⟩ : ∃ fB, fB = lwRs (m + 1 + (flRs a).length + (if h then 1 else 0)) b [[]] := ⟨_, rfl⟩
            obtain ⟨nB, enB⟩ : ∃ nB, nB = m + 1 + (flRs a).length + (if h then 1 else 0) := ⟨_, rfl⟩
            rw [← enB] at lenB longB efB
            have atB : At lines nB (flRs b) ∧ nB + (flRs b).length + 1 = m + (flR (.iff t a h b)).length ∧ ((m + (flRs a).length + 2 : Nat) : Int) + (if decide ((0 : Int) < (ot : Int)) = true then 1 else 0) = (nB : Int) + 1 := by
              cases h with
              | true =>
                rw [if_pos rfl] at eot enB
                have at2' : At lines (m + 1 + (flRs a).length) (("else" : Str) :: (flRs b ++ [("end" : Str)])) := atb2
                refine ⟨?_, ?_, ?_⟩
                · rw [enB]; exact at2'.head.2.app.1
                · rw [enB, lenF]; simp; omega
                · rw [decide_eq_true (by omega), if_pos rfl]; omega
              | false =>
                have eb := hb rfl
                subst eb
                rw [if_neg (by decide)] at eot enB
                have at2' : At lines (m + 1 + (flRs a).length) ([("end" : Str)]) := atb2
                have fl0 : flRs [] = [] := by unfold flRs; rfl
                refine ⟨?_, ?_, ?_⟩
                · rw [enB, fl0]
                  have : At lines (m + 1 + (flRs a).length) ([] ++ [("end" : Str)]) := at2'
                  exact this.app.1
                · rw [enB, lenF, fl0]; simp; omega
                · rw [decide_eq_false (by omega), if_neg (by decide)]; omega
            obtain ⟨atB, eEnd, eFirst⟩ := atB
            have atBl := atB.len
            have fBlen : fB.length ≤ 2 ^ 20 := by
              rw [efB]
              simp only [List.length_singleton, Nat.one_mul] at lenB
              exact Nat.le_trans lenB (Nat.pow_le_pow_right (by decide) (by omega))
            have fBlong : longL 2000 fB := by
              rw [efB]; intro w hw
              have := longB w hw
              omega
            refine ⟨_, rfl, _, rfl, _, rfl, _, rfl, _, _, rfl, rfl, .inr ⟨_, rfl, _, _, rfl, rfl, _, rfl, la, lines, nB, b, ?_, s05.seq hL, hn, hl, atB, ob, by omega, by omega, fun H6 pB wsB s6 hpB hlsB => ⟨pB, rfl, ⟨_, .inl (.inl hpB)⟩, fun D2 hD2 => ?_⟩⟩⟩
            · rw [← eEnd, ← eFirst]; rfl
            rw [← efB] at hlsB
            refine lc_list (K := K) (a := pB) (xs := wsB) (fun c HB => ∃ dvs, Same H6 HB ∧ HB D2 = some (.lst dvs) ∧ LsAt HB ((fB.take c).map fun w => (m + 1) :: w) dvs ∧ ∀ v ∈ dvs, v ≠ V.ref D2) ⟨[], same_new (Same.refl _) hD2, upd_same, rfl, fun v hv => nomatch hv⟩ (fun c HB _ ⟨dvs, s, _⟩ => .inl (.inl (s _ _ hpB))) ?_ ?_
            · rintro c xw HB hxw ⟨dvs, s9, hD9, hdv, hdn⟩
              obtain ⟨wy, lw, hwc, rfl, hlw⟩ := hlsB.get hxw
              have hcl := (List.getElem?_eq_some_iff.mp hwc).1
              have hwl := fBlong wy (List.mem_of_getElem? hwc)
              refine ⟨rfl, _, rfl, (by show 1 ≤ sizeLine; decide), fun q1 hq1 => ⟨_, rfl, q1, lw, _, _, rfl, rfl, upd_same, by rw [upd_ne (ne_of_none (s9 _ _ hlw) hq1)]; exact s9 _ _ hlw, ?_, fun q2 hq2 => ?_⟩⟩
              · have := million
                unfold intsV
                rw [List.length_map]; simp; omega
              have sx : Same HB (upd (upd HB q1 (.lst [.int ((m : Int) + 1)])) q2 (.lst ([V.int ((m : Int) + 1)] ++ intsV wy))) := same_new (same_new (Same.refl HB) hq1) hq2
              have hq2' : upd (upd HB q1 (.lst [.int ((m : Int) + 1)])) q2 (.lst ([V.int ((m : Int) + 1)] ++ intsV wy)) q2 = some (.lst (intsV ((m + 1) :: wy))) := by rw [upd_same]; rfl
              have nq : q2 ≠ D2 := fun z => by rw [z, upd_ne (ne_of_none hD9 hq1), hD9] at hq2; cases hq2
              generalize upd (upd HB q1 (.lst [.int ((m : Int) + 1)])) q2 (.lst ([V.int ((m : Int) + 1)] ++ intsV wy)) = HC at *
              have hDA := sx _ _ hD9
              refine ⟨dvs, hDA, ?_, dvs ++ [.ref q2], same_put (s9.trans sx) hD2, upd_same, ?_, ?_⟩
              · have := million
                have := hdv.length
                rw [List.length_map, List.length_take] at this
                have := fBlen
                omega
              · rw [show (fB.take (c + 1)).map (fun w => (m + 1) :: w) = (fB.take c).map (fun w => (m + 1) :: w) ++ [(m + 1) :: wy] from by rw [List.take_add_one, hwc]; simp]
                refine LsAt.put (LsAt.append (LsAt.one hq2') (hdv.same sx)) fun v hv => ?_
                rcases List.mem_append.mp hv with hv | hv
                · exact hdn v hv
                · rw [List.mem_singleton.mp hv]; exact fun z => nq (V.ref.inj z)
              · intro v hv
                rcases List.mem_append.mp hv with hv | hv
                · exact hdn v hv
                · rw [List.mem_singleton.mp hv]; exact fun z => nq (V.ref.inj z)
            · rintro HB ⟨dvB, sB, hDB, hdB, hnB⟩
              rw [show fB.take wsB.length = fB from by rw [List.take_of_length_le]; rw [hlsB.length]; exact Nat.le_refl _] at hdB
              have sAll := s6.trans sB
              have hDx := sAll _ _ hD9
              refine ⟨D, D2, dvs, dvB, rfl, rfl, hDx, hDB, ?_, fun p3 hp3 => ?_⟩
              · have mil : (6000000 : Nat) < sizeLine := by decide
                have h1 := hdv.length
                have h2 := hdB.length
                rw [List.length_map] at h1 h2
                omega
              refine ⟨p3, _, _, _, _, rfl, same_new (((s4.trans s5).trans s9).trans sAll) hp3, upd_same, ?_⟩
              have sx := same_new (o := .lst (dvs ++ dvB)) (Same.refl HB) hp3
              unfold lwR
              rw [← enB, ← efA, ← efB]
              exact LsAt.append (hdB.same sx) ((hdv.same sAll).same sx)
      rintro σ' H4 ⟨ta, tvs, v7, v8, v9, rfl, s4, hta4, hlt4⟩
      have s04 := s03.trans s4
      have hf4 := s4 _ _ (s3 _ _ hf2)
      have hls4 := hls2.same (s3.trans s4)
      have ffl : ff.length ≤ 2 ^ 20 := by
        have h1 : 1 ≤ 2 ^ nTs (r :: rs) := Nat.one_le_two_pow
        have h2 : ff.length * 1 ≤ ff.length * 2 ^ nTs (r :: rs) := Nat.mul_le_mul_left _ h1
        omega
      have ffL : longL 2000 ff := fun w hw => by have := hlong2 w hw; omega
      refine ⟨fun σ' H' => ∃ (lo : Addr) (lvs : List V), σ' = [some (.ref la), some (.int ((n : Int) + 1)), some (.int ((tot : Int) + 1)), some (.ref fa), some (.int ((m : Int) + 1)), some (.ref ta), some (.int ((m + (flR r).length : Nat) : Int)), v7, v8, v9, some (.ref lo), v11] ∧ Same H4 H' ∧ H' lo = some (.lst lvs) ∧ LsAt H' (ff.filter isEndW) lvs, ?_, ?_⟩
      · refine ⟨_, rfl, fa, rfl, ⟨_, .inl (.inl hf4)⟩, fun D hD => ?_⟩
        refine lc_list (K := K) (a := fa) (xs := fvs) (fun c H9 => ∃ dvs, Same H4 H9 ∧ H9 D = some (.lst dvs) ∧ LsAt H9 ((ff.take c).filter isEndW) dvs ∧ ∀ v ∈ dvs, v ≠ V.ref D) ⟨[], same_new (Same.refl _) hD, upd_same, rfl, fun v hv => nomatch hv⟩ (fun c H9 _ ⟨dvs, s, _⟩ => .inl (.inl (s _ _ hf4))) ?_ ?_
        · rintro c xw H9 hxw ⟨dvs, s9, hD9, hdv, hdn⟩
          obtain ⟨wy, lw, hwc, rfl, hlw0⟩ := hls4.get hxw
          have hlw := s9 _ _ hlw0
          have nq : lw ≠ D := ne_of_none hlw0 hD
          have hcl := (List.getElem?_eq_some_iff.mp hwc).1
          refine ⟨rfl, _, rfl, _, rfl, _, rfl, lw, _, rfl, .inl (.inl hlw), fun q1 hq1 => ⟨(by show 1 ≤ sizeLine; decide), fun q2 hq2 => ?_⟩⟩
          rw [show intsV wy = wy.map (fun n : Nat => V.int n) from rfl, cutV_map] at hq2 ⊢
          have sx : Same H9 (upd (upd H9 q1 (.lst ((cutL wy (some (-1)) none).map fun n : Nat => V.int n))) q2 (.lst [.int 0])) := same_new (same_new (Same.refl H9) hq1) hq2
          have h1x : upd (upd H9 q1 (.lst ((cutL wy (some (-1)) none).map fun n : Nat => V.int n))) q2 (.lst [.int 0]) q1 = some (.lst ((cutL wy (some (-1)) none).map fun n : Nat => V.int n)) := by rw [upd_ne (ne_of_none upd_same hq2)]; exact upd_same
          have h2x : upd (upd H9 q1 (.lst ((cutL wy (some (-1)) none).map fun n : Nat => V.int n))) q2 (.lst [.int 0]) q2 = some (.lst [.int 0]) := upd_same
          generalize upd (upd H9 q1 (.lst ((cutL wy (some (-1)) none).map fun n : Nat => V.int n))) q2 (.lst [.int 0]) = HA at *
          refine ⟨_, _, .lst (.inl (.inl h1x)) (dp_nats _), .lst (.inl (.inl h2x)) (.cons (.int 0) .nil), shaped_nats _, rfl, _, rfl, ?_⟩
          rw [lastW]
          have hDA := sx _ _ hD9
          have efl : (ff.take (c + 1)).filter isEndW = (ff.take c).filter isEndW ++ (if isEndW wy then [wy] else []) := by
            rw [List.take_add_one, hwc, List.filter_append]
            cases e : isEndW wy <;> simp [e]
          cases ce : isEndW wy
          · rw [ce] at efl
            refine iteF ⟨dvs, s9.trans sx, hDA, ?_, hdn⟩
            rw [efl]; simp only [Bool.false_eq_true, if_false, List.append_nil]
            exact hdv.same sx
          · rw [ce] at efl
            refine iteT ⟨_, rfl, dvs, hDA, ?_, dvs ++ [.ref lw], same_put (s9.trans sx) hD, upd_same, ?_, ?_⟩
            · have := million
              have h1 := hdv.length
              have h2 := List.length_filter_le isEndW (ff.take c)
              rw [List.length_take] at h2
              omega
            · rw [efl, if_pos rfl]
              refine LsAt.put (LsAt.append (LsAt.one (sx _ _ hlw)) (hdv.same sx)) fun v hv => ?_
              rcases List.mem_append.mp hv with hv | hv
              · exact hdn v hv
              · rw [List.mem_singleton.mp hv]; exact fun z => nq (V.ref.inj z)
            · intro v hv
              rcases List.mem_append.mp hv with hv | hv
              · exact hdn v hv
              · rw [List.mem_singleton.mp hv]; exact fun z => nq (V.ref.inj z)
        · rintro H9 ⟨dvs, s9, hD9, hdv, hdn⟩
          rw [show ff.take fvs.length = ff from by rw [List.take_of_length_le]; rw [hls4.length]; exact Nat.le_refl _] at hdv
          exact ⟨D, dvs, rfl, s9, hD9, hdv⟩
      rintro σ' H5 ⟨lo, lvs, rfl, s5, hlo5, hlv5⟩
      have hf5 := s5 _ _ hf4
      have hls5 := hls4.same s5
      obtain ⟨eo, eeo⟩ : ∃ eo, eo = ff.filter isEndW := ⟨_, rfl⟩
      obtain ⟨u, eu⟩ : ∃ u, u = ff.filter fun w => !isEndW w := ⟨_, rfl⟩
      have hsum : eo.length + u.length = ff.length := by rw [eeo, eu]; exact filter_two _ _
      obtain ⟨LR, eLR⟩ : ∃ LR, LR = lwR m r := ⟨_, rfl⟩
      have hLR : LR.length ≤ 2 ^ nT r := by rw [eLR]; exact lwR_len m r
      have hLRl : longL 2000 LR := by
        rw [eLR]
        unfold okTs at o2
        have h1 := lwR_long (pr := wyRow) (pt := wyTest) m r o2.1
        have h2 := atr.len
        intro w hw
        have := h1 w hw
        omega
      have hB : ff.length * 2 ^ nT r ≤ 2 ^ 20 := by
        refine Nat.le_trans (Nat.mul_le_mul_left _ (Nat.pow_le_pow_right (by decide) ?_)) hlen2
        unfold nTs; omega
      have hB1 : 1 ≤ 2 ^ nT r := Nat.one_le_two_pow
      rw [← eLR] at hlt4
      rw [← eeo] at hlv5
      refine ⟨fun σ' H' => ∃ (lo : Addr) (lvs : List V) (v9 v11 : Option V), σ' = [some (.ref la), some (.int ((n : Int) + 1)), some (.int ((tot : Int) + 1)), some (.ref fa), some (.int ((m : Int) + 1)), some (.ref ta), some (.int ((m + (flR r).length : Nat) : Int)), v7, v8, v9, some (.ref lo), v11] ∧ Same H5 H' ∧ H' lo = some (.lst lvs) ∧ LsAt H' (lwStep m r ff) lvs, ?_, ?_⟩
      · refine ⟨_, rfl, fa, rfl, ⟨_, .inl (.inl hf5)⟩, fun D hD => ?_⟩
        refine lc_list (K := K) (a := fa) (xs := fvs) (fun c H9 => ∃ dvs, Same H5 H9 ∧ H9 D = some (.lst dvs) ∧ LsAt H9 ((ff.take c).filter fun w => !isEndW w) dvs ∧ ∀ v ∈ dvs, v ≠ V.ref D) ⟨[], same_new (Same.refl _) hD, upd_same, rfl, fun v hv => nomatch hv⟩ (fun c H9 _ ⟨dvs, s, _⟩ => .inl (.inl (s _ _ hf5))) ?_ ?_
        · rintro c xw H9 hxw ⟨dvs, s9, hD9, hdv, hdn⟩
          obtain ⟨wy, lw, hwc, rfl, hlw0⟩ := hls5.get hxw
          have hlw := s9 _ _ hlw0
          have nq : lw ≠ D := ne_of_none hlw0 hD
          have hcl := (List.getElem?_eq_some_iff.mp hwc).1
          refine ⟨rfl, _, rfl, _, rfl, _, rfl, lw, _, rfl, .inl (.inl hlw), fun q1 hq1 => ⟨(by show 1 ≤ sizeLine; decide), fun q2 hq2 => ?_⟩⟩
          rw [show intsV wy = wy.map (fun n : Nat => V.int n) from rfl, cutV_map] at hq2 ⊢
          have sx : Same H9 (upd (upd H9 q1 (.lst ((cutL wy (some (-1)) none).map fun n : Nat => V.int n))) q2 (.lst [.int 0])) := same_new (same_new (Same.refl H9) hq1) hq2
          have h1x : upd (upd H9 q1 (.lst ((cutL wy (some (-1)) none).map fun n : Nat => V.int n))) q2 (.lst [.int 0]) q1 = some (.lst ((cutL wy (some (-1)) none).map fun n : Nat => V.int n)) := by rw [upd_ne (ne_of_none upd_same hq2)]; exact upd_same
          have h2x : upd (upd H9 q1 (.lst ((cutL wy (some (-1)) none).map fun n : Nat => V.int n))) q2 (.lst [.int 0]) q2 = some (.lst [.int 0]) := upd_same
          generalize upd (upd H9 q1 (.lst ((cutL wy (some (-1)) none).map fun n : Nat => V.int n))) q2 (.lst [.int 0]) = HA at *
          refine ⟨_, _, .lst (.inl (.inl h1x)) (dp_nats _), .lst (.inl (.inl h2x)) (.cons (.int 0) .nil), shaped_nats _, rfl, _, rfl, ?_⟩
          rw [lastW]
          have hDA := sx _ _ hD9
          have efl : ((ff.take (c + 1)).filter fun w => !isEndW w) = ((ff.take c).filter fun w => !isEndW w) ++ (if !isEndW wy then [wy] else []) := by
            rw [List.take_add_one, hwc, List.filter_append]
            cases e : isEndW wy <;> simp [e]
          cases ce : isEndW wy
          case true =>
            rw [ce] at efl
            refine iteF ⟨dvs, s9.trans sx, hDA, ?_, hdn⟩
            rw [efl]; simp only [Bool.not_true, Bool.false_eq_true, if_false, List.append_nil]
            exact hdv.same sx
          case false =>
            rw [ce] at efl
            refine iteT ⟨_, rfl, dvs, hDA, ?_, dvs ++ [.ref lw], same_put (s9.trans sx) hD, upd_same, ?_, ?_⟩
            · have := million
              have h1 := hdv.length
              have h2 := List.length_filter_le (fun w => !isEndW w) (ff.take c)
              rw [List.length_take] at h2
              omega
            · rw [efl, if_pos (by rfl)]
              refine LsAt.put (LsAt.append (LsAt.one (sx _ _ hlw)) (hdv.same sx)) fun v hv => ?_
              rcases List.mem_append.mp hv with hv | hv
              · exact hdn v hv
              · rw [List.mem_singleton.mp hv]; exact fun z => nq (V.ref.inj z)
            · intro v hv
              rcases List.mem_append.mp hv with hv | hv
              · exact hdn v hv
              · rw [List.mem_singleton.mp hv]; exact fun z => nq (V.ref.inj z)
        · rintro H9 ⟨dvs, s9, hD9, hdv, hdn⟩
          rw [show ff.take fvs.length = ff from by rw [List.take_of_length_le]; rw [hls5.length]; exact Nat.le_refl _] at hdv
          rw [← eu] at hdv
          refine ⟨D, rfl, ⟨_, .inl (.inl hD9)⟩, ?_⟩
          have hta9 := s9 _ _ (s5 _ _ hta4)
          have hlt9 := (hlt4.same s5).same s9
          refine for_list (xs := dvs) (fun i σ H' => ∃ (lo : Addr) (lvs : List V) (v9 v11 : Option V), σ = [some (.ref la), some (.int ((n : Int) + 1)), some (.int ((tot : Int) + 1)), some (.ref fa), some (.int ((m : Int) + 1)), some (.ref ta), some (.int ((m + (flR r).length : Nat) : Int)), v7, v8, v9, some (.ref lo), v11] ∧ Same H9 H' ∧ H' lo = some (.lst lvs) ∧ LsAt H' (eo ++ (u.take i).flatMap fun w => LR.map fun t => w ++ t) lvs)
            ⟨lo, lvs, _, _, rfl, Same.refl _, s9 _ _ hlo5, by rw [List.take_zero, List.flatMap_nil, List.append_nil]; exact hlv5.same s9⟩ (fun i σ H' _ ⟨_, _, _, _, _, s, _⟩ => .inl (.inl (s _ _ hD9))) ?_ ?_
          · rintro i xw σ HA hxw ⟨lo, lvs, v9, v11, rfl, sA, hloA, hlvA⟩
            obtain ⟨wy, lw, hwi, rfl, hlw9⟩ := hdv.get hxw
            have hil := (List.getElem?_eq_some_iff.mp hwi).1
            have hwyl : wy.length ≤ 2000 := ffL wy (by
              have := List.mem_of_getElem? hwi
              rw [eu] at this; exact (List.mem_filter.mp this).1)
            have hlwA := sA _ _ hlw9
            have htaA := sA _ _ hta9
            have hltA := hlt9.same sA
            dsimp only [gName]
            refine ⟨_, rfl, _, rfl, ta, rfl, ⟨_, .inl (.inl htaA)⟩, fun D2 hD2 => ?_⟩
            refine lc_list (K := K) (a := ta) (xs := tvs) (fun c HB => ∃ dvB, Same HA HB ∧ HB D2 = some (.lst dvB) ∧ LsAt HB ((LR.take c).map fun t => wy ++ t) dvB ∧ ∀ v ∈ dvB, v ≠ V.ref D2) ⟨[], same_new (Same.refl _) hD2, upd_same, rfl, fun v hv => nomatch hv⟩ (fun c HB _ ⟨dvB, s, _⟩ => .inl (.inl (s _ _ htaA))) ?_ ?_
            · rintro c xt HB hxt ⟨dvB, sB, hDB, hdB, hnB⟩
              obtain ⟨ty, lt, htc, rfl, hltB⟩ := hltA.get hxt
              have hcl := (List.getElem?_eq_some_iff.mp htc).1
              have htyl := hLRl ty (List.mem_of_getElem? htc)
              refine ⟨rfl, _, rfl, _, rfl, lw, lt, _, _, rfl, rfl, sB _ _ hlwA, sB _ _ hltB, ?_, fun q hq => ?_⟩
              · have := million
                unfold intsV
                rw [List.length_map, List.length_map]; omega
              have nq : q ≠ D2 := fun z => by rw [z, hDB] at hq; cases hq
              have sx := same_new (o := .lst (intsV wy ++ intsV ty)) (Same.refl HB) hq
              have hqx : upd HB q (.lst (intsV wy ++ intsV ty)) q = some (.lst (intsV (wy ++ ty))) := by rw [upd_same]; unfold intsV; rw [List.map_append]
              generalize upd HB q (.lst (intsV wy ++ intsV ty)) = HC at *
              refine ⟨dvB, sx _ _ hDB, ?_, dvB ++ [.ref q], same_put (sB.trans sx) hD2, upd_same, ?_, ?_⟩
              · have := million
                have h1 := hdB.length
                rw [List.length_map, List.length_take] at h1
                have h2 : 2 ^ nT r ≤ 2 ^ 20 := Nat.pow_le_pow_right (by decide) (by unfold nTs at hn2; omega)
                omega
              · rw [show (LR.take (c + 1)).map (fun t => wy ++ t) = (LR.take c).map (fun t => wy ++ t) ++ [wy ++ ty] from by rw [List.take_add_one, htc]; simp]
                refine LsAt.put (LsAt.append (LsAt.one hqx) (hdB.same sx)) fun v hv => ?_
                rcases List.mem_append.mp hv with hv | hv
                · exact hnB v hv
                · rw [List.mem_singleton.mp hv]; exact fun z => nq (V.ref.inj z)
              · intro v hv
                rcases List.mem_append.mp hv with hv | hv
                · exact hnB v hv
                · rw [List.mem_singleton.mp hv]; exact fun z => nq (V.ref.inj z)
            · rintro HB ⟨dvB, sB, hDB, hdB, hnB⟩
              rw [show LR.take tvs.length = LR from by rw [List.take_of_length_le]; rw [hltA.length]; exact Nat.le_refl _] at hdB
              refine ⟨lo, D2, lvs, dvB, rfl, rfl, sB _ _ hloA, hDB, ?_, fun p hp => ⟨p, _, _, _, rfl, (sA.trans sB).trans (same_new (Same.refl HB) hp), upd_same, ?_⟩⟩
              · have mil := million
                have h1 := hlvA.length
                have h2 := hdB.length
                rw [List.length_append] at h1
                rw [List.length_map] at h2
                have h3 : ((u.take i).flatMap fun w => LR.map fun t => w ++ t).length ≤ (u.take i).length * 2 ^ nT r := flatMap_le fun x _ => by rw [List.length_map]; exact hLR
                rw [List.length_take, Nat.min_eq_left (by omega)] at h3
                have h4 : (i + 1) * 2 ^ nT r ≤ u.length * 2 ^ nT r := Nat.mul_le_mul_right _ hil
                have h5 : eo.length * 1 ≤ eo.length * 2 ^ nT r := Nat.mul_le_mul_left _ hB1
                rw [← hsum, Nat.add_mul] at hB
                rw [Nat.add_mul] at h4
                omega
              · have sx := same_new (o := .lst (lvs ++ dvB)) (Same.refl HB) hp
                rw [show u.take (i + 1) = u.take i ++ [wy] from by rw [List.take_add_one, hwi]; rfl, List.flatMap_append, List.flatMap_singleton, ← List.append_assoc]
                exact LsAt.append (hdB.same sx) ((hlvA.same sB).same sx)
          · rintro σ HA ⟨lo, lvs, v9, v11, rfl, sA, hloA, hlvA⟩
            rw [show u.take dvs.length = u from by rw [List.take_of_length_le]; rw [hdv.length]; exact Nat.le_refl _] at hlvA
            refine ⟨lo, lvs, _, _, rfl, s9.trans sA, hloA, ?_⟩
            unfold lwStep
            rw [← eeo, ← eu, ← eLR]; exact hlvA
      rintro σ' H6 ⟨lo, lvs, v9, v11, rfl, s6, hlo6, hlv6⟩
      refine ⟨_, rfl, _, rfl, _, _, rfl, rfl, (by show 2 ≤ sizeLine; decide), fun t1 ht1 => ⟨t1, _, rfl, .inl (.inl upd_same), rfl, _, _, rfl, _, _, rfl, rfl, ?_⟩⟩
      have sx := same_new (o := .tup [.ref lo, .int (((m + (flR r).length : Nat) : Int) + 1)]) (Same.refl H6) ht1
      unfold okTs at o2
      unfold dTs at hd2
      refine ⟨tot - (m + (flR r).length), by omega, m + (flR r).length, rs, lwStep m r ff, lo, lvs, _, _, _, _, _, _, _, rfl, rfl, ((s04.trans s5).trans s6).trans sx, sx _ _ hlo6, hlv6.same sx, atrs, ht2', o2.2, by omega, by unfold nTs at hn2; omega, ?_, ?_, ?_⟩
      · rw [← eR, lwRs]; rfl
      · refine Nat.le_trans (Nat.mul_le_mul_right _ (lw_step_len hB1 (lwR_len m r) ff)) ?_
        rw [Nat.mul_assoc, ← Nat.pow_add]
        unfold nTs at hlen2; exact hlen2
      · intro w hw
        unfold lwStep at hw
        have hrl := lwR_long (pr := wyRow) (pt := wyTest) m r o2.1
        rcases List.mem_append.mp hw with hw | hw
        · have := hlong2 w (List.mem_filter.mp hw).1
          omega
        · obtain ⟨q, hq, hw⟩ := List.mem_flatMap.mp hw
          obtain ⟨t', ht', rfl⟩ := List.mem_map.mp hw
          have h1 := hlong2 q (List.mem_filter.mp hq).1
          have h2 := hrl t' ht'
          rw [List.length_append]; omega
end
end Tb

set_option Elab.async false
set_option linter.all false
set_option maxRecDepth 100000
set_option maxHeartbeats 3999000
set_option exponentiation.threshold 6000
namespace Tb
open PySem L2
open PySem.W (Frag)
open C8 (pss_cut tCut)
/-- a bag whose cells lie at c -/
def BagC (c : Addr) (H : Hp) (p : Addr) (n : Nat) : Prop := ∃ (ns : List Int) (ix dg ct fo : Int), H p = some (.dK (bagKV c ix dg ct fo)) ∧ H c = some (.lst (ns.map V.int)) ∧ 0 ≤ ix ∧ 0 ≤ dg ∧ 0 ≤ ct ∧ ct ≤ n ∧ 0 ≤ fo ∧ fo < 4294967296
def spBagC (K : Frag) : Sp := fun vs H Q _ => ∃ (a : Addr) (ns : List Int), vs = [.ref a] ∧ SqL K H a (ns.map V.int) ∧ ns.length ≤ 63 ∧ ∀ p c H', H p = none → H c = none → Same H H' → BagC c H' p 0 → Q (.ref p) H'
def spDrawC : Sp := fun vs H Q _ => ∃ (p c : Addr) (n : Nat) (lim : Int), vs = [.ref p, .int lim] ∧ BagC c H p n ∧ n < 2 ^ 40 ∧ 0 < lim ∧ Bd 5000 lim ∧ ∀ r H', 0 ≤ r → r < lim → BagC c H' p (n + 1) → SameBut p H H' → Q (.int r) H'
section
variable {P : Program} {w : World} {K : Frag} {mg : Str → Option Value} {base : Heap}
theorem ok_bagC {f : Addr} {fd : FuncData} (F : Fun K "_law_bag" "_law_bag" s_Lbag f fd) (T : Bl mg) : FnOk P w K mg base CX0 1 f fd ["_law_script"] (spBagC K) := by
  refine F.ok sc_Lbag (fun vs H Q E h => ?_) (fun cdv A outer s H vs Q E hr h => ?_)
  · obtain ⟨n, ns, rfl, _⟩ := h; rfl
  · obtain ⟨a, ns, rfl, hS, hln, k⟩ := h
    refine ⟨_, (pss_cons (ps_set (i := 1) sc_Lbag.nd rfl (by first | exact Or.inl rfl | exact Or.inr rfl) pe_int)
      (pss_cons (ps_for PassesOwn.never rfl (pi_list (pv 0)) (pg_name (i := 2) sc_Lbag.nd rfl (by first | exact Or.inl rfl | exact Or.inr rfl))
        (pss_one (ps_set (i := 1) sc_Lbag.nd rfl (by first | exact Or.inl rfl | exact Or.inr rfl) (pe_op op_mod (pe_callTy call_int1 (by rfl) T.int PyProof.Rows.boot_int (pa_cons (pe_op op_add (pe_op op_mulW (pv 1) pe_int) (pv 2)) pa_nil)) pe_int))))
      (pss_one (ps_ret (pe_disp (pps_cons pe_str (pe_callTy call_list_of (by rfl) T.list PyProof.Rows.boot_list (pa_cons (pv 0) pa_nil)) (pps_cons pe_str pe_int (pps_cons pe_str pe_int (pps_cons pe_str pe_int (pps_cons pe_str (pv 1) pps_nil))))) (by rfl) (by rfl) (fun z => by cases z) (by decide)))))), ?_⟩
    refine ⟨_, rfl, a, rfl, ⟨_, hS⟩, for_list (K := K) (a := a) (xs := ns.map V.int) (fun i σ H2 => H2 = H ∧ ∃ (fo : Int) (v : Option V), σ = [some (.ref a), some (.int fo), v] ∧ 0 ≤ fo ∧ fo < 4294967296)
      ⟨rfl, 0, none, rfl, by omega, by omega⟩ (fun i σ H2 _ h => by rw [h.1]; exact hS) ?_ ?_⟩
    · rintro i y σ H2 hi ⟨rfl, fo, v, rfl, f0, f1⟩
      obtain ⟨z, rfl⟩ : ∃ z : Int, y = V.int z := by
        rw [List.getElem?_map] at hi
        cases e : ns[i]? with
        | none => rw [e] at hi; cases hi
        | some z => rw [e] at hi; exact ⟨z, (Option.some.inj hi).symm⟩
      refine ⟨_, rfl, _, _, rfl, rfl, cmul (a := 33) (b := 64) (by unfold Bd; omega) (by unfold Bd; decide), _, rfl, _, _, rfl, rfl, .inl ⟨_, rfl, _, _, rfl, rfl, (by show (0 : Int) < _; decide), rfl, _, _, rfl, ?_, ?_⟩⟩
      · exact Int.emod_nonneg _ (by decide)
      · exact Int.lt_trans (Int.emod_lt_of_pos _ (by decide)) (by decide)
    · rintro σ H2 ⟨rfl, fo, v, rfl, f0, f1⟩
      intro p hp
      have hS' : SqL K (upd H2 p (.dK [])) a (ns.map V.int) := by
        rcases hS with (h | ⟨o, h⟩) | h
        · exact .inl (.inl (by rw [upd_ne (ne_of_none h hp)]; exact h))
        · exact .inl (.inr ⟨o, by rw [upd_ne (ne_of_none h hp)]; exact h⟩)
        · exact .inr h
      refine ⟨_, rfl, a, _, rfl, .inl hS', fun c hc => ?_⟩
      have hcp : p ≠ c := ne_of_none upd_same hc
      have hc0 : H2 c = none := by rw [upd_ne hcp.symm] at hc; exact hc
      refine ⟨_, rfl, ?_⟩
      refine ⟨by rw [upd_ne hcp, upd_same], bagKV c 0 0 0 fo, rfl, by show 5 ≤ 15; decide, ?_⟩
      have em : mergeK [] (bagKV c 0 0 0 fo) = bagKV c 0 0 0 fo := mergeK_nd _ [] (by show (([Sum.inr "cells", Sum.inr "at", Sum.inr "digits", Sum.inr "count", Sum.inr "fold"] : List Key)).Nodup; decide +kernel)
      rw [em]
      refine k p c _ hp hc0 (fun b o hb => ?_) ⟨ns, 0, 0, 0, fo, upd_same, by rw [upd_ne hcp.symm, upd_same], by omega, by omega, by omega, by omega, f0, f1⟩
      have h1 : b ≠ p := ne_of_none hb hp
      rw [upd_ne h1, upd_ne (ne_of_none hb hc0), upd_ne h1]
      exact hb
theorem ok_drawC {f : Addr} {fd : FuncData} (F : Fun K "_law_draw" "_law_draw" s_Ldraw f fd) (T : Bl mg) : FnOk P w K mg base CX0 1 f fd ["_law_bag_here", "_law_limit"] spDrawC := by
  refine F.ok sc_Ldraw (fun vs H Q E h => ?_) (fun cdv A outer s H vs Q E hr h => ?_)
  · obtain ⟨p, c, n, lim, rfl, _⟩ := h; rfl
  · obtain ⟨p, c, n, lim, rfl, B, hn, hl0, bl, k⟩ := h
    have hu := hu_of hr
    obtain ⟨ns, ix, dg, ct, fo, hp, hc, i0, d0, c0, c1, f0, f1⟩ := B
    have hcp : c ≠ p := ne_of hc hp (by intro z; cases z)
    refine ⟨_, (pss_cons (ps_dput hu (pv 0) pe_str (pe_op op_add (pe_dget hu (pv 0) pe_str (fun _ _ => rfl)) pe_int) rfl)
      (pss_cut (ps_if (PW.pt (pw_and (pt_cmpR op_eq (pe_dget hu (pv 0) pe_str (fun _ _ => rfl)) pe_int (nomark _)) (pw_and1 (pt_cmpR op_lt (pe_dget hu (pv 0) pe_str (fun _ _ => rfl)) (pe_callB call_len_seq (by rfl) T.len PySem.boot_len (pa_cons (pe_dget hu (pv 0) pe_str (fun _ _ => rfl)) pa_nil)) (nomark _)))))
        (pss_cons (ps_set (i := 2) sc_Ldraw.nd rfl (by first | exact Or.inl rfl | exact Or.inr rfl) (pe_ix ix_list (pe_dget hu (pv 0) pe_str (fun _ _ => rfl)) (pe_dget hu (pv 0) pe_str (fun _ _ => rfl)) (fun _ _ => rfl)))
        (pss_cons (ps_dput hu (pv 0) pe_str (pe_op op_add (pe_dget hu (pv 0) pe_str (fun _ _ => rfl)) pe_int) rfl)
        (pss_one (ps_if (pt_cmpR op_ge (pv 2) (pe_op op_pow pe_int pe_int) (nomark _))
          (pss_one (ps_dput hu (pv 0) pe_str (pe_op op_sub (pv 2) (pe_op op_pow pe_int pe_int)) rfl))
          (pss_one (ps_dput hu (pv 0) pe_str (pe_op op_mod (pe_callTy call_int1 (by rfl) T.int PyProof.Rows.boot_int (pa_cons (pe_op op_add (pe_op op_mulW (pe_dget hu (pv 0) pe_str (fun _ _ => rfl)) pe_int) (pv 2)) pa_nil)) pe_int) rfl))))))
        pss_nil)
      (pss_cons (ps_if (pt_cmpR op_gt (pe_dget hu (pv 0) pe_str (fun _ _ => rfl)) pe_int (nomark _))
        (pss_cons (ps_set (i := 3) sc_Ldraw.nd rfl (by first | exact Or.inl rfl | exact Or.inr rfl) (pe_op op_mod (pe_callTy call_int1 (by rfl) T.int PyProof.Rows.boot_int (pa_cons (pe_dget hu (pv 0) pe_str (fun _ _ => rfl)) pa_nil)) (pv 1)))
        (pss_cons (ps_dput hu (pv 0) pe_str (pe_op op_fdivW (pe_dget hu (pv 0) pe_str (fun _ _ => rfl)) (pv 1)) rfl)
        (pss_one (ps_ret (pv 3)))))
        pss_nil)
      (pss_cons (ps_set (i := 4) sc_Ldraw.nd rfl (by first | exact Or.inl rfl | exact Or.inr rfl) (pe_op op_add (pe_op op_add (pe_dget hu (pv 0) pe_str (fun _ _ => rfl)) (pe_op op_mulW (pe_dget hu (pv 0) pe_str (fun _ _ => rfl)) pe_int)) pe_int))
      (pss_cons (ps_set (i := 5) sc_Ldraw.nd rfl (by first | exact Or.inl rfl | exact Or.inr rfl) (pe_op op_fdivW (pe_callTy call_int1 (by rfl) T.int PyProof.Rows.boot_int (pa_cons (pe_op op_mod (pe_op op_pow (pv 4) pe_int) pe_int) pa_nil)) pe_int))
      (pss_one (ps_ret (pe_ifExp (pt_cmpR op_lt (pv 1) (pe_op op_pow pe_int pe_int) (nomark _)) (pe_op op_mod (pv 5) (pv 1)) (pe_op op_mod (pe_callTy call_int1 (by rfl) T.int PyProof.Rows.boot_int (pa_cons (pe_op op_pow (pv 5) pe_int) pa_nil)) (pv 1)))))))))), ?_⟩
    refine ⟨_, rfl, p, _, rfl, g_count hp, _, _, rfl, rfl, _, rfl, p, _, rfl, p_count hp, ?_⟩
    -- behind the first if: a bag again
    refine ⟨fun σ H2 => ∃ (ix' dg' fo' : Int) (v : Option V), σ = [some (.ref p), some (.int lim), v, none, none, none] ∧ H2 p = some (.dK (bagKV c ix' dg' (ct + 1) fo')) ∧ H2 c = some (.lst (ns.map V.int)) ∧ SameBut p H H2 ∧ 0 ≤ ix' ∧ 0 ≤ dg' ∧ 0 ≤ fo' ∧ fo' < 4294967296, ?_, ?_⟩
    · have h1 : (upd H p (.dK (bagKV c ix dg (ct + 1) fo))) p = some (.dK (bagKV c ix dg (ct + 1) fo)) := upd_same
      have h2 : (upd H p (.dK (bagKV c ix dg (ct + 1) fo))) c = some (.lst (ns.map V.int)) := by rw [upd_ne hcp]; exact hc
      have s1 : SameBut p H (upd H p (.dK (bagKV c ix dg (ct + 1) fo))) := (SameBut.refl p H).upd
      generalize upd H p (.dK (bagKV c ix dg (ct + 1) fo)) = H1 at *
      have skip : ∃ (ix' dg' fo' : Int) (v : Option V), ([some (.ref p), some (.int lim), none, none, none, none] : L2.St) = [some (.ref p), some (.int lim), v, none, none, none] ∧ H1 p = some (.dK (bagKV c ix' dg' (ct + 1) fo')) ∧ H1 c = some (.lst (ns.map V.int)) ∧ SameBut p H H1 ∧ 0 ≤ ix' ∧ 0 ≤ dg' ∧ 0 ≤ fo' ∧ fo' < 4294967296 := ⟨ix, dg, fo, none, rfl, h1, h2, s1, i0, d0, f0, f1⟩
      refine ⟨_, rfl, p, _, rfl, g_digits h1, rfl, _, rfl, ifD (fun _ => ?_) (fun _ => iteF skip)⟩
      refine ⟨_, rfl, p, _, rfl, g_at h1, _, rfl, p, _, rfl, g_cells h1, c, _, rfl, .inl (Or.inl (Or.inl h2)), _, _, rfl, rfl, _, rfl, ifD (fun hlt => ?_) (fun _ => skip)⟩
      have hlt' : ix.toNat < ns.length := by
        have : ix < ((ns.map V.int).length : Int) := hlt
        rw [List.length_map] at this
        omega
      obtain ⟨z, hz⟩ : ∃ z, ns[ix.toNat]? = some z := ⟨_, List.getElem?_eq_getElem hlt'⟩
      have hat : atI (ns.map V.int) ix = some (.int z) := by
        have e : ((ix.toNat : Nat) : Int) = ix := Int.toNat_of_nonneg i0
        rw [← e]
        exact atI_nat (by rw [List.getElem?_map, hz]; rfl)
      refine ⟨_, rfl, p, _, rfl, g_cells h1, _, rfl, p, _, rfl, g_at h1, c, _, _, _, rfl, rfl, Or.inl (Or.inl h2), hat, ?_⟩
      refine ⟨_, rfl, p, _, rfl, g_at h1, _, _, rfl, rfl, _, rfl, p, _, rfl, p_at h1, ?_⟩
      refine ⟨_, rfl, _, _, rfl, rfl, ⟨by decide, by decide, by decide⟩, _, _, rfl, rfl, _, rfl, ifD (fun hz => ?_) (fun hz => ?_)⟩
      · refine ⟨_, rfl, _, _, rfl, rfl, ⟨by decide, by decide, by decide⟩, _, _, rfl, rfl, _, rfl, p, _, rfl, p_digits upd_same, ?_⟩
        rw [upd_upd]
        exact ⟨ix + 1, _, fo, _, rfl, upd_same, by rw [upd_ne hcp]; exact h2, s1.upd, by omega, by
          have : (10 : Int) ^ (18 : Int).toNat ≤ z := hz
          show 0 ≤ z - (10 : Int) ^ (18 : Int).toNat
          omega, f0, f1⟩
      · refine ⟨_, rfl, p, _, rfl, g_fold upd_same, _, _, rfl, rfl, cmul (a := 33) (b := 64) (by unfold Bd; omega) (by unfold Bd; decide), _, rfl, _, _, rfl, rfl, .inl ⟨_, rfl, _, _, rfl, rfl, (by show (0 : Int) < _; decide), _, rfl, p, _, rfl, p_fold upd_same, ?_⟩⟩
        rw [upd_upd]
        exact ⟨ix + 1, dg, _, _, rfl, upd_same, by rw [upd_ne hcp]; exact h2, s1.upd, by omega, d0, Int.emod_nonneg _ (by decide), Int.lt_trans (Int.emod_lt_of_pos _ (by decide)) (by decide)⟩
    · rintro σ H2 ⟨ix', dg', fo', v, rfl, h1, h2, s1, i0', d0', f0', f1'⟩
      have bag : ∀ dg2, 0 ≤ dg2 → BagC c (upd H2 p (.dK (bagKV c ix' dg2 (ct + 1) fo'))) p (n + 1) := fun dg2 hd => ⟨ns, ix', dg2, ct + 1, fo', upd_same, by rw [upd_ne hcp]; exact h2, i0', hd, by omega, by omega, f0', f1'⟩
      have bag0 : BagC c H2 p (n + 1) := ⟨ns, ix', dg', ct + 1, fo', h1, h2, i0', d0', by omega, by omega, f0', f1'⟩
      refine ⟨_, rfl, p, _, rfl, g_digits h1, _, _, rfl, rfl, _, rfl, ifD (fun hd => ?_) (fun hd => ?_)⟩
      · refine ⟨_, rfl, p, _, rfl, g_digits h1, .inl ⟨_, rfl, _, rfl, _, _, rfl, rfl, hl0, ?_⟩⟩
        refine ⟨_, rfl, p, _, rfl, g_digits h1, _, rfl, _, _, rfl, rfl, cdiv hl0 bl, _, rfl, p, _, rfl, p_digits h1, ?_⟩
        exact ⟨_, rfl, k _ _ (Int.emod_nonneg _ (by omega)) (Int.emod_lt_of_pos _ hl0) (bag _ (Int.ediv_nonneg d0' (by omega))) s1.upd⟩
      · refine ⟨_, rfl, p, _, rfl, g_fold h1, _, rfl, p, _, rfl, g_count h1, _, _, rfl, rfl, cmul (a := 64) (b := 64) (by unfold Bd; omega) (by unfold Bd; decide), _, _, rfl, rfl, _, _, rfl, rfl, ?_⟩
        refine ⟨_, rfl, _, _, rfl, rfl, ⟨by decide, by decide, ?_⟩, _, _, rfl, rfl, (by show (0 : Int) < _; decide), .inl ⟨_, rfl, _, _, rfl, rfl, cdiv (by decide) (show Bd 64 128 by unfold Bd; decide), ?_⟩⟩
        · show (fo' + (ct + 1) * 7907 + 31).natAbs < 2 ^ 64
          omega
        · generalize hg : (fo' + (ct + 1) * 7907 + 31 : Int) ^ (17 : Int).toNat % 2305843009213693951 / 128 = g
          have g0 : 0 ≤ g := by rw [← hg]; exact Int.ediv_nonneg (Int.emod_nonneg _ (by decide)) (by decide)
          have g1 : g < 2305843009213693951 := by
            rw [← hg]
            have h1 := Int.emod_lt_of_pos ((fo' + (ct + 1) * 7907 + 31 : Int) ^ (17 : Int).toNat) (show (0 : Int) < 2305843009213693951 by decide)
            have h2 := Int.emod_nonneg ((fo' + (ct + 1) * 7907 + 31 : Int) ^ (17 : Int).toNat) (show (2305843009213693951 : Int) ≠ 0 by decide)
            generalize (fo' + (ct + 1) * 7907 + 31 : Int) ^ (17 : Int).toNat % 2305843009213693951 = y at *
            omega
          refine ⟨_, rfl, _, _, rfl, rfl, ⟨by decide, by decide, by decide⟩, _, _, rfl, rfl, _, rfl, ifD (fun _ => ?_) (fun _ => ?_)⟩
          · exact ⟨_, rfl, _, rfl, _, _, rfl, rfl, hl0, k _ _ (Int.emod_nonneg _ (by omega)) (Int.emod_lt_of_pos _ hl0) bag0 s1⟩
          · refine ⟨_, rfl, _, _, rfl, rfl, ⟨by decide, by decide, ?_⟩, .inl ⟨_, rfl, _, rfl, _, _, rfl, rfl, hl0, k _ _ (Int.emod_nonneg _ (by omega)) (Int.emod_lt_of_pos _ hl0) bag0 s1⟩⟩
            show ((fo' + (ct + 1) * 7907 + 31 : Int) ^ (17 : Int).toNat % 2305843009213693951 / 128).natAbs < 2 ^ 64
            rw [hg]
            omega

end
end Tb

set_option Elab.async false
set_option linter.all false
set_option maxRecDepth 100000
set_option maxHeartbeats 3999000
set_option exponentiation.threshold 6000
namespace Tb
open PySem PySem.Spec PyProof.Rows L2
open PySem.W (Frag)
open C8 (pss_cut tCut)
/-! ### the lines that the law draws -/
def sgn7 : List Str := ["<< 1", ">> 2", "& 7", "&~ 8", "| 3", "^ 1", "+ 1"]
def tests3 : List Str := ["if a < 9", "if a < 9 and b < a", "if a is 1 and not b <= 2 and c < 3 and 4 < c"]
def rawL (goal : Str) : List Str := (["quit", "a = 3", "b = a", if goal = "size" then "no" else "quit"] : List Str) ++ (["a", "b", "c", goal] : List Str).flatMap fun one : Str => (["a", "b", "c"] : List Str).flatMap fun two : Str => sgn7.map fun sg : Str => one ++ (" = " : Str) ++ two ++ (" " : Str) ++ sg
theorem flRs_append : ∀ (xs ys : List Tr), flRs (xs ++ ys) = flRs xs ++ flRs ys
  | [], ys => by rw [flRs]; rfl
  | x :: xs, ys => by rw [List.cons_append, flRs, flRs, flRs_append xs ys, List.append_assoc]
theorem flRs_one (r : Tr) : flRs [r] = flR r := by rw [flRs, flRs, List.append_nil]
theorem okTs_append {pr pt : Str → Prop} : ∀ (xs ys : List Tr), okTs pr pt xs → okTs pr pt ys → okTs pr pt (xs ++ ys)
  | [], ys, _, h => h
  | x :: xs, ys, h1, h2 => by unfold okTs at h1; rw [List.cons_append]; unfold okTs; exact ⟨h1.1, okTs_append xs ys h1.2 h2⟩
theorem nTs_append : ∀ (xs ys : List Tr), nTs (xs ++ ys) = nTs xs + nTs ys
  | [], ys => by rw [nTs]; simp
  | x :: xs, ys => by rw [List.cons_append, nTs, nTs, nTs_append xs ys, Nat.add_assoc]
theorem dTs_append : ∀ (xs ys : List Tr), dTs (xs ++ ys) = max (dTs xs) (dTs ys)
  | [], ys => by rw [show dTs [] = 0 from by rw [dTs]]; simp
  | x :: xs, ys => by rw [List.cons_append, dTs, dTs, dTs_append xs ys, Nat.max_assoc]
theorem dTs_one (r : Tr) : dTs [r] = dT r := by rw [dTs, dTs]; simp
theorem nTs_one (r : Tr) : nTs [r] = nT r := by rw [nTs, nTs]; simp
theorem okTs_one {pr pt : Str → Prop} {r : Tr} (h : okT pr pt r) : okTs pr pt [r] := by unfold okTs; exact ⟨h, by unfold okTs; trivial⟩
def dr : Nat → Nat
  | 0 => 49
  | e + 1 => 1 + 8 * (6 + 2 * dr e)
def pe1 : Nat → Nat
  | 0 => 6
  | e + 1 => 6 + 2 * dr e
def cL : Nat → Nat
  | 0 => 8
  | e + 1 => 8 * (3 + 2 * cL e)
def cE : Nat → Nat
  | 0 => 1
  | e + 1 => 3 + 2 * cL e
theorem dr_eq (e : Nat) : dr e = 1 + 8 * pe1 e := by cases e <;> rfl
theorem cL_eq (e : Nat) : cL e = 8 * cE e := by cases e <;> rfl
/-- all but two objects stay -/
def But2 (p q : Addr) (H H' : Hp) : Prop := ∀ b o, H b = some o → b ≠ p → b ≠ q → H' b = some o
theorem But2.refl {p q : Addr} {H : Hp} : But2 p q H H := fun _ _ h _ _ => h
theorem But2.trans {p q : Addr} {H H1 H2 : Hp} (a : But2 p q H H1) (b : But2 p q H1 H2) : But2 p q H H2 := fun c o h n m => b c o (a c o h n m) n m
theorem But2.of {p q : Addr} {H H1 : Hp} (a : Same H H1) : But2 p q H H1 := fun c o h _ _ => a c o h
theorem But2.but {p q : Addr} {H H1 : Hp} (a : SameBut p H H1) : But2 p q H H1 := fun c o h n _ => a c o h n
theorem But2.putN {p q r : Addr} {H H1 : Hp} {o : HO} (a : But2 p q H H1) (hr : H r = none) : But2 p q H (upd H1 r o) := fun c u h n m => by
  rw [upd_ne (ne_of_none h hr)]; exact a c u h n m
theorem But2.putQ {p q : Addr} {H H1 : Hp} {o : HO} (a : But2 p q H H1) : But2 p q H (upd H1 q o) := fun c u h n m => by
  rw [upd_ne m]; exact a c u h n m
theorem BagC.same {c p : Addr} {n : Nat} {H H' : Hp} (B : BagC c H p n) (s : Same H H') : BagC c H' p n := by
  obtain ⟨ns, ix, dg, ct, fo, h1, h2, h3⟩ := B
  exact ⟨ns, ix, dg, ct, fo, s _ _ h1, s _ _ h2, h3⟩
theorem BagC.mono {c p : Addr} {n m : Nat} {H : Hp} (B : BagC c H p n) (h : n ≤ m) : BagC c H p m := by
  obtain ⟨ns, ix, dg, ct, fo, h1, h2, h3, h4, h5, h6, h7⟩ := B
  exact ⟨ns, ix, dg, ct, fo, h1, h2, h3, h4, h5, by omega, h7⟩
theorem BagC.put {c p q : Addr} {n : Nat} {H : Hp} {xs : List V} {o : HO} (B : BagC c H p n) (hq : H q = some (.lst xs)) (hc : q ≠ c) : BagC c (upd H q o) p n := by
  obtain ⟨ns, ix, dg, ct, fo, h1, h2, h3⟩ := B
  exact ⟨ns, ix, dg, ct, fo, by rw [upd_ne (ne_of h1 hq (by intro z; cases z))]; exact h1, by rw [upd_ne hc.symm]; exact h2, h3⟩
theorem BagC.ne {c p q : Addr} {n : Nat} {H : Hp} {o : HO} (B : BagC c H p n) (hq : H q = some o) (hn : ∀ kv, o ≠ .dK kv) : q ≠ p := by
  obtain ⟨ns, ix, dg, ct, fo, h1, _⟩ := B
  exact ne_of hq h1 (hn _)
theorem BagC.fresh {c p q : Addr} {n : Nat} {H : Hp} (B : BagC c H p n) (hq : H q = none) : q ≠ c ∧ q ≠ p := by
  obtain ⟨ns, ix, dg, ct, fo, h1, h2, _⟩ := B
  exact ⟨(fun z => by rw [z, h2] at hq; cases hq), (fun z => by rw [z, h1] at hq; cases hq)⟩
def goals4 : List Str := ["size", "used", "ahead", "word"]
def spLines (e : Nat) : Sp := fun vs H Q _ => ∃ (p c lf : Addr) (goal : Str) (n : Nat) (is : List Int), vs = [.ref p, .str goal, .int (2 - (e : Int)), .ref lf] ∧ BagC c H p n ∧ n + dr e < 2 ^ 40 ∧ H lf = some (.lst (is.map V.int)) ∧ lf ≠ c ∧ goal ∈ goals4 ∧ e ≤ 2 ∧
  ∀ (H' : Hp) (q : Addr) (ts : List Tr) (is' : List Int), But2 p lf H H' → BagC c H' p (n + dr e) → H' lf = some (.lst (is'.map V.int)) → is'.length + nTs ts = is.length → H' q = some (.lst ((flRs ts).map V.str)) → q ≠ lf → okTs (fun t => t ∈ rawL goal) (fun t => t ∈ tests3) ts → dTs ts ≤ e → (flRs ts).length ≤ cL e → Q (.ref q) H'
def spLines' : Nat → Sp
  | 0 => fun _ _ _ _ => False
  | e + 1 => spLines e
theorem tAnd_new {ta tb : TT} {σ : L2.St} {H : Hp} {Q : Bool → Hp → Prop} (c1 c2 : Bool) (h1 : ∀ Q' : Bool → Hp → Prop, Q' c1 H → ta σ H Q') (h2 : c1 = true → ∀ Q' : Bool → Hp → Prop, (∀ H5, Same H H5 → Q' c2 H5) → tb σ H Q') (q : ∀ H5, Same H H5 → Q (c1 && c2) H5) : tAnd ta tb σ H Q := by
  refine h1 _ ?_
  cases c1
  · exact iteF (q H (Same.refl H))
  · exact iteT (h2 rfl _ fun H5 s => q H5 s)
theorem dp_ints {K : Frag} {H : Hp} : ∀ ns : List Int, DpAll K H (ns.map V.int) (ns.map PyData.int)
  | [] => .nil
  | n :: ns => .cons (.int _) (dp_ints ns)
theorem iteS {b : Bool} {σ : L2.St} {H : Hp} {Q : VK} {x y : Str} (h : tC (V.str (if b = true then x else y)) σ H Q) : if b = true then tC (V.str x) σ H Q else tC (V.str y) σ H Q := by
  cases b
  · exact iteF h
  · exact iteT h
theorem pick_at {xs : List Str} {r : Int} (h0 : 0 ≤ r) (h1 : r < xs.length) : ∃ x, x ∈ xs ∧ atI (xs.map V.str) r = some (.str x) := by
  obtain ⟨k, rfl⟩ := Int.eq_ofNat_of_zero_le h0
  have hl : k < xs.length := by omega
  exact ⟨xs[k], List.getElem_mem hl, atI_nat (by rw [List.getElem?_map, List.getElem?_eq_getElem hl]; rfl)⟩
theorem iteL {b : Bool} {σ : L2.St} {H : Hp} {Q : VK} (h : ∀ lim : Int, 0 < lim → lim ≤ 9 → tC (V.int lim) σ H Q) : if b = true then tC (V.int 9) σ H Q else tC (V.int 5) σ H Q := by
  cases b
  · exact iteF (h 5 (by decide) (by decide))
  · exact iteT (h 9 (by decide) (by decide))
section
variable {P : Program} {w : World} {K : Frag} {mg : Str → Option Value} {base : Heap}
def LInv (H0 : Hp) (p c lf : Addr) (goal : Str) (e n k0 i : Nat) (σ : L2.St) (H : Hp) : Prop := ∃ (fa : Addr) (ts : List Tr) (is : List Int) (v5 v6 v7 v8 v9 v10 : Option V), σ = [some (.ref p), some (.str goal), some (.int (2 - (e : Int))), some (.ref lf), some (.ref fa), v5, v6, v7, v8, v9, v10] ∧ But2 p lf H0 H ∧ BagC c H p (n + 1 + i * pe1 e) ∧ H lf = some (.lst (is.map V.int)) ∧ is.length + nTs ts = k0 ∧
  H fa = some (.lst ((flRs ts).map V.str)) ∧ fa ≠ lf ∧ fa ≠ c ∧ H0 fa = none ∧ okTs (fun t => t ∈ rawL goal) (fun t => t ∈ tests3) ts ∧ dTs ts ≤ e ∧ (flRs ts).length ≤ i * cE e
theorem ok_lines {f : Addr} {fd : FuncData} {k e : Nat} (F : Fun K "_law_lines" "_law_lines" s_Llines f fd) (T : Bl mg) (hk1 : 1 ≤ k) (hL_draw : HasF P w K mg base "_law_draw" 1 spDrawC) (hL_lines : HasF P w K mg base "_law_lines" k (spLines' e)) : FnOk P w K mg base CX0 (k + 1) f fd ["_law_bag_here", "_law_goal", "_law_deep", "_law_left"] (spLines e) := by
  refine F.ok sc_Llines (fun vs H Q E h => ?_) (fun cdv A outer s H vs Q E hr h => ?_)
  · obtain ⟨p, c, lf, goal, n, is, rfl, _⟩ := h; rfl
  · obtain ⟨p, c, lf, goal, n, is0, rfl, B0, hn, hlf0, nlc, hg, he2, kk⟩ := h
    refine ⟨_, (pss_cons (ps_set (i := 4) sc_Llines.nd rfl (by first | exact Or.inl rfl | exact Or.inr rfl) (pe_lst pa_nil))
      (pss_cons (ps_for PassesOwn.never rfl (pi_range1 (by rfl) T.range (pa_cons (pe_fn hL_draw (hr.mono (by first | decide | omega)) rfl (pa_cons (pv 0) (pa_cons (pe_ifExp (pt_cmpR op_eq (pv 2) pe_int (nomark _)) pe_int pe_int) pa_nil))) pa_nil)) (pg_name (i := 5) sc_Llines.nd rfl (by first | exact Or.inl rfl | exact Or.inr rfl))
        (pss_cons (ps_set (i := 6) sc_Llines.nd rfl (by first | exact Or.inl rfl | exact Or.inr rfl) (pe_fn hL_draw (hr.mono (by first | decide | omega)) rfl (pa_cons (pv 0) (pa_cons pe_int pa_nil))))
        (pss_one (ps_if (PW.pt (pw_and (pt_cmpR op_eq (pv 6) pe_int (nomark _)) (pw_and (pt_cmpR op_lt (pv 2) pe_int (nomark _)) (pw_and1 (pt_cmpR (op_neD hr.units) (pv 3) (pe_lst pa_nil) (nomark _))))))
          (pss_cons (ps_expr (pe_bm0 PySem.F.plainAttrs_list PySem.F.slot_list_pop PySem.F.type_list_pop mt_pop (pv 3)))
          (pss_cons (ps_set (i := 7) sc_Llines.nd rfl (by first | exact Or.inl rfl | exact Or.inr rfl) (pe_ix ix_list (pe_lst (pa_cons pe_str (pa_cons pe_str (pa_cons pe_str pa_nil)))) (pe_fn hL_draw (hr.mono (by first | decide | omega)) rfl (pa_cons (pv 0) (pa_cons pe_int pa_nil))) (fun _ _ => rfl)))
          (pss_cons (ps_set (i := 4) sc_Llines.nd rfl (by first | exact Or.inl rfl | exact Or.inr rfl) (pe_op op_cat (pe_op op_cat (pv 4) (pe_lst (pa_cons (pv 7) pa_nil))) (pe_fn hL_lines (hr.mono (by first | decide | omega)) rfl (pa_cons (pv 0) (pa_cons (pv 1) (pa_cons (pe_op op_add (pv 2) pe_int) (pa_cons (pv 3) pa_nil)))))))
          (pss_cut (ps_if (pt_cmpR op_eq (pe_fn hL_draw (hr.mono (by first | decide | omega)) rfl (pa_cons (pv 0) (pa_cons pe_int pa_nil))) pe_int (nomark _))
            (pss_one (ps_set (i := 4) sc_Llines.nd rfl (by first | exact Or.inl rfl | exact Or.inr rfl) (pe_op op_cat (pe_op op_cat (pv 4) (pe_lst (pa_cons pe_str pa_nil))) (pe_fn hL_lines (hr.mono (by first | decide | omega)) rfl (pa_cons (pv 0) (pa_cons (pv 1) (pa_cons (pe_op op_add (pv 2) pe_int) (pa_cons (pv 3) pa_nil))))))))
            pss_nil)
          (pss_one (ps_expr (pe_bm PySem.F.plainAttrs_list PySem.F.slot_list_append PySem.F.type_list_append mt_append (pv 4) (pa_cons pe_str pa_nil))))))))
          (pss_one (ps_if (pt_cmpR op_eq (pv 6) pe_int (nomark _))
            (pss_one (ps_expr (pe_bm PySem.F.plainAttrs_list PySem.F.slot_list_append PySem.F.type_list_append mt_append (pv 4) (pa_cons (pe_ix ix_list (pe_lst (pa_cons pe_str (pa_cons pe_str (pa_cons pe_str (pa_cons (pe_ifExp (pt_cmpR op_eq (pv 1) pe_str (nomark _)) pe_str pe_str) pa_nil))))) (pe_fn hL_draw (hr.mono (by first | decide | omega)) rfl (pa_cons (pv 0) (pa_cons pe_int pa_nil))) (fun _ _ => rfl)) pa_nil))))
            (pss_cons (ps_set (i := 8) sc_Llines.nd rfl (by first | exact Or.inl rfl | exact Or.inr rfl) (pe_ix ix_list (pe_lst (pa_cons pe_str (pa_cons pe_str (pa_cons pe_str (pa_cons pe_str (pa_cons pe_str (pa_cons pe_str (pa_cons pe_str pa_nil)))))))) (pe_fn hL_draw (hr.mono (by first | decide | omega)) rfl (pa_cons (pv 0) (pa_cons pe_int pa_nil))) (fun _ _ => rfl)))
            (pss_cons (ps_par (i := 9) (j := 10) (by rfl) sc_Llines.nd rfl rfl (by decide) rfl rfl (pa_cons (pe_ix ix_list (pe_lst (pa_cons pe_str (pa_cons pe_str (pa_cons pe_str (pa_cons (pv 1) pa_nil))))) (pe_fn hL_draw (hr.mono (by first | decide | omega)) rfl (pa_cons (pv 0) (pa_cons pe_int pa_nil))) (fun _ _ => rfl)) (pa_cons (pe_ix ix_list (pe_lst (pa_cons pe_str (pa_cons pe_str (pa_cons pe_str pa_nil)))) (pe_fn hL_draw (hr.mono (by first | decide | omega)) rfl (pa_cons (pv 0) (pa_cons pe_int pa_nil))) (fun _ _ => rfl)) pa_nil)) (by rfl))
            (pss_one (ps_expr (pe_bm PySem.F.plainAttrs_list PySem.F.slot_list_append PySem.F.type_list_append mt_append (pv 4) (pa_cons (pe_op op_add_str (pe_op op_add_str (pe_op op_add_str (pe_op op_add_str (pv 9) pe_str) (pv 10)) pe_str) (pv 8)) pa_nil))))))))))))
      (pss_one (ps_ret (pv 4))))), ?_⟩
    refine ⟨(by show 0 ≤ sizeLine; decide), fun fa hfa => ?_⟩
    have dE := dr_eq e
    have B1 := B0.same (same_new (o := .lst []) (Same.refl H) hfa)
    have s1 : Same H (upd H fa (.lst [])) := same_new (Same.refl H) hfa
    have hf1 : upd H fa (.lst []) fa = some (.lst []) := upd_same
    have hlf1 := s1 _ _ hlf0
    have nfl : fa ≠ lf := fun z => by rw [z, hlf0] at hfa; cases hfa
    have nfc := (B0.fresh hfa).1
    dsimp only [gName]
    generalize upd H fa (.lst []) = H1 at *
    have hb5 : ∀ (x : Int), 0 < x → x ≤ 9 → Bd 5000 x := fun x h1 h2 => by unfold Bd; omega
    refine ⟨_, rfl, _, rfl, rfl, _, rfl, ?_⟩
    show if _ = true then tC (V.int 9) _ _ _ else tC (V.int 5) _ _ _
    refine iteL (fun lim h1 h2 => ⟨p, c, n, lim, rfl, B1, by omega, h1, hb5 _ h1 h2, fun r H2 r0 r1 B2 s2 => ⟨r, rfl, by omega, by omega, ?_⟩⟩)
    have b2 : But2 p lf H H2 := (But2.of s1).trans (But2.but s2)
    have hlf2 := s2 _ _ hlf1 (B1.ne hlf1 (fun _ z => nomatch z))
    have hf2 := s2 _ _ hf1 (B1.ne hf1 (fun _ z => nomatch z))
    refine for_range (n := r.toNat) (LInv H p c lf goal e n is0.length) ⟨fa, [], is0, none, none, none, none, none, none, rfl, b2, by simpa using B2, hlf2, by unfold nTs; omega, by unfold flRs; exact hf2, nfl, nfc, hfa, by unfold okTs; trivial, by unfold dTs; omega, by unfold flRs; simp⟩ ?_ ?_
    · rintro i σ H3 hi ⟨fa, ts, is, v5, v6, v7, v8, v9, v10, rfl, b3, B3, hlf3, hk3, hf3, nfl, nfc, hfa0, ot, hdt, hln⟩
      have hi8 : i < 8 := by omega
      have pe6 : 6 ≤ pe1 e := by cases e <;> simp [pe1]
      have hpi : i * pe1 e + pe1 e ≤ 8 * pe1 e := by
        have := Nat.mul_le_mul_right (pe1 e) (show i + 1 ≤ 8 by omega)
        rw [Nat.add_mul, Nat.one_mul] at this; exact this
      have hcE : 1 ≤ cE e := by cases e <;> simp [cE]; omega
      dsimp only [gName]
      refine ⟨_, rfl, p, c, _, 7, rfl, B3, by omega, by decide, hb5 _ (by decide) (by decide), fun pk H4 pk0 pk1 B4 s4 => ?_⟩
      have b4 := b3.trans (But2.but (q := lf) s4)
      have hlf4 := s4 _ _ hlf3 (B3.ne hlf3 (fun _ z => nomatch z))
      have hf4 := s4 _ _ hf3 (B3.ne hf3 (fun _ z => nomatch z))
      dsimp only [gName]
      -- one row more
      have more : ∀ (x : Str) (H5 : Hp) (m : Nat), x ∈ rawL goal → But2 p lf H H5 → BagC c H5 p m → m ≤ n + 1 + (i + 1) * pe1 e → H5 lf = some (.lst (is.map V.int)) → H5 fa = some (.lst ((flRs ts).map V.str)) → ∀ {v5 v6 v7 v8 v9 v10 : Option V}, LInv H p c lf goal e n is0.length (i + 1) [some (.ref p), some (.str goal), some (.int (2 - (e : Int))), some (.ref lf), some (.ref fa), v5, v6, v7, v8, v9, v10] (upd H5 fa (.lst ((flRs ts).map V.str ++ [.str x]))) := fun x H5 m hx b5 B5 hm hlf5 hf5 {v5 v6 v7 v8 v9 v10} => by
        refine ⟨fa, ts ++ [.row x], is, _, _, _, _, _, _, rfl, b5.putN hfa0, (B5.put hf5 nfc).mono hm, by rw [upd_ne nfl.symm]; exact hlf5, ?_, ?_, nfl, nfc, hfa0, okTs_append _ _ ot (okTs_one (by unfold okT; exact hx)), ?_, ?_⟩
        · rw [nTs_append, nTs_one, show nT (.row x) = 0 from by rw [nT]]; exact hk3
        · rw [upd_same, flRs_append, flRs_one, show flR (.row x) = [x] from by rw [flR], List.map_append]; rfl
        · rw [dTs_append, dTs_one, show dT (.row x) = 0 from by rw [dT]]; omega
        · rw [flRs_append, flRs_one, List.length_append, show flR (.row x) = [x] from by rw [flR], Nat.add_mul, Nat.one_mul]; simp; omega
      have lenf : (flRs ts).length ≤ 100000 := by
        have h1 : cE e ≤ 1000 := by
          have : e = 0 ∨ e = 1 ∨ e = 2 := by omega
          rcases this with rfl | rfl | rfl <;> decide
        have h2 : i * cE e ≤ 8 * 1000 := Nat.mul_le_mul (by omega) h1
        omega
      have big : (200000 : Nat) < sizeLine := by decide
      refine tAnd_new (decide (V.int pk = V.int 0)) (decide ((2 - (e : Int)) < 2) && !PyData.eqv (.list (is.map PyData.int)) (.list [])) (fun Q' q => ⟨_, rfl, rfl, _, rfl, q⟩)
        (fun _ Q' q => tAnd_new _ _ (fun Q' q => ⟨_, rfl, _, _, rfl, rfl, _, rfl, q⟩) (fun _ Q' q => ⟨_, rfl, (by show 0 ≤ sizeLine; decide), fun l0 hl0 => ⟨_, _, .lst (.inl (.inl (by rw [upd_ne (ne_of_none hlf4 hl0)]; exact hlf4))) (dp_ints is), .lst (.inl (.inl upd_same)) .nil, PySem.W.shaped_ints is, rfl, _, rfl, q _ (same_new (Same.refl _) hl0)⟩⟩) q) (fun H5 s5 => ?_)
      have b5 := b4.trans (But2.of s5)
      have B5 := B4.same s5
      have hlf5 := s5 _ _ hlf4
      have hf5 := s5 _ _ hf4
      by_cases c1 : pk = 0 ∧ 1 ≤ e ∧ is ≠ []
      case pos =>
        obtain ⟨c1a, c1b, c1c⟩ := c1
        obtain ⟨e', rfl⟩ : ∃ e', e = e' + 1 := ⟨e - 1, by omega⟩
        rw [show (decide (V.int pk = V.int 0) && (decide ((2 - ((e' + 1 : Nat) : Int)) < 2) && !PyData.eqv (.list (is.map PyData.int)) (.list []))) = true from by
          rw [decide_eq_true (by rw [c1a]), decide_eq_true (by omega)]
          cases is with
          | nil => exact absurd rfl c1c
          | cons x xs => rfl]
        have hisl : 0 < is.length := List.length_pos_iff.mpr c1c
        obtain ⟨y, hy⟩ : ∃ y, (is.map V.int)[(is.map V.int).length - 1]? = some y := ⟨_, List.getElem?_eq_getElem (by rw [List.length_map]; omega)⟩
        refine iteT ⟨_, rfl, .inl ⟨rfl, _, .inl (.inl hlf5)⟩, lf, _, y, rfl, rfl, hlf5, hy, ?_⟩
        have B6 := B5.put (o := .lst (is.map V.int).dropLast) hlf5 nlc
        have b6 := b5.putQ (o := .lst (is.map V.int).dropLast)
        have hlf6 : upd H5 lf (.lst (is.map V.int).dropLast) lf = some (.lst (is.dropLast.map V.int)) := by rw [upd_same, List.map_dropLast]
        have hf6 : upd H5 lf (.lst (is.map V.int).dropLast) fa = some (.lst ((flRs ts).map V.str)) := by rw [upd_ne nfl]; exact hf5
        generalize upd H5 lf (.lst (is.map V.int).dropLast) = H6 at *
        have pe' : pe1 (e' + 1) = 6 + 2 * dr e' := rfl
        refine ⟨(by show 3 ≤ sizeLine; decide), fun l3 hl3 => ⟨_, rfl, p, c, _, 3, rfl, B6.same (same_new (Same.refl H6) hl3), by omega, by decide, hb5 _ (by decide) (by decide), fun r7 H7 r70 r71 B7 s7 => ?_⟩⟩
        have s6' := same_new (o := .lst (tests3.map V.str)) (Same.refl H6) hl3
        obtain ⟨tt, htt, hat⟩ := pick_at (xs := tests3) r70 r71
        have hl7 := s7 _ _ (upd_same (H := H6) (a := l3) (o := .lst (tests3.map V.str))) ((B6.same s6').ne upd_same (fun _ z => nomatch z))
        have hf7 := s7 _ _ (s6' _ _ hf6) ((B6.same s6').ne (s6' _ _ hf6) (fun _ z => nomatch z))
        have hlf7 := s7 _ _ (s6' _ _ hlf6) ((B6.same s6').ne (s6' _ _ hlf6) (fun _ z => nomatch z))
        have b7 := (b6.trans (But2.of s6')).trans (But2.but (q := lf) s7)
        refine ⟨l3, _, _, _, rfl, rfl, .inl (.inl hl7), hat, ?_⟩
        dsimp only [gName]
        refine ⟨_, rfl, _, rfl, (by show 1 ≤ sizeLine; decide), fun lA hlA => ⟨fa, lA, _, _, rfl, rfl, by rw [upd_ne (ne_of_none hf7 hlA)]; exact hf7, upd_same, by rw [List.length_map]; simp; omega, fun lB hlB => ?_⟩⟩
        have s7' : Same H7 (upd (upd H7 lA (.lst [.str tt])) lB (.lst ((flRs ts).map V.str ++ [.str tt]))) := same_new (same_new (Same.refl H7) hlA) hlB
        have hlB8 : upd (upd H7 lA (.lst [.str tt])) lB (.lst ((flRs ts).map V.str ++ [.str tt])) lB = some (.lst ((flRs ts ++ [tt]).map V.str)) := by rw [upd_same, List.map_append]; rfl
        have nlB : lB ≠ lf := fun z => by
          rw [z, upd_ne (ne_of_none hlf7 hlA), hlf7] at hlB; cases hlB
        generalize upd (upd H7 lA (.lst [.str tt])) lB (.lst ((flRs ts).map V.str ++ [.str tt])) = H8 at *
        have B8 := B7.same s7'
        have hlf8 := s7' _ _ hlf7
        have b8 := b7.trans (But2.of (p := p) (q := lf) s7')
        have hmul : i * pe1 (e' + 1) + (6 + 2 * dr e') ≤ 8 * (6 + 2 * dr e') := hpi
        refine ⟨_, rfl, _, rfl, _, rfl, _, _, rfl, rfl, _, rfl, p, c, lf, goal, _, is.dropLast, ?_, B8, by omega, hlf8, nlc, hg, by omega, fun H9 q9 ta is9 b9 B9 hlf9 hk9 hq9 nq9 oa hda hla => ?_⟩
        · show [V.ref p, V.str goal, V.int ((2 - ((e' + 1 : Nat) : Int)) + 1), V.ref lf] = _
          rw [show (2 - ((e' + 1 : Nat) : Int)) + 1 = 2 - (e' : Int) by omega]
        have hlB9 := b9 _ _ hlB8 (B8.ne hlB8 (fun _ z => nomatch z)) nlB
        have mil := big
        have hcl : cL e' ≤ 2000 := by
          have : e' = 0 ∨ e' = 1 := by omega
          rcases this with rfl | rfl <;> decide
        refine ⟨lB, q9, _, _, rfl, rfl, hlB9, hq9, by rw [List.length_map, List.length_map, List.length_append]; simp; omega, fun fb hfb => ?_⟩
        have s9' := same_new (o := .lst ((flRs ts ++ [tt]).map V.str ++ (flRs ta).map V.str)) (Same.refl H9) hfb
        have hfb10 : upd H9 fb (.lst ((flRs ts ++ [tt]).map V.str ++ (flRs ta).map V.str)) fb = some (.lst ((flRs ts ++ (tt :: flRs ta)).map V.str)) := by rw [upd_same]; simp
        have B10 := B9.same s9'
        have hlf10 := s9' _ _ hlf9
        have b10 := (b8.trans b9).trans (But2.of (p := p) (q := lf) s9')
        have nfb : fb ≠ lf ∧ fb ≠ c ∧ H fb = none := by
          refine ⟨(fun z => by rw [z, hlf9] at hfb; cases hfb), (B9.fresh hfb).1, ?_⟩
          cases z : H fb with
          | none => rfl
          | some u =>
            have := (b8.trans b9) _ _ z (B9.fresh hfb).2 (fun z => by rw [z, hlf9] at hfb; cases hfb)
            rw [hfb] at this; cases this
        dsimp only [gName]
        generalize upd H9 fb (.lst ((flRs ts ++ [tt]).map V.str ++ (flRs ta).map V.str)) = H10 at *
        refine ⟨fun σ' H' => ∃ (fc : Addr) (h : Bool) (tb : List Tr) (is' : List Int) (v5 v6 v7 v8 v9 v10 : Option V), σ' = [some (.ref p), some (.str goal), some (.int (2 - ((e' + 1 : Nat) : Int))), some (.ref lf), some (.ref fc), v5, v6, v7, v8, v9, v10] ∧ But2 p lf H H' ∧ BagC c H' p (n + 1 + (i + 1) * pe1 (e' + 1)) ∧ H' lf = some (.lst (is'.map V.int)) ∧ is'.length + nTs tb = is9.length ∧
          H' fc = some (.lst ((flRs ts ++ (tt :: (flRs ta ++ (if h then ("else" : Str) :: flRs tb else [])))).map V.str)) ∧ fc ≠ lf ∧ fc ≠ c ∧ H fc = none ∧ okTs (fun t => t ∈ rawL goal) (fun t => t ∈ tests3) tb ∧ dTs tb ≤ e' ∧ (flRs tb).length ≤ cL e' ∧ (h = false → tb = []), ?_, ?_⟩
        · refine ⟨_, rfl, p, c, _, 2, rfl, B10, by omega, by decide, hb5 _ (by decide) (by decide), fun r11 H11 r110 r111 B11 s11 => ?_⟩
          have hfb11 := s11 _ _ hfb10 (B10.ne hfb10 (fun _ z => nomatch z))
          have hlf11 := s11 _ _ hlf10 (B10.ne hlf10 (fun _ z => nomatch z))
          have b11 := b10.trans (But2.but (q := lf) s11)
          refine ⟨rfl, _, rfl, ?_⟩
          by_cases c3 : r11 = 0
          · rw [decide_eq_true (by rw [c3])]
            refine iteT ⟨_, rfl, (by show 1 ≤ sizeLine; decide), fun lA2 hlA2 => ⟨fb, lA2, _, _, rfl, rfl, by rw [upd_ne (ne_of_none hfb11 hlA2)]; exact hfb11, upd_same, by rw [List.length_map]; simp; omega, fun lB2 hlB2 => ?_⟩⟩
            have s12 : Same H11 (upd (upd H11 lA2 (.lst [.str "else"])) lB2 (.lst ((flRs ts ++ (tt :: flRs ta)).map V.str ++ [.str "else"]))) := same_new (same_new (Same.refl H11) hlA2) hlB2
            have hlB12 : upd (upd H11 lA2 (.lst [.str "else"])) lB2 (.lst ((flRs ts ++ (tt :: flRs ta)).map V.str ++ [.str "else"])) lB2 = some (.lst ((flRs ts ++ (tt :: (flRs ta ++ [("else" : Str)]))).map V.str)) := by rw [upd_same]; simp
            have nlB2 : lB2 ≠ lf := fun z => by
              rw [z, upd_ne (ne_of_none hlf11 hlA2), hlf11] at hlB2; cases hlB2
            generalize upd (upd H11 lA2 (.lst [.str "else"])) lB2 (.lst ((flRs ts ++ (tt :: flRs ta)).map V.str ++ [.str "else"])) = H12 at *
            have B12 := B11.same s12
            have hlf12 := s12 _ _ hlf11
            have b12 := b11.trans (But2.of (p := p) (q := lf) s12)
            refine ⟨_, rfl, _, rfl, _, rfl, _, _, rfl, rfl, _, rfl, p, c, lf, goal, _, is9, ?_, B12, by omega, hlf12, nlc, hg, by omega, fun H13 q13 tb is13 b13 B13 hlf13 hk13 hq13 nq13 ob hdb hlb => ?_⟩
            · show [V.ref p, V.str goal, V.int ((2 - ((e' + 1 : Nat) : Int)) + 1), V.ref lf] = _
              rw [show (2 - ((e' + 1 : Nat) : Int)) + 1 = 2 - (e' : Int) by omega]
            have hlB13 := b13 _ _ hlB12 (B12.ne hlB12 (fun _ z => nomatch z)) nlB2
            refine ⟨lB2, q13, _, _, rfl, rfl, hlB13, hq13, by rw [List.length_map, List.length_map, List.length_append]; simp; omega, fun fc hfc => ?_⟩
            have s13 := same_new (o := .lst ((flRs ts ++ (tt :: (flRs ta ++ [("else" : Str)]))).map V.str ++ (flRs tb).map V.str)) (Same.refl H13) hfc
            refine ⟨fc, true, tb, is13, _, _, _, _, _, _, rfl, (b12.trans b13).trans (But2.of (p := p) (q := lf) s13), (B13.same s13).mono (by rw [Nat.add_mul]; omega), s13 _ _ hlf13, hk13, by rw [upd_same]; simp, (fun z => by rw [z, hlf13] at hfc; cases hfc), (B13.fresh hfc).1, ?_, ob, hdb, hlb, fun z => nomatch z⟩
            cases z : H fc with
            | none => rfl
            | some u =>
              have := (b12.trans b13) _ _ z (B13.fresh hfc).2 (fun z => by rw [z, hlf13] at hfc; cases hfc)
              rw [hfc] at this; cases this
          · rw [decide_eq_false (fun z => c3 (V.int.inj z))]
            refine iteF ⟨fb, false, [], is9, _, _, _, _, _, _, rfl, b11, B11.mono (by rw [Nat.add_mul]; omega), hlf11, by rw [nTs]; rfl, ?_, nfb.1, nfb.2.1, nfb.2.2, by unfold okTs; trivial, by rw [dTs]; omega, by rw [flRs]; simp, fun _ => rfl⟩
            rw [hfb11]; simp
        · rintro σ' H11 ⟨fc, h, tb, is', v5, v6, v7, v8, v9, v10, rfl, b11, B11, hlf11, hk11, hfc11, nfc1, nfc2, nfc3, ob, hdb, hlb, hhb⟩
          have lenr : (flR (.iff tt ta h tb)).length ≤ 3 + 2 * cL e' := by
            rw [flR]; cases h <;> simp <;> omega
          refine ⟨_, rfl, .inl ⟨rfl, _, .inl (.inl hfc11)⟩, fc, _, _, rfl, rfl, hfc11, ?_, ?_⟩
          · rw [List.length_map, List.length_append]
            cases h <;> simp <;> omega
          refine ⟨fc, ts ++ [.iff tt ta h tb], is', _, _, _, _, _, _, rfl, b11.putN nfc3, B11.put hfc11 nfc2, by rw [upd_ne nfc1.symm]; exact hlf11, ?_, ?_, nfc1, nfc2, nfc3, okTs_append _ _ ot (okTs_one (by unfold okT; exact ⟨htt, oa, ob, hhb⟩)), ?_, ?_⟩
          · rw [nTs_append, nTs_one, nT]
            rw [List.length_dropLast] at hk9
            omega
          · rw [upd_same, flRs_append, flRs_one, flR]; simp
          · rw [dTs_append, dTs_one, dT]; omega
          · rw [flRs_append, flRs_one, List.length_append, Nat.add_mul, Nat.one_mul]
            have : cE (e' + 1) = 3 + 2 * cL e' := rfl
            omega
      case neg =>
        rw [show (decide (V.int pk = V.int 0) && (decide ((2 - (e : Int)) < 2) && !PyData.eqv (.list (is.map PyData.int)) (.list []))) = false from by
          rw [Bool.and_eq_false_iff, Bool.and_eq_false_iff]
          by_cases z1 : pk = 0
          · by_cases z2 : 1 ≤ e
            · refine .inr (.inr ?_)
              have z3 : is = [] := Classical.byContradiction fun z => c1 ⟨z1, z2, z⟩
              subst z3
              rfl
            · exact .inr (.inl (decide_eq_false (by omega)))
          · exact .inl (decide_eq_false fun z => z1 (V.int.inj z))]
        refine iteF ⟨_, rfl, rfl, _, rfl, ?_⟩
        by_cases c2 : pk = 1
        · rw [decide_eq_true (by rw [c2])]
          refine iteT ⟨_, rfl, .inl ⟨rfl, _, .inl (.inl hf5)⟩, _, rfl, rfl, _, rfl, ?_⟩
          refine iteS ⟨(by show 4 ≤ sizeLine; decide), fun l4 hl4 => ⟨_, rfl, p, c, _, 4, rfl, B5.same (same_new (Same.refl H5) hl4), by omega, by decide, hb5 _ (by decide) (by decide), fun r6 H6 r60 r61 B6 s6 => ?_⟩⟩
          have s5' := same_new (o := .lst [.str "quit", .str "a = 3", .str "b = a", .str (if decide (V.str goal = V.str "size") = true then "no" else "quit")]) (Same.refl H5) hl4
          obtain ⟨x, hx, hat⟩ := pick_at (xs := ["quit", "a = 3", "b = a", if decide (V.str goal = V.str "size") = true then "no" else "quit"]) r60 r61
          have hl6 := s6 _ _ (upd_same (H := H5) (a := l4) (o := .lst [.str "quit", .str "a = 3", .str "b = a", .str (if decide (V.str goal = V.str "size") = true then "no" else "quit")])) ((B5.same s5').ne upd_same (fun _ z => nomatch z))
          have hf6 := s6 _ _ (s5' _ _ hf5) ((B5.same s5').ne (s5' _ _ hf5) (fun _ z => nomatch z))
          have hlf6 := s6 _ _ (s5' _ _ hlf5) ((B5.same s5').ne (s5' _ _ hlf5) (fun _ z => nomatch z))
          refine ⟨l4, _, _, _, rfl, rfl, .inl (.inl hl6), hat, fa, _, _, rfl, rfl, hf6, by rw [List.length_map]; omega, ?_⟩
          refine more x H6 _ ?_ ((b5.trans (But2.of s5')).trans (But2.but s6)) B6 (by rw [Nat.add_mul]; omega) hlf6 hf6
          unfold rawL
          refine List.mem_append_left _ ?_
          rw [show (if goal = "size" then ("no" : Str) else "quit") = (if decide (V.str goal = V.str "size") = true then ("no" : Str) else ("quit" : Str)) from by
            by_cases c : goal = "size"
            · rw [if_pos c, if_pos (decide_eq_true (by rw [c]))]
            · rw [if_neg c, if_neg (by rw [decide_eq_false (fun z => c (V.str.inj z))]; decide)]]
          exact hx
        · rw [decide_eq_false (fun z => c2 (V.int.inj z))]
          refine iteF ⟨(by show 7 ≤ sizeLine; decide), fun l7 hl7 => ⟨_, rfl, p, c, _, 7, rfl, B5.same (same_new (Same.refl H5) hl7), by omega, by decide, hb5 _ (by decide) (by decide), fun r6 H6 r60 r61 B6 s6 => ?_⟩⟩
          have s5' := same_new (o := .lst (sgn7.map V.str)) (Same.refl H5) hl7
          obtain ⟨sg, hsg, hat⟩ := pick_at (xs := sgn7) r60 r61
          have hl6 := s6 _ _ (upd_same (H := H5) (a := l7) (o := .lst (sgn7.map V.str))) ((B5.same s5').ne upd_same (fun _ z => nomatch z))
          have hf6 := s6 _ _ (s5' _ _ hf5) ((B5.same s5').ne (s5' _ _ hf5) (fun _ z => nomatch z))
          have hlf6 := s6 _ _ (s5' _ _ hlf5) ((B5.same s5').ne (s5' _ _ hlf5) (fun _ z => nomatch z))
          have b6 := (b5.trans (But2.of s5')).trans (But2.but (q := lf) s6)
          refine ⟨l7, _, _, _, rfl, rfl, .inl (.inl hl6), hat, ?_⟩
          dsimp only [gName]
          refine ⟨_, rfl, (by show 4 ≤ sizeLine; decide), fun l8 hl8 => ⟨_, rfl, p, c, _, 4, rfl, B6.same (same_new (Same.refl H6) hl8), by omega, by decide, hb5 _ (by decide) (by decide), fun r7 H7 r70 r71 B7 s7 => ?_⟩⟩
          have s6' := same_new (o := .lst ((["a", "b", "c", goal] : List Str).map V.str)) (Same.refl H6) hl8
          obtain ⟨one, hone, hat2⟩ := pick_at (xs := (["a", "b", "c", goal] : List Str)) r70 r71
          have hl9 := s7 _ _ (upd_same (H := H6) (a := l8) (o := .lst ((["a", "b", "c", goal] : List Str).map V.str))) ((B6.same s6').ne upd_same (fun _ z => nomatch z))
          have hf7 := s7 _ _ (s6' _ _ hf6) ((B6.same s6').ne (s6' _ _ hf6) (fun _ z => nomatch z))
          have hlf7 := s7 _ _ (s6' _ _ hlf6) ((B6.same s6').ne (s6' _ _ hlf6) (fun _ z => nomatch z))
          have b7 := (b6.trans (But2.of s6')).trans (But2.but (q := lf) s7)
          refine ⟨l8, _, _, _, rfl, rfl, .inl (.inl hl9), hat2, (by show 3 ≤ sizeLine; decide), fun l10 hl10 => ⟨_, rfl, p, c, _, 3, rfl, B7.same (same_new (Same.refl H7) hl10), by omega, by decide, hb5 _ (by decide) (by decide), fun r8 H8 r80 r81 B8 s8 => ?_⟩⟩
          have s7' := same_new (o := .lst ((["a", "b", "c"] : List Str).map V.str)) (Same.refl H7) hl10
          obtain ⟨two, htwo, hat3⟩ := pick_at (xs := (["a", "b", "c"] : List Str)) r80 r81
          have hl11 := s8 _ _ (upd_same (H := H7) (a := l10) (o := .lst ((["a", "b", "c"] : List Str).map V.str))) ((B7.same s7').ne upd_same (fun _ z => nomatch z))
          have hf8 := s8 _ _ (s7' _ _ hf7) ((B7.same s7').ne (s7' _ _ hf7) (fun _ z => nomatch z))
          have hlf8 := s8 _ _ (s7' _ _ hlf7) ((B7.same s7').ne (s7' _ _ hlf7) (fun _ z => nomatch z))
          have b8 := (b7.trans (But2.of s7')).trans (But2.but (q := lf) s8)
          refine ⟨l10, _, _, _, rfl, rfl, .inl (.inl hl11), hat3, _, _, rfl, ?_⟩
          dsimp only
          have o1 : one.length ≤ 5 := by
            have hgl : goal.length ≤ 5 := (show ∀ x ∈ goals4, x.length ≤ 5 by decide +kernel) goal hg
            have : one = "a" ∨ one = "b" ∨ one = "c" ∨ one = goal := by simpa using hone
            rcases this with h | h | h | h
            · rw [h]; decide
            · rw [h]; decide
            · rw [h]; decide
            · rw [h]; exact hgl
          have o2 : two.length ≤ 1 := (show ∀ x ∈ (["a", "b", "c"] : List Str), x.length ≤ 1 by decide +kernel) two htwo
          have o3 : sg.length ≤ 4 := (show ∀ x ∈ sgn7, x.length ≤ 4 by decide +kernel) sg hsg
          have l3 : (" = " : Str).length = 3 := by decide
          have l1 : (" " : Str).length = 1 := by decide
          have q1 : (one ++ (" = " : Str)).length = one.length + 3 := by rw [PySem.Str.length_append, l3]
          have q2 : (one ++ (" = " : Str) ++ two).length = one.length + 3 + two.length := by rw [PySem.Str.length_append, q1]
          have q3 : (one ++ (" = " : Str) ++ two ++ (" " : Str)).length = one.length + 3 + two.length + 1 := by rw [PySem.Str.length_append, q2, l1]
          refine ⟨_, rfl, .inl ⟨rfl, _, .inl (.inl hf8)⟩, _, rfl, _, _, rfl, rfl, by rw [l3]; omega, _, rfl, _, _, rfl, rfl, by rw [q1]; omega, _, _, rfl, rfl, by rw [q2, l1]; omega, _, rfl, _, _, rfl, rfl, by rw [q3]; omega, fa, _, _, rfl, rfl, hf8, by rw [List.length_map]; omega, ?_⟩
          refine more _ H8 _ ?_ b8 B8 (by rw [Nat.add_mul]; omega) hlf8 hf8
          unfold rawL
          exact List.mem_append_right _ (List.mem_flatMap.mpr ⟨one, hone, List.mem_flatMap.mpr ⟨two, htwo, List.mem_map.mpr ⟨sg, hsg, rfl⟩⟩⟩)
    · rintro σ H3 ⟨fa, ts, is, v5, v6, v7, v8, v9, v10, rfl, b3, B3, hlf3, hk3, hf3, nfl, nfc, hfa0, ot, hdt, hln⟩
      refine ⟨_, rfl, kk _ _ ts is b3 (B3.mono ?_) hlf3 hk3 hf3 nfl ot hdt ?_⟩
      · rw [dE]
        have : r.toNat * pe1 e ≤ 8 * pe1 e := Nat.mul_le_mul_right _ (by omega)
        omega
      · rw [cL_eq]
        exact Nat.le_trans hln (Nat.mul_le_mul_right _ (by omega))
end
end Tb

set_option Elab.async false
set_option linter.all false
set_option maxRecDepth 100000
set_option maxHeartbeats 3999000
namespace Tb
open PySem PySem.Spec PyProof.Rows L2
open PySem.W (Frag)
/-! ### all lines that can come -/
def noQ (kind t : Str) : Str := if t = "no" ∧ kind ≠ "round" then "quit" else t
def goodL (kind : Str) : List Str := (rawL (toldName kind)).map (noQ kind)
def lineB (t : Str) : Bool := decide (t.length ≤ 100) && decide (Txt.split t " " ≠ []) && (match (Txt.split t " ")[1]? with | none => true | some b => SeqAt.shaped (.list [.str b])) && decide (10 ∉ t.cps.toList) && decide (0 < t.length)
def rowB (kind t : Str) : Bool := decide (¬ isEnd t) && decide (¬ isIf t) && (rowOf kind t).isSome && (decide (tagH ((rowOf kind t).getD (.word "quit"), 0) ∈ ends2) == decide (t = "quit" ∨ t = "no")) &&
  decide (infoOf t = (match rowOf kind t with | some (.set nm sg _) => some (nm, sg.isSome) | _ => none)) && (match rowOf kind t with | some (.set nm _ _) => decide (nm ∈ regs ++ [toldName kind]) | _ => true) &&
  decide (piece t ≠ "if") && decide (piece t ≠ "else") && decide (piece t ≠ "end") && lineB t
def testB (kind t : Str) : Bool := decide (¬ isEnd t) && decide (isIf t) && ((partsOf (partFh kind) (cutS t (some 3) none)).all (·.isSome)) && decide ((partsOf (partFh kind) (cutS t (some 3) none)).length ≤ 4) && decide (infoOf t = none) && decide (piece t = "if") && decide (¬ (t = "quit" ∨ t = "no")) && lineB t
theorem rows_ok : (kinds9.all fun kind => (goodL kind).all fun t => rowB kind t) = true := by decide +kernel
theorem tests_ok : (kinds9.all fun kind => tests3.all fun t => testB kind t) = true := by decide +kernel
theorem ends_ok : lineB "else" = true ∧ lineB "end" = true := by decide +kernel
theorem told_goal : (kinds9.all fun kind => decide (toldName kind ∈ goals4)) = true := by decide +kernel
end Tb

set_option Elab.async false
set_option linter.all false
set_option maxRecDepth 100000
set_option maxHeartbeats 3999000
namespace Tb
open PySem PySem.Spec PyProof.Rows L2
open PySem.W (Frag)
theorem line_facts {t : Str} (h : lineB t = true) : lawLine t ∧ t.length ≤ 100 ∧ 10 ∉ t.cps.toList ∧ 0 < t.length := by
  unfold lineB at h
  simp only [Bool.and_eq_true, decide_eq_true_eq] at h
  obtain ⟨⟨⟨⟨h1, h2⟩, h3⟩, h4⟩, h5⟩ := h
  have big : (200 : Nat) < sizeLine := by decide
  refine ⟨⟨by omega, h2, fun b hb => ?_⟩, h1, h4, h5⟩
  rw [hb] at h3; exact h3
theorem row_facts {kind t : Str} (hk : kind ∈ kinds9) (ht : t ∈ goodL kind) : rdRow kind t ∧ tagRow kind t ∧ (infoRow kind t ∧ (rowOf kind t).isSome = true) ∧ wyRow t ∧ lineB t = true := by
  have h := List.all_eq_true.mp (List.all_eq_true.mp rows_ok kind hk) t ht
  unfold rowB at h
  simp only [Bool.and_eq_true, decide_eq_true_eq] at h
  obtain ⟨⟨⟨⟨⟨⟨⟨⟨⟨h1, h2⟩, h3⟩, h4⟩, h5⟩, h6⟩, h7⟩, h8⟩, h9⟩, h10⟩ := h
  refine ⟨⟨h1, h2, h3⟩, ?_, ⟨⟨h5, fun nm sg nu e => ?_⟩, h3⟩, ⟨⟨h7, h8, h9⟩, h2⟩, h10⟩
  · unfold tagRow
    have h4 : decide (tagH ((rowOf kind t).getD (.word "quit"), 0) ∈ ends2) = decide (t = "quit" ∨ t = "no") := by simpa using h4
    constructor
    · intro z; rw [decide_eq_true z] at h4; exact of_decide_eq_true h4.symm
    · intro z; rw [decide_eq_true z] at h4; exact of_decide_eq_true h4
  · rw [e] at h6; exact of_decide_eq_true h6
theorem all_some : ∀ l : List (Option Unit), l.all (·.isSome) = true → ∃ ps : List Unit, l = ps.map some ∧ ps.length = l.length
  | [], _ => ⟨[], rfl, rfl⟩
  | x :: l, h => by
    rw [List.all_cons, Bool.and_eq_true] at h
    obtain ⟨ps, e, hl⟩ := all_some l h.2
    cases x with
    | none => cases h.1
    | some u => exact ⟨u :: ps, by rw [e]; rfl, by simp [hl]⟩
theorem test_facts {kind t : Str} (hk : kind ∈ kinds9) (ht : t ∈ tests3) : rdTest kind t ∧ infoOf t = none ∧ wyTest t ∧ lineB t = true := by
  have h := List.all_eq_true.mp (List.all_eq_true.mp tests_ok kind hk) t ht
  unfold testB at h
  simp only [Bool.and_eq_true, decide_eq_true_eq] at h
  obtain ⟨⟨⟨⟨⟨⟨⟨h1, h2⟩, h3⟩, h4⟩, h5⟩, h6⟩, h7⟩, h8⟩ := h
  obtain ⟨ps, e, hl⟩ := all_some _ h3
  exact ⟨⟨h1, h2, ps, e, by omega⟩, h5, ⟨h6, h2, h7⟩, h8⟩
mutual
def mpR (f : Str → Str) : Tr → Tr
  | .row t => .row (f t)
  | .iff t a h b => .iff t (mpRs f a) h (mpRs f b)
def mpRs (f : Str → Str) : List Tr → List Tr
  | [] => []
  | r :: rs => mpR f r :: mpRs f rs
end
mutual
theorem mp_fl {f : Str → Str} {pr pt : Str → Prop} (h1 : ∀ t, pt t → f t = t) (h2 : f "else" = "else") (h3 : f "end" = "end") : ∀ r : Tr, okT pr pt r → (flR r).map f = flR (mpR f r)
  | .row t, _ => by rw [flR, mpR, flR]; rfl
  | .iff t a h b, o => by
    unfold okT at o
    rw [flR, mpR, flR, List.map_cons, List.map_append, List.map_append, h1 t o.1, mps_fl h1 h2 h3 a o.2.1]
    cases h
    · simp [h3]
    · simp [h2, h3, mps_fl h1 h2 h3 b o.2.2.1]
theorem mps_fl {f : Str → Str} {pr pt : Str → Prop} (h1 : ∀ t, pt t → f t = t) (h2 : f "else" = "else") (h3 : f "end" = "end") : ∀ rs : List Tr, okTs pr pt rs → (flRs rs).map f = flRs (mpRs f rs)
  | [], _ => by rw [flRs, mpRs, flRs]; rfl
  | r :: rs, o => by
    unfold okTs at o
    rw [flRs, mpRs, flRs, List.map_append, mp_fl h1 h2 h3 r o.1, mps_fl h1 h2 h3 rs o.2]
end
mutual
theorem mp_n {f : Str → Str} : ∀ r : Tr, nT (mpR f r) = nT r ∧ dT (mpR f r) = dT r
  | .row t => by rw [mpR, nT, nT, dT, dT]; exact ⟨rfl, rfl⟩
  | .iff t a h b => by rw [mpR, nT, nT, dT, dT, (mps_n a).1, (mps_n b).1, (mps_n a).2, (mps_n b).2]; exact ⟨rfl, rfl⟩
theorem mps_n {f : Str → Str} : ∀ rs : List Tr, nTs (mpRs f rs) = nTs rs ∧ dTs (mpRs f rs) = dTs rs
  | [] => by rw [mpRs]; exact ⟨rfl, rfl⟩
  | r :: rs => by rw [mpRs, nTs, nTs, dTs, dTs, (mp_n r).1, (mps_n rs).1, (mp_n r).2, (mps_n rs).2]; exact ⟨rfl, rfl⟩
end
mutual
theorem mp_ok {f : Str → Str} {pr pr' pt : Str → Prop} (h : ∀ t, pr t → pr' (f t)) : ∀ r : Tr, okT pr pt r → okT pr' pt (mpR f r)
  | .row t, o => by unfold okT at o; rw [mpR]; unfold okT; exact h t o
  | .iff t a hh b, o => by
    unfold okT at o
    rw [mpR]
    unfold okT
    exact ⟨o.1, mps_ok h a o.2.1, mps_ok h b o.2.2.1, fun z => by rw [o.2.2.2 z, mpRs]⟩
theorem mps_ok {f : Str → Str} {pr pr' pt : Str → Prop} (h : ∀ t, pr t → pr' (f t)) : ∀ rs : List Tr, okTs pr pt rs → okTs pr' pt (mpRs f rs)
  | [], o => by rw [mpRs]; unfold okTs; trivial
  | r :: rs, o => by unfold okTs at o; rw [mpRs]; unfold okTs; exact ⟨mp_ok h r o.1, mps_ok h rs o.2⟩
end
mutual
theorem fl_all {pr pt R : Str → Prop} (h1 : ∀ t, pr t → R t) (h2 : ∀ t, pt t → R t) (h3 : R "else") (h4 : R "end") : ∀ r : Tr, okT pr pt r → ∀ t ∈ flR r, R t
  | .row t, o, x, hx => by unfold okT at o; rw [flR] at hx; rw [List.mem_singleton.mp hx]; exact h1 t o
  | .iff t a hh b, o, x, hx => by
    unfold okT at o
    rw [flR] at hx
    rcases List.mem_cons.mp hx with hx | hx
    · rw [hx]; exact h2 t o.1
    · rcases List.mem_append.mp hx with hx | hx
      · exact fls_all h1 h2 h3 h4 a o.2.1 x hx
      · rcases List.mem_append.mp hx with hx | hx
        · cases hh
          · cases hx
          · rcases List.mem_cons.mp hx with hx | hx
            · rw [hx]; exact h3
            · exact fls_all h1 h2 h3 h4 b o.2.2.1 x hx
        · rw [List.mem_singleton.mp hx]; exact h4
theorem fls_all {pr pt R : Str → Prop} (h1 : ∀ t, pr t → R t) (h2 : ∀ t, pt t → R t) (h3 : R "else") (h4 : R "end") : ∀ rs : List Tr, okTs pr pt rs → ∀ t ∈ flRs rs, R t
  | [], _, x, hx => by rw [flRs] at hx; cases hx
  | r :: rs, o, x, hx => by
    unfold okTs at o
    rw [flRs] at hx
    rcases List.mem_append.mp hx with hx | hx
    · exact fl_all h1 h2 h3 h4 r o.1 x hx
    · exact fls_all h1 h2 h3 h4 rs o.2 x hx
end
mutual
theorem lw_bd {pr pt : Str → Prop} {M : Nat} : ∀ (n : Nat) (r : Tr), okT pr pt r → n + (flR r).length ≤ M → ∀ w ∈ lwR n r, ∀ x ∈ w, x ≤ M
  | n, .row t, o, h, w, hw, x, hx => by
    rw [flR] at h
    simp at h
    rw [lwR] at hw
    split at hw
    · rw [List.mem_singleton.mp hw] at hx
      have : x = n + 1 ∨ x = 0 := by simpa using hx
      omega
    · rw [List.mem_singleton.mp hw] at hx
      have : x = n + 1 := by simpa using hx
      omega
  | n, .iff t a hh b, o, h, w, hw, x, hx => by
    unfold okT at o
    have lenF : (flR (.iff t a hh b)).length = 1 + (flRs a).length + (if hh then 1 + (flRs b).length else 0) + 1 := by
      rw [flR]; cases hh <;> simp <;> omega
    rw [lenF] at h
    rw [lwR] at hw
    rcases List.mem_append.mp hw with hw | hw
    · obtain ⟨v, hv, rfl⟩ := List.mem_map.mp hw
      rcases List.mem_cons.mp hx with hx | hx
      · omega
      · exact lws_bd (n + 1) a [[]] o.2.1 (by omega) (by intro w hw; rw [List.mem_singleton.mp hw]; intro x hx; cases hx) v hv x hx
    · obtain ⟨v, hv, rfl⟩ := List.mem_map.mp hw
      rcases List.mem_cons.mp hx with hx | hx
      · omega
      · refine lws_bd (n + 1 + (flRs a).length + (if hh then 1 else 0)) b [[]] o.2.2.1 ?_ (by intro w hw; rw [List.mem_singleton.mp hw]; intro x hx; cases hx) v hv x hx
        cases hh with
        | true => simp at h ⊢; omega
        | false =>
          rw [o.2.2.2 rfl, show (flRs []).length = 0 from by rw [flRs]; rfl]
          simp at h ⊢; omega
theorem lws_bd {pr pt : Str → Prop} {M : Nat} : ∀ (n : Nat) (rs : List Tr) (f : List (List Nat)), okTs pr pt rs → n + (flRs rs).length ≤ M → (∀ w ∈ f, ∀ x ∈ w, x ≤ M) → ∀ w ∈ lwRs n rs f, ∀ x ∈ w, x ≤ M
  | n, [], f, o, h, hf => by rw [lwRs]; exact hf
  | n, r :: rs, f, o, h, hf => by
    unfold okTs at o
    rw [flRs, List.length_append] at h
    rw [lwRs]
    refine lws_bd (n + (flR r).length) rs _ o.2 (by omega) fun w hw x hx => ?_
    rcases List.mem_append.mp hw with hw | hw
    · exact hf w (List.mem_filter.mp hw).1 x hx
    · obtain ⟨q, hq, hw⟩ := List.mem_flatMap.mp hw
      obtain ⟨t, ht, rfl⟩ := List.mem_map.mp hw
      rcases List.mem_append.mp hx with hx | hx
      · exact hf q (List.mem_filter.mp hq).1 x hx
      · exact lw_bd n r o.1 (by omega) t ht x hx
end
/-- a text that the law may give -/
structure TextOk (kind : Str) (ts : List Tr) : Prop where
  ok : okTs (fun t => t ∈ goodL kind) (fun t => t ∈ tests3) ts
  d : dTs ts ≤ 2
  n : nTs ts ≤ 4
  l : (flRs ts).length ≤ 20
theorem TextOk.rb {kind : Str} {ts : List Tr} (hk : kind ∈ kinds9) (h : TextOk kind ts) : RB (flRs ts) (rowFh kind) (partFh kind) 2 false 0 0 (.ok (rwRs kind 0 ts) "" (flRs ts).length (nTs ts)) := by
  have o := okTs.imp (p2 := rdRow kind) (q2 := rdTest kind) (fun t ht => (row_facts hk ht).1) (fun t ht => (test_facts hk ht).1) ts h.ok
  have := rb_rows (kind := kind) (lines := flRs ts) (inner := false) (d := 2) ts 0 0 (.ok [] "" (flRs ts).length (nTs ts)) o h.d ⟨[], [], by simp, rfl⟩ (by
    rw [Nat.zero_add, Nat.zero_add]
    exact RB.endOut (Nat.le_refl _))
  rw [Out.pre_ok] at this; exact this
theorem TextOk.bounds {kind : Str} {ts : List Tr} (h : TextOk kind ts) : nIfs (rwRs kind 0 ts) ≤ 20 ∧ szRs (rwRs kind 0 ts) ≤ 1000 ∧ dpRs (rwRs kind 0 ts) ≤ 2 := by
  have h1 := szRs_rw kind 0 ts h.ok
  have h2 := h.l
  have h3 := h.n
  rw [nIfs_rw, dpRs_rw]
  exact ⟨by omega, by omega, h.d⟩
theorem TextOk.late {kind : Str} {ts : List Tr} (hk : kind ∈ kinds9) (h : TextOk kind ts) (x : Nat) : x ∈ (lwRs 0 ts [[]]).flatMap (fun told => flt (setsL (flRs ts) told)) ↔ x ∈ lateAll (toldName kind) (waysW ends2 tagH (rwRs kind 0 ts) [([], false)]) := by
  refine late_eq (pr := fun _ => True) (pt := fun _ => True) ?_ ?_ ⟨[], [], by simp, rfl⟩ x
  · exact okTs.imp (fun t ht => (row_facts hk ht).2.1) (fun _ _ => trivial) ts h.ok
  · exact okTs.imp (fun t ht => (row_facts hk ht).2.2.1) (fun t ht => (test_facts hk ht).2.1) ts h.ok
theorem TextOk.line {kind : Str} {ts : List Tr} (hk : kind ∈ kinds9) (h : TextOk kind ts) : ∀ t ∈ flRs ts, lineB t = true :=
  fls_all (R := fun t => lineB t = true) (fun t ht => (row_facts hk ht).2.2.2.2) (fun t ht => (test_facts hk ht).2.2.2) ends_ok.1 ends_ok.2 ts h.ok
theorem TextOk.way {kind : Str} {ts : List Tr} (hk : kind ∈ kinds9) (h : TextOk kind ts) : okTs wyRow wyTest ts := okTs.imp (fun t ht => (row_facts hk ht).2.2.2.1) (fun t ht => (test_facts hk ht).2.2.1) ts h.ok
theorem quit_good : (kinds9.all fun kind => decide (("quit" : Str) ∈ goodL kind)) = true := by decide +kernel
theorem TextOk.quit {kind : Str} (hk : kind ∈ kinds9) : TextOk kind [.row "quit"] :=
  ⟨okTs_one (by unfold okT; exact of_decide_eq_true (List.all_eq_true.mp quit_good kind hk)), by rw [dTs_one, dT]; decide, by rw [nTs_one, nT]; decide, by rw [flRs_one, flR]; decide⟩
theorem TextOk.map {kind : Str} {ts : List Tr} (h : okTs (fun t => t ∈ rawL (toldName kind)) (fun t => t ∈ tests3) ts) (hd : dTs ts ≤ 2) (hn : nTs ts ≤ 4) (hl : (flRs ts).length ≤ 20) : TextOk kind (mpRs (noQ kind) ts) ∧ flRs (mpRs (noQ kind) ts) = (flRs ts).map (noQ kind) := by
  have e : (flRs ts).map (noQ kind) = flRs (mpRs (noQ kind) ts) := by
    refine mps_fl (pr := fun t => t ∈ rawL (toldName kind)) (pt := fun t => t ∈ tests3) (fun t ht => ?_) ?_ ?_ ts h
    · unfold noQ
      rw [if_neg]
      rintro ⟨z, _⟩
      rw [z] at ht; revert ht; decide +kernel
    · unfold noQ; rw [if_neg (fun z => absurd z.1 (by decide))]
    · unfold noQ; rw [if_neg (fun z => absurd z.1 (by decide))]
  refine ⟨⟨mps_ok (fun t ht => List.mem_map.mpr ⟨t, ht, rfl⟩) ts h, by rw [(mps_n ts).2]; exact hd, by rw [(mps_n ts).1]; exact hn, by rw [← e, List.length_map]; exact hl⟩, e.symm⟩
end Tb

set_option Elab.async false
set_option linter.all false
set_option maxRecDepth 100000
set_option maxHeartbeats 3999000
namespace Tb
open PySem PySem.Spec PyProof.Rows L2
open PySem.W (Frag)
/-! ### C(e, ..) within a try: what its __init__ raises is taken, the slots stay -/
section
variable {X : Cx} {k : Nat} {C f : Addr} {fd : FuncData} {ps : List Str} {sp : Sp} {x : Str} {q1 q2 : Pos} {a1 : Expr} {r1 : List Expr} {t : TA} {W : WX}
theorem run_mkW {pins : List (Addr × Obj)} {σ : L2.St} {H : Hp} {s : Shared} {Q : VK} {us : List Value} {vs : List V} (hM : Mk X.K C f) (hF : FnOk X.prog X.w X.K X.mg X.base (L2.CX X.prog X.w) k f fd ps sp) (hR : Room (k + 1) X.A) (hB : Binds X.K fd ps []) (tk : Takes X W) (I : Inv X pins σ H s) (rel : Vals vs us)
    (h : ∀ x dx, H x = none → H dx = none → dx ≠ x → sp (.ref x :: vs) (upd (upd H dx (.own x)) x (.ins C dx [])) (fun v H2 => v = .non ∧ Q (.ref x) H2) (fun c d H2 => W c d σ H2)) : wpAny (model X.prog X.w) X.A (call (.ref C) us) (EP X pins σ Q) X.xe s := by
  obtain ⟨n, en⟩ : ∃ n, n = s.heap.objs.size := ⟨_, rfl⟩
  have nf : ∀ m, n ≤ m → H m = none := fun m hm => I.hok.fresh (en ▸ hm)
  have q0 := h (n + 1) n (nf _ (Nat.le_succ _)) (nf _ (Nat.le_refl _)) (Nat.ne_of_lt (Nat.lt_succ_self _))
  subst en
  have J := Inv.made (C := C) I
  have rel2 : Vals (V.ref (s.heap.objs.size + 1) :: vs) (Value.ref (s.heap.objs.size + 1) :: us) := .cons rfl rel
  have len2 : (Value.ref (s.heap.objs.size + 1) :: us ++ []).length = ps.length := by
    rw [List.append_nil, ← rel2.length]; exact hF.len _ _ _ _ q0
  have bnd := hB _ (Value.ref (s.heap.objs.size + 1) :: us) J.kIn len2
  rw [List.append_nil] at bnd
  have run := hF.run _ X.stack _ _ ⟨Value.ref (s.heap.objs.size + 1) :: us, []⟩ _ _ _ _ (hR.make C us []) (J.env0.make C us []) bnd rel2 q0
  refine wpAny_call (make_map (f := f) I.kIn hM.makes hM.init (beq_iff_eq.mp hM.fn) (codeAny_mono run fun res s' z => ?_))
  match res, z with
  | .error e, z => exact passAt tk σ pins _ _ e s' J z
  | .ok (.ret u), z =>
    obtain ⟨v, H', I3, rv, ev, q3⟩ := J.after z
    subst ev
    exact ⟨rv, V.ref (s.heap.objs.size + 1), H', I3, rfl, q3⟩
  | .ok .next, z => exact False.elim z
  | .ok .brk, z => exact False.elim z
  | .ok .cont, z => exact False.elim z
def tMkW (C : Addr) (sp : Sp) (W : WX) (t : TA) : TE := fun σ H Q => t σ H fun vs H1 => ∀ x dx, H1 x = none → H1 dx = none → dx ≠ x →
  sp (.ref x :: vs) (upd (upd H1 dx (.own x)) x (.ins C dx [])) (fun v H2 => v = .non ∧ Q (.ref x) H2) (fun c d H2 => W c d σ H2)
theorem pe_mkW (h : HasCX X.prog X.w X.K X.mg X.base x C k sp) (hr : Room (k + 1) X.A) (tk : Takes X W) (hg : Gl X x) (ha : PA X (a1 :: r1) t) (z1 : (x == ("__debug__" : Str)) = false := by decide)
    (z2 : starEach (a1 :: r1) X.env = (false, eval a1 X.env) :: starEach r1 X.env := by rfl) (z3 : (backTo q2 (starEach r1 X.env)).any (·.1) = false := by rfl) : PE X (.Call (.Name x q1) (a1 :: r1) [] q2) (tMkW C sp W t) := by
  obtain ⟨f, fd, ps, F, hM, hm, hb⟩ := h.ex
  refine ⟨fun pins s σ H Q I q => wpAny_Call_Name_kw (ld_glob I hg hm ?_ z1)⟩
  exact PySem.W.callWith_K (h₀ := X.base) I.ok.mod.kin hM.kp (thn (ha.run q2 pins s σ H _ I q) fun us s1 ⟨vs, H1, I1, rel, q1⟩ => ⟨I1.kIn, run_mkW hM F hr hb tk I1 rel q1⟩) z2 z3
end
end Tb

set_option Elab.async false
set_option linter.all false
set_option maxRecDepth 100000
set_option maxHeartbeats 3999000
set_option exponentiation.threshold 6000
namespace Tb
open PySem PySem.Spec PyProof.Rows L2
open LamX (Tabs ExtN TabB)
open PySem.W (Frag)
open C8 (pss_cut tCut)
theorem pe_joinK {X : Cx} {K : Frag} {o e : Expr} {to te : TE} {apos pos : Pos} (hK : X.K = K) (ho : PE X o to) (he : PE X e te) (hs : starEach [e] X.env = [(false, eval e X.env)] := by rfl) (hbase : attributeBase o "join" X.env (eval o X.env) = eval o X.env := by rfl) (hline : (apos.endLine == pos.line) = true := by rfl) :
    PE X (.Call (.Attribute o "join" apos) [e] [] pos) (tM1 (fun x xs H Q => ∃ a p, ∃ ys : List Str, x = .str a ∧ xs = [.ref p] ∧ (SqL K H p (ys.map V.str) ∨ SqT K H p (ys.map V.str)) ∧ (ys.map (·.length)).sum + ys.length * a.length ≤ 16777216 ∧ Q (.str (Txt.join a ys)) H) to te) := by
  subst hK; exact pe_join ho he hs hbase hline
theorem tabs_bag {Tt : List (Addr × Str)} {H H' : Hp} {c p : Addr} {n : Nat} (t : Tabs Tt H) (B : BagC c H p n) (x : SameBut p H H') : Tabs Tt H' := fun q hq => by
  obtain ⟨ps, h1, h2, h3⟩ := t q hq
  refine ⟨ps, x _ _ h1 (B.ne h1 (fun _ z => nomatch z)), h2, fun pos cv hcv => ?_⟩
  obtain ⟨c, e, h4⟩ := h3 pos cv hcv
  exact ⟨c, e, x _ _ h4 (B.ne h4 (fun _ z => nomatch z))⟩
theorem tabs_but2 {Tt : List (Addr × Str)} {H H' : Hp} {c p lf : Addr} {n : Nat} {xs : List V} (t : Tabs Tt H) (B : BagC c H p n) (hl : H lf = some (.lst xs)) (x : But2 p lf H H') : Tabs Tt H' := fun q hq => by
  obtain ⟨ps, h1, h2, h3⟩ := t q hq
  refine ⟨ps, x _ _ h1 (B.ne h1 (fun _ z => nomatch z)) (fun z => by rw [z, hl] at h1; cases h1), h2, fun pos cv hcv => ?_⟩
  obtain ⟨c, e, h4⟩ := h3 pos cv hcv
  exact ⟨c, e, x _ _ h4 (B.ne h4 (fun _ z => nomatch z)) (fun z => by rw [z, hl] at h4; cases h4)⟩
theorem flt_len (ss : List SetR) : (flt ss).length ≤ ss.length := by
  have h : ∀ k, (flt (ss.take k)).length ≤ k := fun k => by
    induction k with
    | zero => rw [List.take_zero]; exact Nat.le_refl _
    | succ k ih =>
      cases e : ss[k]? with
      | none => rw [show ss.take (k + 1) = ss.take k from by rw [List.take_add_one, e]; simp]; omega
      | some s =>
        rw [show ss.take (k + 1) = ss.take k ++ [s] from by rw [List.take_add_one, e]; rfl, flt_snoc, List.length_append]
        split <;> simp <;> omega
  have := h ss.length
  rw [List.take_length] at this; exact this
theorem sets_len (lines : List Str) (told : List Nat) : (setsL lines told).length ≤ told.length := by
  unfold setsL
  exact Nat.le_trans (List.length_filterMap_le _ _) (List.length_filter_le _ _)
theorem BagC.ext {c p : Addr} {n : Nat} {H H' : Hp} (B : BagC c H p n) (x : ExtN H H') : BagC c H' p n := by
  obtain ⟨ns, ix, dg, ct, fo, h1, h2, h3⟩ := B
  exact ⟨ns, ix, dg, ct, fo, x _ _ h1 (fun _ z => nomatch z), x _ _ h2 (fun _ z => nomatch z), h3⟩
def goalKV : List (Key × V) := [(.inr "size", .str "size"), (.inr "used", .str "used"), (.inr "ahead", .str "ahead"), (.inr "round", .str "size")]
theorem goal_of : ∀ kind ∈ kinds9, (valV (mergeK [] goalKV) (Sum.inr kind)).getD (.str "word") = .str (toldName kind) := by decide +kernel
def spLawH (K : Frag) (Pt : Addr) : Sp := fun vs H Q _ => ∃ (a : Addr) (ns : List Int), vs = [.ref a] ∧ SqL K H a (ns.map V.int) ∧ ns.length ≤ 63 ∧ Tabs (tabH Pt) H ∧ ∀ H', Q (.bl true) H'
section
variable {P : Program} {w : World} {K : Frag} {mg : Str → Option Value} {base : Heap} {B C CB CT CR Pt : Addr}
theorem ok_lawH {f : Addr} {fd : FuncData} {k : Nat} (F : Fun K "law" "law" s_law f fd) (T : Bl mg) (eRefused : ErrAt P K mg B "Refused" CR ["line"]) (hRB : CR ≠ B) (hk4 : 4 ≤ k) (hL_bag : HasF P w K mg base "_law_bag" 1 (spBagC K)) (hL_draw : HasF P w K mg base "_law_draw" 1 spDrawC) (hL_lines : HasF P w K mg base "_law_lines" 4 (spLines 2)) (hL_ways : HasF P w K mg base "_law_ways" 4 (spLW K 2)) (hL_faults : HasF P w K mg base "_law_faults" 1 (spFaults K))
    (hHeadCode : HasCX P w K mg base "HeadCode" C k (spHead C CB CT CR Pt 2)) : FnOk P w K mg base CX0 (k + 2) f fd ["_law_script"] (spLawH K Pt) := by
  refine F.ok sc_law (fun vs H Q E h => ?_) (fun cdv A outer s H vs Q E hr h => ?_)
  · obtain ⟨a, ns, rfl, _⟩ := h; rfl
  · obtain ⟨a, ns, rfl, hS, hln, hT, kk⟩ := h
    have hu := hu_of hr
    refine ⟨_, PSs.nox (pss_cons (ps_set (i := 1) sc_law.nd rfl (by first | exact Or.inl rfl | exact Or.inr rfl) (pe_fn hL_bag (hr.mono (by first | decide | omega)) rfl (pa_cons (pv 0) pa_nil)))
      (pss_cons (ps_set (i := 2) sc_law.nd rfl (by first | exact Or.inl rfl | exact Or.inr rfl) (pe_lst (pa_cons pe_str (pa_cons pe_str (pa_cons pe_str (pa_cons pe_str (pa_cons pe_str (pa_cons pe_str (pa_cons pe_str (pa_cons pe_str (pa_cons pe_str pa_nil)))))))))))
      (pss_cons (ps_for PassesOwn.never rfl (pi_range1 (by rfl) T.range (pa_cons pe_int pa_nil)) (pg_name (i := 3) sc_law.nd rfl (by first | exact Or.inl rfl | exact Or.inr rfl))
        (pss_cons (ps_set (i := 4) sc_law.nd rfl (by first | exact Or.inl rfl | exact Or.inr rfl) (pe_ix ix_list (pe_op op_cat (pv 2) (pe_op op_rep (pe_lst (pa_cons pe_str pa_nil)) pe_int)) (pe_fn hL_draw (hr.mono (by first | decide | omega)) rfl (pa_cons (pv 1) (pa_cons pe_int pa_nil))) (fun _ _ => rfl)))
        (pss_cut (ps_set (i := 5) sc_law.nd rfl (by first | exact Or.inl rfl | exact Or.inr rfl) (pe_dget2 hu (pe_disp (pps_cons pe_str pe_str (pps_cons pe_str pe_str (pps_cons pe_str pe_str (pps_cons pe_str pe_str pps_nil)))) (by rfl) (by rfl) (fun z => by cases z) (by decide)) (pv 4) pe_str ⟨by rfl, by rfl, by rfl, by rfl⟩))
        (pss_cons (ps_set (i := 6) sc_law.nd rfl (by first | exact Or.inl rfl | exact Or.inr rfl) (pe_fn hL_lines (hr.mono (by first | decide | omega)) rfl (pa_cons (pv 1) (pa_cons (pv 5) (pa_cons pe_int (pa_cons (pe_lst (pa_cons pe_int (pa_cons pe_int (pa_cons pe_int (pa_cons pe_int pa_nil))))) pa_nil))))))
        (pss_cons (ps_setLc (i := 6) (own := [("_law_line", 7)]) (g := gName 7) (tt := tYes) rfl sc_law.nd rfl rfl (sw_true rfl rfl rfl (by decide +kernel)) (pi_list (pv 6)) (blkOk_by (own := [("_law_line", 7)]) (N := nm_law) (sc := defScope s_law) (by decide +kernel)) (fun _ _ _ _ _ => pg_name (i := 7) sc_law.nd rfl (by first | exact Or.inl rfl | exact Or.inr rfl)) (fun _ _ _ _ _ => pts_nil) (fun _ _ _ _ _ => (pe_ifExp (PW.pt (pw_and (pt_cmpR op_eq (pv 7) pe_str (nomark _)) (pw_and1 (pt_cmpR op_ne (pv 4) pe_str (nomark _))))) pe_str (pv 7))))
        (pss_cut (ps_set (i := 6) sc_law.nd rfl (by first | exact Or.inl rfl | exact Or.inr rfl) (pe_ifExp (pt_cmpR op_le (pe_callB call_len_seq (by rfl) T.len PySem.boot_len (pa_cons (pv 6) pa_nil)) pe_int (nomark _)) (pv 6) (pe_lst (pa_cons pe_str pa_nil))))
        (pss_cons (ps_par (i := 8) (j := 9) (by rfl) sc_law.nd rfl rfl (by decide) rfl rfl (pa_cons (pe_lst pa_nil) (pa_cons pe_int pa_nil)) (by rfl))
        (pss_cut (ps_for PassesOwn.never rfl (pi_list (pe_fn hL_ways (hr.mono (by first | decide | omega)) rfl (pa_cons (pv 6) (pa_cons pe_int (pa_cons (pe_op op_add (pe_callB call_len_seq (by rfl) T.len PySem.boot_len (pa_cons (pv 6) pa_nil)) pe_int) pa_nil))))) (pg_name (i := 10) sc_law.nd rfl (by first | exact Or.inl rfl | exact Or.inr rfl))
          (pss_one (ps_set (i := 8) sc_law.nd rfl (by first | exact Or.inl rfl | exact Or.inr rfl) (pe_op op_cat (pv 8) (pe_fn hL_faults (hr.mono (by first | decide | omega)) rfl (pa_cons (pv 6) (pa_cons (pv 10) pa_nil)))))))
        (pss_cut (ps_try_cls (Wo := fun _ _ _ _ => False) rfl rfl sc_law.nd takes0 (fun W pn xe tk _ => (pss_one (ps_expr (pe_mkW hHeadCode (hr.mono (by first | decide | omega)) tk rfl (pa_cons (pv 4) (pa_cons (pe_joinK (K := K) (by rfl) pe_str (pv 6)) pa_nil))))))
          (ClsOk.cons (z := ⟨.ref _, 11, _⟩) ⟨rfl, by decide, .inl eRefused.has.at_⟩ rfl rfl (fun a oe cls d pn hz hf => (pss_one (ps_set (i := 9) sc_law.nd rfl (by first | exact Or.inl rfl | exact Or.inr rfl) (pe_xfE eRefused (by decide) hz hf (pv 11)))))
          ClsOk.nil))
        (pss_one (ps_if (pt_cmpR op_ne (pv 9) (pe_ifExp (pt_cmpR (op_neD hr.units) (pv 8) (pe_lst pa_nil) (nomark _)) (pe_callB (cr_min rfl) (by rfl) T.min PyProof.Rows.boot_min (pa_cons (pv 8) pa_nil)) pe_int) (nomark _))
          (pss_one (ps_ret pe_bl))
          pss_nil)))))))))))
      (pss_one (ps_ret pe_bl))))), ?_⟩
    refine ⟨_, rfl, a, ns, rfl, hS, hln, fun p c H1 hp0 hc0 s1 B1 => ?_⟩
    have t1 := hT.ext s1
    dsimp only [gName]
    refine ⟨(by show 9 ≤ sizeLine; decide), fun kl hkl => ?_⟩
    have s2 := same_new (o := .lst (kinds9.map V.str)) (Same.refl H1) hkl
    have hk2 : upd H1 kl (.lst (kinds9.map V.str)) kl = some (.lst (kinds9.map V.str)) := upd_same
    have B2 := B1.same s2
    have t2 := t1.ext s2
    dsimp only [gName]
    refine ⟨5, rfl, by decide, by decide, ?_⟩
    refine for_range (n := (5 : Int).toNat) (fun i σ H3 => ∃ v3 v4 v5 v6 v7 v8 v9 v10 v11 : Option V, σ = [some (.ref a), some (.ref p), some (.ref kl), v3, v4, v5, v6, v7, v8, v9, v10, v11] ∧ BagC c H3 p (14000 * i) ∧ H3 kl = some (.lst (kinds9.map V.str)) ∧ Tabs (tabH Pt) H3)
      ⟨none, none, none, none, none, none, none, none, none, rfl, B2, hk2, t2⟩ ?_ ?_
    · rintro i σ H3 hi ⟨v3, v4, v5, v6, v7, v8, v9, v10, v11, rfl, B3, hk3, t3⟩
      have hi5 : i < 5 := hi
      have hb5 : ∀ (x : Int), 0 < x → x ≤ 12 → Bd 5000 x := fun x h1 h2 => by unfold Bd; omega
      dsimp only [gName]
      refine ⟨_, rfl, (by show 1 ≤ sizeLine; decide), fun l1 hl1 => ⟨l1, 3, _, rfl, rfl, upd_same, by decide, by decide, by decide, fun l2 hl2 => ?_⟩⟩
      have s4 : Same H3 (upd (upd H3 l1 (.lst [.str "round"])) l2 (.lst (List.replicate (3 : Int).toNat [V.str "round"]).flatten)) := same_new (same_new (Same.refl H3) hl1) hl2
      have hl24 : upd (upd H3 l1 (.lst [.str "round"])) l2 (.lst (List.replicate (3 : Int).toNat [V.str "round"]).flatten) l2 = some (.lst [.str "round", .str "round", .str "round"]) := upd_same
      generalize upd (upd H3 l1 (.lst [.str "round"])) l2 (.lst (List.replicate (3 : Int).toNat [V.str "round"]).flatten) = H4 at *
      refine ⟨kl, l2, _, _, rfl, rfl, s4 _ _ hk3, hl24, by decide, fun l3 hl3 => ?_⟩
      have s5 := same_new (o := .lst (kinds9.map V.str ++ [.str "round", .str "round", .str "round"])) s4 hl3
      have hl35 : upd H4 l3 (.lst (kinds9.map V.str ++ [.str "round", .str "round", .str "round"])) l3 = some (.lst ((kinds9 ++ (["round", "round", "round"] : List Str)).map V.str)) := upd_same
      generalize upd H4 l3 (.lst (kinds9.map V.str ++ [.str "round", .str "round", .str "round"])) = H5 at *
      have B5 := B3.same s5
      refine ⟨_, rfl, p, c, _, 12, rfl, B5, by omega, by decide, hb5 _ (by decide) (by decide), fun r H6 r0 r1 B6 s6 => ?_⟩
      have hl36 := s6 _ _ hl35 (B5.ne hl35 (fun _ z => nomatch z))
      have hk6 := s6 _ _ (s5 _ _ hk3) (B5.ne (s5 _ _ hk3) (fun _ z => nomatch z))
      have t6 := tabs_bag (t3.ext s5) B5 s6
      obtain ⟨kind, hkk, hat⟩ := pick_at (xs := kinds9 ++ (["round", "round", "round"] : List Str)) r0 r1
      have hk : kind ∈ kinds9 := by
        rcases List.mem_append.mp hkk with h | h
        · exact h
        · have : kind = "round" := by simpa using h
          rw [this]; decide
      refine ⟨l3, _, _, _, rfl, rfl, .inl (.inl hl36), hat, ?_⟩
      dsimp only [gName]
      clear hl36 hl35 hl24 s4 s5 s6 B5 B3 t3 hk3 hat
      refine ⟨fun σ' H' => σ' = [some (.ref a), some (.ref p), some (.ref kl), some (.int (0 + i)), some (.str kind), some (.str (toldName kind)), v6, v7, v8, v9, v10, v11] ∧ BagC c H' p (14000 * i + 1) ∧ H' kl = some (.lst (kinds9.map V.str)) ∧ Tabs (tabH Pt) H', ?_, ?_⟩
      · refine fun dp hdp => ⟨upd_same, goalKV, rfl, by decide, dp, rfl, ?_, _, rfl, _, DGet.k (k := Sum.inr kind) upd_same, ?_⟩
        · exact .inl ⟨_, .inl upd_same⟩
        have s7 : Same H6 (upd (upd H6 dp (.dK [])) dp (.dK (mergeK [] goalKV))) := same_put (same_new (Same.refl H6) hdp) hdp
        refine ⟨?_, B6.same s7, s7 _ _ hk6, t6.ext s7⟩
        rw [goal_of kind hk]; rfl
      rintro σ' H7 ⟨rfl, B7, hk7, t7⟩
      have hgl : toldName kind ∈ goals4 := of_decide_eq_true (List.all_eq_true.mp told_goal kind hk)
      refine ⟨_, rfl, _, rfl, (by show 4 ≤ sizeLine; decide), fun lf hlf => ?_⟩
      have s8 := same_new (o := .lst (([1, 2, 3, 4] : List Int).map V.int)) (Same.refl H7) hlf
      have hlf8 : upd H7 lf (.lst (([1, 2, 3, 4] : List Int).map V.int)) lf = some (.lst (([1, 2, 3, 4] : List Int).map V.int)) := upd_same
      have nlc := (B7.fresh hlf).1
      have B8 := B7.same s8
      have klf : kl ≠ lf := fun z => by rw [← z, hk7] at hlf; cases hlf
      have dr2 : dr 2 = 13377 := by decide
      have t8 := t7.ext s8
      have hk8 := s8 _ _ hk7
      refine ⟨p, c, lf, toldName kind, _, [1, 2, 3, 4], rfl, B8, by rw [dr2]; omega, hlf8, nlc, hgl, Nat.le_refl _, fun H9 q ts is' b9 B9 hlf9 hn9 hq9 nq9 ot hdt hlt => ?_⟩
      have t9 := tabs_but2 t8 B8 hlf8 b9
      have hk9 := b9 _ _ hk8 (B8.ne hk8 (fun _ z => nomatch z)) klf
      have cl2 : cL 2 = 2456 := by decide
      rw [cl2] at hlt
      rw [dr2] at B9
      have hn4 : nTs ts ≤ 4 := by
        have : ([1, 2, 3, 4] : List Int).length = 4 := rfl
        omega
      have big : (200000 : Nat) < sizeLine := by decide
      dsimp only [gName]
      clear t8 hk8 B8 hlf8 s8 b9 hlf9 hn9
      -- no becomes quit
      refine ⟨_, rfl, q, rfl, ⟨_, .inl (.inl hq9)⟩, fun D hD => ?_⟩
      refine lc_list (K := K) (a := q) (xs := (flRs ts).map V.str) (fun x HA => Same H9 HA ∧ HA D = some (.lst ((((flRs ts).take x).map (noQ kind)).map V.str))) ⟨same_new (Same.refl _) hD, upd_same⟩ (fun x HA _ ⟨s, _⟩ => .inl (.inl (s _ _ hq9))) ?_ ?_
      · rintro j xv HA hxv ⟨sA, hDA⟩
        obtain ⟨tx, htx, rfl⟩ : ∃ y, (flRs ts)[j]? = some y ∧ xv = .str y := by
          rw [List.getElem?_map] at hxv
          cases e : (flRs ts)[j]? with
          | none => rw [e] at hxv; cases hxv
          | some y => rw [e] at hxv; cases hxv; exact ⟨y, rfl, rfl⟩
        have hjl := (List.getElem?_eq_some_iff.mp htx).1
        have etk : (((flRs ts).take (j + 1)).map (noQ kind)) = ((flRs ts).take j).map (noQ kind) ++ [noQ kind tx] := by rw [List.take_add_one, htx]; simp
        have fin : ∀ y : Str, y = noQ kind tx → ∃ acc, HA D = some (.lst acc) ∧ acc.length < sizeLine ∧ Same H9 (upd HA D (.lst (acc ++ [V.str y]))) ∧ upd HA D (.lst (acc ++ [V.str y])) D = some (.lst ((((flRs ts).take (j + 1)).map (noQ kind)).map V.str)) := fun y hy => by
          refine ⟨_, hDA, ?_, same_put sA hD, ?_⟩
          · rw [List.length_map, List.length_map, List.length_take]; omega
          · rw [upd_same, etk, hy, List.map_append]; rfl
        refine ⟨rfl, ?_⟩
        unfold tYes
        refine (iteT (A := _) (B := _) ?_)
        refine tAnd_by (decide (V.str tx = V.str "no")) (!decide (V.str kind = V.str "round")) (fun Q' q => ⟨_, rfl, rfl, _, rfl, q⟩) (fun _ Q' q => ⟨_, rfl, rfl, _, rfl, q⟩) ?_
        by_cases c1 : tx = "no" ∧ kind ≠ "round"
        · rw [decide_eq_true (by rw [c1.1] : V.str tx = V.str "no"), decide_eq_false (fun z => c1.2 (V.str.inj z))]
          exact iteT (fin _ (by unfold noQ; rw [if_pos c1]))
        · rw [show (decide (V.str tx = V.str "no") && !decide (V.str kind = V.str "round")) = false from by
            rw [Bool.and_eq_false_iff]
            by_cases z : tx = "no"
            · refine .inr ?_
              have : kind = "round" := Classical.byContradiction fun y => c1 ⟨z, y⟩
              rw [decide_eq_true (by rw [this])]; rfl
            · exact .inl (decide_eq_false fun y => z (V.str.inj y))]
          exact iteF ⟨_, rfl, fin _ (by unfold noQ; rw [if_neg c1])⟩
      · rintro HA ⟨sA, hDA⟩
        rw [List.length_map, List.take_length] at hDA
        have BA := B9.same sA
        have hkA := sA _ _ hk9
        have tA := t9.ext sA
        dsimp only [gName]
        refine ⟨fun σ' H' => ∃ (ll : Addr) (ts1 : List Tr), σ' = [some (.ref a), some (.ref p), some (.ref kl), some (.int (0 + i)), some (.str kind), some (.str (toldName kind)), some (.ref ll), v7, v8, v9, v10, v11] ∧ BagC c H' p (14000 * i + 1 + 13377) ∧ H' kl = some (.lst (kinds9.map V.str)) ∧ Tabs (tabH Pt) H' ∧ TextOk kind ts1 ∧ H' ll = some (.lst ((flRs ts1).map V.str)), ?_, ?_⟩
        · refine ⟨_, rfl, D, _, rfl, .inl (.inl (.inl hDA)), _, _, rfl, rfl, _, rfl, ?_⟩
          by_cases c2 : (flRs ts).length ≤ 20
          · rw [decide_eq_true (by rw [List.length_map, List.length_map]; omega)]
            obtain ⟨ok1, e1⟩ := TextOk.map ot hdt hn4 c2
            refine iteT ⟨_, rfl, D, _, rfl, BA, hkA, tA, ok1, ?_⟩
            rw [e1]; exact hDA
          · rw [decide_eq_false (by rw [List.length_map, List.length_map]; omega)]
            refine iteF ⟨(by show 1 ≤ sizeLine; decide), fun ll hll => ⟨ll, [.row "quit"], rfl, BA.same (same_new (Same.refl HA) hll), by rw [upd_ne (ne_of_none hkA hll)]; exact hkA, tA.ext (same_new (Same.refl HA) hll), TextOk.quit hk, ?_⟩⟩
            rw [upd_same, flRs_one, flR]; rfl
        clear hDA hkA BA tA sA hD hk9 t9 B9 hq9 nq9
        rintro σ' HB ⟨ll, ts1, rfl, BB, hkB, tB, ok1, hllB⟩
        refine ⟨(by show 0 ≤ sizeLine; decide), fun fl hfl => ⟨_, _, rfl, ?_⟩⟩
        have sC := same_new (o := .lst []) (Same.refl HB) hfl
        have hflC : upd HB fl (.lst []) fl = some (.lst (intsV [])) := upd_same
        dsimp only
        generalize upd HB fl (.lst []) = HC at *
        have hllC := sC _ _ hllB
        obtain ⟨lines, el⟩ : ∃ lines, lines = flRs ts1 := ⟨_, rfl⟩
        have lin := ok1.line hk
        have hl20 : lines.length ≤ 20 := by rw [el]; exact ok1.l
        obtain ⟨WL, eWL⟩ : ∃ WL, WL = lwRs 0 ts1 [[]] := ⟨_, rfl⟩
        have wlen : WL.length ≤ 16 := by
          have h1 := lwRs_len 0 ts1 [[]]
          rw [← eWL] at h1
          simp only [List.length_singleton, Nat.one_mul] at h1
          exact Nat.le_trans h1 (Nat.pow_le_pow_right (by decide) ok1.n)
        have wlong : longL 40 WL := by
          have h1 := lwRs_long (pr := wyRow) (pt := wyTest) 0 ts1 [[]] 0 (ok1.way hk) (by intro w hw; rw [List.mem_singleton.mp hw]; simp)
          rw [← eWL] at h1
          intro w hw
          have := h1 w hw
          have := ok1.l
          omega
        have wbd : ∀ w ∈ WL, ∀ x ∈ w, x ≤ lines.length := by
          rw [eWL, el]
          exact lws_bd (pr := wyRow) (pt := wyTest) 0 ts1 [[]] (ok1.way hk) (by omega) (by intro w hw; rw [List.mem_singleton.mp hw]; intro x hx; cases hx)
        obtain ⟨L, eL⟩ : ∃ L, L = WL.flatMap fun told => flt (setsL lines told) := ⟨_, rfl⟩
        have fone : ∀ told ∈ WL, (flt (setsL lines told)).length ≤ 40 := fun told ht => Nat.le_trans (flt_len _) (Nat.le_trans (sets_len _ _) (wlong told ht))
        rw [← el] at hllC lin
        refine ⟨fun σ' H' => ∃ (fl : Addr) (v10 : Option V), σ' = [some (.ref a), some (.ref p), some (.ref kl), some (.int (0 + i)), some (.str kind), some (.str (toldName kind)), some (.ref ll), v7, some (.ref fl), some (.int 0), v10, v11] ∧ Same HC H' ∧ H' fl = some (.lst (intsV L)), ?_, ?_⟩
        · refine ⟨_, rfl, _, rfl, ll, _, rfl, .inl (.inl (.inl hllC)), _, _, rfl, rfl, ll, lines, 0, ts1, ?_, .inl (.inl hllC), by omega, fun t ht => ?_, ?_, ok1.way hk, ok1.d, ?_, fun HD pw ws sD hpw hls => ⟨pw, rfl, ⟨_, .inl (.inl hpw)⟩, ?_⟩⟩
          · rw [← el, List.length_map, Nat.zero_add]; rfl
          · have := (line_facts (lin t ht)).1
            exact ⟨this.1, this.2.1⟩
          · rw [el]; exact ⟨[], [], by simp, rfl⟩
          · have := ok1.n
            omega
          rw [← eWL] at hls
          refine for_list (xs := ws) (fun j σ H' => ∃ (fl : Addr) (v10 : Option V), σ = [some (.ref a), some (.ref p), some (.ref kl), some (.int (0 + i)), some (.str kind), some (.str (toldName kind)), some (.ref ll), v7, some (.ref fl), some (.int 0), v10, v11] ∧ Same HD H' ∧ H' fl = some (.lst (intsV ((WL.take j).flatMap fun told => flt (setsL lines told)))))
            ⟨fl, _, rfl, Same.refl _, sD _ _ hflC⟩ (fun j σ H' _ ⟨_, _, _, s, _⟩ => .inl (.inl (s _ _ hpw))) ?_ ?_
          · rintro j xw σ HE hxw ⟨fl, v10, rfl, sE, hflE⟩
            obtain ⟨told, lt, htj, rfl, hltD⟩ := hls.get hxw
            have hjl := (List.getElem?_eq_some_iff.mp htj).1
            have htm := List.mem_of_getElem? htj
            dsimp only [gName]
            refine ⟨_, rfl, _, rfl, _, rfl, ll, lt, lines, told, rfl, .inl (.inl ((sD.trans sE) _ _ hllC)), .inl (.inl (sE _ _ hltD)), by omega, by have := wlong told htm; omega, wbd told htm, fun t ht => (line_facts (lin t ht)).1, fun HF pf sF hpf => ⟨fl, pf, _, _, rfl, rfl, sF _ _ hflE, hpf, ?_, fun pn hpn => ⟨pn, _, rfl, (sE.trans sF).trans (same_new (Same.refl HF) hpn), ?_⟩⟩⟩
            · unfold intsV
              rw [List.length_map, List.length_map]
              have h1 := fone told htm
              have h2 : ((WL.take j).flatMap fun told => flt (setsL lines told)).length ≤ (WL.take j).length * 40 := flatMap_le fun x hx => fone x (List.mem_of_mem_take hx)
              rw [List.length_take] at h2
              omega
            · rw [upd_same, show WL.take (j + 1) = WL.take j ++ [told] from by rw [List.take_add_one, htj]; rfl, List.flatMap_append, List.flatMap_singleton]
              unfold intsV; rw [List.map_append]
          · rintro σ HE ⟨fl, v10, rfl, sE, hflE⟩
            rw [show WL.take ws.length = WL from by rw [List.take_of_length_le]; rw [hls.length]; exact Nat.le_refl _, ← eL] at hflE
            exact ⟨fl, v10, rfl, sD.trans sE, hflE⟩
        rintro σ' HD ⟨fl, v10, rfl, sD, hflD⟩
        have BD := (BB.same sC).same sD
        have hkD := sD _ _ (sC _ _ hkB)
        have tD := (tB.ext sC).ext sD
        have hllD := sD _ _ hllC
        have late := ok1.late hk
        rw [← eWL, ← el, ← eL] at late
        refine ⟨fun σ' H' => ∃ (m : Nat) (v11 : Option V), σ' = [some (.ref a), some (.ref p), some (.ref kl), some (.int (0 + i)), some (.str kind), some (.str (toldName kind)), some (.ref ll), v7, some (.ref fl), some (.int m), v10, v11] ∧ BagC c H' p (14000 * i + 1 + 13377) ∧ H' kl = some (.lst (kinds9.map V.str)) ∧ Tabs (tabH Pt) H' ∧ H' fl = some (.lst (intsV L)) ∧ ((L = [] ∧ m = 0) ∨ (m ∈ L ∧ ∀ y ∈ L, m ≤ y)), ?_, ?_⟩
        · have sumb : (lines.map (·.length)).sum + lines.length * ("\n" : Str).length ≤ 3000 := by
            have h1 : ∀ xs : List Str, (∀ t ∈ xs, t.length ≤ 100) → (xs.map (·.length)).sum ≤ xs.length * 100 := fun xs => by
              induction xs with
              | nil => intro _; simp
              | cons x xs ih =>
                intro h
                have h2 := h x List.mem_cons_self
                have h3 := ih fun t ht => h t (List.mem_cons_of_mem _ ht)
                rw [List.map_cons, List.sum_cons, List.length_cons]; omega
            have h2 := h1 lines fun t ht => (line_facts (lin t ht)).2.1
            have h3 : ("\n" : Str).length = 1 := by decide
            rw [h3]; omega
          obtain ⟨text, etext⟩ : ∃ text, text = Txt.join "\n" lines := ⟨_, rfl⟩
          have tlen : text.length ≤ 3000 := by
            rw [etext]
            have := StrLaws.join_length_le "\n" lines
            rw [← TL.join_eq] at this
            exact Nat.le_trans this sumb
          have elin : linesOf text = lines := by
            unfold linesOf
            cases hls : lines with
            | nil => rw [etext, hls]; rfl
            | cons x xs =>
              have hx := (line_facts (lin x (by rw [hls]; exact List.mem_cons_self))).2.2.2
              have hne : text ≠ "" := by
                intro z
                have h1 := join_mem_le "\n" lines x (by rw [hls]; exact List.mem_cons_self)
                rw [← TL.join_eq, ← etext, z] at h1
                have h2 : ("" : Str).length = 0 := by decide
                omega
              rw [if_neg hne, etext, ← hls]
              exact TL.split_join (s := 10) (S := []) rfl (by decide +kernel) (by rw [hls]; exact List.cons_ne_nil _ _) fun t ht => (line_facts (lin t ht)).2.2.1
          have rb := ok1.rb hk
          rw [← el] at rb
          refine ⟨_, rfl, ⟨_, rfl⟩, _, rfl, "\n", ll, lines, rfl, rfl, .inl (.inl (.inl hllD)), by omega, fun x dx hx hdx hne => ?_⟩
          rw [← etext]
          have sE : Same HD (upd (upd HD dx (.own x)) x (.ins C dx [])) := fun b u h => by
            rw [upd_ne (ne_of_none h hx), upd_ne (ne_of_none h hdx)]; exact h
          refine ⟨x, dx, kind, text, _, rfl, upd_same, hk, by omega, fun t ht => ?_, by rw [elin]; exact hl20, tD.ext sE, by rw [elin]; exact rb, ?_⟩
          · rw [elin] at ht
            exact ((line_facts (lin t ht)).1).1
          have tr : ∀ {H'}, ExtB x (upd (upd HD dx (.own x)) x (.ins C dx [])) H' → ExtN HD H' := fun e b o h n => e b o (sE b o h) (ne_of_none h hx) n
          show if ((nTs ts1 : Nat) : Int) ≤ 4 then _ else _
          rw [if_pos (by have := ok1.n; omega)]
          refine ⟨ok1.bounds, ?_⟩
          by_cases c3 : lateAll (toldName kind) (waysW ends2 tagH (rwRs kind 0 ts1) [([], false)]) = []
          · rw [if_pos c3]
            intro H' ex t'
            refine ⟨rfl, 0, v11, rfl, BD.ext (tr ex), tr ex _ _ hkD (fun _ z => nomatch z), t', tr ex _ _ hflD (fun _ z => nomatch z), .inl ⟨?_, rfl⟩⟩
            rw [List.eq_nil_iff_forall_not_mem]
            intro y hy
            have := (late y).mp hy
            rw [c3] at this; cases this
          · rw [if_neg c3]
            intro H' dd m ex t' hm hmin hd
            refine ⟨true, ?_, fun _ ad had => ?_, (fun z => nomatch z)⟩
            · have := eRefused.exm eRefused hRB
              rw [decide_eq_true rfl] at this
              exact this
            · refine ⟨_, rfl, rfl, rfl, dd, _, .int m, rfl, hd, lk_eq, ?_⟩
              exact ⟨m, none, rfl, BD.ext (tr ex), tr ex _ _ hkD (fun _ z => nomatch z), t', tr ex _ _ hflD (fun _ z => nomatch z), .inr ⟨(late m).mpr hm, fun y hy => hmin y ((late y).mp hy)⟩⟩
        · rintro σ' HE ⟨m, v11, rfl, BE, hkE, tE, hflE, hm⟩
          refine ⟨_, rfl, ?_⟩
          have done : ∀ {H' : Hp}, Same HE H' → ∃ v3 v4 v5 v6 v7' v8 v9 v10' v11' : Option V, [some (V.ref a), some (V.ref p), some (V.ref kl), some (V.int (0 + i)), some (V.str kind), some (V.str (toldName kind)), some (V.ref ll), v7, some (V.ref fl), some (V.int m), v10, v11] = [some (V.ref a), some (V.ref p), some (V.ref kl), v3, v4, v5, v6, v7', v8, v9, v10', v11'] ∧ BagC c H' p (14000 * (i + 1)) ∧ H' kl = some (.lst (kinds9.map V.str)) ∧ Tabs (tabH Pt) H' := fun {H'} sx =>
            ⟨_, _, _, _, _, _, _, _, _, rfl, (BE.same sx).mono (by omega), sx _ _ hkE, tE.ext sx⟩
          refine ⟨_, rfl, (by show 0 ≤ sizeLine; decide), fun l0 hl0 => ?_⟩
          have s0 := same_new (o := .lst []) (Same.refl HE) hl0
          have hflE' := s0 _ _ hflE
          refine ⟨_, _, .lst (.inl (.inl hflE')) (dp_nats L), .lst (.inl (.inl upd_same)) .nil, shaped_nats L, rfl, _, rfl, ?_⟩
          rcases hm with ⟨rfl, rfl⟩ | ⟨hm1, hm2⟩
          · refine iteF ⟨rfl, false, ?_, iteF (done s0)⟩
            show V.bl (!decide (V.int ((0 : Nat) : Int) = V.int 0)) = V.bl false
            rw [decide_eq_true (show V.int ((0 : Nat) : Int) = V.int 0 from rfl)]; rfl
          · have hne : L ≠ [] := fun z => by rw [z] at hm1; cases hm1
            rw [show PyData.eqv (.list (L.map fun n : Nat => PyData.int n)) (.list []) = false from by
              cases L with
              | nil => exact absurd rfl hne
              | cons x xs => rfl]
            refine iteT ⟨_, rfl, fl, L.map fun n : Nat => (n : Int), rfl, .inl (.inl (by rw [hflE', List.map_map]; rfl)), by rw [List.length_map]; exact List.length_pos_iff.mpr hne, fun mm hmm hmin => ⟨rfl, _, rfl, ?_⟩⟩
            obtain ⟨mn, hmn, rfl⟩ := List.mem_map.mp hmm
            have e : m = mn := by
              have h1 := hm2 mn hmn
              have h2 := hmin m (List.mem_map.mpr ⟨m, hm1, rfl⟩)
              omega
            rw [decide_eq_true (by rw [e])]
            exact iteF (done s0)
    · rintro σ H3 ⟨v3, v4, v5, v6, v7, v8, v9, v10, v11, rfl, B3, hk3, t3⟩
      exact kk _
end
end Tb

set_option Elab.async false
set_option linter.all false
set_option maxRecDepth 100000
set_option maxHeartbeats 3999000
namespace Tb
open PySem PySem.Spec PyProof.Rows L2
open PySem.W (Frag)
open LamX (CodeO TabS Tabs ExtN TabB GivesTo)
/-- a def under its name in the module -/
structure FunAt (K : Frag) (x qual : Str) (st : Stmt) : Prop where
  ex : ∃ (f : Addr) (fd : FuncData), PySem.W.nsIn K mainGlobals x = some (some (.ref f)) ∧ Fun K x qual st f fd
/-- a method under its name in the class at C -/
structure MethAt (K : Frag) (C : Addr) (x qual : Str) (st : Stmt) : Prop where
  ex : ∃ (f : Addr) (fd : FuncData), PySem.W.findIn K (.ref C) x = some (some (.ref f)) ∧ PySem.W.isFn K (.ref f) = true ∧ Fun K x qual st f fd
theorem funAt_mk {K : Frag} {x qual : Str} {st : Stmt} {f : Addr} {oc : Value} {od an : Option Addr} {osl : Array (Option Value)} {kV doc pm cdv ct : Value} (a : PySem.W.nsIn K mainGlobals x = some (some (.ref f)))
    (l : K.lookup f = some ⟨oc, od, .func (PySem.W.fnOf x qual (defArgs st) (defBody st) (defScope st) .none kV doc pm an cdv ct), osl⟩) (c : PySem.W.codeIn K cdv qual = true) (k : PySem.W.keepIn K (.ref f) = true) : FunAt K x qual st :=
  ⟨f, _, a, fun_mk l c k⟩
theorem methAt_mk {K : Frag} {C : Addr} {x qual : Str} {st : Stmt} {f : Addr} {oc : Value} {od an : Option Addr} {osl : Array (Option Value)} {kV doc pm cdv ct : Value} (a : PySem.W.findIn K (.ref C) x = some (some (.ref f))) (i : PySem.W.isFn K (.ref f) = true)
    (l : K.lookup f = some ⟨oc, od, .func (PySem.W.fnOf x qual (defArgs st) (defBody st) (defScope st) .none kV doc pm an cdv ct), osl⟩) (c : PySem.W.codeIn K cdv qual = true) (k : PySem.W.keepIn K (.ref f) = true) : MethAt K C x qual st :=
  ⟨f, _, a, i, fun_mk l c k⟩
theorem baseAt_mk {K : Frag} {h : Heap} {mg : Str → Option Value} {x : Str} {B N : Addr} {nm q : Str} {bs : List Value} {sn : List Str} {sub : List Value} {ab : Bool} {col : Option Bool} {dd : Option Addr} {k0 k1 k2 k3 k5 : Option Value} (X : K.In h) (G : h.Ns mainGlobals mg) (a : PySem.W.nsIn K mainGlobals x = some (some (.ref B)))
    (l : K.lookup B = some (excClassObj nm q B N bs HandSPX.veTail true sn sub ab col dd k0 k1 k2 k3 k5 "ValueError.__new__")) (i : PySem.W.findIn K (.ref B) "__init__" = some (some (.builtin "ValueError.__init__"))) (d : PySem.W.hasDictIn K B = true) (t : PySem.W.typeIn K (.ref B) = some (.type "type")) : BaseAt K mg x B :=
  ⟨PySem.W.mg_of X G a, ⟨nm, q, N, bs, sn, sub, ab, col, dd, k0, k1, k2, k3, k5, l⟩, i, d, t⟩
theorem withBase {P : Program} {K : Frag} {h : Heap} {mg : Str → Option Value} {Goal : Prop} {x : Str} {B N : Addr} {nm q : Str} {bs : List Value} {sn : List Str} {sub : List Value} {ab : Bool} {col : Option Bool} {dd : Option Addr} {k0 k1 k2 k3 k5 : Option Value} (X : K.In h) (G : h.Ns mainGlobals mg) (a : PySem.W.nsIn K mainGlobals x = some (some (.ref B)))
    (l : K.lookup B = some (excClassObj nm q B N bs HandSPX.veTail true sn sub ab col dd k0 k1 k2 k3 k5 "ValueError.__new__")) (i : PySem.W.findIn K (.ref B) "__init__" = some (some (.builtin "ValueError.__init__"))) (d : PySem.W.hasDictIn K B = true) (t : PySem.W.typeIn K (.ref B) = some (.type "type"))
    (opq : PySem.W.nsIn K cStatics "thirdparty.any" = some none) (cg : PySem.W.specialIn K (.builtin "object.__class__") "__get__" = some (some (.builtin "getset_descriptor.__get__"))) (ct : PySem.W.takesIn K (.builtin "object.__class__") = some true) (zs : PySem.W.nsIn K mainGlobals "super" = some none) (top : (P.main.scope.names.lookup ("super" : Str)).isSome = false)
    (go : BaseAt K mg x B → Shared0 P K → Goal) : Goal := go (baseAt_mk X G a l i d t) ⟨opq, cg, ct, zs, top⟩
/-! ### a law whose def makes lambdas: its table -/
theorem tabIn_mk {K : Frag} {x : Str} {f c P : Addr} {oc e : Value} {od dd : Option Addr} {fd : FuncData} {osl sl : Array (Option Value)} {vs : Array Value} (a : PySem.W.nsIn K mainGlobals x = some (some (.ref f))) (l : K.lookup f = some ⟨oc, od, .func fd, osl⟩) (hc : fd.code = .ref c) (lc : K.lookup c = some ⟨e, dd, .fields vs, sl⟩) (hv : vs[11]? = some (.ref P)) : PySem.W.tabIn K x = some (c, P) := by
  unfold PySem.W.tabIn
  simp only [a, l, hc, lc, hv]
theorem trip0 : TriplesOk (#[] : Array Value).toList := by first | exact trivial | exact True.intro | (intro x hx; cases hx) | decide | constructor
theorem tabs_new {H : Hp} {Pt : Addr} (h : H Pt = some (.tbl #[])) : Tabs (tabH Pt) H := fun q hq => by
  have e := List.mem_singleton.mp hq
  subst e
  exact ⟨#[], h, trip0, fun pos cv z => by cases z⟩
theorem walk_ofTab {l : PySem.W.OpenLaw} {n k : Nat} {q : Program} {ls : List Str} {XP : (Str → Option Value) → Heap → Prop} {YP : World → Heap → Prop} {d dR : DefRec} {K : Params → Frag} {sp : Frag → Addr → Sp} {x nm : Str} (hn : l.most = some n) (hn2 : n ≤ sizeLine)
    (hdf : d.params.defaults = []) (hr : Room k callerA) (hrec : (PyProof.Rows.recsOf q).find? (fun e => e.name == nm) = some dR) (hY : ∀ (w : World) (h : Heap), YP w h → (K w.params).In h)
    (F : ∀ (w : World) (mg : Str → Option Value) (fa : Addr) (h : Heap), (K w.params).In h → h.Ns mainGlobals mg → XP mg h → mg d.name = some (.ref fa) →
      ∃ (c P : Addr) (fd : FuncData), PySem.W.tabIn (K w.params) nm = some (c, P) ∧ (K w.params).lookup P = none ∧ (∀ (s : Shared) (v : Value), BindsTo s fd ⟨[v], []⟩ [(x, v)]) ∧ ∀ base : Heap, (K w.params).In base → base.Ns mainGlobals mg → TabB base mg c P → FnOk l.prog w (K w.params) mg base CX0 k fa fd [x] (sp (K w.params) P))
    (hsp : ∀ (K : Frag) (P : Addr) (H : Hp) (a : Addr) (ns : List Int), ns.length ≤ n → (∀ z ∈ ns, Builtin.Int.intBits z ≤ 1048576) → H P = some (.tbl #[]) → SqL K H a (ns.map V.int) → sp K P [.ref a] H (fun v _ => v = .bl true) fun _ _ _ => False) :
    PySem.W.WalkO q ls XP YP l.row.toRowW d [] (fun f vs => PySem.call f vs) :=
  Att.attach_callB hn hdf fun w _ s₁ mg _ _ _ _ _ _ a _ ns G Y _ _ _ hmg hobj hints hlen hbits hg => by
    have KX := hY w _ Y
    obtain ⟨c, P, fd, ht, hP, hb, hF⟩ := F w mg _ _ KX G.T.g G.X hmg
    obtain ⟨hc, hp⟩ := PySem.W.tab_of G.T KX hrec ht
    refine LamX.law_callTs (cs := [(c, P)]) KX G.T.g G.T.b G.T.builtins G.T.nolimit hg (fun p hp' => ?_) (fun p hp' => ?_) (fun p hp' => ?_) G.T.bmain hobj hints (Nat.le_trans hlen hn2) hr (fun base h1 h2 h3 => hF base h1 h2 (h3 _ List.mem_cons_self)) hb (fun H hH hS => hsp (K w.params) P H a ns hlen hbits (hH _ List.mem_cons_self) hS) fun _ _ _ z => z
    · rw [List.mem_singleton.mp hp']; exact hp
    · rw [List.mem_singleton.mp hp']; exact hP
    · rw [List.mem_singleton.mp hp']; exact hc
theorem hasF_no {P : Program} {w : World} {K : Frag} {mg : Str → Option Value} {base : Heap} {x : Str} {k : Nat} {f : Addr} {fd : FuncData} {ps : List Str} (kp : PySem.W.keepIn K (.ref f) = true) (m : mg x = some (.ref f)) (b : Binds K fd ps []) : HasF P w K mg base x k (fun _ _ _ _ => False) :=
  ⟨f, fd, ps, ⟨fun _ _ _ _ h => h.elim, fun _ _ _ _ _ _ _ _ _ _ _ _ _ h => h.elim⟩, m, kp, b⟩
theorem tupK_mk {K : Frag} {r : Addr} {dd : Option Addr} {its : Array Value} {n : Nat} {sl : Array (Option Value)} {xs : List V} (l : K.lookup r = some ⟨.type "tuple", dd, .seq its n, sl⟩) (hz : its.size ≤ sizeLine) (v : Vals xs its.toList) : ∀ H, SqT K H r xs := fun H => .inr ⟨_, _, _, l, rfl, rfl, hz, v⟩
theorem clsIn_of {K : Frag} {C : Addr} {o : Value} {d : Option Addr} {cd : ClassData} {sl : Array (Option Value)} (l : K.lookup C = some ⟨o, d, .cls cd, sl⟩) : PySem.W.clsIn K C = some cd := by
  unfold PySem.W.clsIn; rw [l]
theorem super_of {K : Frag} {C Cb fB : Addr} {o1 o2 : Value} {d1 d2 : Option Addr} {cdC cdB : ClassData} {sl1 sl2 : Array (Option Value)} (lC : K.lookup C = some ⟨o1, d1, .cls cdC, sl1⟩) (mC : cdC.mro = [.ref C, .ref Cb, .type "object"]) (lB : K.lookup Cb = some ⟨o2, d2, .cls cdB, sl2⟩) (mB : cdB.mro = [.ref Cb, .type "object"])
    (hfB : PySem.W.findIn K (.ref Cb) "__init__" = some (some (.ref fB))) : PySem.W.ks_superIn K C C "__init__" = some (some (.ref fB)) := by
  have e2 : PySem.W.findIn K (.ref Cb) "__init__" = PySem.W.alongIn K "__init__" cdB.mro := by
    show (match K.lookup Cb with | some ⟨_, _, .cls cd, _⟩ => PySem.W.alongIn K "__init__" cd.mro | _ => none) = _
    rw [lB]
  rw [e2, mB] at hfB
  unfold PySem.W.ks_superIn
  rw [clsIn_of lC, Option.bind_some, mC]
  rw [List.dropWhile_cons_of_neg (by simp)]
  exact hfB
theorem isFn_ty {K : Frag} {f : Addr} (h : PySem.W.isFn K (.ref f) = true) : PySem.W.typeIn K (.ref f) = some (.type "function") := beq_iff_eq.mp h
theorem fnIn_of {K : Frag} {x q : Str} {st : Stmt} {f : Addr} {fd : FuncData} (F : Fun K x q st f fd) : PySem.W.fnIn K f = true := by
  obtain ⟨o1, d1, kV, doc, pm, an, cdv, ct, osl, rfl, lk, hcd⟩ := F.ex
  unfold PySem.W.fnIn; rw [lk]
def tkL (l : List Tok) (i : Nat) : Tok := l.getD i 0
theorem all_mk {P : Program} {w : World} {K : Frag} {h : Heap} {mg : Str → Option Value} {fa B CK CB CR CT C Cb CRd fI fR cR Pt cc cda g1 g2 g3 g4 g5 g6 gMk gRd : Addr} {k0 k1 k2 k3 k4 k5 k6 k7 k8 k21 k22 k23 k28 : Tok} {oc kV doc pm ct ec oc2 kV2 doc2 pm2 ct2 cl cl2 o1 o2 : Value} {od an dc od2 an2 cld cld2 d1 d2 : Option Addr} {osl scd osl2 csl csl2 sl1 sl2 : Array (Option Value)} {vs vs2 : Array Value} {file : Str} {tf : Tok} {cdC cdB : ClassData} {es1 es2 : Array DictEntry} {n1 n2 : Nat} (X : K.In h) (G : h.Ns mainGlobals mg) (hfa : mg "law" = some (.ref fa))
    (eBadKind : ErrAt P K mg B "BadKind" CK ["kind"])
    (eBadLine : ErrAt P K mg B "BadLine" CB ["line"])
    (eRefused : ErrAt P K mg B "Refused" CR ["line"])
    (eTooMany : ErrAt P K mg B "TooMany" CT ["what", "many", "most"])
    (hRB : CR ≠ B) (S0 : Shared0 P K)
    (a_told_number : FunAt K "told_number" "told_number" s_told_number)
    (a_told_atom : FunAt K "told_atom" "told_atom" s_told_atom)
    (a_told_sum : FunAt K "told_sum" "told_sum" s_told_sum)
    (a_told_part : FunAt K "told_part" "told_part" s_told_part)
    (a_read_rows : FunAt K "read_rows" "read_rows" s_read_rows)
    (a_all_ways : FunAt K "all_ways" "all_ways" s_all_ways)
    (a_given_names : FunAt K "given_names" "given_names" s_given_names)
    (a_told_name : FunAt K "told_name" "told_name" s_told_name)
    (a_run_of : FunAt K "run_of" "run_of" s_run_of)
    (a_row_of : FunAt K "row_of" "row_of" s_row_of)
    (a__law_bag : FunAt K "_law_bag" "_law_bag" s_Lbag)
    (a__law_draw : FunAt K "_law_draw" "_law_draw" s_Ldraw)
    (a__law_lines : FunAt K "_law_lines" "_law_lines" s_Llines)
    (a__law_block : FunAt K "_law_block" "_law_block" s_Lblock)
    (a__law_ways : FunAt K "_law_ways" "_law_ways" s_Lways)
    (a__law_faults : FunAt K "_law_faults" "_law_faults" s_Lfaults)
    (a_law : FunAt K "law" "law" s_law)
    (a_Reader___init__ : MethAt K CRd "__init__" "Reader.__init__" s_Reader_init)
    (a_Reader_read_block : MethAt K CRd "read_block" "Reader.read_block" s_Reader_read_block)
    (a_Reader_read_if : MethAt K CRd "read_if" "Reader.read_if" s_Reader_read_if)
    (a_CodeText___init__ : MethAt K Cb "__init__" "CodeText.__init__" s_CodeText_init)
    (aR : PySem.W.nsIn K mainGlobals "read_head" = some (some (.ref fR))) (lR : K.lookup fR = some ⟨oc, od, .func (PySem.W.fnOf "read_head" "read_head" (defArgs s_read_head) (defBody s_read_head) (defScope s_read_head) .none kV doc pm an (.ref cR) ct), osl⟩)
    (dR : PySem.W.codeIn K (.ref cR) "read_head" = true) (kR : PySem.W.keepIn K (.ref fR) = true) (cRl : K.lookup cR = some ⟨ec, dc, .fields vs, scd⟩) (vR : vs[11]? = some (.ref Pt)) (nP : PySem.W.typeIn K (.ref Pt) = none)
    (aH : PySem.W.nsIn K mainGlobals "HeadCode" = some (some (.ref C))) (iH : PySem.W.findIn K (.ref C) "__init__" = some (some (.ref fI))) (fH : PySem.W.isFn K (.ref fI) = true) (kI : PySem.W.keepIn K (.ref fI) = true)
    (lH : K.lookup fI = some ⟨oc2, od2, .func (PySem.W.ksFn "__init__" "HeadCode.__init__" (defArgs s_HeadCode_init) (defBody s_HeadCode_init) (defScope s_HeadCode_init) .none kV2 doc2 pm2 an2 (.ref cda) ct2 cc), osl2⟩) (cH : PySem.W.codeIn K (.ref cda) "HeadCode.__init__" = true)
    (ceH : K.lookup cc = some ⟨cl, cld, .cell (some (.ref C)), csl⟩) (coH : K.lookup cda = some ⟨cl2, cld2, .fields vs2, csl2⟩) (cvH : vs2[2]? = some (.str file tf)) (cfH : ((P.main.file : Str) == file) = true)
    (lC : K.lookup C = some ⟨o1, d1, .cls cdC, sl1⟩) (mC : cdC.mro = [.ref C, .ref Cb, .type "object"]) (lB : K.lookup Cb = some ⟨o2, d2, .cls cdB, sl2⟩) (mB : cdB.mro = [.ref Cb, .type "object"]) (mine : PySem.W.mroIn K C (.ref C) = some true)
    (pgC : PySem.W.plainGet K C Str.empty = true) (hdC : PySem.W.hasDictIn K C = true) (poC : PySem.W.plainOver K C = true) (saC : PySem.W.findIn K (.ref C) "__setattr__" = some (some (.builtin "object.__setattr__"))) (mkC : PySem.W.makesIn K C = true) (kcC : PySem.W.keepIn K (.ref C) = true)
    (pgR : PySem.W.plainGet K CRd Str.empty = true) (hdR : PySem.W.hasDictIn K CRd = true) (poR : PySem.W.plainOver K CRd = true) (saR : PySem.W.findIn K (.ref CRd) "__setattr__" = some (some (.builtin "object.__setattr__"))) (mkR : PySem.W.makesIn K CRd = true) (kcR : PySem.W.keepIn K (.ref CRd) = true)
    (aRd : PySem.W.nsIn K mainGlobals "Reader" = some (some (.ref CRd)))
    (cnA : PySem.W.findIn K (.ref C) "part" = some none)
    (cnK : PySem.W.findIn K (.ref C) "kind" = some none)
    (cnT : PySem.W.findIn K (.ref C) "text" = some none)
    (cnL : PySem.W.findIn K (.ref C) "own_lines" = some none)
    (cnB : PySem.W.findIn K (.ref C) "own_tables" = some none)
    (cnR : PySem.W.findIn K (.ref C) "rows" = some none)
    (rnL : PySem.W.findIn K (.ref CRd) "own_lines" = some none)
    (rnR : PySem.W.findIn K (.ref CRd) "row_of" = some none)
    (rnP : PySem.W.findIn K (.ref CRd) "part_of" = some none)
    (rnN : PySem.W.findIn K (.ref CRd) "line" = some none)
    (rnI : PySem.W.findIn K (.ref CRd) "ifs" = some none)
    (ufigures : PySem.W.nsIn K mainGlobals "MOST_FIGURES" = some (some (.int 30 k0)))
    (uterms : PySem.W.nsIn K mainGlobals "MOST_TERMS" = some (some (.int 4 k1)))
    (uparts : PySem.W.nsIn K mainGlobals "MOST_PARTS" = some (some (.int 4 k2)))
    (umove : PySem.W.nsIn K mainGlobals "MOST_MOVE" = some (some (.int 63 k3)))
    (ubits : PySem.W.nsIn K mainGlobals "MOST_BITS" = some (some (.int 64 k4)))
    (usigns : PySem.W.nsIn K mainGlobals "MOST_SIGNS" = some (some (.int 6 k5)))
    (usettings : PySem.W.nsIn K mainGlobals "MOST_SETTINGS" = some (some (.int 3 k6)))
    (ulines : PySem.W.nsIn K mainGlobals "MOST_LINES" = some (some (.int 20 k7)))
    (uifs : PySem.W.nsIn K mainGlobals "MOST_IFS" = some (some (.int 4 k8)))
    (tregs : PySem.W.nsIn K mainGlobals "REGISTERS" = some (some (.ref g1))) (Tregs : ∀ H, SqT K H g1 [.str "a", .str "b", .str "c"])
    (tmoves : PySem.W.nsIn K mainGlobals "MOVES" = some (some (.ref g2))) (Tmoves : ∀ H, SqT K H g2 [.str "<<", .str ">>"])
    (tmasks : PySem.W.nsIn K mainGlobals "MASKS" = some (some (.ref g3))) (Tmasks : ∀ H, SqT K H g3 [.str "&", .str "&~", .str "|", .str "^"])
    (tkinds : PySem.W.nsIn K mainGlobals "KINDS" = some (some (.ref g4))) (Tkinds : ∀ H, SqT K H g4 (kinds9.map V.str))
    (tgiven : PySem.W.nsIn K mainGlobals "GIVEN" = some (some (.ref g5))) (ttold : PySem.W.nsIn K mainGlobals "TOLD" = some (some (.ref g6))) (dgiven : KDict K w g5 es1 n1) (dtold : KDict K w g6 es2 n2) (TgMk : ∀ H, SqT K H gMk [.str "size", .str "used", .str "ahead"]) (TgRd : ∀ H, SqT K H gRd [.str "n"])
    (Gmake : PySem.W.nsIn K g5 "make" = some (some (.ref gMk)))
    (Gsize : PySem.W.nsIn K g5 "size" = some none)
    (Gused : PySem.W.nsIn K g5 "used" = some none)
    (Gahead : PySem.W.nsIn K g5 "ahead" = some none)
    (Guse : PySem.W.nsIn K g5 "use" = some none)
    (Gfree : PySem.W.nsIn K g5 "free" = some none)
    (Gmeet : PySem.W.nsIn K g5 "meet" = some none)
    (Gpart : PySem.W.nsIn K g5 "part" = some none)
    (Ground : PySem.W.nsIn K g5 "round" = some (some (.ref gRd)))
    (Lmake : PySem.W.nsIn K g6 "make" = some none)
    (Lsize : PySem.W.nsIn K g6 "size" = some (some (.str "size" k21)))
    (Lused : PySem.W.nsIn K g6 "used" = some (some (.str "used" k22)))
    (Lahead : PySem.W.nsIn K g6 "ahead" = some (some (.str "ahead" k23)))
    (Luse : PySem.W.nsIn K g6 "use" = some none)
    (Lfree : PySem.W.nsIn K g6 "free" = some none)
    (Lmeet : PySem.W.nsIn K g6 "meet" = some none)
    (Lpart : PySem.W.nsIn K g6 "part" = some none)
    (Lround : PySem.W.nsIn K g6 "round" = some (some (.str "size" k28)))
    (zrange : PySem.W.nsIn K mainGlobals "range" = some none)
    (zlen : PySem.W.nsIn K mainGlobals "len" = some none)
    (zint : PySem.W.nsIn K mainGlobals "int" = some none)
    (zbool : PySem.W.nsIn K mainGlobals "bool" = some none)
    (zmin : PySem.W.nsIn K mainGlobals "min" = some none)
    (zmax : PySem.W.nsIn K mainGlobals "max" = some none)
    (zlist : PySem.W.nsIn K mainGlobals "list" = some none)
    (zisinstance : PySem.W.nsIn K mainGlobals "isinstance" = some none)
    (zabs : PySem.W.nsIn K mainGlobals "abs" = some none)
    (ztuple : PySem.W.nsIn K mainGlobals "tuple" = some none)
    (zstr : PySem.W.nsIn K mainGlobals "str" = some none)
    (zdict : PySem.W.nsIn K mainGlobals "dict" = some none)
    (zsorted : PySem.W.nsIn K mainGlobals "sorted" = some none)
    (zall : PySem.W.nsIn K mainGlobals "all" = some none)
    (zany : PySem.W.nsIn K mainGlobals "any" = some none)
    (zsum : PySem.W.nsIn K mainGlobals "sum" = some none)
    (zset : PySem.W.nsIn K mainGlobals "set" = some none)
    (zrepr : PySem.W.nsIn K mainGlobals "repr" = some none)
    (zenumerate : PySem.W.nsIn K mainGlobals "enumerate" = some none)
    (zzip : PySem.W.nsIn K mainGlobals "zip" = some none)
    (zValueError : PySem.W.nsIn K mainGlobals "ValueError" = some none)
    :
    ∃ (c P0 : Addr) (fd : FuncData), PySem.W.tabIn K "read_head" = some (c, P0) ∧ K.lookup P0 = none ∧ (∀ (s : Shared) (v : Value), BindsTo s fd ⟨[v], []⟩ [("_law_script", v)]) ∧ ∀ base : Heap, K.In base → base.Ns mainGlobals mg → TabB base mg c P0 → FnOk P w K mg base CX0 15 fa fd ["_law_script"] (spLawH K P0) := by
  have T : Bl mg := { range := PySem.W.mg_none_of X G zrange, len := PySem.W.mg_none_of X G zlen, int := PySem.W.mg_none_of X G zint, bool := PySem.W.mg_none_of X G zbool, min := PySem.W.mg_none_of X G zmin, max := PySem.W.mg_none_of X G zmax, list := PySem.W.mg_none_of X G zlist, isinstance := PySem.W.mg_none_of X G zisinstance, abs := PySem.W.mg_none_of X G zabs, tuple := PySem.W.mg_none_of X G ztuple, str := PySem.W.mg_none_of X G zstr, dict := PySem.W.mg_none_of X G zdict, sorted := PySem.W.mg_none_of X G zsorted, all := PySem.W.mg_none_of X G zall, any := PySem.W.mg_none_of X G zany, sum := PySem.W.mg_none_of X G zsum, set := PySem.W.mg_none_of X G zset, repr := PySem.W.mg_none_of X G zrepr, enumerate := PySem.W.mg_none_of X G zenumerate, zip := PySem.W.mg_none_of X G zzip, ValueError := PySem.W.mg_none_of X G zValueError }
  have GL : Glob K w mg (tkL [k0, k1, k2, k3, k4, k5, k6, k7, k8]) ⟨g1, g5, g6, g2, g3, g4, gMk, gRd⟩ := by
    refine { figures := PySem.W.mg_of X G ufigures, terms := PySem.W.mg_of X G uterms, parts := PySem.W.mg_of X G uparts, move := PySem.W.mg_of X G umove, bits := PySem.W.mg_of X G ubits, signs := PySem.W.mg_of X G usigns, settings := PySem.W.mg_of X G usettings, lines := PySem.W.mg_of X G ulines, ifs := PySem.W.mg_of X G uifs, regs := PySem.W.mg_of X G tregs, moves := PySem.W.mg_of X G tmoves, masks := PySem.W.mg_of X G tmasks, kinds := PySem.W.mg_of X G tkinds, given := PySem.W.mg_of X G tgiven, told := PySem.W.mg_of X G ttold, regsT := Tregs, movesT := Tmoves, masksT := Tmasks, kindsT := Tkinds, givenK := ⟨_, _, dgiven⟩, toldK := ⟨_, _, dtold⟩, givenAt := ?_, gMakeT := TgMk, gRoundT := TgRd, toldAt := ?_ }
    · intro k hk
      have : k = "make" ∨ k = "size" ∨ k = "used" ∨ k = "ahead" ∨ k = "use" ∨ k = "free" ∨ k = "meet" ∨ k = "part" ∨ k = "round" := by simpa [kinds9] using hk
      rcases this with rfl | rfl | rfl | rfl | rfl | rfl | rfl | rfl | rfl
      · exact Gmake
      · exact Gsize
      · exact Gused
      · exact Gahead
      · exact Guse
      · exact Gfree
      · exact Gmeet
      · exact Gpart
      · exact Ground
    · intro k hk
      have : k = "make" ∨ k = "size" ∨ k = "used" ∨ k = "ahead" ∨ k = "use" ∨ k = "free" ∨ k = "meet" ∨ k = "part" ∨ k = "round" := by simpa [kinds9] using hk
      rcases this with rfl | rfl | rfl | rfl | rfl | rfl | rfl | rfl | rfl
      · exact ⟨_, Lmake, rfl⟩
      · exact ⟨_, Lsize, ⟨_, rfl⟩⟩
      · exact ⟨_, Lused, ⟨_, rfl⟩⟩
      · exact ⟨_, Lahead, ⟨_, rfl⟩⟩
      · exact ⟨_, Luse, rfl⟩
      · exact ⟨_, Lfree, rfl⟩
      · exact ⟨_, Lmeet, rfl⟩
      · exact ⟨_, Lpart, rfl⟩
      · exact ⟨_, Lround, ⟨_, rfl⟩⟩
  have TC : CdT K C := ⟨⟨pgC, hdC, poC, saC⟩, cnA, cnK, cnT, cnL, cnB, cnR⟩
  have TR : RdT K CRd := ⟨⟨pgR, hdR, poR, saR⟩, rnL, rnR, rnP, rnN, rnI⟩
  obtain ⟨fl, fdl, al, Fl⟩ := a_law.ex
  have e := hfa.symm.trans (PySem.W.mg_of X G al)
  cases e
  have hPt : K.lookup Pt = none := by
    cases z : K.lookup Pt with
    | none => rfl
    | some o => exact absurd (show (K.lookup Pt).map (·.cls) = none from nP) (by rw [z]; exact fun q => nomatch q)
  refine ⟨cR, Pt, fdl, tabIn_mk aR lR rfl cRl vR, hPt, fun s v => ?_, fun base _ _ TB => ?_⟩
  · obtain ⟨oc, od, kV, doc, pm, an, cdv, ct, osl, rfl, lk, hcd⟩ := Fl.ex
    exact .of_eq rfl
  have h_number : HasF P w K mg base "told_number" 1 spNumber := by
    obtain ⟨f, fd, a, F⟩ := a_told_number.ex
    exact ⟨f, fd, _, ok_told_number F T GL, PySem.W.mg_of X G a, F.kp, F.binds (ps := ["word"]) fun _ _ _ _ _ _ us hl => match us, hl with | [_], _ => rfl⟩
  have h_atom : HasF P w K mg base "told_atom" 2 (spAtom K) := by
    obtain ⟨f, fd, a, F⟩ := a_told_atom.ex
    exact ⟨f, fd, _, ok_told_atom F h_number, PySem.W.mg_of X G a, F.kp, F.binds (ps := ["word", "names"]) fun _ _ _ _ _ _ us hl => match us, hl with | [_, _], _ => rfl⟩
  have h_sum : HasF P w K mg base "told_sum" 3 (spSum K) := by
    obtain ⟨f, fd, a, F⟩ := a_told_sum.ex
    exact ⟨f, fd, _, ok_told_sum F T GL h_atom, PySem.W.mg_of X G a, F.kp, F.binds (ps := ["words", "names"]) fun _ _ _ _ _ _ us hl => match us, hl with | [_, _], _ => rfl⟩
  have h_part : HasF P w K mg base "told_part" 3 (spPart K) := by
    obtain ⟨f, fd, a, F⟩ := a_told_part.ex
    exact ⟨f, fd, _, ok_told_part F T h_atom, PySem.W.mg_of X G a, F.kp, F.binds (ps := ["text", "names", "others"]) fun _ _ _ _ _ _ us hl => match us, hl with | [_, _, _], _ => rfl⟩
  have h_given : HasF P w K mg base "given_names" 1 (spGiven K) := by
    obtain ⟨f, fd, a, F⟩ := a_given_names.ex
    exact ⟨f, fd, _, ok_given F GL, PySem.W.mg_of X G a, F.kp, F.binds (ps := ["kind"]) fun _ _ _ _ _ _ us hl => match us, hl with | [_], _ => rfl⟩
  have h_name : HasF P w K mg base "told_name" 1 spToldName := by
    obtain ⟨f, fd, a, F⟩ := a_told_name.ex
    exact ⟨f, fd, _, ok_told_name F GL, PySem.W.mg_of X G a, F.kp, F.binds (ps := ["kind"]) fun _ _ _ _ _ _ us hl => match us, hl with | [_], _ => rfl⟩
  have h_run : HasF P w K mg base "run_of" 1 spRun := by
    obtain ⟨f, fd, a, F⟩ := a_run_of.ex
    exact ⟨f, fd, _, ok_run_of F GL, PySem.W.mg_of X G a, F.kp, F.binds (ps := ["number"]) fun _ _ _ _ _ _ us hl => match us, hl with | [_], _ => rfl⟩
  have h_row : HasF P w K mg base "row_of" 4 spRow := by
    obtain ⟨f, fd, a, F⟩ := a_row_of.ex
    exact ⟨f, fd, _, ok_row_of F T GL h_number h_name h_given h_run h_sum, PySem.W.mg_of X G a, F.kp, F.binds (ps := ["kind", "text", "line"]) fun _ _ _ _ _ _ us hl => match us, hl with | [_, _, _], _ => rfl⟩
  have h_bag : HasF P w K mg base "_law_bag" 1 (spBagC K) := by
    obtain ⟨f, fd, a, F⟩ := a__law_bag.ex
    exact ⟨f, fd, _, ok_bagC F T, PySem.W.mg_of X G a, F.kp, F.binds (ps := ["_law_script"]) fun _ _ _ _ _ _ us hl => match us, hl with | [_], _ => rfl⟩
  have h_draw : HasF P w K mg base "_law_draw" 1 spDrawC := by
    obtain ⟨f, fd, a, F⟩ := a__law_draw.ex
    exact ⟨f, fd, _, ok_drawC F T, PySem.W.mg_of X G a, F.kp, F.binds (ps := ["_law_bag_here", "_law_limit"]) fun _ _ _ _ _ _ us hl => match us, hl with | [_, _], _ => rfl⟩
  have h_block : HasF P w K mg base "_law_block" 1 (spBlockL K) := by
    obtain ⟨f, fd, a, F⟩ := a__law_block.ex
    exact ⟨f, fd, _, ok_block F T, PySem.W.mg_of X G a, F.kp, F.binds (ps := ["_law_lines_here", "_law_at"]) fun _ _ _ _ _ _ us hl => match us, hl with | [_, _], _ => rfl⟩
  have h_faults : HasF P w K mg base "_law_faults" 1 (spFaults K) := by
    obtain ⟨f, fd, a, F⟩ := a__law_faults.ex
    exact ⟨f, fd, _, ok_faults F T, PySem.W.mg_of X G a, F.kp, F.binds (ps := ["_law_lines_here", "_law_told"]) fun _ _ _ _ _ _ us hl => match us, hl with | [_, _], _ => rfl⟩
  have h_w0 : HasF P w K mg base "all_ways" 1 (spWays (β := Unit) K Rh RPh tagH 0) := by
    obtain ⟨f, fd, a, F⟩ := a_all_ways.ex
    exact ⟨f, fd, _, ok_all_ways F rh_stab rph_stab rh_tag tagH_if (hasF_no F.kp (PySem.W.mg_of X G a) (F.binds (ps := ["rows", "ends"]) fun _ _ _ _ _ _ us hl => match us, hl with | [_, _], _ => rfl)), PySem.W.mg_of X G a, F.kp, F.binds (ps := ["rows", "ends"]) fun _ _ _ _ _ _ us hl => match us, hl with | [_, _], _ => rfl⟩
  have h_w1 : HasF P w K mg base "all_ways" 2 (spWays (β := Unit) K Rh RPh tagH 1) := by
    obtain ⟨f, fd, a, F⟩ := a_all_ways.ex
    exact ⟨f, fd, _, ok_all_ways F rh_stab rph_stab rh_tag tagH_if h_w0, PySem.W.mg_of X G a, F.kp, F.binds (ps := ["rows", "ends"]) fun _ _ _ _ _ _ us hl => match us, hl with | [_, _], _ => rfl⟩
  have h_w2 : HasF P w K mg base "all_ways" 3 (spWays (β := Unit) K Rh RPh tagH 2) := by
    obtain ⟨f, fd, a, F⟩ := a_all_ways.ex
    exact ⟨f, fd, _, ok_all_ways F rh_stab rph_stab rh_tag tagH_if h_w1, PySem.W.mg_of X G a, F.kp, F.binds (ps := ["rows", "ends"]) fun _ _ _ _ _ _ us hl => match us, hl with | [_, _], _ => rfl⟩
  have h_w : HasF P w K mg base "all_ways" 11 (spWays (β := Unit) K Rh RPh tagH 2) := by
    obtain ⟨f, fd, a, F⟩ := a_all_ways.ex
    exact ⟨f, fd, _, (ok_all_ways F rh_stab rph_stab rh_tag tagH_if h_w1).mono (by decide), PySem.W.mg_of X G a, F.kp, F.binds (ps := ["rows", "ends"]) fun _ _ _ _ _ _ us hl => match us, hl with | [_, _], _ => rfl⟩
  have h_l0 : HasF P w K mg base "_law_lines" 2 (spLines 0) := by
    obtain ⟨f, fd, a, F⟩ := a__law_lines.ex
    exact ⟨f, fd, _, ok_lines F T (by decide) h_draw (hasF_no F.kp (PySem.W.mg_of X G a) (F.binds (ps := ["_law_bag_here", "_law_goal", "_law_deep", "_law_left"]) fun _ _ _ _ _ _ us hl => match us, hl with | [_, _, _, _], _ => rfl)), PySem.W.mg_of X G a, F.kp, F.binds (ps := ["_law_bag_here", "_law_goal", "_law_deep", "_law_left"]) fun _ _ _ _ _ _ us hl => match us, hl with | [_, _, _, _], _ => rfl⟩
  have h_l1 : HasF P w K mg base "_law_lines" 3 (spLines 1) := by
    obtain ⟨f, fd, a, F⟩ := a__law_lines.ex
    exact ⟨f, fd, _, ok_lines F T (by decide) h_draw h_l0, PySem.W.mg_of X G a, F.kp, F.binds (ps := ["_law_bag_here", "_law_goal", "_law_deep", "_law_left"]) fun _ _ _ _ _ _ us hl => match us, hl with | [_, _, _, _], _ => rfl⟩
  have h_l2 : HasF P w K mg base "_law_lines" 4 (spLines 2) := by
    obtain ⟨f, fd, a, F⟩ := a__law_lines.ex
    exact ⟨f, fd, _, ok_lines F T (by decide) h_draw h_l1, PySem.W.mg_of X G a, F.kp, F.binds (ps := ["_law_bag_here", "_law_goal", "_law_deep", "_law_left"]) fun _ _ _ _ _ _ us hl => match us, hl with | [_, _, _, _], _ => rfl⟩
  have h_y0 : HasF P w K mg base "_law_ways" 2 (spLW K 0) := by
    obtain ⟨f, fd, a, F⟩ := a__law_ways.ex
    exact ⟨f, fd, _, ok_ways F T (by decide) h_block (hasF_no F.kp (PySem.W.mg_of X G a) (F.binds (ps := ["_law_lines_here", "_law_first", "_law_last"]) fun _ _ _ _ _ _ us hl => match us, hl with | [_, _, _], _ => rfl)), PySem.W.mg_of X G a, F.kp, F.binds (ps := ["_law_lines_here", "_law_first", "_law_last"]) fun _ _ _ _ _ _ us hl => match us, hl with | [_, _, _], _ => rfl⟩
  have h_y1 : HasF P w K mg base "_law_ways" 3 (spLW K 1) := by
    obtain ⟨f, fd, a, F⟩ := a__law_ways.ex
    exact ⟨f, fd, _, ok_ways F T (by decide) h_block h_y0, PySem.W.mg_of X G a, F.kp, F.binds (ps := ["_law_lines_here", "_law_first", "_law_last"]) fun _ _ _ _ _ _ us hl => match us, hl with | [_, _, _], _ => rfl⟩
  have h_y2 : HasF P w K mg base "_law_ways" 4 (spLW K 2) := by
    obtain ⟨f, fd, a, F⟩ := a__law_ways.ex
    exact ⟨f, fd, _, ok_ways F T (by decide) h_block h_y1, PySem.W.mg_of X G a, F.kp, F.binds (ps := ["_law_lines_here", "_law_first", "_law_last"]) fun _ _ _ _ _ _ us hl => match us, hl with | [_, _, _], _ => rfl⟩
  have h_reader : HasC P w K mg base "Reader" CRd 1 (spReaderInit CRd) := by
    obtain ⟨f, fd, a, i, F⟩ := a_Reader___init__.ex
    exact ⟨f, fd, _, ok_reader_init F TR, ⟨mkR, a, i, kcR⟩, PySem.W.mg_of X G aRd, F.binds (ps := ["self", "lines", "row_of", "part_of"]) fun _ _ _ _ _ _ us hl => match us, hl with | [_, _, _, _], _ => rfl⟩
  have h_rb : ∀ kind, HasMX P w K mg base CRd "read_block" 10 (spRB P w K mg base 5 CRd CB Rh RPh (rowFh kind) (partFh kind) 2) := fun kind => by
    obtain ⟨f1, fd1, a1, i1, F1⟩ := a_Reader_read_block.ex
    obtain ⟨f2, fd2, a2, i2, F2⟩ := a_Reader_read_if.ex
    exact rb_all (k := 5) F1 ⟨a1, i1, F1.kp⟩ (F1.binds (ps := ["self", "is_inner"]) fun _ _ _ _ _ _ us hl => match us, hl with | [_, _], _ => rfl) F2 ⟨a2, i2, F2.kp⟩ (F2.binds (ps := ["self", "text"]) fun _ _ _ _ _ _ us hl => match us, hl with | [_, _], _ => rfl) T GL TR rh_stab rph_stab eBadLine (by decide) (by decide) 2
  have h_rows : ∀ kind, HasE P w K mg base "read_rows" 11 (spReadRows P w K mg base 5 CB CT Rh RPh (rowFh kind) (partFh kind) 2) := fun kind => by
    obtain ⟨f, fd, a, F⟩ := a_read_rows.ex
    exact ⟨f, fd, _, ok_read_rows F TR eTooMany (by decide) h_reader (h_rb kind), PySem.W.mg_of X G a, F.kp, F.binds (ps := ["lines", "row_of", "part_of", "most_ifs"]) fun _ _ _ _ _ _ us hl => match us, hl with | [_, _, _, _], _ => rfl⟩
  have FR : Fun K "read_head" "read_head" s_read_head fR _ := fun_mk lR dR kR
  have h_head : HasE P w K mg base "read_head" 12 (spReadHead K CB CT CR Pt 2) :=
    ⟨fR, _, _, ok_read_head lR dR T GL TB eRefused (by decide) h_name h_given h_row h_part h_rows h_w, PySem.W.mg_of X G aR, kR, FR.binds (ps := ["kind", "lines", "most_ifs"]) fun _ _ _ _ _ _ us hl => match us, hl with | [_, _, _], _ => rfl⟩
  have h_code : HasCX P w K mg base "HeadCode" C 13 (spHead C CB CT CR Pt 2) := by
    obtain ⟨fB, fdB, aB, iB, FB⟩ := a_CodeText___init__.ex
    have tB : PySem.W.typeIn K (.ref fB) = some (.type "function") := isFn_ty iB
    have S : SupFn P K C fI fB "HeadCode.__init__" s_HeadCode_init _ cc cda := ⟨⟨oc2, od2, kV2, doc2, pm2, an2, ct2, osl2, rfl, lH, cH, ⟨cl, cld, csl, ceH⟩, cl2, cld2, vs2, csl2, file, tf, coH, cvH, cfH⟩, ⟨cdC, clsIn_of lC⟩, super_of lC mC lB mB aB, tB, fnIn_of FB, S0.opq, mine, S0.top⟩
    exact ⟨fI, _, _, ok_head S (PySem.W.mg_none_of X G S0.zs) T TC GL (by decide) (ok_code FB T TC eBadKind eTooMany) (FB.binds (ps := ["self", "part", "kind", "kinds", "text", "most_lines"]) fun _ _ _ _ _ _ us hl => match us, hl with | [_, _, _, _, _, _], _ => rfl) h_head, ⟨mkC, iH, fH, kcC⟩, PySem.W.mg_of X G aH, L2.Binds.all (fun us hl => match us, hl with | [_, _, _], _ => rfl)⟩
  exact ok_lawH Fl T eRefused hRB (by decide) h_bag h_draw h_l2 h_y2 h_faults h_code
end Tb
open PySem PySem.W PyProof.Rows
set_option maxRecDepth 100000 in
set_option maxHeartbeats 0 in
theorem PySem.Challenge.cw_tagblocks_k03_whole_head_limits_by_ways_holds : PySem.Challenge.rw_tagblocks_k03_whole_head_limits_by_ways.Holds := by
  w_on; o_law; k_head; (case hw => w_witness2)
  k_fill
  refine Tb.walk_ofTab (l := PySem.Challenge.rw_tagblocks_k03_whole_head_limits_by_ways) (n := 63) (k := 15) (x := "_law_script") (nm := "read_head") (sp := Tb.spLawH) rfl (by decide) rfl ⟨rfl, by decide, by decide⟩ rfl (fun w h Y => PySem.W.km_in_of Y) ?F (fun K P H a ns hl _ hP hS => ⟨a, ns, rfl, hS, hl, Tb.tabs_new hP, fun _ => rfl⟩)
  case F =>
    intro w mg fa h KX G XL hmg
    refine' Tb.withBase (P := PySem.Challenge.rw_tagblocks_k03_whole_head_limits_by_ways.prog) (x := "BlockError") KX G ?ba ?bl ?bi ?bd ?bt ?opq ?cg ?ct ?zs ?top (fun eB S0 => ?go)
    (case ba => k_is); (case bl => k_is); (case bi => k_is); (case bd => k_is); (case bt => k_is); (case opq => k_is); (case cg => k_is); (case ct => k_is); (case zs => k_is); (case top => decide +kernel)
    refine' Tb.all_mk KX G hmg ?eBadKind ?eBadLine ?eRefused ?eTooMany ?hRB S0 ?a_told_number ?a_told_atom ?a_told_sum ?a_told_part ?a_read_rows ?a_all_ways ?a_given_names ?a_told_name ?a_run_of ?a_row_of ?a__law_bag ?a__law_draw ?a__law_lines ?a__law_block ?a__law_ways ?a__law_faults ?a_law ?a_Reader___init__ ?a_Reader_read_block ?a_Reader_read_if ?a_CodeText___init__ ?aR ?lR ?dR ?kR ?cRl ?vR ?nP ?aH ?iH ?fH ?kI ?lH ?cH ?ceH ?coH ?cvH ?cfH ?lC ?mC ?lB ?mB ?mine ?pgC ?hdC ?poC ?saC ?mkC ?kcC ?pgR ?hdR ?poR ?saR ?mkR ?kcR ?aRd ?cnA ?cnK ?cnT ?cnL ?cnB ?cnR ?rnL ?rnR ?rnP ?rnN ?rnI ?ufigures ?uterms ?uparts ?umove ?ubits ?usigns ?usettings ?ulines ?uifs ?tregs ?Tregs ?tmoves ?Tmoves ?tmasks ?Tmasks ?tkinds ?Tkinds ?tgiven ?ttold ?dgiven ?dtold ?TgMk ?TgRd ?Gmake ?Gsize ?Gused ?Gahead ?Guse ?Gfree ?Gmeet ?Gpart ?Ground ?Lmake ?Lsize ?Lused ?Lahead ?Luse ?Lfree ?Lmeet ?Lpart ?Lround ?zrange ?zlen ?zint ?zbool ?zmin ?zmax ?zlist ?zisinstance ?zabs ?ztuple ?zstr ?zdict ?zsorted ?zall ?zany ?zsum ?zset ?zrepr ?zenumerate ?zzip ?zValueError
    (case eBadKind => (refine' Tb.errAt_mk (st := Tb.s_BadKind) (qual := "BadKind.__init__") eB S0 KX G ?aC ?xL ?sa ?ty ?kC ?iC ?tI ?l ?c ?ce ?co ?cv ?cf (.cons ?n0 .nil) ?ga ?gg ?hd ?ca Tb.eb_BadKind (by decide) (by decide) (fun _ _ _ _ _ _ _ us hl => match us, hl with | [_, _], _ => rfl); (case aC => k_is); (case xL => k_is); (case sa => k_is); (case ty => k_is); (case kC => k_is); (case iC => k_is); (case tI => k_is); (case l => k_is); (case c => k_is); (case ce => k_is); (case co => k_is); (case cv => rfl); (case cf => decide +kernel); (case n0 => k_is); (case ga => k_is); (case gg => k_is); (case hd => k_is); (case ca => k_is)))
    (case eBadLine => (refine' Tb.errAt_mk (st := Tb.s_BadLine) (qual := "BadLine.__init__") eB S0 KX G ?aC ?xL ?sa ?ty ?kC ?iC ?tI ?l ?c ?ce ?co ?cv ?cf (.cons ?n0 .nil) ?ga ?gg ?hd ?ca Tb.eb_BadLine (by decide) (by decide) (fun _ _ _ _ _ _ _ us hl => match us, hl with | [_, _], _ => rfl); (case aC => k_is); (case xL => k_is); (case sa => k_is); (case ty => k_is); (case kC => k_is); (case iC => k_is); (case tI => k_is); (case l => k_is); (case c => k_is); (case ce => k_is); (case co => k_is); (case cv => rfl); (case cf => decide +kernel); (case n0 => k_is); (case ga => k_is); (case gg => k_is); (case hd => k_is); (case ca => k_is)))
    (case eRefused => (refine' Tb.errAt_mk (st := Tb.s_Refused) (qual := "Refused.__init__") eB S0 KX G ?aC ?xL ?sa ?ty ?kC ?iC ?tI ?l ?c ?ce ?co ?cv ?cf (.cons ?n0 .nil) ?ga ?gg ?hd ?ca Tb.eb_Refused (by decide) (by decide) (fun _ _ _ _ _ _ _ us hl => match us, hl with | [_, _], _ => rfl); (case aC => k_is); (case xL => k_is); (case sa => k_is); (case ty => k_is); (case kC => k_is); (case iC => k_is); (case tI => k_is); (case l => k_is); (case c => k_is); (case ce => k_is); (case co => k_is); (case cv => rfl); (case cf => decide +kernel); (case n0 => k_is); (case ga => k_is); (case gg => k_is); (case hd => k_is); (case ca => k_is)))
    (case eTooMany => (refine' Tb.errAt_mk (st := Tb.s_TooMany) (qual := "TooMany.__init__") eB S0 KX G ?aC ?xL ?sa ?ty ?kC ?iC ?tI ?l ?c ?ce ?co ?cv ?cf (.cons ?n0 (.cons ?n1 (.cons ?n2 .nil))) ?ga ?gg ?hd ?ca Tb.eb_TooMany (by decide) (by decide) (fun _ _ _ _ _ _ _ us hl => match us, hl with | [_, _, _, _], _ => rfl); (case aC => k_is); (case xL => k_is); (case sa => k_is); (case ty => k_is); (case kC => k_is); (case iC => k_is); (case tI => k_is); (case l => k_is); (case c => k_is); (case ce => k_is); (case co => k_is); (case cv => rfl); (case cf => decide +kernel); (case n0 => k_is); (case n1 => k_is); (case n2 => k_is); (case ga => k_is); (case gg => k_is); (case hd => k_is); (case ca => k_is)))
    (case hRB => decide +kernel)
    (case a_told_number => (refine' Tb.funAt_mk ?a ?l ?c ?k; (case a => k_is); (case l => k_is); (case c => k_is); (case k => k_is)))
    (case a_told_atom => (refine' Tb.funAt_mk ?a ?l ?c ?k; (case a => k_is); (case l => k_is); (case c => k_is); (case k => k_is)))
    (case a_told_sum => (refine' Tb.funAt_mk ?a ?l ?c ?k; (case a => k_is); (case l => k_is); (case c => k_is); (case k => k_is)))
    (case a_told_part => (refine' Tb.funAt_mk ?a ?l ?c ?k; (case a => k_is); (case l => k_is); (case c => k_is); (case k => k_is)))
    (case a_read_rows => (refine' Tb.funAt_mk ?a ?l ?c ?k; (case a => k_is); (case l => k_is); (case c => k_is); (case k => k_is)))
    (case a_all_ways => (refine' Tb.funAt_mk ?a ?l ?c ?k; (case a => k_is); (case l => k_is); (case c => k_is); (case k => k_is)))
    (case a_given_names => (refine' Tb.funAt_mk ?a ?l ?c ?k; (case a => k_is); (case l => k_is); (case c => k_is); (case k => k_is)))
    (case a_told_name => (refine' Tb.funAt_mk ?a ?l ?c ?k; (case a => k_is); (case l => k_is); (case c => k_is); (case k => k_is)))
    (case a_run_of => (refine' Tb.funAt_mk ?a ?l ?c ?k; (case a => k_is); (case l => k_is); (case c => k_is); (case k => k_is)))
    (case a_row_of => (refine' Tb.funAt_mk ?a ?l ?c ?k; (case a => k_is); (case l => k_is); (case c => k_is); (case k => k_is)))
    (case a__law_bag => (refine' Tb.funAt_mk ?a ?l ?c ?k; (case a => k_is); (case l => k_is); (case c => k_is); (case k => k_is)))
    (case a__law_draw => (refine' Tb.funAt_mk ?a ?l ?c ?k; (case a => k_is); (case l => k_is); (case c => k_is); (case k => k_is)))
    (case a__law_lines => (refine' Tb.funAt_mk ?a ?l ?c ?k; (case a => k_is); (case l => k_is); (case c => k_is); (case k => k_is)))
    (case a__law_block => (refine' Tb.funAt_mk ?a ?l ?c ?k; (case a => k_is); (case l => k_is); (case c => k_is); (case k => k_is)))
    (case a__law_ways => (refine' Tb.funAt_mk ?a ?l ?c ?k; (case a => k_is); (case l => k_is); (case c => k_is); (case k => k_is)))
    (case a__law_faults => (refine' Tb.funAt_mk ?a ?l ?c ?k; (case a => k_is); (case l => k_is); (case c => k_is); (case k => k_is)))
    (case a_law => (refine' Tb.funAt_mk ?a ?l ?c ?k; (case a => k_is); (case l => k_is); (case c => k_is); (case k => k_is)))
    (case aRd => k_is); (case aH => k_is); (case lC => k_is); (case mC => rfl); (case lB => k_is); (case mB => rfl)
    (case a_Reader___init__ => (refine' Tb.methAt_mk ?a ?i ?l ?c ?k; (case a => k_is); (case i => k_is); (case l => k_is); (case c => k_is); (case k => k_is)))
    (case a_Reader_read_block => (refine' Tb.methAt_mk ?a ?i ?l ?c ?k; (case a => k_is); (case i => k_is); (case l => k_is); (case c => k_is); (case k => k_is)))
    (case a_Reader_read_if => (refine' Tb.methAt_mk ?a ?i ?l ?c ?k; (case a => k_is); (case i => k_is); (case l => k_is); (case c => k_is); (case k => k_is)))
    (case a_CodeText___init__ => (refine' Tb.methAt_mk ?a ?i ?l ?c ?k; (case a => k_is); (case i => k_is); (case l => k_is); (case c => k_is); (case k => k_is)))
    (case aR => k_is)
    (case lR => k_is)
    (case dR => k_is)
    (case kR => k_is)
    (case cRl => k_is)
    (case vR => rfl); (case nP => k_is)
    (case iH => k_is)
    (case fH => k_is)
    (case kI => k_is)
    (case lH => k_is)
    (case cH => k_is)
    (case ceH => k_is)
    (case coH => k_is)
    (case cvH => rfl); (case cfH => decide +kernel); (case mine => k_is)
    (case pgC => k_is); (case hdC => k_is); (case poC => k_is); (case saC => k_is); (case mkC => k_is); (case kcC => k_is)
    (case pgR => k_is); (case hdR => k_is); (case poR => k_is); (case saR => k_is); (case mkR => k_is); (case kcR => k_is)
    (case cnA => k_is); (case cnK => k_is); (case cnT => k_is); (case cnL => k_is); (case cnB => k_is); (case cnR => k_is)
    (case rnL => k_is); (case rnR => k_is); (case rnP => k_is); (case rnN => k_is); (case rnI => k_is)
    (case ufigures => k_is); (case uterms => k_is); (case uparts => k_is); (case umove => k_is); (case ubits => k_is); (case usigns => k_is); (case usettings => k_is); (case ulines => k_is); (case uifs => k_is)
    (case tregs => k_is); (case Tregs => (refine' Tb.tupK_mk ?l ?hz ?v; (case l => k_is); (case hz => decide); (case v => exact (.cons ⟨_, rfl⟩ (.cons ⟨_, rfl⟩ (.cons ⟨_, rfl⟩ .nil))))))
    (case tmoves => k_is); (case Tmoves => (refine' Tb.tupK_mk ?l ?hz ?v; (case l => k_is); (case hz => decide); (case v => exact (.cons ⟨_, rfl⟩ (.cons ⟨_, rfl⟩ .nil)))))
    (case tmasks => k_is); (case Tmasks => (refine' Tb.tupK_mk ?l ?hz ?v; (case l => k_is); (case hz => decide); (case v => exact (.cons ⟨_, rfl⟩ (.cons ⟨_, rfl⟩ (.cons ⟨_, rfl⟩ (.cons ⟨_, rfl⟩ .nil)))))))
    (case tkinds => k_is); (case Tkinds => (refine' Tb.tupK_mk ?l ?hz ?v; (case l => k_is); (case hz => decide); (case v => exact (.cons ⟨_, rfl⟩ (.cons ⟨_, rfl⟩ (.cons ⟨_, rfl⟩ (.cons ⟨_, rfl⟩ (.cons ⟨_, rfl⟩ (.cons ⟨_, rfl⟩ (.cons ⟨_, rfl⟩ (.cons ⟨_, rfl⟩ (.cons ⟨_, rfl⟩ .nil))))))))))))
    (case tgiven => k_is); (case ttold => k_is)
    (case Gmake => k_is); (case Gsize => k_is); (case Gused => k_is); (case Gahead => k_is); (case Guse => k_is); (case Gfree => k_is); (case Gmeet => k_is); (case Gpart => k_is); (case Ground => k_is)
    (case Lmake => k_is); (case Lsize => k_is); (case Lused => k_is); (case Lahead => k_is); (case Luse => k_is); (case Lfree => k_is); (case Lmeet => k_is); (case Lpart => k_is); (case Lround => k_is)
    (case TgMk => (refine' Tb.tupK_mk ?l ?hz ?v; (case l => k_is); (case hz => decide); (case v => exact (.cons ⟨_, rfl⟩ (.cons ⟨_, rfl⟩ (.cons ⟨_, rfl⟩ .nil))))))
    (case TgRd => (refine' Tb.tupK_mk ?l ?hz ?v; (case l => k_is); (case hz => decide); (case v => exact (.cons ⟨_, rfl⟩ .nil))))
    (case dgiven => (refine' ⟨?l, ?k, ?s⟩; (case l => k_is); (case k => exact ⟨⟨_, _, rfl, rfl⟩, ⟨_, _, rfl, rfl⟩, trivial⟩); (case s => decide)))
    (case dtold => (refine' ⟨?l, ?k, ?s⟩; (case l => k_is); (case k => exact ⟨⟨_, _, rfl, rfl⟩, ⟨_, _, rfl, rfl⟩, ⟨_, _, rfl, rfl⟩, ⟨_, _, rfl, rfl⟩, trivial⟩); (case s => decide)))
    (case zrange => k_is); (case zlen => k_is); (case zint => k_is); (case zbool => k_is); (case zmin => k_is); (case zmax => k_is); (case zlist => k_is); (case zisinstance => k_is); (case zabs => k_is); (case ztuple => k_is); (case zstr => k_is); (case zdict => k_is); (case zsorted => k_is); (case zall => k_is); (case zany => k_is); (case zsum => k_is); (case zset => k_is); (case zrepr => k_is); (case zenumerate => k_is); (case zzip => k_is); (case zValueError => k_is)
#print axioms PySem.Challenge.cw_tagblocks_k03_whole_head_limits_by_ways_holds

